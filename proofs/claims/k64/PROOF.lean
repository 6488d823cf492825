import PyProof.Rows.All
import Wide.All
import OpenK.AllK
import Wide.FinOn
import HandS.ForMost
import HandS.TupAny
import HandS.Style
import HandS.Flow
import HandS.NoneIn
import HandS.Deep
import HandS.Walk
import HandS.DictComp
import HandS.SetKeys
import HandS.Property
import HandS.Star
import HandS.Defaults
import HandS.Conv
import HandS.More
import HandS.ClsMeth
import HandS.Zip
import HandS.TupLen
import KE.IntTextLaws
import HandS.IsInst
import KE.GoesMore
import PyProof.JoinWalk
import PyProof.CollectWalk
import KE.KDictCopyH
import HandS.Strs
import HandS.FStr
import HandS.RaiseMore
import HandS.SetBool
import HandS.Head0
import HandS.Head1
import HandS.Head2
import HandS.HeadEnd
import HandS.HeadHook1
import HandS.HeadHook2
import KE.KStateDown
import PySem.Challenge.RW_loopquads_k64_consoles_by_hand

set_option Elab.async false
set_option linter.all false
set_option maxRecDepth 100000
/-! A small language of its own: values, objects by place, expressions, statements, and how they are reckoned. -/
namespace Q
open PySem

/-- a value; tuples by their items, what may change by its place -/
inductive D where
  | non
  | bl (b : Bool)
  | int (i : Int)
  | str (s : List Nat)
  | tup (xs : List D)
  | loc (n : Nat)
  deriving Inhabited

noncomputable section
/-- equal texts -/
def eqS (s : List Nat) : List Nat → Bool :=
  List.rec (motive := fun _ => List Nat → Bool) (fun t => List.casesOn t true fun _ _ => false) (fun a _ ih t => List.casesOn t false fun b r => cond (Nat.beq a b) (ih r) false) s
theorem eqS_iff : ∀ s t : List Nat, eqS s t = decide (s = t)
  | [], [] => rfl
  | [], b :: t => rfl
  | a :: s, [] => rfl
  | a :: s, b :: t => by
    have ih := eqS_iff s t
    show cond (Nat.beq a b) (eqS s t) false = _
    cases e : Nat.beq a b with
    | true =>
      have e' := Nat.eq_of_beq_eq_true e
      subst e'
      show eqS s t = _
      rw [ih]
      by_cases q : s = t
      · subst q; simp
      · simp [q]
    | false =>
      have e' : a ≠ b := fun z => by subst z; rw [Nat.beq_refl] at e; cases e
      simp [e']
def eqI : Int → Int → Bool
  | .ofNat a, .ofNat b => Nat.beq a b
  | .negSucc a, .negSucc b => Nat.beq a b
  | _, _ => false
theorem eqI_iff (i j : Int) : eqI i j = decide (i = j) := by
  cases i with
  | ofNat a =>
    cases j with
    | ofNat b =>
      show Nat.beq a b = _
      cases e : Nat.beq a b with
      | true => have e' := Nat.eq_of_beq_eq_true e; subst e'; simp
      | false =>
        have e' : a ≠ b := fun z => by subst z; rw [Nat.beq_refl] at e; cases e
        symm
        apply decide_eq_false
        intro z
        exact e' (by injection z)
    | negSucc b => symm; apply decide_eq_false; intro z; cases z
  | negSucc a =>
    cases j with
    | ofNat b => symm; apply decide_eq_false; intro z; cases z
    | negSucc b =>
      show Nat.beq a b = _
      cases e : Nat.beq a b with
      | true => have e' := Nat.eq_of_beq_eq_true e; subst e'; simp
      | false =>
        have e' : a ≠ b := fun z => by subst z; rw [Nat.beq_refl] at e; cases e
        symm
        apply decide_eq_false
        intro z
        exact e' (by injection z)
mutual
def D.beq : D → D → Bool
  | .non, .non => true
  | .bl a, .bl b => a == b
  | .int a, .int b => eqI a b
  | .str a, .str b => eqS a b
  | .tup a, .tup b => D.beqs a b
  | .loc a, .loc b => Nat.beq a b
  | _, _ => false
def D.beqs : List D → List D → Bool
  | [], [] => true
  | x :: xs, y :: ys => D.beq x y && D.beqs xs ys
  | _, _ => false
end

/-- the same for keys: one case at a time -/
def D.kb1 (a b : D) : Bool :=
  match a with
  | .str s => match b with
    | .str t => eqS s t
    | _ => false
  | .int i => match b with
    | .int j => eqI i j
    | _ => false
  | _ => D.beq a b
def D.kbs (xs : List D) : List D → Bool :=
  List.rec (motive := fun _ => List D → Bool) (fun t => List.casesOn t true fun _ _ => false) (fun a _ ih t => List.casesOn t false fun b r => cond (D.kb1 a b) (ih r) false) xs
def D.kbeq (a b : D) : Bool :=
  match a with
  | .tup xs => match b with
    | .tup ys => D.kbs xs ys
    | _ => false
  | _ => D.kb1 a b
theorem D.kb1_is (a b : D) : D.kb1 a b = D.beq a b := by
  cases a <;> cases b <;> rfl
theorem D.kbs_is : ∀ xs ys : List D, D.kbs xs ys = D.beqs xs ys
  | [], [] => rfl
  | [], _ :: _ => rfl
  | _ :: _, [] => rfl
  | x :: xs, y :: ys => by
    show cond (D.kb1 x y) (D.kbs xs ys) false = (D.beq x y && D.beqs xs ys)
    rw [D.kb1_is, D.kbs_is xs ys]
    cases D.beq x y <;> rfl
theorem D.kbeq_is (a b : D) : D.kbeq a b = D.beq a b := by
  cases a with
  | tup xs =>
    cases b with
    | tup ys => exact D.kbs_is xs ys
    | _ => rfl
  | non => exact D.kb1_is .non b
  | bl x => exact D.kb1_is (.bl x) b
  | int x => exact D.kb1_is (.int x) b
  | str x => exact D.kb1_is (.str x) b
  | loc x => exact D.kb1_is (.loc x) b

/-- what stands at a place -/
inductive CO where
  | lst (xs : List D)
  | dic (kvs : List (D × D))
  | set (xs : List D)
  | ins (c : Nat) (fs : List (Nat × D))
  deriving Inhabited

abbrev Sl := List (Option D)
/-! a tree by numbers: for what is asked by place -/
inductive Tr (α : Type) where
  | nil
  | node (o : Option α) (l r : Tr α)
def Tr.get {α : Type} (t : Tr α) : Nat → Option α :=
  Tr.rec (motive := fun _ => Nat → Option α) (fun _ => none) (fun o _ _ gl gr k => Nat.casesOn k o fun k => cond (Nat.beq (k % 2) 0) (gl (k / 2)) (gr (k / 2))) t
def Tr.mk1 {α : Type} (f : Nat) (k : Nat) (o : α) : Tr α :=
  Nat.rec (motive := fun _ => Nat → Tr α) (fun _ => .node (some o) .nil .nil) (fun _ ih k => Nat.casesOn k (.node (some o) .nil .nil) fun k => cond (Nat.beq (k % 2) 0) (.node none (ih (k / 2)) .nil) (.node none .nil (ih (k / 2)))) f k
def Tr.set {α : Type} (t : Tr α) (k : Nat) (o : α) : Tr α :=
  Tr.rec (motive := fun _ => Nat → Tr α) (fun k => Tr.mk1 k k o) (fun x l r sl sr k => Nat.casesOn k (.node (some o) l r) fun k => cond (Nat.beq (k % 2) 0) (.node x (sl (k / 2)) r) (.node x l (sr (k / 2)))) t k
theorem Tr.get_mk1 {α : Type} (o : α) : ∀ (f k : Nat), k ≤ f → ∀ j, Tr.get (Tr.mk1 f k o) j = if j = k then some o else none
  | 0, k, h, j => by
    have e : k = 0 := by omega
    subst e
    cases j with
    | zero => rfl
    | succ j =>
      show cond _ _ _ = _
      cases Nat.beq (j % 2) 0 <;> rfl
  | f + 1, 0, h, j => by
    cases j with
    | zero => rfl
    | succ j =>
      show cond _ _ _ = _
      cases Nat.beq (j % 2) 0 <;> rfl
  | f + 1, k + 1, h, j => by
    have ih := Tr.get_mk1 o f (k / 2) (by omega)
    show Tr.get (cond (Nat.beq (k % 2) 0) (.node none (Tr.mk1 f (k / 2) o) .nil) (.node none .nil (Tr.mk1 f (k / 2) o))) j = _
    cases e : Nat.beq (k % 2) 0 with
    | true =>
      have e' : k % 2 = 0 := Nat.eq_of_beq_eq_true e
      cases j with
      | zero => rw [if_neg (by omega)]; rfl
      | succ j =>
        show cond (Nat.beq (j % 2) 0) (Tr.get (Tr.mk1 f (k / 2) o) (j / 2)) (Tr.get .nil (j / 2)) = _
        cases e2 : Nat.beq (j % 2) 0 with
        | true =>
          have e2' : j % 2 = 0 := Nat.eq_of_beq_eq_true e2
          show Tr.get _ _ = _
          rw [ih]
          by_cases q : j = k
          · rw [if_pos (by omega), if_pos (by omega)]
          · rw [if_neg (by omega), if_neg (by omega)]
        | false =>
          have e2' : j % 2 ≠ 0 := fun z => by rw [z] at e2; cases e2
          rw [if_neg (by omega)]
          rfl
    | false =>
      have e' : k % 2 ≠ 0 := fun z => by rw [z] at e; cases e
      cases j with
      | zero => rw [if_neg (by omega)]; rfl
      | succ j =>
        show cond (Nat.beq (j % 2) 0) (Tr.get .nil (j / 2)) (Tr.get (Tr.mk1 f (k / 2) o) (j / 2)) = _
        cases e2 : Nat.beq (j % 2) 0 with
        | true =>
          have e2' : j % 2 = 0 := Nat.eq_of_beq_eq_true e2
          rw [if_neg (by omega)]
          rfl
        | false =>
          have e2' : j % 2 ≠ 0 := fun z => by rw [z] at e2; cases e2
          show Tr.get _ _ = _
          rw [ih]
          by_cases q : j = k
          · rw [if_pos (by omega), if_pos (by omega)]
          · rw [if_neg (by omega), if_neg (by omega)]
theorem Tr.get_set {α : Type} (o : α) : ∀ (t : Tr α) (k j : Nat), Tr.get (Tr.set t k o) j = if j = k then some o else Tr.get t j
  | .nil, k, j => by
    show Tr.get (Tr.mk1 k k o) j = _
    rw [Tr.get_mk1 o k k (Nat.le_refl _)]
    rfl
  | .node x l r, 0, j => by
    cases j with
    | zero => rfl
    | succ j => rw [if_neg (by omega)]; rfl
  | .node x l r, k + 1, j => by
    have ihl := Tr.get_set o l (k / 2)
    have ihr := Tr.get_set o r (k / 2)
    show Tr.get (cond (Nat.beq (k % 2) 0) (.node x (Tr.set l (k / 2) o) r) (.node x l (Tr.set r (k / 2) o))) j = if j = k + 1 then some o else Tr.get (.node x l r) j
    cases e : Nat.beq (k % 2) 0 with
    | true =>
      have e' : k % 2 = 0 := Nat.eq_of_beq_eq_true e
      cases j with
      | zero => rw [if_neg (by omega)]; rfl
      | succ j =>
        show cond (Nat.beq (j % 2) 0) (Tr.get (Tr.set l (k / 2) o) (j / 2)) (Tr.get r (j / 2)) = if j + 1 = k + 1 then some o else cond (Nat.beq (j % 2) 0) (Tr.get l (j / 2)) (Tr.get r (j / 2))
        cases e2 : Nat.beq (j % 2) 0 with
        | true =>
          have e2' : j % 2 = 0 := Nat.eq_of_beq_eq_true e2
          show Tr.get _ _ = if _ then _ else Tr.get l (j / 2)
          rw [ihl]
          by_cases q : j = k
          · rw [if_pos (by omega), if_pos (by omega)]
          · rw [if_neg (by omega), if_neg (by omega)]
        | false =>
          have e2' : j % 2 ≠ 0 := fun z => by rw [z] at e2; cases e2
          rw [if_neg (by omega)]
          rfl
    | false =>
      have e' : k % 2 ≠ 0 := fun z => by rw [z] at e; cases e
      cases j with
      | zero => rw [if_neg (by omega)]; rfl
      | succ j =>
        show cond (Nat.beq (j % 2) 0) (Tr.get l (j / 2)) (Tr.get (Tr.set r (k / 2) o) (j / 2)) = if j + 1 = k + 1 then some o else cond (Nat.beq (j % 2) 0) (Tr.get l (j / 2)) (Tr.get r (j / 2))
        cases e2 : Nat.beq (j % 2) 0 with
        | true =>
          have e2' : j % 2 = 0 := Nat.eq_of_beq_eq_true e2
          rw [if_neg (by omega)]
          rfl
        | false =>
          have e2' : j % 2 ≠ 0 := fun z => by rw [z] at e2; cases e2
          show Tr.get _ _ = if _ then _ else Tr.get r (j / 2)
          rw [ihr]
          by_cases q : j = k
          · rw [if_pos (by omega), if_pos (by omega)]
          · rw [if_neg (by omega), if_neg (by omega)]

/-- the objects: n places are given out -/
structure Hq where
  n : Nat
  t : Tr CO
def Hq.get (C : Hq) (l : Nat) : Option CO := C.t.get l
def Hq.set (C : Hq) (l : Nat) (o : CO) : Hq := ⟨C.n, C.t.set l o⟩
def Hq.push (C : Hq) (o : CO) : Hq := ⟨C.n + 1, C.t.set C.n o⟩
theorem Hq.get_set (C : Hq) (l j : Nat) (o : CO) : (C.set l o).get j = if j = l then some o else C.get j := Tr.get_set o C.t l j
theorem Hq.get_push (C : Hq) (j : Nat) (o : CO) : (C.push o).get j = if j = C.n then some o else C.get j := Tr.get_set o C.t C.n j
theorem Hq.n_set (C : Hq) (l : Nat) (o : CO) : (C.set l o).n = C.n := rfl
theorem Hq.n_push (C : Hq) (o : CO) : (C.push o).n = C.n + 1 := rfl

inductive R (α : Type) where
  | ok (a : α)
  | ex (c : Nat) (fs : List (Nat × D)) (C : Hq)
  | no

def R.bind {α β : Type} : R α → (α → R β) → R β
  | .ok a, f => f a
  | .ex c fs C, _ => .ex c fs C
  | .no, _ => .no

def R.of {α : Type} : Option α → R α
  | some a => .ok a
  | none => .no

theorem R.bind_ok {α β : Type} (a : α) (f : α → R β) : R.bind (.ok a) f = f a := rfl
theorem R.bind_no {α β : Type} (f : α → R β) : R.bind .no f = .no := rfl
theorem R.of_some {α : Type} (a : α) : R.of (some a) = .ok a := rfl
theorem R.of_none {α : Type} : (R.of none : R α) = .no := rfl

/-- a result that came is the bind's of results that came -/
theorem R.bind_eq_ok {α β : Type} {r : R α} {f : α → R β} {b : β} (h : R.bind r f = .ok b) : ∃ a, r = .ok a ∧ f a = .ok b := by
  cases r with
  | ok a => exact ⟨a, rfl, h⟩
  | ex c fs C => cases h
  | no => cases h
theorem R.of_eq_ok {α : Type} {o : Option α} {a : α} (h : R.of o = .ok a) : o = some a := by
  cases o with
  | some b => cases h; rfl
  | none => cases h

inductive BO where
  | add | sub | mul | fdiv | mod | pow
inductive KO where
  | eq | ne | lt | le | gt | ge | isn | notn | isin | notin
/-- built-in functions by what they take -/
inductive BI where
  | len | all | any | int | str | abs | max1 | max2 | min1 | min2 | sum | tuple | list | dict | lenset | sorted | divmod
/-- methods of built-in types -/
inductive BM where
  | append | extend | pop0 | pop1 | index | count | get1 | get2 | setd | update | split | join
/-- classes that isinstance asks -/
inductive TY where
  | int | bool | str | tuple | list | cls (c : Nat)

/-- a target of a loop: a name, or a tuple of names -/
inductive P where
  | one (i : Nat)
  | many (is : List Nat)
def P.slots : P → List Nat
  | .one i => [i]
  | .many is => is

inductive E where
  | var (i : Nat)
  | con (d : D)
  | bin (o : BO) (a b : E)
  | neg (a : E)
  | cmp (o : KO) (a b : E)
  | chn (o p : KO) (a b c : E)
  | and (a b : E)
  | or (a b : E)
  | not (a : E)
  | ife (c a b : E)
  | tup (as : List E)
  | lst (as : List E)
  | tst (a : E) (as : List E)
  | dic (ks vs : List E)
  | idx (a i : E)
  | slo (a lo : E)
  | shi (a hi : E)
  | slh (a lo hi : E)
  | rev (a : E)
  | fld (a : E) (f : Nat)
  | call (f : Nat) (as : List E)
  | calk (f : Nat) (as : List E) (ix : List Nat)
  | make (c : Nat) (as : List E)
  | maks (c : Nat) (a : E)
  | meth (a : E) (m : Nat) (as : List E)
  | cmet (c m : Nat) (as : List E)
  | eqm (f : Nat) (a b : E)
  | bi (b : BI) (as : List E)
  | bm (m : BM) (a : E) (as : List E)
  | isi (a : E) (t : TY)
  | fst (as : List E)
  | itr (a : E)
  | rg1 (a : E)
  | rg2 (a b : E)
  | enm (a : E)
  | zip (a b : E)
  | lc (own : List Nat) (p : P) (it : E) (cs : List E) (elt : E)
  | lc2 (own : List Nat) (p : P) (it : E) (p2 : P) (it2 : E) (cs : List E) (elt : E)
  | dc (own : List Nat) (p : P) (it : E) (cs : List E) (k v : E)
  | ssc (own : List Nat) (p : P) (it : E) (p2 : P) (it2 : E) (elt : E)

inductive T1 where
  | one (i : Nat)
  | fld (a : E) (f : Nat)
  | sub (a i : E)

inductive S where
  | asg (t : T1) (e : E)
  | asm (ts : List T1) (e : E)
  | exp (e : E)
  | ret (e : E)
  | rtn
  | ifs (c : E) (a b : List S)
  | whl (c : E) (b : List S)
  | fro (p : P) (it : E) (b : List S)
  | pas
  | brk
  | cnt
  | rse

inductive Fl where
  | nx
  | rt (d : D)
  | bk
  | ct

/-- what is walked -/
inductive Iter where
  | items (xs : List D)
  | lst (l : Nat)
  | key (l : Nat)
  | enu (xs : List D)
  | enl (l : Nat)
  | zil (l m : Nat)

structure Cl where
  init : Nat
  meths : List (Nat × Nat)
  props : List (Nat × Nat)
  cmets : List (Nat × Nat)

structure Gam where
  fn : Nat → List Nat → List D → Hq → R (D × Hq)
  cls : Nat → Option Cl
  fuel : Nat
  cfn : Nat → List Nat → List D → Hq → R (D × Hq)

/-! ### objects -/
def asLst (C : Hq) (l : Nat) : Option (List D) :=
  match C.get l with
  | some (.lst xs) => some xs
  | _ => none
def asDic (C : Hq) (l : Nat) : Option (List (D × D)) :=
  match C.get l with
  | some (.dic kvs) => some kvs
  | _ => none
def asSet (C : Hq) (l : Nat) : Option (List D) :=
  match C.get l with
  | some (.set xs) => some xs
  | _ => none
def asIns (C : Hq) (l : Nat) : Option (Nat × List (Nat × D)) :=
  match C.get l with
  | some (.ins c fs) => some (c, fs)
  | _ => none
/-- the items of a list or a tuple -/
def seqOf (C : Hq) : D → Option (List D)
  | .tup xs => some xs
  | .loc l => asLst C l
  | _ => none

/-! ### keys -/
def isKey1 : D → Bool
  | .int _ => true
  | .str _ => true
  | _ => false
def isKey2 : D → Bool
  | .tup xs => xs.all isKey1
  | _ => false
/-- a key that fits the keys that are there -/
def keyFits (kvs : List (D × D)) (k : D) : Bool :=
  match kvs with
  | [] => isKey1 k || isKey2 k
  | p :: _ => cond (isKey1 k) (isKey1 p.1) (isKey2 k && isKey2 p.1)
/-- the same, where the dict may be empty: then it must be free to be told anew -/
def kfit (lk : List Nat) (l : Nat) (kvs : List (D × D)) (k : D) : Bool :=
  match kvs with
  | [] => (isKey1 k || isKey2 k) && !(lk.any fun j => Nat.beq j l)
  | _ => keyFits kvs k
def roomy {α : Type} (xs : List α) : Bool := decide (xs.length < 1000000)
def dget (kvs : List (D × D)) (k : D) : Option D :=
  List.rec (motive := fun _ => Option D) none (fun p _ ih => cond (D.kbeq p.1 k) (some p.2) ih) kvs
def dput (kvs : List (D × D)) (k v : D) : List (D × D) :=
  List.rec (motive := fun _ => List (D × D)) [(k, v)] (fun p r ih => cond (D.kbeq p.1 k) ((p.1, v) :: r) (p :: ih)) kvs

/-! ### data, for == -/
def toP : Nat → Hq → D → Option PyData
  | 0, _, _ => none
  | _ + 1, _, .non => some .none
  | _ + 1, _, .bl b => some (.bool b)
  | _ + 1, _, .int i => some (.int i)
  | _ + 1, _, .str s => if s.all (fun c => decide (c < 128)) then some (.str ⟨s.toArray⟩) else none
  | k + 1, C, .tup xs => (xs.mapM (toP k C)).map .tuple
  | k + 1, C, .loc l => (asLst C l).bind fun xs => (xs.mapM (toP k C)).map .list
def eqD (C : Hq) (a b : D) : Option Bool :=
  match a, b with
  | .int i, .int j => some (eqI i j)
  | .str s, .str t => some (eqS s t)
  | .bl s, .bl t => some (s == t)
  | .non, .non => some true
  | .non, .int _ => some false
  | .int _, .non => some false
  | .non, .str _ => some false
  | .str _, .non => some false
  | .int _, .str _ => some false
  | .str _, .int _ => some false
  | a, b => (toP 40 C a).bind fun x => (toP 40 C b).map fun y => PyData.eqv x y

/-! ### operators -/
/-- a place that is not locked -/
def isLk (lk : List Nat) (l : Nat) : Bool := lk.any fun k => Nat.beq k l
def free (lk : List Nat) (l : Nat) : Bool := !isLk lk l
def small (i : Int) : Bool := decide (-(2 ^ 64) < i) && decide (i < 2 ^ 64)
def newL (C : Hq) (o : CO) : D × Hq := (.loc C.n, C.push o)
def binD (o : BO) (lk : List Nat) (a b : D) (C : Hq) : Option (D × Hq) :=
  match o, a, b with
  | .add, .int i, .int j => some (.int (i + j), C)
  | .sub, .int i, .int j => some (.int (i - j), C)
  | .mul, .int i, .int j => if small i || small j then some (.int (i * j), C) else none
  | .fdiv, .int i, .int j => if decide (0 < j) && decide (j < 1073741824) then some (.int (i / j), C) else none
  | .mod, .int i, .int j => if decide (0 < j) then some (.int (i % j), C) else none
  | .pow, .int i, .int j => if decide (0 ≤ j) && decide (j ≤ 1000000) && decide (i.natAbs < 2 ^ 64) then some (.int (i ^ j.toNat), C) else none
  | .add, .str s, .str t => if s.length + t.length ≤ 1000000 then some (.str (s ++ t), C) else none
  | .add, .tup s, .tup t => if s.length + t.length ≤ 1000000 then some (.tup (s ++ t), C) else none
  | .add, .loc l, .loc m => (asLst C l).bind fun xs => (asLst C m).bind fun ys => if free lk l && free lk m && decide (xs.length + ys.length ≤ 1000000) then some (newL C (.lst (xs ++ ys))) else none
  | .mul, .loc l, .int j => (asLst C l).bind fun xs => if free lk l && decide (0 ≤ j) && decide (j ≤ 1000) && decide (xs.length ≤ 1000) then some (newL C (.lst (List.replicate j.toNat xs).flatten)) else none
  | _, _, _ => none

def ltS : List Nat → List Nat → Bool
  | [], [] => false
  | [], _ :: _ => true
  | _ :: _, [] => false
  | a :: s, b :: t => if a < b then true else if a = b then ltS s t else false
/-- is one sign within a text -/
def memC (c : Nat) : List Nat → Bool
  | [] => false
  | b :: t => cond (Nat.beq b c) true (memC c t)
def isNonD : D → Bool
  | .non => true
  | _ => false
/-- what None is not, and says so without asking an own class -/
def plainD (C : Hq) : D → Bool
  | .loc l => match C.get l with
    | some (.lst _) => true
    | some (.dic _) => true
    | _ => false
  | _ => true
/-- is x among the items -/
def inD (C : Hq) (x : D) (xs : List D) : Option Bool :=
  match x with
  | .non => if xs.all (plainD C) then some (xs.any isNonD) else none
  | x => (toP 40 C x).bind fun d => (xs.mapM (toP 40 C)).map fun ds => ds.any fun z => PyData.eqv z d
def inC (lk : List Nat) (x c : D) (C : Hq) : Option Bool :=
  match c with
  | .str t => match x with
    | .str [s] => some (memC s t)
    | _ => none
  | .tup xs => inD C x xs
  | .loc l => match C.get l with
    | some (.lst xs) => inD C x xs
    | some (.dic kvs) => if kfit lk l kvs x then some (dget kvs x).isSome else none
    | _ => none
  | _ => none
def cmpD (o : KO) (lk : List Nat) (a b : D) (C : Hq) : Option Bool :=
  match o with
  | .eq => eqD C a b
  | .ne => (eqD C a b).map (!·)
  | .isn => match b with
    | .non => some (match a with | .non => true | _ => false)
    | _ => none
  | .notn => match b with
    | .non => some (match a with | .non => false | _ => true)
    | _ => none
  | .isin => inC lk a b C
  | .notin => (inC lk a b C).map (!·)
  | .lt => match a, b with
    | .int i, .int j => some (decide (i < j))
    | .str s, .str t => some (ltS s t)
    | _, _ => none
  | .le => match a, b with
    | .int i, .int j => some (decide (i ≤ j))
    | .str s, .str t => some (!ltS t s)
    | _, _ => none
  | .gt => match a, b with
    | .int i, .int j => some (decide (j < i))
    | .str s, .str t => some (ltS t s)
    | _, _ => none
  | .ge => match a, b with
    | .int i, .int j => some (decide (j ≤ i))
    | .str s, .str t => some (!ltS s t)
    | _, _ => none

def tru (C : Hq) : D → Option Bool
  | .non => some false
  | .bl b => some b
  | .int i => some (i != 0)
  | .str s => some (!s.isEmpty)
  | .tup xs => some (!xs.isEmpty)
  | .loc l => match C.get l with
    | some (.lst xs) => some (!xs.isEmpty)
    | _ => none

/-- a place among n, from the end if below 0 -/
def atN (i : Int) (n : Nat) : Option Nat :=
  if 0 ≤ i then (if i < n then some i.toNat else none) else (if -(n : Int) ≤ i then some (i + n).toNat else none)
def atOf {α : Type} (xs : List α) (i : Int) : Option α := (atN i xs.length).bind fun k => xs[k]?
def idxD (lk : List Nat) (a i : D) (C : Hq) : Option D :=
  match a with
  | .str s => match i with
    | .int j => (atOf s j).map fun c => .str [c]
    | _ => none
  | .tup xs => match i with
    | .int j => atOf xs j
    | _ => none
  | .loc l => match C.get l with
    | some (.lst xs) => match i with
      | .int j => atOf xs j
      | _ => none
    | some (.dic kvs) => if kfit lk l kvs i then dget kvs i else none
    | _ => none
  | _ => none
/-- where a slice begins or ends -/
def clampI (i : Int) (n : Nat) : Nat := if i < 0 then (i + n).toNat else min i.toNat n
def cutL {α : Type} (xs : List α) (lo hi : Option Int) : List α :=
  let a := match lo with | none => 0 | some i => clampI i xs.length
  let b := match hi with | none => xs.length | some i => clampI i xs.length
  (xs.drop a).take (b - a)
def slcD (a : D) (lo hi : Option Int) (C : Hq) : Option (D × Hq) :=
  match a with
  | .str s => some (.str (cutL s lo hi), C)
  | .tup xs => some (.tup (cutL xs lo hi), C)
  | .loc l => (asLst C l).map fun xs => newL C (.lst (cutL xs lo hi))
  | _ => none
def revD (a : D) (C : Hq) : Option (D × Hq) :=
  match a with
  | .loc l => (asLst C l).map fun xs => newL C (.lst xs.reverse)
  | _ => none
def negD : D → Option D
  | .int i => some (.int (-i))
  | _ => none

/-! ### built-in functions -/
def allB (C : Hq) : List D → Option Bool
  | [] => some true
  | x :: r => match x with
    | .bl b => (allB C r).map fun k => b && k
    | _ => none
def anyB (C : Hq) : List D → Option Bool
  | [] => some false
  | x :: r => match x with
    | .bl b => (anyB C r).map fun k => b || k
    | _ => none
def intsOf : List D → Option (List Int)
  | [] => some []
  | .int i :: r => (intsOf r).map fun s => i :: s
  | _ :: _ => none
def strsOf : List D → Option (List (List Nat))
  | [] => some []
  | .str i :: r => (strsOf r).map fun s => i :: s
  | _ :: _ => none
def maxI : Int → List Int → Int
  | m, [] => m
  | m, i :: r => maxI (if m < i then i else m) r
def minI : Int → List Int → Int
  | m, [] => m
  | m, i :: r => minI (if i < m then i else m) r
/-- the number of unlike ones -/
def uniq : List D → List D
  | [] => []
  | x :: r => if r.any (fun y => D.beq x y) then uniq r else x :: uniq r
def toDigits : Nat → Nat → List Nat → List Nat
  | 0, _, acc => acc
  | k + 1, n, acc => if n < 10 then (48 + n) :: acc else toDigits k (n / 10) ((48 + n % 10) :: acc)
def strI (i : Int) : List Nat := if 0 ≤ i then toDigits 700 i.toNat [] else 45 :: toDigits 700 (-i).toNat []
/-- the number of unlike texts -/
def cntS : List (List Nat) → List (List Nat) → Nat
  | seen, [] => seen.length
  | seen, w :: r => if seen.any (fun z => eqS z w) then cntS seen r else cntS (w :: seen) r
def lstAt (C : Hq) : D → Option (List D)
  | .loc l => asLst C l
  | _ => none
/-- the texts of a f-string's parts -/
def fmtOf : List D → Option (List (List Nat))
  | [] => some []
  | .str s :: r => (fmtOf r).map fun t => s :: t
  | .int i :: r => if decide (i.natAbs < 200) then (fmtOf r).map fun t => strI i :: t else none
  | _ :: _ => none
/-- a whole number more -/
def addI (s : List Int) (i : Int) : List Int := if s.any (fun j => eqI j i) then s else s ++ [i]
def insI (x : Int) : List Int → List Int
  | [] => [x]
  | y :: r => if x < y then x :: y :: r else y :: insI x r
def sortI : List Int → List Int
  | [] => []
  | x :: r => insI x (sortI r)
def rises : List Int → Bool
  | [] => true
  | a :: r => (match r with
    | [] => true
    | b :: _ => decide (a < b)) && rises r
/-- order of what is sorted: ints, texts, tuples of them -/
def ltD1 : D → D → Bool
  | .int i, .int j => decide (i < j)
  | .str s, .str t => ltS s t
  | _, _ => false
def ltDs : List D → List D → Bool
  | [], [] => false
  | [], _ :: _ => true
  | _ :: _, [] => false
  | a :: s, b :: t => if ltD1 a b then true else if D.beq a b then ltDs s t else false
def ltD : D → D → Bool
  | .tup xs, .tup ys => ltDs xs ys
  | a, b => ltD1 a b
def insD (x : D) : List D → List D
  | [] => [x]
  | y :: r => if ltD x y then x :: y :: r else y :: insD x r
def sortD : List D → List D
  | [] => []
  | x :: r => insD x (sortD r)
def lenD (C : Hq) : D → Option Nat
  | .str s => some s.length
  | .tup xs => some xs.length
  | .loc l => match C.get l with
    | some (.lst xs) => some xs.length
    | some (.dic kvs) => some kvs.length
    | _ => none
  | _ => none
/-- all that a list, a tuple or a dict holds when it is walked -/
def walkD (C : Hq) : D → Option (List D)
  | .tup xs => some xs
  | .loc l => match C.get l with
    | some (.lst xs) => some xs
    | some (.dic kvs) => some (kvs.map (·.1))
    | _ => none
  | _ => none
def digits (s : List Nat) : Bool := !s.isEmpty && s.all fun c => decide (48 ≤ c) && decide (c ≤ 57)
def ofDigits : Int → List Nat → Int
  | n, [] => n
  | n, c :: r => ofDigits (10 * n + ((c : Int) - 48)) r
def intS (s : List Nat) : Option Int :=
  match s with
  | 45 :: r => if digits r then some (-(ofDigits 0 r)) else none
  | s => if digits s then some (ofDigits 0 s) else none
def one1 {α : Type} (as : List D) (f : D → Option α) : Option α :=
  match as with
  | [a] => f a
  | _ => none
def two1 {α : Type} (as : List D) (f : D → D → Option α) : Option α :=
  match as with
  | [a, b] => f a b
  | _ => none
/-- the ints of a list -/
def intsAt (C : Hq) : D → Option (List Int)
  | .loc l => (asLst C l).bind intsOf
  | _ => none
def toTup (C : Hq) : D → Option (D × Hq)
  | .tup xs => some (.tup xs, C)
  | .loc l => (asLst C l).bind fun xs => if roomy xs then some (.tup xs, C) else none
  | _ => none
def toLst (C : Hq) (a : D) : Option (D × Hq) :=
  match a with
  | .str s => some (newL C (.lst (s.map fun c => .str [c])))
  | .tup xs => some (newL C (.lst xs))
  | .loc l => match C.get l with
    | some (.lst xs) => some (newL C (.lst xs))
    | some (.dic kvs) => some (newL C (.lst (kvs.map (·.1))))
    | _ => none
  | _ => none
def toDic (C : Hq) : D → Option (D × Hq)
  | .loc l => (asDic C l).map fun kvs => newL C (.dic kvs)
  | _ => none
def toInt (C : Hq) : D → Option (D × Hq)
  | .int i => some (.int i, C)
  | .bl b => some (.int (if b then 1 else 0), C)
  | .str s => if digits s && decide (s.length ≤ 640) then some (.int (ofDigits 0 s), C) else none
  | _ => none
def toStr (C : Hq) : D → Option (D × Hq)
  | .int i => if decide (i.natAbs < 200) then some (.str (strI i), C) else none
  | _ => none
def absD (C : Hq) : D → Option (D × Hq)
  | .int i => some (.int (if i < 0 then -i else i), C)
  | _ => none
def sortOf (C : Hq) : D → Option (D × Hq)
  | .loc l => match C.get l with
    | some (.lst xs) => some (newL C (.lst (sortD xs)))
    | some (.dic kvs) => some (newL C (.lst (sortD (kvs.map (·.1)))))
    | some (.set xs) => some (newL C (.lst (sortD xs)))
    | _ => none
  | _ => none
def allAt (C : Hq) : D → Option Bool
  | .loc l => (asLst C l).bind (allB C)
  | _ => none
def anyAt (C : Hq) : D → Option Bool
  | .loc l => (asLst C l).bind (anyB C)
  | _ => none
def ii (f : Int → Int → Option D) (C : Hq) : D → D → Option (D × Hq)
  | .int i, .int j => (f i j).map fun d => (d, C)
  | _, _ => none
def biD (b : BI) (as : List D) (C : Hq) : Option (D × Hq) :=
  match b with
  | .len => one1 as fun a => (lenD C a).map fun n => (.int n, C)
  | .all => one1 as fun a => (allAt C a).map fun k => (.bl k, C)
  | .any => one1 as fun a => (anyAt C a).map fun k => (.bl k, C)
  | .int => one1 as (toInt C)
  | .str => one1 as (toStr C)
  | .abs => one1 as (absD C)
  | .max2 => two1 as (ii (fun i j => some (.int (if j > i then j else i))) C)
  | .min2 => two1 as (ii (fun i j => some (.int (if j < i then j else i))) C)
  | .max1 => one1 as fun a => (intsAt C a).bind fun is => match is with
    | [] => none
    | i :: r => some (.int (maxI i r), C)
  | .min1 => one1 as fun a => (intsAt C a).bind fun is => match is with
    | [] => none
    | i :: r => some (.int (minI i r), C)
  | .sum => one1 as fun a => (intsAt C a).map fun is => (.int is.sum, C)
  | .tuple => one1 as (toTup C)
  | .list => one1 as (toLst C)
  | .dict => one1 as (toDic C)
  | .lenset => one1 as fun a => (lstAt C a).bind fun xs => (strsOf xs).bind fun ws => if decide (ws.length ≤ 1000) then some (.int (cntS [] ws), C) else none
  | .sorted => one1 as (sortOf C)
  | .divmod => two1 as (ii (fun i j => if decide (0 < j) && decide (j < 1073741824) then some (.tup [.int (i / j), .int (i % j)]) else none) C)

/-! ### methods of built-in types -/
def splitS (sep : Nat) : List Nat → List (List Nat)
  | [] => [[]]
  | c :: r => if c = sep then [] :: splitS sep r else match splitS sep r with
    | [] => [[c]]
    | w :: ws => (c :: w) :: ws
def joinS (sep : List Nat) : List (List Nat) → List Nat
  | [] => []
  | [w] => w
  | w :: ws => w ++ sep ++ joinS sep ws
def findD (C : Hq) (x : D) : Nat → List D → Option Nat
  | _, [] => none
  | k, y :: r => (eqD C y x).bind fun b => if b then some k else findD C x (k + 1) r
def countD (C : Hq) (x : D) : List D → Option Nat
  | [] => some 0
  | y :: r => (eqD C y x).bind fun b => (countD C x r).map fun n => if b then n + 1 else n
def dputAll : List (D × D) → List (D × D) → List (D × D)
  | kvs, [] => kvs
  | kvs, (k, v) :: r => dputAll (dput kvs k v) r
def asInt : D → Option Int
  | .int i => some i
  | _ => none
/-- the receiver is of the method's kind -/
def bmK (m : BM) (a : D) (C : Hq) : Bool :=
  match m with
  | .append | .extend | .pop0 | .pop1 | .index | .count => match a with
    | .loc l => (asLst C l).isSome
    | _ => false
  | .get1 | .get2 | .setd | .update => match a with
    | .loc l => (asDic C l).isSome
    | _ => false
  | .split | .join => match a with
    | .str _ => true
    | _ => false
/-- a list that may be changed -/
def frLst (lk : List Nat) (C : Hq) (a : D) : Option (Nat × List D) :=
  match a with
  | .loc l => if free lk l then (asLst C l).map fun xs => (l, xs) else none
  | _ => none
/-- a dict -/
def atDic (C : Hq) (a : D) : Option (Nat × List (D × D)) :=
  match a with
  | .loc l => (asDic C l).map fun xs => (l, xs)
  | _ => none
def chrOf : D → Option Nat
  | .str [c] => some c
  | _ => none
def strAt : D → Option (List Nat)
  | .str s => some s
  | _ => none
def bmD (m : BM) (lk : List Nat) (a : D) (as : List D) (C : Hq) : Option (D × Hq) :=
  match m with
  | .append => (frLst lk C a).bind fun p => one1 as fun x => if roomy p.2 then some (.non, C.set p.1 (.lst (p.2 ++ [x]))) else none
  | .extend => (frLst lk C a).bind fun p => one1 as fun x => (frLst lk C x).bind fun q => if decide (p.2.length + q.2.length ≤ 1000000) then some (.non, C.set p.1 (.lst (p.2 ++ q.2))) else none
  | .pop0 => (frLst lk C a).bind fun p => match as with
    | [] => (p.2[p.2.length - 1]?).map fun x => (x, C.set p.1 (.lst p.2.dropLast))
    | _ => none
  | .pop1 => (frLst lk C a).bind fun p => one1 as fun x => (asInt x).bind fun i => (atN i p.2.length).bind fun k => (p.2[k]?).map fun x => (x, C.set p.1 (.lst (p.2.eraseIdx k)))
  | .index => none
  | .count => none
  | .get1 => (atDic C a).bind fun p => one1 as fun k => if kfit lk p.1 p.2 k then some ((dget p.2 k).getD .non, C) else none
  | .get2 => (atDic C a).bind fun p => two1 as fun k x => if kfit lk p.1 p.2 k then some ((dget p.2 k).getD x, C) else none
  | .setd => (atDic C a).bind fun p => two1 as fun k x => if isKey1 k && keyFits p.2 k && free lk p.1 && roomy p.2 then (match dget p.2 k with
    | some v => some (v, C)
    | none => some (x, C.set p.1 (.dic (dput p.2 k x)))) else none
  | .update => (atDic C a).bind fun p => one1 as fun x => (atDic C x).bind fun q => if free lk p.1 && free lk q.1 && !(Nat.beq p.1 q.1) && p.2.all (fun z => isKey1 z.1) && q.2.all (fun z => isKey1 z.1) && decide (p.2.length + q.2.length ≤ 1000000) then some (.non, C.set p.1 (.dic (dputAll p.2 q.2))) else none
  | .split => (strAt a).bind fun s => one1 as fun x => (chrOf x).map fun c => newL C (.lst ((splitS c s).map .str))
  | .join => (strAt a).bind fun s => one1 as fun x => (walkD C x).bind fun xs => (strsOf xs).bind fun ws => if decide ((ws.map (·.length)).sum + ws.length * s.length ≤ 1000000) then some (.str (joinS s ws), C) else none

def isiD (t : TY) (a : D) (C : Hq) : Option Bool :=
  match a with
  | .non => some false
  | .bl _ => some (match t with | .int => true | .bool => true | _ => false)
  | .int _ => some (match t with | .int => true | _ => false)
  | .str _ => some (match t with | .str => true | _ => false)
  | .tup _ => some (match t with | .tuple => true | _ => false)
  | .loc l => match C.get l with
    | some (.lst _) => some (match t with | .list => true | _ => false)
    | some (.ins c _) => some (match t with | .cls c' => Nat.beq c c' | _ => false)
    | _ => none

/-! ### names, targets, fields -/
def getV (ls : Sl) (i : Nat) : Option D :=
  match ls[i]? with
  | some (some d) => some d
  | _ => none
def setV (ls : Sl) (i : Nat) (d : D) : Sl := ls.set i (some d)
def setVs : Sl → List Nat → List D → Option Sl
  | ls, [], [] => some ls
  | ls, i :: is, d :: ds => setVs (setV ls i d) is ds
  | _, _, _ => none
def putP (p : P) (d : D) (C : Hq) (ls : Sl) : Option Sl :=
  match p with
  | .one i => some (setV ls i d)
  | .many is => match d with
    | .tup ds => setVs ls is ds
    | _ => none
def wipe : Sl → List Nat → Sl
  | ls, [] => ls
  | ls, i :: is => (wipe ls is).set i none
def getF : List (Nat × D) → Nat → Option D
  | [], _ => none
  | (g, d) :: r, f => cond (Nat.beq g f) (some d) (getF r f)
def putF : List (Nat × D) → Nat → D → List (Nat × D)
  | [], f, d => [(f, d)]
  | (g, x) :: r, f, d => cond (Nat.beq g f) ((g, d) :: r) ((g, x) :: putF r f d)
def getN : List (Nat × Nat) → Nat → Option Nat
  | [], _ => none
  | (g, d) :: r, f => cond (Nat.beq g f) (some d) (getN r f)
/-- a name that a class does not have: instances may have it -/
def noAt (cl : Cl) (f : Nat) : Bool := (getN cl.props f).isNone && (getN cl.meths f).isNone
def setSub (lk : List Nat) (a i d : D) (C : Hq) : Option Hq :=
  match a with
  | .loc l => if free lk l then (match C.get l with
    | some (.lst xs) => match i with
      | .int j => (atN j xs.length).map fun k => C.set l (.lst (xs.set k d))
      | _ => none
    | some (.dic kvs) => if keyFits kvs i && roomy kvs then some (C.set l (.dic (dput kvs i d))) else none
    | _ => none) else none
  | _ => none
def rngL : Int → Nat → List D
  | _, 0 => []
  | a, n + 1 => .int a :: rngL (a + 1) n
def iterD (C : Hq) : D → Option Iter
  | .str s => some (.items (s.map fun c => .str [c]))
  | .tup xs => some (.items xs)
  | .loc l => match C.get l with
    | some (.lst _) => some (.lst l)
    | some (.dic _) => some (.key l)
    | _ => none
  | _ => none
def Iter.next (J : Iter) (i : Nat) (C : Hq) : Option (Option D) :=
  match J with
  | .items xs => some xs[i]?
  | .lst l => (asLst C l).map fun xs => xs[i]?
  | .key l => (asDic C l).map fun kvs => (kvs[i]?).map (·.1)
  | .enu xs => some ((xs[i]?).map fun d => .tup [.int i, d])
  | .enl l => (asLst C l).map fun xs => (xs[i]?).map fun d => .tup [.int i, d]
  | .zil l m => (asLst C l).bind fun xs => (asLst C m).map fun ys => (xs[i]?).bind fun d => (ys[i]?).map fun e => .tup [d, e]
/-- the dict that is locked while it is walked -/
def Iter.lock (J : Iter) (lk : List Nat) : List Nat :=
  match J with
  | .key l => if isLk lk l then lk else l :: lk
  | _ => lk

/-- an instance is of a known class -/
def insOk (cls : Nat → Option Cl) (a : D) (C : Hq) : Bool :=
  match a with
  | .loc l => match C.get l with
    | some (.ins c _) => (cls c).isSome
    | _ => true
  | _ => true

/-! ### loops -/
def loopF (nxt : Nat → Hq → Option (Option D)) (body : D → Sl → Hq → R (Fl × Sl × Hq)) : Nat → Nat → Sl → Hq → R (Fl × Sl × Hq)
  | 0, _, _, _ => .no
  | k + 1, i, ls, C => (R.of (nxt i C)).bind fun o => match o with
    | none => .ok (.nx, ls, C)
    | some x => (body x ls C).bind fun r => match r with
      | (.nx, ls', C') => loopF nxt body k (i + 1) ls' C'
      | (.ct, ls', C') => loopF nxt body k (i + 1) ls' C'
      | (.bk, ls', C') => .ok (.nx, ls', C')
      | (.rt d, ls', C') => .ok (.rt d, ls', C')
def loopW (test : Sl → Hq → R (Bool × Hq)) (body : Sl → Hq → R (Fl × Sl × Hq)) : Nat → Sl → Hq → R (Fl × Sl × Hq)
  | 0, _, _ => .no
  | k + 1, ls, C => (test ls C).bind fun t => if t.1 then (body ls t.2).bind fun r => (match r with
      | (.nx, ls', C') => loopW test body k ls' C'
      | (.ct, ls', C') => loopW test body k ls' C'
      | (.bk, ls', C') => .ok (.nx, ls', C')
      | (.rt d, ls', C') => .ok (.rt d, ls', C')) else .ok (.nx, ls, t.2)
/-- a comprehension's turns: no slot stays -/
def loopC {σ : Type} (nxt : Nat → σ → Option (Option D)) (body : D → σ → R σ) : Nat → Nat → σ → R σ
  | 0, _, _ => .no
  | k + 1, i, C => (R.of (nxt i C)).bind fun o => match o with
    | none => .ok C
    | some x => (body x C).bind fun C' => loopC nxt body k (i + 1) C'

/-! ### the reckoning -/
mutual
def evE (G : Gam) : E → List Nat → Sl → Hq → R (D × Hq)
  | .var i, _, ls, C => (R.of (getV ls i)).bind fun d => .ok (d, C)
  | .con d, _, _, C => .ok (d, C)
  | .bin o a b, lk, ls, C => (evE G a lk ls C).bind fun x => (evE G b lk ls x.2).bind fun y => R.of (binD o lk x.1 y.1 y.2)
  | .neg a, lk, ls, C => (evE G a lk ls C).bind fun x => (R.of (negD x.1)).bind fun d => .ok (d, x.2)
  | .cmp o a b, lk, ls, C => (evE G a lk ls C).bind fun x => (evE G b lk ls x.2).bind fun y => (R.of (cmpD o lk x.1 y.1 y.2)).bind fun k => .ok (.bl k, y.2)
  | .chn o p a b c, lk, ls, C => (evE G a lk ls C).bind fun x => (evE G b lk ls x.2).bind fun y => (R.of (cmpD o lk x.1 y.1 y.2)).bind fun k =>
      if k then (evE G c lk ls y.2).bind fun z => (R.of (cmpD p lk y.1 z.1 z.2)).bind fun m => .ok (.bl m, z.2) else .ok (.bl false, y.2)
  | .and a b, lk, ls, C => (evE G a lk ls C).bind fun x => (R.of (tru x.2 x.1)).bind fun k => if k then evE G b lk ls x.2 else .ok x
  | .or a b, lk, ls, C => (evE G a lk ls C).bind fun x => (R.of (tru x.2 x.1)).bind fun k => if k then .ok x else evE G b lk ls x.2
  | .not a, lk, ls, C => (evE G a lk ls C).bind fun x => (R.of (tru x.2 x.1)).bind fun k => .ok (.bl (!k), x.2)
  | .ife c a b, lk, ls, C => (evE G c lk ls C).bind fun x => (R.of (tru x.2 x.1)).bind fun k => if k then evE G a lk ls x.2 else evE G b lk ls x.2
  | .tup as, lk, ls, C => (evA G as lk ls C).bind fun x => .ok (.tup x.1, x.2)
  | .lst as, lk, ls, C => (evA G as lk ls C).bind fun x => .ok (newL x.2 (.lst x.1))
  | .tst a as, lk, ls, C => (evE G a lk ls C).bind fun x => (evA G as lk ls x.2).bind fun y => (R.of (seqOf x.2 x.1)).bind fun xs => if decide (xs.length + y.1.length ≤ 1000000) then .ok (.tup (xs ++ y.1), y.2) else .no
  | .dic ks vs, lk, ls, C => match ks, vs with
    | [], [] => .ok (newL C (.dic []))
    | [k], [v] => (evE G k lk ls (C.push (.dic []))).bind fun x => (evE G v lk ls x.2).bind fun y => (R.of (asDic y.2 C.n)).bind fun kvs =>
        if kfit lk C.n kvs x.1 && roomy kvs then .ok (.loc C.n, y.2.set C.n (.dic (dput kvs x.1 y.1))) else .no
    | _, _ => .no
  | .idx a i, lk, ls, C => (evE G a lk ls C).bind fun x => (evE G i lk ls x.2).bind fun y => (R.of (idxD lk x.1 y.1 y.2)).bind fun d => .ok (d, y.2)
  | .slo a b, lk, ls, C => (evE G a lk ls C).bind fun x => (evE G b lk ls x.2).bind fun y => (R.of (asInt y.1)).bind fun i => R.of (slcD x.1 (some i) none y.2)
  | .shi a b, lk, ls, C => (evE G a lk ls C).bind fun x => (evE G b lk ls x.2).bind fun y => (R.of (asInt y.1)).bind fun i => R.of (slcD x.1 none (some i) y.2)
  | .slh a b c, lk, ls, C => (evE G a lk ls C).bind fun x => (evE G b lk ls x.2).bind fun y => (R.of (asInt y.1)).bind fun i =>
      (evE G c lk ls y.2).bind fun z => (R.of (asInt z.1)).bind fun j => R.of (slcD x.1 (some i) (some j) z.2)
  | .rev a, lk, ls, C => (evE G a lk ls C).bind fun x => R.of (revD x.1 x.2)
  | .fld a f, lk, ls, C => (evE G a lk ls C).bind fun x => match x.1 with
    | .loc l => (R.of (asIns x.2 l)).bind fun p => (R.of (G.cls p.1)).bind fun cl => match getN cl.props f with
      | some g => G.fn g lk [x.1] x.2
      | none => if noAt cl f then (R.of (getF p.2 f)).bind fun d => .ok (d, x.2) else .no
    | _ => .no
  | .call f as, lk, ls, C => (evA G as lk ls C).bind fun x => G.fn f lk x.1 x.2
  | .calk f as ix, lk, ls, C => (evA G as lk ls C).bind fun x => (R.of (ix.mapM fun i => x.1[i]?)).bind fun ds => G.fn f lk ds x.2
  | .make c as, lk, ls, C => (evA G as lk ls C).bind fun x => (R.of (G.cls c)).bind fun cl =>
      (G.fn cl.init lk (.loc x.2.n :: x.1) (x.2.push (.ins c []))).bind fun y => match y.1 with
        | .non => .ok (.loc x.2.n, y.2)
        | _ => .no
  | .maks c a, lk, ls, C => (evE G a lk ls C).bind fun x => (R.of (seqOf x.2 x.1)).bind fun xs => (R.of (G.cls c)).bind fun cl =>
      (G.fn cl.init lk (.loc x.2.n :: xs) (x.2.push (.ins c []))).bind fun y => match y.1 with
        | .non => .ok (.loc x.2.n, y.2)
        | _ => .no
  | .meth a m as, lk, ls, C => (evE G a lk ls C).bind fun x => match x.1 with
    | .loc l => (R.of (asIns x.2 l)).bind fun p => (R.of (G.cls p.1)).bind fun cl => (R.of (getN cl.meths m)).bind fun g =>
        if (getF p.2 m).isNone then (evA G as lk ls x.2).bind fun y => G.fn g lk (x.1 :: y.1) y.2 else .no
    | _ => .no
  | .cmet c m as, lk, ls, C => (evA G as lk ls C).bind fun x => (R.of (G.cls c)).bind fun cl => (R.of (getN cl.cmets m)).bind fun f => G.cfn f lk x.1 x.2
  | .eqm f a b, lk, ls, C => (evE G a lk ls C).bind fun x => (evE G b lk ls x.2).bind fun y => match x.1, y.1 with
    | .loc l, .loc j => (R.of (asIns y.2 l)).bind fun p => (R.of (asIns y.2 j)).bind fun q => (R.of (G.cls p.1)).bind fun cl => (R.of (getN cl.meths f)).bind fun g =>
        if Nat.beq p.1 q.1 then (G.fn g lk [x.1, y.1] y.2).bind fun z => match z.1 with
          | .bl k => .ok (.bl k, z.2)
          | _ => .no
        else .no
    | _, _ => .no
  | .bi b as, lk, ls, C => (evA G as lk ls C).bind fun x => R.of (biD b x.1 x.2)
  | .bm m a as, lk, ls, C => (evE G a lk ls C).bind fun x => if bmK m x.1 x.2 then (evA G as lk ls x.2).bind fun y => R.of (bmD m lk x.1 y.1 y.2) else .no
  | .isi a t, lk, ls, C => (evE G a lk ls C).bind fun x => if insOk G.cls x.1 x.2 then (R.of (isiD t x.1 x.2)).bind fun k => .ok (.bl k, x.2) else .no
  | .fst as, lk, ls, C => (evA G as lk ls C).bind fun x => (R.of (fmtOf x.1)).bind fun ws => if decide (ws.flatten.length ≤ 1000000) then .ok (.str ws.flatten, x.2) else .no
  | .itr _, _, _, _ => .no
  | .rg1 _, _, _, _ => .no
  | .rg2 _ _, _, _, _ => .no
  | .enm _, _, _, _ => .no
  | .zip _ _, _, _, _ => .no
  | .lc own p it cs elt, lk, ls, C => (evI G it lk ls C).bind fun J =>
      (loopC J.1.next (fun x C' => (R.of (putP p x C' (wipe ls own))).bind fun ls' => (evC G cs (J.1.lock lk) ls' C').bind fun t => if t.1 then
          (evE G elt (J.1.lock lk) ls' t.2).bind fun y => (R.of (asLst y.2 J.2.n)).bind fun xs => if roomy xs then .ok (y.2.set J.2.n (.lst (xs ++ [y.1]))) else .no else .ok t.2) G.fuel 0 (J.2.push (.lst []))).bind fun C' => .ok (.loc J.2.n, C')
  | .lc2 own p it p2 it2 cs elt, lk, ls, C => (evI G it lk ls C).bind fun J =>
      (loopC (fun i s => J.1.next i s.2) (fun x s => (R.of (putP p x s.2 (wipe ls own))).bind fun ls' => (evI G it2 s.1 ls' s.2).bind fun J2 => if isLk (J2.1.lock s.1) J.2.n then .no else
        (loopC J2.1.next (fun x2 C2 => (R.of (putP p2 x2 C2 (wipe ls' p2.slots))).bind fun ls2 => (evC G cs (J2.1.lock s.1) ls2 C2).bind fun t => if t.1 then
          (evE G elt (J2.1.lock s.1) ls2 t.2).bind fun y => (R.of (asLst y.2 J.2.n)).bind fun xs => if roomy xs then .ok (y.2.set J.2.n (.lst (xs ++ [y.1]))) else .no else .ok t.2) G.fuel 0 J2.2).bind fun C' => .ok (J2.1.lock s.1, C')) G.fuel 0 (J.1.lock lk, J.2.push (.lst []))).bind fun s => .ok (.loc J.2.n, s.2)
  | .dc own p it cs k v, lk, ls, C => (evI G it lk ls C).bind fun J =>
      (loopC J.1.next (fun x C' => (R.of (putP p x C' (wipe ls own))).bind fun ls' => (evC G cs (J.1.lock lk) ls' C').bind fun t => if t.1 then
          (evE G k (J.1.lock lk) ls' t.2).bind fun y => (evE G v (J.1.lock lk) ls' y.2).bind fun z => (R.of (asDic z.2 J.2.n)).bind fun kvs =>
            if isKey1 y.1 && keyFits kvs y.1 && roomy kvs then .ok (z.2.set J.2.n (.dic (dput kvs y.1 z.1))) else .no else .ok t.2) G.fuel 0 (J.2.push (.dic []))).bind fun C' => .ok (.loc J.2.n, C')
  | .ssc own p it p2 it2 elt, lk, ls, C => (evI G it lk ls C).bind fun J =>
      (loopC (fun i s => J.1.next i s.2.1) (fun x s => (R.of (putP p x s.2.1 (wipe ls own))).bind fun ls' => (evI G it2 s.1 ls' s.2.1).bind fun J2 =>
        (loopC (fun i s => J2.1.next i s.1) (fun x2 s2 => (R.of (putP p2 x2 s2.1 (wipe ls' p2.slots))).bind fun ls2 =>
          (evE G elt (J2.1.lock s.1) ls2 s2.1).bind fun y => (R.of (asInt y.1)).bind fun i => if decide (s2.2.length < 60) then .ok (y.2, addI s2.2 i) else .no) G.fuel 0 (J2.2, s.2.2)).bind fun s' => .ok (J2.1.lock s.1, s')) G.fuel 0 (J.1.lock lk, J.2, [])).bind fun s => if rises (sortI s.2.2) then .ok (newL s.2.1 (.lst ((sortI s.2.2).map .int))) else .no
termination_by structural e => e
def evA (G : Gam) : List E → List Nat → Sl → Hq → R (List D × Hq)
  | [], _, _, C => .ok ([], C)
  | a :: as, lk, ls, C => (evE G a lk ls C).bind fun x => (evA G as lk ls x.2).bind fun y => .ok (x.1 :: y.1, y.2)
termination_by structural e => e
/-- a clause's tests -/
def evC (G : Gam) : List E → List Nat → Sl → Hq → R (Bool × Hq)
  | [], _, _, C => .ok (true, C)
  | a :: as, lk, ls, C => (evE G a lk ls C).bind fun x => (R.of (tru x.2 x.1)).bind fun k => if k then evC G as lk ls x.2 else .ok (false, x.2)
termination_by structural e => e
/-- what is walked -/
def evI (G : Gam) : E → List Nat → Sl → Hq → R (Iter × Hq)
  | .rg1 a, lk, ls, C => (evE G a lk ls C).bind fun x => (R.of (asInt x.1)).bind fun j => if decide (-(2 ^ 60) < j) && decide (j < 2 ^ 60) then .ok (.items (rngL 0 j.toNat), x.2) else .no
  | .rg2 a b, lk, ls, C => (evE G a lk ls C).bind fun x => (evE G b lk ls x.2).bind fun y => (R.of (asInt x.1)).bind fun i => (R.of (asInt y.1)).bind fun j =>
      if decide (-(2 ^ 60) < i) && decide (i < 2 ^ 60) && decide (-(2 ^ 60) < j) && decide (j < 2 ^ 60) then .ok (.items (rngL i (j - i).toNat), y.2) else .no
  | .enm a, lk, ls, C => (evE G a lk ls C).bind fun x => match x.1 with
    | .tup xs => .ok (.enu xs, x.2)
    | .loc l => (R.of (asLst x.2 l)).bind fun _ => .ok (.enl l, x.2)
    | _ => .no
  | .zip a b, lk, ls, C => (evE G a lk ls C).bind fun x => (evE G b lk ls x.2).bind fun y => match x.1, y.1 with
    | .loc l, .loc m => (R.of (asLst y.2 l)).bind fun _ => (R.of (asLst y.2 m)).bind fun _ => .ok (.zil l m, y.2)
    | _, _ => .no
  | .itr e, lk, ls, C => (evE G e lk ls C).bind fun x => (R.of (iterD x.2 x.1)).bind fun J => .ok (J, x.2)
  | _, _, _, _ => .no
termination_by structural e => e
end

/-! ### statements -/
def putT (G : Gam) (t : T1) (d : D) (lk : List Nat) (ls : Sl) (C : Hq) : R (Sl × Hq) :=
  match t with
  | .one i => .ok (setV ls i d, C)
  | .fld a f => (evE G a lk ls C).bind fun x => match x.1 with
    | .loc l => (R.of (asIns x.2 l)).bind fun p => (R.of (G.cls p.1)).bind fun cl => if noAt cl f && decide (p.2.length < 1000) then .ok (ls, x.2.set l (.ins p.1 (putF p.2 f d))) else .no
    | _ => .no
  | .sub a i => (evE G a lk ls C).bind fun x => (evE G i lk ls x.2).bind fun y => (R.of (setSub lk x.1 y.1 d y.2)).bind fun C' => .ok (ls, C')
def putTs (G : Gam) : List T1 → List D → List Nat → Sl → Hq → R (Sl × Hq)
  | [], [], _, ls, C => .ok (ls, C)
  | t :: ts, d :: ds, lk, ls, C => (putT G t d lk ls C).bind fun r => putTs G ts ds lk r.1 r.2
  | _, _, _, _, _ => .no
mutual
def evS (G : Gam) : S → List Nat → Sl → Hq → R (Fl × Sl × Hq)
  | .asg t e, lk, ls, C => (evE G e lk ls C).bind fun x => (putT G t x.1 lk ls x.2).bind fun r => .ok (.nx, r.1, r.2)
  | .asm ts e, lk, ls, C => (evE G e lk ls C).bind fun x => match x.1 with
    | .tup ds => (putTs G ts ds lk ls x.2).bind fun r => .ok (.nx, r.1, r.2)
    | _ => .no
  | .exp e, lk, ls, C => (evE G e lk ls C).bind fun x => .ok (.nx, ls, x.2)
  | .ret e, lk, ls, C => (evE G e lk ls C).bind fun x => .ok (.rt x.1, ls, x.2)
  | .rtn, _, ls, C => .ok (.rt .non, ls, C)
  | .ifs c a b, lk, ls, C => (evE G c lk ls C).bind fun x => (R.of (tru x.2 x.1)).bind fun k => if k then evSs G a lk ls x.2 else evSs G b lk ls x.2
  | .whl c b, lk, ls, C => loopW (fun ls C => (evE G c lk ls C).bind fun x => (R.of (tru x.2 x.1)).bind fun k => .ok (k, x.2)) (fun ls C => evSs G b lk ls C) G.fuel ls C
  | .fro p it b, lk, ls, C => (evI G it lk ls C).bind fun J => loopF J.1.next (fun x ls C => (R.of (putP p x C ls)).bind fun ls' => evSs G b (J.1.lock lk) ls' C) G.fuel 0 ls J.2
  | .pas, _, ls, C => .ok (.nx, ls, C)
  | .brk, _, ls, C => .ok (.bk, ls, C)
  | .cnt, _, ls, C => .ok (.ct, ls, C)
  | .rse, _, _, _ => .no
termination_by structural s => s
def evSs (G : Gam) : List S → List Nat → Sl → Hq → R (Fl × Sl × Hq)
  | [], _, ls, C => .ok (.nx, ls, C)
  | s :: r, lk, ls, C => (evS G s lk ls C).bind fun x => match x with
    | (.nx, ls', C') => evSs G r lk ls' C'
    | (.rt d, ls', C') => .ok (.rt d, ls', C')
    | (.bk, ls', C') => .ok (.bk, ls', C')
    | (.ct, ls', C') => .ok (.ct, ls', C')
termination_by structural s => s
end

/-! ### defs -/
/-- np parameters (va: the rest is a tuple behind them), ns names in all -/
structure Fn where
  np : Nat
  va : Bool
  dfl : List D
  ns : Nat
  body : List S
def bindA (fn : Fn) (as : List D) : Option (List D) :=
  if fn.va then (if fn.np ≤ as.length ∧ as.length ≤ 1000000 then some (as.take fn.np ++ [.tup (as.drop fn.np)]) else none)
  else if as.length = fn.np then some as
  else if as.length + fn.dfl.length = fn.np then some (as ++ fn.dfl) else none
def ends : R (Fl × Sl × Hq) → R (D × Hq)
  | .ok (.nx, _, C) => .ok (.non, C)
  | .ok (.rt d, _, C) => .ok (d, C)
  | .ok _ => .no
  | .ex c fs C => .ex c fs C
  | .no => .no
def callF (G : Gam) (fn : Fn) (lk : List Nat) (as : List D) (C : Hq) : R (D × Hq) :=
  (R.of (bindA fn as)).bind fun bs => ends (evSs G fn.body lk (bs.map some ++ List.replicate (fn.ns - bs.length) none) C)
def callC (G : Gam) (fn : Fn) (lk : List Nat) (as : List D) (C : Hq) : R (D × Hq) :=
  if decide (as.length = fn.np) then ends (evSs G fn.body lk (none :: as.map some ++ List.replicate (fn.ns - (as.length + 1)) none) C) else .no
/-- cms: the classmethods, told without their first parameter -/
structure Prog where
  fns : Tr Fn
  cls : Tr Cl
  cms : Tr Fn
def run (P : Prog) (fuel : Nat) : Nat → Gam
  | 0 => ⟨fun _ _ _ _ => .no, fun c => P.cls.get c, fuel, fun _ _ _ _ => .no⟩
  | n + 1 => ⟨fun f lk as C => (R.of (P.fns.get f)).bind fun fn => callF (run P fuel n) fn lk as C, fun c => P.cls.get c, fuel, fun f lk as C => (R.of (P.cms.get f)).bind fun fn => callC (run P fuel n) fn lk as C⟩
end
end Q

set_option Elab.async false
set_option linter.all false
set_option maxRecDepth 100000
/-! How the values and objects of Q stand in the hand layer's heap. -/
namespace Q
noncomputable section
open PySem L2

/-- what does not change: the attributes' names, where the classes and the defs stand -/
structure Stg where
  fld : List Str
  cad : Nat → Addr
  fad : Nat → Addr
  kw : List (Str × Str)

abbrev Sx (s : List Nat) : Str := ⟨s.toArray⟩
theorem Sx_inj {s t : List Nat} (h : Sx s = Sx t) : s = t := by
  have := congrArg (fun z : Str => z.cps.toList) h
  simpa using this

mutual
/-- d stands as v -/
def Rep (H : L2.Hp) (m : List Addr) : D → V → Prop
  | .non, v => v = .non
  | .bl b, v => v = .bl b
  | .int i, v => v = .int i
  | .str s, v => v = .str (Sx s) ∧ s.length ≤ 1000000
  | .tup xs, v => ∃ a vs, v = .ref a ∧ H a = some (.tup vs) ∧ vs.length ≤ 1000000 ∧ Reps H m xs vs
  | .loc n, v => ∃ a, m[n]? = some a ∧ v = .ref a
def Reps (H : L2.Hp) (m : List Addr) : List D → List V → Prop
  | [], vs => vs = []
  | x :: xs, vs => ∃ v r, vs = v :: r ∧ Rep H m x v ∧ Reps H m xs r
end

theorem Reps.length {H : L2.Hp} {m : List Addr} : ∀ {xs : List D} {vs : List V}, Reps H m xs vs → xs.length = vs.length
  | [], vs, h => by
    unfold Reps at h
    subst h
    rfl
  | x :: xs, vs, h => by
    unfold Reps at h
    obtain ⟨v, r, e, _, hr⟩ := h
    subst e
    simp [Reps.length hr]
theorem Reps.get {H : L2.Hp} {m : List Addr} : ∀ {xs : List D} {vs : List V} {i : Nat} {x : D}, Reps H m xs vs → xs[i]? = some x → ∃ v, vs[i]? = some v ∧ Rep H m x v
  | [], vs, i, x, h, e => by simp at e
  | y :: xs, vs, i, x, h, e => by
    unfold Reps at h
    obtain ⟨v, r, e', hv, hr⟩ := h
    subst e'
    cases i with
    | zero =>
      simp at e
      subst e
      exact ⟨v, rfl, hv⟩
    | succ i =>
      obtain ⟨w, h1, h2⟩ := Reps.get (i := i) hr (by simpa using e)
      exact ⟨w, by simpa using h1, h2⟩
theorem Reps.nil {H : L2.Hp} {m : List Addr} : Reps H m [] [] := by unfold Reps; rfl
theorem Reps.cons {H : L2.Hp} {m : List Addr} {x : D} {v : V} {xs : List D} {vs : List V} (h : Rep H m x v) (hs : Reps H m xs vs) : Reps H m (x :: xs) (v :: vs) := by
  unfold Reps
  exact ⟨v, vs, rfl, h, hs⟩
theorem Reps.app {H : L2.Hp} {m : List Addr} : ∀ {xs ys : List D} {vs ws : List V}, Reps H m xs vs → Reps H m ys ws → Reps H m (xs ++ ys) (vs ++ ws)
  | [], ys, vs, ws, h, k => by
    unfold Reps at h
    subst h
    exact k
  | x :: xs, ys, vs, ws, h, k => by
    unfold Reps at h
    obtain ⟨v, r, e, hv, hr⟩ := h
    subst e
    exact .cons hv (Reps.app hr k)
theorem Reps.uncons {H : L2.Hp} {m : List Addr} {x : D} {xs : List D} {vs : List V} (h : Reps H m (x :: xs) vs) : ∃ v r, vs = v :: r ∧ Rep H m x v ∧ Reps H m xs r := by
  unfold Reps at h
  exact h
theorem Reps.unnil {H : L2.Hp} {m : List Addr} {vs : List V} (h : Reps H m [] vs) : vs = [] := by
  unfold Reps at h
  exact h
theorem Reps.take {H : L2.Hp} {m : List Addr} : ∀ (n : Nat) {xs : List D} {vs : List V}, Reps H m xs vs → Reps H m (xs.take n) (vs.take n)
  | 0, xs, vs, h => by simpa using Reps.nil
  | n + 1, [], vs, h => by
    rw [h.unnil]
    exact Reps.nil
  | n + 1, x :: xs, vs, h => by
    obtain ⟨v, r, rfl, h1, h2⟩ := h.uncons
    exact .cons h1 (Reps.take n h2)
theorem Reps.drop {H : L2.Hp} {m : List Addr} : ∀ (n : Nat) {xs : List D} {vs : List V}, Reps H m xs vs → Reps H m (xs.drop n) (vs.drop n)
  | 0, xs, vs, h => by simpa using h
  | n + 1, [], vs, h => by
    rw [h.unnil]
    exact Reps.nil
  | n + 1, x :: xs, vs, h => by
    obtain ⟨v, r, rfl, h1, h2⟩ := h.uncons
    exact Reps.drop n h2
theorem Reps.rev {H : L2.Hp} {m : List Addr} : ∀ {xs : List D} {vs : List V}, Reps H m xs vs → Reps H m xs.reverse vs.reverse
  | [], vs, h => by
    rw [h.unnil]
    exact Reps.nil
  | x :: xs, vs, h => by
    obtain ⟨v, r, rfl, h1, h2⟩ := h.uncons
    rw [List.reverse_cons, List.reverse_cons]
    exact (Reps.rev h2).app (.cons h1 .nil)
theorem Reps.set {H : L2.Hp} {m : List Addr} {x : D} {v : V} (hx : Rep H m x v) : ∀ (n : Nat) {xs : List D} {vs : List V}, Reps H m xs vs → Reps H m (xs.set n x) (vs.set n v)
  | n, [], vs, h => by
    rw [h.unnil]
    exact Reps.nil
  | 0, y :: xs, vs, h => by
    obtain ⟨w, r, rfl, h1, h2⟩ := h.uncons
    exact .cons hx h2
  | n + 1, y :: xs, vs, h => by
    obtain ⟨w, r, rfl, h1, h2⟩ := h.uncons
    exact .cons h1 (Reps.set hx n h2)

/-! ### keys -/
def KeyR1 : D → Key → Prop
  | .int i, k => k = .inl i
  | .str s, k => k = .inr (Sx s) ∧ s.length ≤ 1000000
  | _, _ => False
def KeyR2 : D → List Key → Prop
  | .tup xs, ks => Paired KeyR1 xs ks ∧ ks.length ≤ 1000000
  | _, _ => False
/-- the pairs of a dict, by a reading of keys -/
def KvR {κ : Type} (kr : D → κ → Prop) (H : L2.Hp) (m : List Addr) : List (D × D) → List (κ × V) → Prop := Paired fun p q => kr p.1 q.1 ∧ Rep H m p.2 q.2

/-- the thing itself, or locked -/
def Lkd (lk : Bool) (u w : HO) : Prop := if lk = true then ∃ o, u = .frz o w else u = w

def FsR (g : Stg) (H : L2.Hp) (m : List Addr) : List (Nat × D) → List (Str × V) → Prop := Paired fun p q => g.fld[p.1]? = some q.1 ∧ Rep H m p.2 q.2

def ObjR (g : Stg) (H : L2.Hp) (m : List Addr) (lk : Bool) : CO → HO → Prop
  | .lst xs, u => ∃ vs, Lkd lk u (.lst vs) ∧ Reps H m xs vs
  | .dic kvs, u => (∃ ws, Lkd lk u (.dK ws) ∧ KvR KeyR1 H m kvs ws ∧ (ws.map (·.1)).Nodup) ∨ ∃ ws, Lkd lk u (.dT ws) ∧ KvR KeyR2 H m kvs ws ∧ (ws.map (·.1)).Nodup
  | .set xs, u => False
  | .ins c fs, u => lk = false ∧ ∃ dx fs', u = .ins (g.cad c) dx fs' ∧ FsR g H m fs fs'

/-- the objects C stand at m -/
structure Held (g : Stg) (lk : List Nat) (m : List Addr) (C : Hq) (H : L2.Hp) : Prop where
  len : m.length = C.n
  nd : m.Nodup
  obj : ∀ (l : Nat) (a : Addr), m[l]? = some a → ∃ o u, C.get l = some o ∧ H a = some u ∧ ObjR g H m (isLk lk l) o u
  non : ∀ l, C.n ≤ l → C.get l = none
  lko : ∀ k ∈ lk, k < C.n

/-- from one heap to the next: what stood elsewhere stands, new objects stand at new places -/
structure Step (m : List Addr) (H : L2.Hp) (m' : List Addr) (H' : L2.Hp) : Prop where
  pre : ∃ t, m' = m ++ t
  tup : ∀ a vs, H a = some (.tup vs) → H' a = some (.tup vs)
  off : ∀ a o, H a = some o → a ∉ m → H' a = some o
  new : ∀ a, a ∈ m' → a ∈ m ∨ H a = none
  frz : ∀ a o u, H a = some (.frz o u) → H' a = some (.frz o u)
/-- what values ask: tuples and places stand -/
structure Up (m : List Addr) (H : L2.Hp) (m' : List Addr) (H' : L2.Hp) : Prop where
  pre : ∃ t, m' = m ++ t
  tup : ∀ a vs, H a = some (.tup vs) → H' a = some (.tup vs)
theorem Step.up {m m' : List Addr} {H H' : L2.Hp} (s : Step m H m' H') : Up m H m' H' := ⟨s.pre, s.tup⟩
/-- .. and what is locked -/
structure Upf (m : List Addr) (H : L2.Hp) (m' : List Addr) (H' : L2.Hp) : Prop where
  pre : ∃ t, m' = m ++ t
  tup : ∀ a vs, H a = some (.tup vs) → H' a = some (.tup vs)
  frz : ∀ a o u, H a = some (.frz o u) → H' a = some (.frz o u)
theorem Upf.up {m m' : List Addr} {H H' : L2.Hp} (s : Upf m H m' H') : Up m H m' H' := ⟨s.pre, s.tup⟩
theorem Step.upf {m m' : List Addr} {H H' : L2.Hp} (s : Step m H m' H') : Upf m H m' H' := ⟨s.pre, s.tup, s.frz⟩
theorem Upf.refl (m : List Addr) (H : L2.Hp) : Upf m H m H := ⟨⟨[], by simp⟩, fun _ _ h => h, fun _ _ _ h => h⟩
theorem Upf.trans {m m1 m2 : List Addr} {H H1 H2 : L2.Hp} (a : Upf m H m1 H1) (b : Upf m1 H1 m2 H2) : Upf m H m2 H2 := by
  obtain ⟨t, ht⟩ := a.pre
  obtain ⟨t', ht'⟩ := b.pre
  exact ⟨⟨t ++ t', by rw [ht', ht, List.append_assoc]⟩, fun x vs h => b.tup x vs (a.tup x vs h), fun x o u h => b.frz x o u (a.frz x o u h)⟩
theorem Step.refl (m : List Addr) (H : L2.Hp) : Step m H m H := ⟨⟨[], by simp⟩, fun _ _ h => h, fun _ _ h _ => h, fun _ h => .inl h, fun _ _ _ h => h⟩
theorem Step.trans {m m1 m2 : List Addr} {H H1 H2 : L2.Hp} (a : Step m H m1 H1) (b : Step m1 H1 m2 H2) : Step m H m2 H2 := by
  obtain ⟨t, ht⟩ := a.pre
  obtain ⟨t', ht'⟩ := b.pre
  refine ⟨⟨t ++ t', by rw [ht', ht, List.append_assoc]⟩, fun x vs h => b.tup x vs (a.tup x vs h), fun x o h hm => ?_, fun x hx => ?_, fun x o u h => b.frz x o u (a.frz x o u h)⟩
  · refine b.off x o (a.off x o h hm) fun hx => ?_
    rcases a.new x hx with z | z
    · exact hm z
    · rw [h] at z
      cases z
  · rcases b.new x hx with z | z
    · exact a.new x z
    · by_cases q : x ∈ m
      · exact .inl q
      · cases e : H x with
        | none => exact .inr rfl
        | some o =>
          rw [a.off x o e q] at z
          cases z
theorem Up.get {m m' : List Addr} {H H' : L2.Hp} (s : Up m H m' H') {n : Nat} {a : Addr} (h : m[n]? = some a) : m'[n]? = some a := by
  obtain ⟨t, e⟩ := s.pre
  subst e
  obtain ⟨h1, h2⟩ := List.getElem?_eq_some_iff.mp h
  rw [List.getElem?_append_left h1]
  exact h
theorem Step.get {m m' : List Addr} {H H' : L2.Hp} (s : Step m H m' H') {n : Nat} {a : Addr} (h : m[n]? = some a) : m'[n]? = some a := s.up.get h
mutual
theorem Rep.upw {m m' : List Addr} {H H' : L2.Hp} (s : Up m H m' H') : ∀ {d : D} {v : V}, Rep H m d v → Rep H' m' d v
  | .non, v, h => by unfold Rep at *; exact h
  | .bl b, v, h => by unfold Rep at *; exact h
  | .int i, v, h => by unfold Rep at *; exact h
  | .str x, v, h => by unfold Rep at *; exact h
  | .tup xs, v, h => by
    unfold Rep at *
    obtain ⟨a, vs, e, ha, hl, hr⟩ := h
    exact ⟨a, vs, e, s.tup a vs ha, hl, Reps.upw s hr⟩
  | .loc n, v, h => by
    unfold Rep at *
    obtain ⟨a, e, h⟩ := h
    exact ⟨a, s.get e, h⟩
theorem Reps.upw {m m' : List Addr} {H H' : L2.Hp} (s : Up m H m' H') : ∀ {xs : List D} {vs : List V}, Reps H m xs vs → Reps H' m' xs vs
  | [], vs, h => by unfold Reps at *; exact h
  | x :: xs, vs, h => by
    unfold Reps at *
    obtain ⟨v, r, e, hv, hr⟩ := h
    exact ⟨v, r, e, Rep.upw s hv, Reps.upw s hr⟩
end
theorem Rep.step {m m' : List Addr} {H H' : L2.Hp} (s : Step m H m' H') {d : D} {v : V} (h : Rep H m d v) : Rep H' m' d v := Rep.upw s.up h
theorem Reps.step {m m' : List Addr} {H H' : L2.Hp} (s : Step m H m' H') {d : List D} {v : List V} (h : Reps H m d v) : Reps H' m' d v := Reps.upw s.up h
theorem KvR.upw {κ : Type} {kr : D → κ → Prop} {m m' : List Addr} {H H' : L2.Hp} (s : Up m H m' H') {kvs : List (D × D)} {ws : List (κ × V)} (h : KvR kr H m kvs ws) : KvR kr H' m' kvs ws :=
  Paired.mapP h fun _ _ z => ⟨z.1, z.2.upw s⟩
theorem KvR.step {κ : Type} {kr : D → κ → Prop} {m m' : List Addr} {H H' : L2.Hp} (s : Step m H m' H') {kvs : List (D × D)} {ws : List (κ × V)} (h : KvR kr H m kvs ws) : KvR kr H' m' kvs ws := h.upw s.up
theorem FsR.upw {g : Stg} {m m' : List Addr} {H H' : L2.Hp} (s : Up m H m' H') {kvs : List (Nat × D)} {ws : List (Str × V)} (h : FsR g H m kvs ws) : FsR g H' m' kvs ws :=
  Paired.mapP h fun _ _ z => ⟨z.1, z.2.upw s⟩
theorem FsR.step {g : Stg} {m m' : List Addr} {H H' : L2.Hp} (s : Step m H m' H') {kvs : List (Nat × D)} {ws : List (Str × V)} (h : FsR g H m kvs ws) : FsR g H' m' kvs ws := h.upw s.up
theorem ObjR.upw {g : Stg} {m m' : List Addr} {H H' : L2.Hp} (s : Up m H m' H') {lk : Bool} {o : CO} {u : HO} (h : ObjR g H m lk o u) : ObjR g H' m' lk o u := by
  cases o with
  | lst xs =>
    obtain ⟨vs, h1, h2⟩ := h
    exact ⟨vs, h1, h2.upw s⟩
  | dic kvs =>
    rcases h with ⟨ws, h1, h2, h3⟩ | ⟨ws, h1, h2, h3⟩
    · exact .inl ⟨ws, h1, h2.upw s, h3⟩
    · exact .inr ⟨ws, h1, h2.upw s, h3⟩
  | set xs => exact h
  | ins c fs =>
    obtain ⟨h0, dx, fs', h1, h2⟩ := h
    exact ⟨h0, dx, fs', h1, h2.upw s⟩
theorem ObjR.step {g : Stg} {m m' : List Addr} {H H' : L2.Hp} (s : Step m H m' H') {lk : Bool} {o : CO} {u : HO} (h : ObjR g H m lk o u) : ObjR g H' m' lk o u := h.upw s.up
/-- what is not locked is no locked thing -/
theorem ObjR.notFrz {g : Stg} {m : List Addr} {H : L2.Hp} {o : CO} {u : HO} (h : ObjR g H m false o u) : ∀ q w, u ≠ .frz q w := by
  intro q w e
  subst e
  cases o with
  | lst xs =>
    obtain ⟨_, z, _⟩ := h
    cases (show HO.frz q w = .lst _ from z)
  | dic kvs =>
    rcases h with ⟨_, z, _⟩ | ⟨_, z, _⟩
    · cases (show HO.frz q w = .dK _ from z)
    · cases (show HO.frz q w = .dT _ from z)
  | set xs => exact h
  | ins c fs =>
    obtain ⟨_, _, _, z, _⟩ := h
    cases z

section
variable {g : Stg} {lk : List Nat} {m : List Addr} {C : Hq} {H : L2.Hp}
theorem Held.at {l : Nat} {o : CO} (h : Held g lk m C H) (e : C.get l = some o) : ∃ a u, m[l]? = some a ∧ H a = some u ∧ ObjR g H m (isLk lk l) o u := by
  have hl : l < m.length := by
    rw [h.len]
    refine Nat.lt_of_not_le fun q => ?_
    rw [h.non l q] at e
    cases e
  obtain ⟨o', u, h1, h2, h3⟩ := h.obj l m[l] (by simp [hl])
  rw [e] at h1
  cases h1
  exact ⟨m[l], u, by simp [hl], h2, h3⟩
theorem ObjR.notTup {lk : Bool} {o : CO} {u : HO} (h : ObjR g H m lk o u) : ∀ vs, u ≠ .tup vs := by
  intro vs e
  subst e
  have key : ∀ {w : HO}, Lkd lk (.tup vs) w → w = .tup vs := fun {w} z => by
    unfold Lkd at z
    split at z
    · obtain ⟨_, z⟩ := z
      cases z
    · exact z.symm
  cases o with
  | lst xs =>
    obtain ⟨_, z, _⟩ := h
    cases key z
  | dic kvs =>
    rcases h with ⟨_, z, _⟩ | ⟨_, z, _⟩
    · cases key z
    · cases key z
  | set xs => exact h
  | ins c fs =>
    obtain ⟨_, _, _, z, _⟩ := h
    cases z
theorem Held.mem {a : Addr} (h : Held g lk m C H) (ha : a ∈ m) : ∃ l o u, m[l]? = some a ∧ C.get l = some o ∧ H a = some u ∧ ObjR g H m (isLk lk l) o u := by
  obtain ⟨l, hl, e⟩ := List.getElem_of_mem ha
  obtain ⟨o, u, h1, h2, h3⟩ := h.obj l a (by simp [hl, e])
  exact ⟨l, o, u, by simp [hl, e], h1, h2, h3⟩
theorem Held.is {a : Addr} (h : Held g lk m C H) (ha : a ∈ m) : H a ≠ none := by
  obtain ⟨l, o, u, _, _, h2, _⟩ := h.mem ha
  rw [h2]
  exact fun z => by cases z
theorem Held.notTup {a : Addr} (h : Held g lk m C H) (ha : a ∈ m) : ∀ vs, H a ≠ some (.tup vs) := by
  intro vs
  obtain ⟨l, o, u, _, _, h2, h3⟩ := h.mem ha
  rw [h2]
  exact fun z => h3.notTup vs (Option.some.inj z)

/-- an object that is not ours is laid -/
theorem step_new {p : Addr} {o : HO} (h : Held g lk m C H) (hp : H p = none) : Step m H m (upd H p o) :=
  ⟨⟨[], by simp⟩, fun a vs e => by rw [upd_ne (ne_of_none e hp)]; exact e, fun a w e _ => by rw [upd_ne (ne_of_none e hp)]; exact e, fun a ha => .inl ha, fun a o u e => by rw [upd_ne (ne_of_none e hp)]; exact e⟩
/-- where our objects are as they were -/
theorem Held.same {H' : L2.Hp} (h : Held g lk m C H) (s : Step m H m H') (e : ∀ a ∈ m, H' a = H a) : Held g lk m C H' := by
  refine ⟨h.len, h.nd, fun l a hl => ?_, h.non, h.lko⟩
  obtain ⟨o, u, h1, h2, h3⟩ := h.obj l a hl
  exact ⟨o, u, h1, by rw [e a (List.mem_of_getElem? hl)]; exact h2, h3.step s⟩
theorem Held.new {p : Addr} {o : HO} (h : Held g lk m C H) (hp : H p = none) : Held g lk m C (upd H p o) :=
  h.same (step_new h hp) fun a ha => upd_ne fun e => h.is ha (by rw [e]; exact hp)
/-- one of ours is laid -/
theorem step_push {p : Addr} {o : HO} (h : Held g lk m C H) (hp : H p = none) : Step m H (m ++ [p]) (upd H p o) :=
  ⟨⟨[p], rfl⟩, fun a vs e => by rw [upd_ne (ne_of_none e hp)]; exact e, fun a w e _ => by rw [upd_ne (ne_of_none e hp)]; exact e, fun a ha => by
    rcases List.mem_append.mp ha with z | z
    · exact .inl z
    · rw [List.mem_singleton.mp z]
      exact .inr hp, fun a o u e => by rw [upd_ne (ne_of_none e hp)]; exact e⟩
theorem isLk_new (h : ∀ k ∈ lk, k < C.n) : isLk lk C.n = false := by
  unfold isLk
  rw [List.any_eq_false]
  intro k hk e
  have := h k hk
  have := Nat.eq_of_beq_eq_true e
  omega
theorem Held.push {p : Addr} {o : HO} {co : CO} (h : Held g lk m C H) (hp : H p = none) (ho : ObjR g (upd H p o) (m ++ [p]) false co o) : Held g lk (m ++ [p]) (C.push co) (upd H p o) := by
  have s := step_push (o := o) h hp
  have hpm : p ∉ m := fun z => h.is z hp
  refine ⟨by rw [List.length_append, h.len]; rfl, List.nodup_append.mpr ⟨h.nd, by simp, fun a ha b hb => ?_⟩, fun l a hl => ?_, fun l hl => ?_, fun k hk => Nat.lt_succ_of_lt (h.lko k hk)⟩
  · rw [List.mem_singleton.mp hb]
    exact fun z => hpm (z ▸ ha)
  · by_cases q : l < m.length
    · rw [List.getElem?_append_left q] at hl
      obtain ⟨o', u, h1, h2, h3⟩ := h.obj l a hl
      refine ⟨o', u, ?_, ?_, h3.step s⟩
      · rw [Hq.get_push, if_neg (by rw [h.len] at q; omega)]
        exact h1
      · rw [upd_ne (fun z : a = p => hpm (by rw [← z]; exact List.mem_of_getElem? hl))]
        exact h2
    · have hlen := (List.getElem?_eq_some_iff.mp hl).1
      rw [List.length_append] at hlen
      have e : l = m.length := by simp at hlen; omega
      subst e
      rw [List.getElem?_append_right (Nat.le_refl _)] at hl
      simp at hl
      subst hl
      refine ⟨co, o, ?_, upd_same, ?_⟩
      · rw [Hq.get_push, if_pos h.len]
      · rw [h.len, isLk_new h.lko]
        exact ho
  · have hl' : C.n + 1 ≤ l := hl
    rw [Hq.get_push, if_neg (by omega)]
    exact h.non l (by omega)
/-- one of ours is changed -/
theorem Held.notFrz {l : Nat} {a : Addr} (h : Held g lk m C H) (hl : m[l]? = some a) (f : isLk lk l = false) : ∀ q w, H a ≠ some (.frz q w) := by
  obtain ⟨o, u, _, h2, h3⟩ := h.obj l a hl
  rw [f] at h3
  rw [h2]
  exact fun q w z => h3.notFrz q w (Option.some.inj z)
theorem step_set {l : Nat} {a : Addr} {o : HO} (h : Held g lk m C H) (hl : m[l]? = some a) (f : ∀ q w, H a ≠ some (.frz q w)) : Step m H m (upd H a o) :=
  ⟨⟨[], by simp⟩, fun b vs e => by
    rw [upd_ne (fun z : b = a => h.notTup (List.mem_of_getElem? hl) vs (by rw [← z]; exact e))]
    exact e, fun b w e hb => by
    rw [upd_ne (fun z : b = a => hb (by rw [z]; exact List.mem_of_getElem? hl))]
    exact e, fun b hb => .inl hb, fun b q w e => by
    rw [upd_ne (fun z : b = a => f q w (by rw [← z]; exact e))]
    exact e⟩
theorem Held.set {l : Nat} {a : Addr} {o : HO} {co : CO} (h : Held g lk m C H) (hl : m[l]? = some a) (f : ∀ q w, H a ≠ some (.frz q w)) (ho : ObjR g (upd H a o) m (isLk lk l) co o) : Held g lk m (C.set l co) (upd H a o) := by
  have s := step_set (o := o) h hl f
  refine ⟨h.len, h.nd, fun k b hk => ?_, fun k hk => ?_, h.lko⟩
  · by_cases q : k = l
    · subst q
      rw [hl] at hk
      cases hk
      exact ⟨co, o, by rw [Hq.get_set, if_pos rfl], upd_same, ho⟩
    · obtain ⟨o', u, h1, h2, h3⟩ := h.obj k b hk
      refine ⟨o', u, by rw [Hq.get_set, if_neg q]; exact h1, ?_, h3.step s⟩
      rw [upd_ne (fun z : b = a => q ?_)]
      · exact h2
      · subst z
        obtain ⟨hk1, hk2⟩ := List.getElem?_eq_some_iff.mp hk
        obtain ⟨hl1, hl2⟩ := List.getElem?_eq_some_iff.mp hl
        exact (List.getElem_inj h.nd).mp (hk2.trans hl2.symm)
  · rw [Hq.get_set, if_neg ?_]
    · exact h.non k hk
    · have := (List.getElem?_eq_some_iff.mp hl).1
      rw [h.len] at this
      have hk' : C.n ≤ k := hk
      omega
/-- the object at a place, read -/
theorem Held.rd {l : Nat} {a : Addr} {w : HO} {u : HO} {b : Bool} (h : H a = some u) (hu : Lkd b u w) : Rd H a w := by
  unfold Lkd at hu
  split at hu
  · obtain ⟨o, e⟩ := hu
    exact .inr ⟨o, by rw [← e]; exact h⟩
  · exact .inl (by rw [← hu]; exact h)
theorem Held.lst {l : Nat} {xs : List D} (h : Held g lk m C H) (e : asLst C l = some xs) : ∃ a vs, m[l]? = some a ∧ Rd H a (.lst vs) ∧ Reps H m xs vs ∧ (isLk lk l = false → H a = some (.lst vs)) := by
  unfold asLst at e
  split at e
  · rename_i ys q
    cases e
    obtain ⟨a, u, h1, h2, h3⟩ := h.at q
    obtain ⟨vs, h4, h5⟩ := h3
    refine ⟨a, vs, h1, Held.rd (l := 0) h2 h4, h5, fun z => ?_⟩
    rw [z] at h4
    have h4' : u = .lst vs := h4
    rw [← h4']
    exact h2
  · cases e
end
end
end Q

set_option Elab.async false
set_option linter.all false
set_option maxRecDepth 100000
set_option maxHeartbeats 4000000
/-! The operators of Q, by the hand layer's rules. -/
namespace Q
noncomputable section
open PySem L2

theorem line_is : sizeLine = 16777216 := sizeLine_eq

/-- what is to be shown of a two-place operation -/
def t2 (g : Stg) (lk : List Nat) (ev : D → D → Hq → Option (D × Hq)) : R2 := fun x y H Q => ∃ m C a b d C', Held g lk m C H ∧ Rep H m a x ∧ Rep H m b y ∧ ev a b C = some (d, C') ∧
  ∀ v m' H', Step m H m' H' → Held g lk m' C' H' → Rep H' m' d v → Q v H'

section
variable {H : L2.Hp} {m : List Addr} {v : V}
theorem Rep.int_ {i : Int} (h : Rep H m (.int i) v) : v = .int i := by unfold Rep at h; exact h
theorem Rep.str_ {s : List Nat} (h : Rep H m (.str s) v) : v = .str (Sx s) := by unfold Rep at h; exact h.1
theorem Rep.slen {s : List Nat} (h : Rep H m (.str s) v) : s.length ≤ 1000000 := by unfold Rep at h; exact h.2
theorem Rep.bl_ {b : Bool} (h : Rep H m (.bl b) v) : v = .bl b := by unfold Rep at h; exact h
theorem Rep.non_ (h : Rep H m .non v) : v = .non := by unfold Rep at h; exact h
theorem Rep.tup_ {xs : List D} (h : Rep H m (.tup xs) v) : ∃ a vs, v = .ref a ∧ H a = some (.tup vs) ∧ vs.length ≤ 1000000 ∧ Reps H m xs vs := by unfold Rep at h; exact h
theorem Rep.loc_ {n : Nat} (h : Rep H m (.loc n) v) : ∃ a, m[n]? = some a ∧ v = .ref a := by unfold Rep at h; exact h
theorem Rep.int {i : Int} : Rep H m (.int i) (.int i) := by unfold Rep; rfl
theorem Rep.str {s : List Nat} (h : s.length ≤ 1000000) : Rep H m (.str s) (.str (Sx s)) := by unfold Rep; exact ⟨rfl, h⟩
theorem Rep.bl {b : Bool} : Rep H m (.bl b) (.bl b) := by unfold Rep; rfl
theorem Rep.non : Rep H m .non .non := by unfold Rep; rfl
theorem Rep.tup {xs : List D} {a : Addr} {vs : List V} (h : H a = some (.tup vs)) (hl : vs.length ≤ 1000000) (hs : Reps H m xs vs) : Rep H m (.tup xs) (.ref a) := by unfold Rep; exact ⟨a, vs, rfl, h, hl, hs⟩
theorem Rep.loc {n : Nat} {a : Addr} (h : m[n]? = some a) : Rep H m (.loc n) (.ref a) := by unfold Rep; exact ⟨a, h, rfl⟩
end

section
variable {g : Stg} {lk : List Nat} {m : List Addr} {C : Hq} {H : L2.Hp}
/-- the list at a place, as the rules read it -/
theorem Held.sql {K : PySem.W.Frag} {l : Nat} {xs : List D} {a : Addr} (h : Held g lk m C H) (e : asLst C l = some xs) (hl : m[l]? = some a) : ∃ vs, SqL K H a vs ∧ Reps H m xs vs ∧ (isLk lk l = false → H a = some (.lst vs)) := by
  obtain ⟨a', vs, h1, h2, h3, h4⟩ := h.lst e
  rw [hl] at h1
  cases h1
  exact ⟨vs, .inl h2, h3, h4⟩
theorem SqT_of {K : PySem.W.Frag} {a : Addr} {vs : List V} (h : H a = some (.tup vs)) : SqT K H a vs := .inl (.inl h)
/-- a new list of ours -/
theorem Held.newL {K : PySem.W.Frag} {xs : List D} {vs : List V} (h : Held g lk m C H) (hr : Reps H m xs vs) {Q : V → L2.Hp → Prop}
    (k : ∀ v m' H', Step m H m' H' → Held g lk m' (C.push (.lst xs)) H' → Rep H' m' (.loc C.n) v → Q v H') : ∀ p, H p = none → Q (.ref p) (upd H p (.lst vs)) := fun p hp => by
  have s := step_push (o := HO.lst vs) h hp
  refine k _ (m ++ [p]) _ s (h.push hp ⟨vs, rfl, hr.step s⟩) (Rep.loc ?_)
  rw [List.getElem?_append_right (by rw [h.len]; exact Nat.le_refl _), h.len]
  simp
/-- a new tuple -/
theorem Held.newT {xs : List D} {vs : List V} (h : Held g lk m C H) (hl : vs.length ≤ 1000000) (hr : Reps H m xs vs) {Q : V → L2.Hp → Prop}
    (k : ∀ v m' H', Step m H m' H' → Held g lk m' C H' → Rep H' m' (.tup xs) v → Q v H') : ∀ p, H p = none → Q (.ref p) (upd H p (.tup vs)) := fun p hp => by
  have s := step_new (o := HO.tup vs) h hp
  exact k _ m _ s (h.new hp) (Rep.tup upd_same hl (hr.step s))
end

theorem Sx_len (s : List Nat) : (Sx s).length = s.length := by simp [Str.length]
theorem Sx_app (s t : List Nat) : Sx s ++ Sx t = Sx (s ++ t) := by
  show Str.append (Sx s) (Sx t) = _
  unfold Str.append
  simp

section
variable {X : Cx} {g : Stg} {lk : List Nat}
theorem small_mul {i j : Int} (h : (small i || small j) = true) : CMul i j := by
  unfold small at h
  simp only [Bool.or_eq_true, Bool.and_eq_true, decide_eq_true_eq] at h
  exact h
theorem free_is {lk : List Nat} {l : Nat} (h : free lk l = true) : isLk lk l = false := by
  unfold free at h
  simpa using h
theorem or_add : OpR X (binaryOp .Add) (t2 g lk (binD .add lk)) := by
  rintro pins s σ H x y v u Q I rx ry ⟨m, C, a, b, d, C', hd, ra, rb, e, k⟩
  cases a with
  | int i =>
    cases b with
    | int j =>
      cases e
      cases ra.int_
      cases rb.int_
      exact op_add pins s σ H _ _ v u Q I rx ry ⟨i, j, rfl, rfl, k _ m H (Step.refl _ _) hd Rep.int⟩
    | _ => cases e
  | str i =>
    cases b with
    | str j =>
      dsimp only [binD] at e
      split at e
      · rename_i hl
        cases e
        cases ra.str_
        cases rb.str_
        refine op_add_str pins s σ H _ _ v u Q I rx ry ⟨_, _, rfl, rfl, ?_, ?_⟩
        · rw [Sx_len, Sx_len, line_is]
          omega
        · rw [Sx_app]
          exact k _ m H (Step.refl _ _) hd (Rep.str (by rw [List.length_append]; exact hl))
      · cases e
    | _ => cases e
  | tup xs =>
    cases b with
    | tup ys =>
      dsimp only [binD] at e
      split at e
      · rename_i hl
        cases e
        obtain ⟨a, vs, rfl, ha, la, rs⟩ := ra.tup_
        obtain ⟨b, ws, rfl, hb, lb, rt⟩ := rb.tup_
        have h1 := rs.length
        have h2 := rt.length
        refine op_catA pins s σ H _ _ v u Q I rx ry ⟨a, b, vs, ws, rfl, rfl, SqT_of ha, SqT_of hb, by rw [line_is]; omega, fun z => ?_, fun _ z => ?_, fun _ _ => ?_⟩
        · subst z
          have e1 : xs = [] := List.length_eq_zero_iff.mp h1
          subst e1
          exact k _ m H (Step.refl _ _) hd (Rep.tup hb lb rt)
        · subst z
          have e1 : ys = [] := List.length_eq_zero_iff.mp h2
          subst e1
          rw [List.append_nil] at k
          exact k _ m H (Step.refl _ _) hd (Rep.tup ha la rs)
        · exact hd.newT (by rw [List.length_append]; omega) (rs.app rt) k
      · cases e
    | _ => cases e
  | loc l =>
    cases b with
    | loc n =>
      dsimp only [binD] at e
      obtain ⟨xs, e1, e⟩ := Option.bind_eq_some_iff.mp e
      obtain ⟨ys, e2, e⟩ := Option.bind_eq_some_iff.mp e
      split at e
      · rename_i hl
        simp only [Bool.and_eq_true, decide_eq_true_eq] at hl
        obtain ⟨⟨f1, f2⟩, hl⟩ := hl
        cases e
        obtain ⟨a, ha, rfl⟩ := ra.loc_
        obtain ⟨b, hb, rfl⟩ := rb.loc_
        obtain ⟨vs, q1, r1, u1⟩ := hd.sql (K := X.K) e1 ha
        obtain ⟨ws, q2, r2, u2⟩ := hd.sql (K := X.K) e2 hb
        have h1 := r1.length
        have h2 := r2.length
        exact op_cat pins s σ H _ _ v u Q I rx ry ⟨a, b, vs, ws, rfl, rfl, u1 (free_is f1), u2 (free_is f2), by rw [line_is]; omega, hd.newL (K := X.K) (r1.app r2) k⟩
      · cases e
    | _ => cases e
  | _ => cases b <;> cases e
theorem or_sub : OpR X (binaryOp .Sub) (t2 g lk (binD .sub lk)) := by
  rintro pins s σ H x y v u Q I rx ry ⟨m, C, a, b, d, C', hd, ra, rb, e, k⟩
  cases a with
  | int i =>
    cases b with
    | int j =>
      cases e
      cases ra.int_
      cases rb.int_
      exact op_sub pins s σ H _ _ v u Q I rx ry ⟨i, j, rfl, rfl, k _ m H (Step.refl _ _) hd Rep.int⟩
    | _ => cases e
  | _ => cases b <;> cases e
theorem or_fdiv : OpR X (binaryOp .FloorDiv) (t2 g lk (binD .fdiv lk)) := by
  rintro pins s σ H x y v u Q I rx ry ⟨m, C, a, b, d, C', hd, ra, rb, e, k⟩
  cases a with
  | int i =>
    cases b with
    | int j =>
      dsimp only [binD] at e
      split at e
      · rename_i hl
        simp only [Bool.and_eq_true, decide_eq_true_eq] at hl
        cases e
        cases ra.int_
        cases rb.int_
        exact op_fdiv pins s σ H _ _ v u Q I rx ry ⟨i, j, rfl, rfl, hl, k _ m H (Step.refl _ _) hd Rep.int⟩
      · cases e
    | _ => cases e
  | _ => cases b <;> cases e
theorem or_mod : OpR X (binaryOp .Mod) (t2 g lk (binD .mod lk)) := by
  rintro pins s σ H x y v u Q I rx ry ⟨m, C, a, b, d, C', hd, ra, rb, e, k⟩
  cases a with
  | int i =>
    cases b with
    | int j =>
      dsimp only [binD] at e
      split at e
      · rename_i hl
        simp only [decide_eq_true_eq] at hl
        cases e
        cases ra.int_
        cases rb.int_
        exact op_mod pins s σ H _ _ v u Q I rx ry ⟨i, j, rfl, rfl, hl, k _ m H (Step.refl _ _) hd Rep.int⟩
      · cases e
    | _ => cases e
  | _ => cases b <;> cases e
theorem or_pow : OpR X (binaryOp .Pow) (t2 g lk (binD .pow lk)) := by
  rintro pins s σ H x y v u Q I rx ry ⟨m, C, a, b, d, C', hd, ra, rb, e, k⟩
  cases a with
  | int i =>
    cases b with
    | int j =>
      dsimp only [binD] at e
      split at e
      · rename_i hl
        simp only [Bool.and_eq_true, decide_eq_true_eq] at hl
        cases e
        cases ra.int_
        cases rb.int_
        exact op_pow pins s σ H _ _ v u Q I rx ry ⟨i, j, rfl, rfl, ⟨hl.1.1, hl.1.2, hl.2⟩, k _ m H (Step.refl _ _) hd Rep.int⟩
      · cases e
    | _ => cases e
  | _ => cases b <;> cases e
theorem flat_len {α : Type} (n : Nat) (xs : List α) : (List.replicate n xs).flatten.length = n * xs.length := by
  induction n with
  | zero => simp
  | succ n ih => rw [List.replicate_succ, List.flatten_cons, List.length_append, ih, Nat.succ_mul]; omega
theorem Reps.flat {H : L2.Hp} {m : List Addr} {xs : List D} {vs : List V} (h : Reps H m xs vs) : ∀ n, Reps H m (List.replicate n xs).flatten (List.replicate n vs).flatten
  | 0 => by simpa using Reps.nil
  | n + 1 => by
    rw [List.replicate_succ, List.replicate_succ, List.flatten_cons, List.flatten_cons]
    exact h.app (Reps.flat h n)
theorem or_mul : OpR X (binaryOp .Mult) (t2 g lk (binD .mul lk)) := by
  rintro pins s σ H x y v u Q I rx ry ⟨m, C, a, b, d, C', hd, ra, rb, e, k⟩
  cases a with
  | int i =>
    cases b with
    | int j =>
      dsimp only [binD] at e

      split at e
      · rename_i hl
        cases e
        cases ra.int_
        cases rb.int_
        exact op_mul pins s σ H _ _ v u Q I rx ry ⟨i, j, rfl, rfl, small_mul hl, k _ m H (Step.refl _ _) hd Rep.int⟩
      · cases e
    | _ => cases e
  | loc l =>
    cases b with
    | int j =>
      dsimp only [binD] at e

      obtain ⟨xs, e1, e⟩ := Option.bind_eq_some_iff.mp e
      split at e
      · rename_i hl
        simp only [Bool.and_eq_true, decide_eq_true_eq] at hl
        obtain ⟨⟨⟨f1, h0⟩, hj⟩, hx⟩ := hl
        cases e
        obtain ⟨a, ha, rfl⟩ := ra.loc_
        cases rb.int_
        obtain ⟨vs, q1, r1, u1⟩ := hd.sql (K := X.K) e1 ha
        have h1 := r1.length
        refine op_rep pins s σ H _ _ v u Q I rx ry ⟨a, j, vs, rfl, rfl, u1 (free_is f1), by omega, by omega, ?_, hd.newL (K := X.K) (r1.flat _) k⟩
        rw [line_is]
        have : vs.length * j.toNat ≤ 1000 * 1000 := Nat.mul_le_mul (by omega) (by omega)
        omega
      · cases e
    | _ => cases e
  | _ => cases b <;> cases e
end
end
end Q

set_option Elab.async false
set_option linter.all false
set_option maxRecDepth 100000
set_option maxHeartbeats 4000000
/-! The comparisons of Q, by the hand layer's rules. -/
namespace Q
noncomputable section
open PySem L2

/-! ### data -/
theorem mapM_some {α β : Type} {f : α → Option β} : ∀ {xs : List α} {ys : List β}, xs.mapM f = some ys → Paired (fun a b => f a = some b) xs ys
  | [], ys, h => by
    simp at h
    subst h
    exact .nil
  | x :: xs, ys, h => by
    rw [List.mapM_cons] at h
    obtain ⟨b, h1, h⟩ := Option.bind_eq_some_iff.mp h
    obtain ⟨bs, h2, h⟩ := Option.bind_eq_some_iff.mp h
    cases h
    exact .cons h1 (mapM_some h2)
theorem strOk_of {s : List Nat} (h : (s.all fun c => decide (c < 128)) = true) : PyData.strOk (Sx s) = true := by
  unfold PyData.strOk
  rw [Array.all_eq_true_iff_forall_mem]
  intro c hc
  have hc' : c ∈ s := by simpa using hc
  have := List.all_eq_true.mp h c hc'
  simp only [decide_eq_true_eq] at this ⊢
  omega
section
variable {g : Stg} {lk : List Nat} {m : List Addr} {C : Hq} {H : L2.Hp} {K : PySem.W.Frag}
theorem dp_all (hd : Held g lk m C H) {f : Nat} (ih : ∀ {a : D} {v : V} {p : PyData}, toP f C a = some p → Rep H m a v → Dp K H v p ∧ p.canLay0 = true ∧ p.depth ≤ f) :
    ∀ {xs : List D} {ps : List PyData} {vs : List V}, Paired (fun a b => toP f C a = some b) xs ps → Reps H m xs vs → DpAll K H vs ps ∧ PyData.canLayAll0 ps = true ∧ PyData.depthAll ps ≤ f
  | [], _, vs, .nil, hr => by
    rw [hr.unnil]
    exact ⟨.nil, rfl, Nat.zero_le _⟩
  | x :: xs, _, vs, .cons h1 h2, hr => by
    obtain ⟨v, r, rfl, hv, hr⟩ := hr.uncons
    obtain ⟨a1, a2, a3⟩ := ih h1 hv
    obtain ⟨b1, b2, b3⟩ := dp_all hd ih h2 hr
    refine ⟨.cons a1 b1, ?_, ?_⟩
    · show (_ && _) = true
      rw [a2, b2]
      rfl
    · show max _ _ ≤ f
      omega
theorem dp_of (hd : Held g lk m C H) : ∀ (f : Nat) {a : D} {v : V} {p : PyData}, toP f C a = some p → Rep H m a v → Dp K H v p ∧ p.canLay0 = true ∧ p.depth ≤ f
  | 0, _, _, _, h, _ => by cases h
  | f + 1, .non, v, p, h, hr => by
    cases h
    cases hr.non_
    exact ⟨.non, rfl, Nat.zero_le _⟩
  | f + 1, .bl b, v, p, h, hr => by
    cases h
    cases hr.bl_
    exact ⟨.bl b, rfl, Nat.zero_le _⟩
  | f + 1, .int i, v, p, h, hr => by
    cases h
    cases hr.int_
    exact ⟨.int i, rfl, Nat.zero_le _⟩
  | f + 1, .str s, v, p, h, hr => by
    dsimp only [toP] at h
    split at h
    · rename_i q
      cases h
      cases hr.str_
      exact ⟨.str _, strOk_of q, Nat.zero_le _⟩
    · cases h
  | f + 1, .tup xs, v, p, h, hr => by
    dsimp only [toP] at h
    obtain ⟨ps, h1, h⟩ := Option.map_eq_some_iff.mp h
    subst h
    obtain ⟨a, vs, rfl, ha, la, rs⟩ := hr.tup_
    obtain ⟨b1, b2, b3⟩ := dp_all hd (fun {a v p} z w => dp_of hd f (a := a) (v := v) (p := p) z w) (mapM_some h1) rs
    exact ⟨.tup (SqT_of ha) b1, b2, Nat.succ_le_succ b3⟩
  | f + 1, .loc l, v, p, h, hr => by
    dsimp only [toP] at h
    obtain ⟨xs, h0, h⟩ := Option.bind_eq_some_iff.mp h
    obtain ⟨ps, h1, h⟩ := Option.map_eq_some_iff.mp h
    subst h
    obtain ⟨a, ha, rfl⟩ := hr.loc_
    obtain ⟨vs, q1, r1, _⟩ := hd.sql (K := K) h0 ha
    obtain ⟨b1, b2, b3⟩ := dp_all hd (fun {a v p} z w => dp_of hd f (a := a) (v := v) (p := p) z w) (mapM_some h1) r1
    exact ⟨.lst q1 b1, b2, Nat.succ_le_succ b3⟩
theorem shaped_of {p : PyData} (h1 : p.canLay0 = true) (h2 : p.depth ≤ 64) : SeqAt.shaped p = true := by
  unfold SeqAt.shaped
  rw [h1, decide_eq_true h2]
  rfl
end

/-! ### == and != -/
/-- what is to be shown of a comparison -/
def tk (g : Stg) (lk : List Nat) (ev : D → D → Hq → Option Bool) : R2 := fun x y H Q => ∃ m C a b k, Held g lk m C H ∧ Rep H m a x ∧ Rep H m b y ∧ ev a b C = some k ∧ Q (.bl k) H
section
variable {X : Cx} {g : Stg} {lk : List Nat}
theorem dec_i {i j : Int} : decide (V.int i = V.int j) = eqI i j := by
  rw [eqI_iff]
  by_cases h : i = j
  · subst h; simp
  · simp [h]
theorem dec_s {s t : List Nat} : decide (V.str (Sx s) = V.str (Sx t)) = eqS s t := by
  rw [eqS_iff]
  by_cases h : s = t
  · subst h; simp
  · have : ¬ Sx s = Sx t := fun q => h (Sx_inj q)
    simp [h]
/-- the ways of eqD: plain ones, else by data -/
theorem eqD_cases {C : Hq} {a b : D} {k : Bool} (h : eqD C a b = some k) :
    (∃ i j, a = .int i ∧ b = .int j ∧ k = eqI i j) ∨ (∃ i j, a = .str i ∧ b = .str j ∧ k = eqS i j) ∨ (∃ x y, toP 40 C a = some x ∧ toP 40 C b = some y ∧ k = PyData.eqv x y) ∨
    ((a = .non ∧ ∃ s, b = .str s) ∨ (b = .non ∧ ∃ s, a = .str s) ∨ (∃ i s, a = .int i ∧ b = .str s) ∨ (∃ i s, b = .int i ∧ a = .str s)) ∧ k = false := by
  have slow : ∀ {a b : D}, ((toP 40 C a).bind fun x => (toP 40 C b).map fun y => PyData.eqv x y) = some k → ∃ x y, toP 40 C a = some x ∧ toP 40 C b = some y ∧ k = PyData.eqv x y := fun {a b} h => by
    obtain ⟨x, h1, h⟩ := Option.bind_eq_some_iff.mp h
    obtain ⟨y, h2, h⟩ := Option.map_eq_some_iff.mp h
    exact ⟨x, y, h1, h2, h.symm⟩
  cases a with
  | non =>
    cases b with
    | non => cases h; exact .inr (.inr (.inl ⟨_, _, rfl, rfl, rfl⟩))
    | int j => cases h; exact .inr (.inr (.inl ⟨_, _, rfl, rfl, rfl⟩))
    | str t => cases h; exact .inr (.inr (.inr ⟨.inl ⟨rfl, t, rfl⟩, rfl⟩))
    | _ => exact .inr (.inr (.inl (slow h)))
  | int i =>
    cases b with
    | non => cases h; exact .inr (.inr (.inl ⟨_, _, rfl, rfl, rfl⟩))
    | int j => cases h; exact .inl ⟨i, j, rfl, rfl, rfl⟩
    | str t => cases h; exact .inr (.inr (.inr ⟨.inr (.inr (.inl ⟨i, t, rfl, rfl⟩)), rfl⟩))
    | _ => exact .inr (.inr (.inl (slow h)))
  | str s =>
    cases b with
    | non => cases h; exact .inr (.inr (.inr ⟨.inr (.inl ⟨rfl, s, rfl⟩), rfl⟩))
    | int j => cases h; exact .inr (.inr (.inr ⟨.inr (.inr (.inr ⟨j, s, rfl, rfl⟩)), rfl⟩))
    | str t => cases h; exact .inr (.inl ⟨s, t, rfl, rfl, rfl⟩)
    | _ => exact .inr (.inr (.inl (slow h)))
  | bl x =>
    cases b with
    | bl y => cases h; exact .inr (.inr (.inl ⟨_, _, rfl, rfl, rfl⟩))
    | _ => exact .inr (.inr (.inl (slow h)))
  | tup xs => cases b <;> exact .inr (.inr (.inl (slow h)))
  | loc l => cases b <;> exact .inr (.inr (.inl (slow h)))
theorem or_eq (hu : X.A.units + 64 < cLine) : OpR X (compareOp .Eq) (tk g lk (cmpD .eq lk)) := by
  rintro pins s σ H x y v u Q I rx ry ⟨m, C, a, b, k, hd, ra, rb, e, q⟩
  rcases eqD_cases (show eqD C a b = some k from e) with ⟨i, j, rfl, rfl, rfl⟩ | ⟨i, j, rfl, rfl, rfl⟩ | ⟨p, r, h1, h2, rfl⟩ | ⟨h, rfl⟩
  · cases ra.int_
    cases rb.int_
    exact op_eq pins s σ H _ _ v u Q I rx ry ⟨rfl, by rw [dec_i]; exact q⟩
  · cases ra.str_
    cases rb.str_
    exact op_eq pins s σ H _ _ v u Q I rx ry ⟨rfl, by rw [dec_s]; exact q⟩
  · obtain ⟨d1, c1, l1⟩ := dp_of hd (K := X.K) 40 h1 ra
    obtain ⟨d2, c2, l2⟩ := dp_of hd (K := X.K) 40 h2 rb
    exact op_eqD hu pins s σ H _ _ v u Q I rx ry ⟨p, r, d1, d2, shaped_of c1 (by omega), shaped_of c2 (by omega), q⟩
  · refine op_eq pins s σ H _ _ v u Q I rx ry ?_
    rcases h with ⟨rfl, t, rfl⟩ | ⟨rfl, t, rfl⟩ | ⟨i, t, rfl, rfl⟩ | ⟨i, t, rfl, rfl⟩
    · cases ra.non_; cases rb.str_; exact ⟨rfl, q⟩
    · cases ra.str_; cases rb.non_; exact ⟨rfl, q⟩
    · cases ra.int_; cases rb.str_; exact ⟨rfl, q⟩
    · cases ra.str_; cases rb.int_; exact ⟨rfl, q⟩
theorem or_ne (hu : X.A.units + 64 < cLine) : OpR X (compareOp .NotEq) (tk g lk (cmpD .ne lk)) := by
  rintro pins s σ H x y v u Q I rx ry ⟨m, C, a, b, k, hd, ra, rb, e, q⟩
  obtain ⟨k, e', rfl⟩ := Option.map_eq_some_iff.mp (show (eqD C a b).map (!·) = some k from e)
  rcases eqD_cases e' with ⟨i, j, rfl, rfl, rfl⟩ | ⟨i, j, rfl, rfl, rfl⟩ | ⟨p, r, h1, h2, rfl⟩ | ⟨h, rfl⟩
  · cases ra.int_
    cases rb.int_
    exact op_ne pins s σ H _ _ v u Q I rx ry ⟨rfl, by rw [dec_i]; exact q⟩
  · cases ra.str_
    cases rb.str_
    exact op_ne pins s σ H _ _ v u Q I rx ry ⟨rfl, by rw [dec_s]; exact q⟩
  · obtain ⟨d1, c1, l1⟩ := dp_of hd (K := X.K) 40 h1 ra
    obtain ⟨d2, c2, l2⟩ := dp_of hd (K := X.K) 40 h2 rb
    exact op_neD hu pins s σ H _ _ v u Q I rx ry ⟨p, r, d1, d2, shaped_of c1 (by omega), shaped_of c2 (by omega), q⟩
  · refine op_ne pins s σ H _ _ v u Q I rx ry ?_
    rcases h with ⟨rfl, t, rfl⟩ | ⟨rfl, t, rfl⟩ | ⟨i, t, rfl, rfl⟩ | ⟨i, t, rfl, rfl⟩
    · cases ra.non_; cases rb.str_; exact ⟨rfl, q⟩
    · cases ra.str_; cases rb.non_; exact ⟨rfl, q⟩
    · cases ra.int_; cases rb.str_; exact ⟨rfl, q⟩
    · cases ra.str_; cases rb.int_; exact ⟨rfl, q⟩

/-! ### order -/
theorem ltS_is : ∀ s t : List Nat, ltS s t = decide (s < t)
  | [], [] => by simp [ltS]
  | [], b :: t => by simp [ltS]
  | a :: s, [] => by simp [ltS]
  | a :: s, b :: t => by
    have e : (a :: s < b :: t) ↔ (a < b ∨ a = b ∧ s < t) := List.cons_lt_cons_iff
    unfold ltS
    rw [ltS_is s t]
    by_cases h : a < b
    · rw [if_pos h]
      exact (decide_eq_true (e.mpr (.inl h))).symm
    · rw [if_neg h]
      by_cases q : a = b
      · rw [if_pos q]
        by_cases z : s < t
        · rw [decide_eq_true z, decide_eq_true (e.mpr (.inr ⟨q, z⟩))]
        · rw [decide_eq_false z, decide_eq_false fun y => (e.mp y).elim h fun y => z y.2]
      · rw [if_neg q, decide_eq_false fun y => (e.mp y).elim h fun y => q y.1]
theorem Sx_cps (s : List Nat) : (Sx s).cps.toList = s := by simp
theorem or_lt : OpR X (compareOp .Lt) (tk g lk (cmpD .lt lk)) := by
  rintro pins s σ H x y v u Q I rx ry ⟨m, C, a, b, k, hd, ra, rb, e, q⟩
  cases a with
  | int i =>
    cases b with
    | int j =>
      cases e
      cases ra.int_; cases rb.int_
      exact op_lt pins s σ H _ _ v u Q I rx ry ⟨i, j, rfl, rfl, q⟩
    | _ => cases e
  | str i =>
    cases b with
    | str j =>
      cases e
      cases ra.str_; cases rb.str_
      refine op_lt_str pins s σ H _ _ v u Q I rx ry ⟨_, _, rfl, rfl, ?_⟩
      rw [Sx_cps, Sx_cps, ← ltS_is]
      exact q
    | _ => cases e
  | _ => cases b <;> cases e
theorem or_gt : OpR X (compareOp .Gt) (tk g lk (cmpD .gt lk)) := by
  rintro pins s σ H x y v u Q I rx ry ⟨m, C, a, b, k, hd, ra, rb, e, q⟩
  cases a with
  | int i =>
    cases b with
    | int j =>
      cases e
      cases ra.int_; cases rb.int_
      exact op_gt pins s σ H _ _ v u Q I rx ry ⟨i, j, rfl, rfl, q⟩
    | _ => cases e
  | str i =>
    cases b with
    | str j =>
      cases e
      cases ra.str_; cases rb.str_
      refine op_gt_str pins s σ H _ _ v u Q I rx ry ⟨_, _, rfl, rfl, ?_⟩
      rw [Sx_cps, Sx_cps, ← ltS_is]
      exact q
    | _ => cases e
  | _ => cases b <;> cases e
theorem or_le : OpR X (compareOp .LtE) (tk g lk (cmpD .le lk)) := by
  rintro pins s σ H x y v u Q I rx ry ⟨m, C, a, b, k, hd, ra, rb, e, q⟩
  cases a with
  | int i =>
    cases b with
    | int j =>
      cases e
      cases ra.int_; cases rb.int_
      exact op_le pins s σ H _ _ v u Q I rx ry ⟨i, j, rfl, rfl, q⟩
    | _ => cases e
  | str i =>
    cases b with
    | str j =>
      cases e
      cases ra.str_; cases rb.str_
      refine op_le_str pins s σ H _ _ v u Q I rx ry ⟨_, _, rfl, rfl, ?_⟩
      rw [Sx_cps, Sx_cps, ← ltS_is]
      exact q
    | _ => cases e
  | _ => cases b <;> cases e
theorem or_ge : OpR X (compareOp .GtE) (tk g lk (cmpD .ge lk)) := by
  rintro pins s σ H x y v u Q I rx ry ⟨m, C, a, b, k, hd, ra, rb, e, q⟩
  cases a with
  | int i =>
    cases b with
    | int j =>
      cases e
      cases ra.int_; cases rb.int_
      exact op_ge pins s σ H _ _ v u Q I rx ry ⟨i, j, rfl, rfl, q⟩
    | _ => cases e
  | str i =>
    cases b with
    | str j =>
      cases e
      cases ra.str_; cases rb.str_
      refine op_ge_str pins s σ H _ _ v u Q I rx ry ⟨_, _, rfl, rfl, ?_⟩
      rw [Sx_cps, Sx_cps, ← ltS_is]
      exact q
    | _ => cases e
  | _ => cases b <;> cases e

/-! ### is None -/
theorem rep_non {H : L2.Hp} {m : List Addr} {a : D} {x : V} (r : Rep H m a x) : decide (x = .non) = isNonD a := by
  cases a with
  | non => cases r.non_; rfl
  | bl b => cases r.bl_; rfl
  | int i => cases r.int_; rfl
  | str s => cases r.str_; rfl
  | tup xs => obtain ⟨_, _, rfl, _⟩ := r.tup_; rfl
  | loc l => obtain ⟨_, _, rfl⟩ := r.loc_; rfl
theorem or_is : OpR X (compareOp .Is) (tk g lk (cmpD .isn lk)) := by
  rintro pins s σ H x y v u Q I rx ry ⟨m, C, a, b, k, hd, ra, rb, e, q⟩
  cases b with
  | non =>
    cases rb.non_
    refine op_isN pins s σ H _ _ v u Q I rx ry ⟨rfl, ?_⟩
    rw [rep_non ra]
    have e' : isNonD a = k := by cases a <;> (cases e; rfl)
    rw [e']
    exact q
  | _ => cases e
theorem or_isnot : OpR X (compareOp .IsNot) (tk g lk (cmpD .notn lk)) := by
  rintro pins s σ H x y v u Q I rx ry ⟨m, C, a, b, k, hd, ra, rb, e, q⟩
  cases b with
  | non =>
    cases rb.non_
    refine op_notN pins s σ H _ _ v u Q I rx ry ⟨rfl, ?_⟩
    rw [rep_non ra]
    have e' : (!isNonD a) = k := by cases a <;> (cases e; rfl)
    rw [e']
    exact q
  | _ => cases e
end
end
end Q

set_option Elab.async false
set_option linter.all false
set_option maxRecDepth 100000
set_option maxHeartbeats 4000000
/-! Dicts of Q, by the hand layer's rules. -/
namespace Q
noncomputable section
open PySem L2

/-! ### keys -/
theorem beq_key1_ {a b : D} {k k' : Key} (h : KeyR1 a k) (h' : KeyR1 b k') : D.beq a b = decide (k = k') := by
  cases a with
  | int i =>
    cases (show k = .inl i from h)
    cases b with
    | int j =>
      cases (show k' = .inl j from h')
      show eqI i j = _
      rw [eqI_iff]
      by_cases q : i = j
      · subst q; simp
      · rw [decide_eq_false q, decide_eq_false fun z => q (Sum.inl.inj z)]
    | str t =>
      cases (show k' = .inr (Sx t) from h'.1)
      exact (decide_eq_false fun z => nomatch z).symm
    | _ => exact h'.elim
  | str s =>
    cases (show k = .inr (Sx s) from h.1)
    cases b with
    | int j =>
      cases (show k' = .inl j from h')
      exact (decide_eq_false fun z => nomatch z).symm
    | str t =>
      cases (show k' = .inr (Sx t) from h'.1)
      show eqS s t = _
      rw [eqS_iff]
      by_cases q : s = t
      · subst q; simp
      · rw [decide_eq_false q, decide_eq_false fun z => q (Sx_inj (Sum.inr.inj z))]
    | _ => exact h'.elim
  | _ => exact h.elim
theorem beq_key1 {a b : D} {k k' : Key} (h : KeyR1 a k) (h' : KeyR1 b k') : D.kbeq a b = decide (k = k') := (D.kbeq_is a b).trans (beq_key1_ h h')
theorem beqs_key1 : ∀ {xs ys : List D} {ks ks' : List Key}, Paired KeyR1 xs ks → Paired KeyR1 ys ks' → D.beqs xs ys = decide (ks = ks')
  | _, _, _, _, .nil, .nil => by show true = _; simp
  | _, _, _, _, .nil, .cons _ _ => by show false = _; simp
  | _, _, _, _, .cons _ _, .nil => by show false = _; simp
  | _, _, _, _, .cons (a := a) (b := k) h t, .cons (a := b) (b := k') h' t' => by
    show (D.beq a b && D.beqs _ _) = _
    rw [beq_key1_ h h', beqs_key1 t t']
    by_cases q : k = k'
    · subst q; simp
    · simp [q]
theorem beq_key2 {a b : D} {k k' : List Key} (h : KeyR2 a k) (h' : KeyR2 b k') : D.kbeq a b = decide (k = k') := by
  rw [D.kbeq_is]
  cases a with
  | tup xs =>
    cases b with
    | tup ys => exact beqs_key1 h.1 h'.1
    | _ => exact h'.elim
  | _ => exact h.elim
theorem key1_of {H : L2.Hp} {m : List Addr} {k : D} {y : V} (h : isKey1 k = true) (r : Rep H m k y) : ∃ kk, KeyR1 k kk ∧ y = kV kk := by
  cases k with
  | int i => cases r.int_; exact ⟨.inl i, rfl, rfl⟩
  | str s => have hl := r.slen; cases r.str_; exact ⟨.inr (Sx s), ⟨rfl, hl⟩, rfl⟩
  | _ => cases h
theorem keys1_of {H : L2.Hp} {m : List Addr} : ∀ {xs : List D} {vs : List V}, xs.all isKey1 = true → Reps H m xs vs → ∃ ks, Paired KeyR1 xs ks ∧ vs = ks.map kV
  | [], vs, _, r => ⟨[], .nil, r.unnil⟩
  | x :: xs, vs, h, r => by
    rw [List.all_cons, Bool.and_eq_true] at h
    obtain ⟨v, r', rfl, hv, hr⟩ := r.uncons
    obtain ⟨k, k1, k2⟩ := key1_of h.1 hv
    obtain ⟨ks, s1, s2⟩ := keys1_of h.2 hr
    exact ⟨k :: ks, .cons k1 s1, by rw [k2, s2]; rfl⟩
theorem key2_of {H : L2.Hp} {m : List Addr} {k : D} {y : V} (h : isKey2 k = true) (r : Rep H m k y) : ∃ ks b, KeyR2 k ks ∧ y = .ref b ∧ H b = some (.tup (ks.map kV)) := by
  cases k with
  | tup xs =>
    obtain ⟨a, vs, rfl, ha, hl, rs⟩ := r.tup_
    obtain ⟨ks, s1, s2⟩ := keys1_of h rs
    subst s2
    rw [List.length_map] at hl
    exact ⟨ks, a, ⟨s1, hl⟩, rfl, ha⟩
  | _ => cases h
theorem keyR1_is {k : D} {kk : Key} (h : KeyR1 k kk) : isKey1 k = true := by
  cases k with
  | int i => rfl
  | str s => rfl
  | _ => exact h.elim
theorem keyR2_is {k : D} {ks : List Key} (h : KeyR2 k ks) : isKey1 k = false := by
  cases k with
  | tup xs => rfl
  | _ => exact h.elim

theorem not12 {d : D} (h : isKey1 d = true) (h' : isKey2 d = true) : False := by
  cases d with
  | tup xs => cases h
  | _ => cases h'

/-! ### the pairs -/
def RepO (H : L2.Hp) (m : List Addr) : Option D → Option V → Prop
  | some d, some v => Rep H m d v
  | none, none => True
  | _, _ => False
section
variable {κ : Type} [DecidableEq κ] {kr : D → κ → Prop} {H : L2.Hp} {m : List Addr}
theorem dget_val (hb : ∀ {a b : D} {k k' : κ}, kr a k → kr b k' → D.kbeq a b = decide (k = k')) {k : D} {kk : κ} (hk : kr k kk) :
    ∀ {kvs : List (D × D)} {ws : List (κ × V)}, KvR kr H m kvs ws → RepO H m (dget kvs k) (valV ws kk)
  | _, _, .nil => True.intro
  | _, _, .cons (a := p) (b := q) h t => by
    obtain ⟨k', v⟩ := p
    have ih := dget_val hb hk t
    show RepO H m (cond (D.kbeq k' k) (some v) (dget _ k)) _
    rw [hb h.1 hk]
    by_cases e : q.1 = kk
    · rw [decide_eq_true e, valV_pos e]
      exact h.2
    · rw [decide_eq_false e, valV_neg e]
      exact ih
theorem map_id_of {ws : List (κ × V)} {kk : κ} {v : V} (h : kk ∉ ws.map (·.1)) : (ws.map fun kv => if kv.1 = kk then (kv.1, v) else kv) = ws := by
  induction ws with
  | nil => rfl
  | cons q r ih =>
    rw [List.map_cons, List.mem_cons, not_or] at h
    rw [List.map_cons, ih h.2, if_neg fun z => h.1 z.symm]
theorem putK_pos {q : κ × V} {r : List (κ × V)} {kk : κ} {v : V} (e : q.1 = kk) (h : kk ∉ r.map (·.1)) : putK (q :: r) kk v = (q.1, v) :: r := by
  unfold putK
  rw [List.any_cons, decide_eq_true e, Bool.true_or, if_pos rfl, List.map_cons, if_pos e, map_id_of h]
theorem putK_neg {q : κ × V} {r : List (κ × V)} {kk : κ} {v : V} (e : ¬ q.1 = kk) : putK (q :: r) kk v = q :: putK r kk v := by
  unfold putK
  rw [List.any_cons, decide_eq_false e, Bool.false_or, List.map_cons, if_neg e]
  split <;> rfl
theorem dput_put (hb : ∀ {a b : D} {k k' : κ}, kr a k → kr b k' → D.kbeq a b = decide (k = k')) {k d : D} {kk : κ} {v : V} (hk : kr k kk) (hv : Rep H m d v) :
    ∀ {kvs : List (D × D)} {ws : List (κ × V)}, KvR kr H m kvs ws → (ws.map (·.1)).Nodup → KvR kr H m (dput kvs k d) (putK ws kk v)
  | _, _, .nil, _ => .cons ⟨hk, hv⟩ .nil
  | _, _, .cons (a := p) (b := q) h t, nd => by
    obtain ⟨k', w⟩ := p
    rw [List.map_cons, List.nodup_cons] at nd
    have ih := dput_put hb hk hv t nd.2
    show KvR kr H m (cond (D.kbeq k' k) ((k', d) :: _) ((k', w) :: dput _ k d)) _
    rw [hb h.1 hk]
    by_cases e : q.1 = kk
    · rw [decide_eq_true e, putK_pos e (e ▸ nd.1)]
      exact .cons ⟨h.1, hv⟩ t
    · rw [decide_eq_false e, putK_neg e]
      exact .cons h ih
theorem putK_keys {kk : κ} {v : V} : ∀ {ws : List (κ × V)} {j : κ}, j ∈ (putK ws kk v).map (·.1) → j = kk ∨ j ∈ ws.map (·.1)
  | [], j, h => by
    rw [show putK ([] : List (κ × V)) kk v = [(kk, v)] from rfl] at h
    simp at h
    exact .inl h
  | q :: r, j, h => by
    by_cases e : q.1 = kk
    · unfold putK at h
      rw [List.any_cons, decide_eq_true e, Bool.true_or, if_pos rfl, List.map_map] at h
      obtain ⟨p, hp, z⟩ := List.mem_map.mp h
      refine .inr (List.mem_map.mpr ⟨p, hp, ?_⟩)
      rw [← z]
      show p.1 = (if p.1 = kk then (p.1, v) else p).1
      split <;> rfl
    · rw [putK_neg e, List.map_cons, List.mem_cons] at h
      rcases h with h | h
      · exact .inr (by rw [h]; simp)
      · rcases putK_keys h with z | z
        · exact .inl z
        · exact .inr (by rw [List.map_cons]; exact List.mem_cons_of_mem _ z)
theorem putK_nodup {kk : κ} {v : V} : ∀ {ws : List (κ × V)}, (ws.map (·.1)).Nodup → ((putK ws kk v).map (·.1)).Nodup
  | [], _ => by
    rw [show putK ([] : List (κ × V)) kk v = [(kk, v)] from rfl]
    simp
  | q :: r, nd => by
    rw [List.map_cons, List.nodup_cons] at nd
    by_cases e : q.1 = kk
    · rw [putK_pos e (e ▸ nd.1), List.map_cons, List.nodup_cons]
      exact nd
    · rw [putK_neg e, List.map_cons, List.nodup_cons]
      refine ⟨fun z => ?_, putK_nodup nd.2⟩
      rcases putK_keys z with z | z
      · exact e z
      · exact nd.1 z
theorem KvR.length {kvs : List (D × D)} {ws : List (κ × V)} (h : KvR kr H m kvs ws) : kvs.length = ws.length := Paired.length h
end

/-! ### an empty dict, told as one of the other kind -/
section
variable {X : Cx} {pins : List (Addr × Obj)} {σ : St} {H : L2.Hp} {s : Shared} {a : Addr}
theorem inv_KT (I : Inv X pins σ H s) (h : H a = some (.dK [])) : Inv X pins σ (upd H a (.dT [])) s := by
  obtain ⟨z, hd, vs, rel, o, es, ep, ho, hx, hdat, hk, hp, hn⟩ := dk_of I.hok h
  cases rel
  have he : es.toList = [] := by
    cases hq : es.toList with
    | nil => rfl
    | cons e r =>
      rw [hq] at hp
      cases hp
  exact I.write (x := a) (e := a) (h' := s.heap) (t' := s.toks) (by rw [h]; exact True.intro) (.inl rfl) (fun _ _ _ q => q) ⟨o, ho⟩
    ⟨Nat.zero_le _, hd, [], .nil, o, es, ep, ho, hx, hdat, he, List.nodup_nil⟩
theorem inv_TK (I : Inv X pins σ H s) (h : H a = some (.dT [])) : Inv X pins σ (upd H a (.dK [])) s := by
  obtain ⟨z, hd, xs, rel, o, es, ep, ho, hx, hdat, he, hi, hn⟩ := dt_of I.hok h
  cases rel
  have he' : es = #[] := by
    have : es.toList = [] := he
    simpa using this
  subst he'
  exact I.write (x := a) (e := a) (h' := s.heap) (t' := s.toks) (by rw [h]; exact True.intro) (.inl rfl) (fun _ _ _ q => q) ⟨o, ho⟩
    ⟨Nat.zero_le _, hd, [], .nil, o, #[], ep, ho, hx, hdat, fun e he => by simp at he, .nil, List.nodup_nil⟩
end

/-! ### a key in a dict -/
/-- a dict at a, told of the key's kind -/
structure DAt (g : Stg) (lk : List Nat) (m : List Addr) (C : Hq) (X : Cx) (H : L2.Hp) (l : Nat) (a : Addr) (kvs : List (D × D)) (k : D) (y : V) (H2 : L2.Hp) : Prop where
  inv : ∀ {Y : Cx} {pins : List (Addr × Obj)} {σ : St} {s : Shared}, Inv Y pins σ H s → Inv Y pins σ H2 s
  step : Step m H m H2
  held : Held g lk m C H2
  at_ : (∃ ws kk, Lkd (isLk lk l) ((H2 a).getD (.lst [])) (.dK ws) ∧ (H2 a).isSome = true ∧ KvR KeyR1 H2 m kvs ws ∧ (ws.map (·.1)).Nodup ∧ KeyR1 k kk ∧ y = kV kk) ∨
    ∃ ws kk b, Lkd (isLk lk l) ((H2 a).getD (.lst [])) (.dT ws) ∧ (H2 a).isSome = true ∧ KvR KeyR2 H2 m kvs ws ∧ (ws.map (·.1)).Nodup ∧ KeyR2 k kk ∧ y = .ref b ∧ H2 b = some (.tup (kk.map kV))
section
variable {X : Cx} {g : Stg} {lk : List Nat} {m : List Addr} {C : Hq} {H : L2.Hp}
theorem rd_of_lk {a : Addr} {u w : HO} {b : Bool} (h : H a = some u) (hu : Lkd b u w) : Rd H a w := Held.rd (l := 0) h hu
theorem keys_fit {kvs : List (D × D)} {k : D} {p : D × D} (h : keyFits (p :: kvs) k = true) :
    (isKey1 k = true ∧ isKey1 p.1 = true) ∨ (isKey1 k = false ∧ isKey2 k = true ∧ isKey2 p.1 = true) := by
  have h : cond (isKey1 k) (isKey1 p.1) (isKey2 k && isKey2 p.1) = true := h
  cases q : isKey1 k with
  | true => rw [q] at h; exact .inl ⟨rfl, h⟩
  | false =>
    rw [q] at h
    have h : (isKey2 k && isKey2 p.1) = true := h
    rw [Bool.and_eq_true] at h
    exact .inr ⟨rfl, h.1, h.2⟩
theorem dat_of {l : Nat} {a : Addr} {kvs : List (D × D)} {k : D} {y : V} (hd : Held g lk m C H) (hl : m[l]? = some a) (e : C.get l = some (.dic kvs)) (r : Rep H m k y) (f : kfit lk l kvs k = true) :
    ∃ H2, DAt g lk m C X H l a kvs k y H2 := by
  obtain ⟨a', u, h1, h2, h3⟩ := hd.at e
  rw [hl] at h1
  cases h1
  cases kvs with
  | cons p kvs =>
    have f' : keyFits (p :: kvs) k = true := f
    refine ⟨H, fun z => z, Step.refl _ _, hd, ?_⟩
    rcases h3 with ⟨ws, q1, q2, q3⟩ | ⟨ws, q1, q2, q3⟩
    · cases q2 with
      | cons z t =>
        rcases keys_fit f' with ⟨z1, z2⟩ | ⟨z1, z2, z3⟩
        · obtain ⟨kk, k1, k2⟩ := key1_of z1 r
          exact .inl ⟨_, kk, by rw [h2]; exact q1, by rw [h2]; rfl, .cons z t, q3, k1, k2⟩
        · exact (not12 (keyR1_is z.1) z3).elim
    · cases q2 with
      | cons z t =>
        rcases keys_fit f' with ⟨z1, z2⟩ | ⟨z1, z2, z3⟩
        · rw [keyR2_is z.1] at z2
          cases z2
        · obtain ⟨kk, b, k1, k2, k3⟩ := key2_of z2 r
          exact .inr ⟨_, kk, b, by rw [h2]; exact q1, by rw [h2]; rfl, .cons z t, q3, k1, k2, k3⟩
  | nil =>
    have f' : ((isKey1 k || isKey2 k) && !isLk lk l) = true := f
    rw [Bool.and_eq_true, Bool.or_eq_true] at f'
    obtain ⟨f1, f2⟩ := f'
    have f2 : isLk lk l = false := by simpa using f2
    rw [f2] at h3
    have isT : H a ≠ none := by rw [h2]; exact fun z => by cases z
    have conv : ∀ o : HO, (∀ vs, o ≠ .tup vs) → ObjR g (upd H a o) m false (.dic []) o → Step m H m (upd H a o) ∧ Held g lk m C (upd H a o) := fun o ho hr => by
      have st := step_set (o := o) hd hl (hd.notFrz hl f2)
      refine ⟨st, hd.len, hd.nd, fun j b hj => ?_, hd.non, hd.lko⟩
      by_cases q : j = l
      · subst q
        rw [hl] at hj
        cases hj
        exact ⟨_, o, e, upd_same, by rw [f2]; exact hr⟩
      · obtain ⟨o', u', q1, q2, q3⟩ := hd.obj j b hj
        refine ⟨o', u', q1, ?_, q3.step st⟩
        rw [upd_ne (fun z : b = a => q ?_)]
        · exact q2
        · subst z
          obtain ⟨hk1, hk2⟩ := List.getElem?_eq_some_iff.mp hj
          obtain ⟨hl1, hl2⟩ := List.getElem?_eq_some_iff.mp hl
          exact (List.getElem_inj hd.nd).mp (hk2.trans hl2.symm)
    rcases h3 with ⟨ws, q1, q2, q3⟩ | ⟨ws, q1, q2, q3⟩
    · cases q2
      have q1 : u = .dK [] := q1
      subst q1
      by_cases z : isKey1 k = true
      · obtain ⟨kk, k1, k2⟩ := key1_of z r
        exact ⟨H, fun z => z, Step.refl _ _, hd, .inl ⟨[], kk, by rw [h2, f2]; rfl, by rw [h2]; rfl, .nil, q3, k1, k2⟩⟩
      · rcases f1 with f1 | f1
        · exact absurd f1 z
        · obtain ⟨kk, b, k1, k2, k3⟩ := key2_of f1 r
          obtain ⟨c1, c2⟩ := conv (.dT []) (fun _ z => nomatch z) (.inr ⟨[], rfl, .nil, List.nodup_nil⟩)
          exact ⟨upd H a (.dT []), fun z => inv_KT z h2, c1, c2, .inr ⟨[], kk, b, by rw [upd_same, f2]; rfl, by rw [upd_same]; rfl, .nil, List.nodup_nil, k1, k2, c1.tup _ _ k3⟩⟩
    · cases q2
      have q1 : u = .dT [] := q1
      subst q1
      by_cases z : isKey1 k = true
      · obtain ⟨kk, k1, k2⟩ := key1_of z r
        obtain ⟨c1, c2⟩ := conv (.dK []) (fun _ z => nomatch z) (.inl ⟨[], rfl, .nil, List.nodup_nil⟩)
        exact ⟨upd H a (.dK []), fun z => inv_TK z h2, c1, c2, .inl ⟨[], kk, by rw [upd_same, f2]; rfl, by rw [upd_same]; rfl, .nil, List.nodup_nil, k1, k2⟩⟩
      · rcases f1 with f1 | f1
        · exact absurd f1 z
        · obtain ⟨kk, b, k1, k2, k3⟩ := key2_of f1 r
          exact ⟨H, fun z => z, Step.refl _ _, hd, .inr ⟨[], kk, b, by rw [h2, f2]; rfl, by rw [h2]; rfl, .nil, q3, k1, k2, k3⟩⟩
theorem DAt.get {l : Nat} {a : Addr} {kvs : List (D × D)} {k : D} {y : V} {H2 : L2.Hp} (t : DAt g lk m C X H l a kvs k y H2) : ∃ o, DGet H2 a y o ∧ RepO H2 m (dget kvs k) o := by
  rcases t.at_ with ⟨ws, kk, h1, h2, h3, h4, h5, h6⟩ | ⟨ws, kk, b, h1, h2, h3, h4, h5, h6, h7⟩
  · obtain ⟨u, hu⟩ := Option.isSome_iff_exists.mp h2
    rw [hu] at h1
    exact ⟨_, .inl ⟨ws, kk, rd_of_lk hu h1, h6, rfl⟩, dget_val beq_key1 h5 h3⟩
  · obtain ⟨u, hu⟩ := Option.isSome_iff_exists.mp h2
    rw [hu] at h1
    exact ⟨_, .inr ⟨ws, kk, b, rd_of_lk hu h1, h6, h7, rfl⟩, dget_val beq_key2 h5 h3⟩
theorem DAt.put {l : Nat} {a : Addr} {kvs : List (D × D)} {k d : D} {y v : V} {H2 : L2.Hp} (t : DAt g lk m C X H l a kvs k y H2) (hl : m[l]? = some a) (f : isLk lk l = false) (hr : kvs.length < 1000000) (rv : Rep H2 m d v) :
    ∃ H3, DPut H2 a y v H3 ∧ Step m H2 m H3 ∧ Held g lk m (C.set l (.dic (dput kvs k d))) H3 := by
  rcases t.at_ with ⟨ws, kk, h1, h2, h3, h4, h5, h6⟩ | ⟨ws, kk, b, h1, h2, h3, h4, h5, h6, h7⟩
  · obtain ⟨u, hu⟩ := Option.isSome_iff_exists.mp h2
    rw [hu, f] at h1
    have h1 : u = .dK ws := h1
    subst h1
    have st := step_set (o := HO.dK (putK ws kk v)) t.held hl (t.held.notFrz hl f)
    have hlen := h3.length
    refine ⟨_, .inl ⟨ws, kk, hu, h6, by rw [line_is]; omega, rfl⟩, st, t.held.set hl (t.held.notFrz hl f) ?_⟩
    rw [f]
    exact .inl ⟨_, rfl, (dput_put beq_key1 h5 rv h3 h4).step st, putK_nodup h4⟩
  · obtain ⟨u, hu⟩ := Option.isSome_iff_exists.mp h2
    rw [hu, f] at h1
    have h1 : u = .dT ws := h1
    subst h1
    have st := step_set (o := HO.dT (putK ws kk v)) t.held hl (t.held.notFrz hl f)
    have hlen := h3.length
    refine ⟨_, .inr ⟨ws, kk, b, hu, h6, h7, by rw [line_is]; omega, rfl⟩, st, t.held.set hl (t.held.notFrz hl f) ?_⟩
    rw [f]
    exact .inr ⟨_, rfl, (dput_put beq_key2 h5 rv h3 h4).step st, putK_nodup h4⟩
end
end
end Q

set_option Elab.async false
set_option linter.all false
set_option maxRecDepth 100000
set_option maxHeartbeats 4000000
/-! Membership, truth, places, slices, stores of Q. -/
namespace Q
noncomputable section
open PySem L2 PySem.Spec PyProof.Rows

section
variable {X : Cx} {g : Stg} {lk : List Nat}
theorem t2_of_tk {f : Value → Value → Sem Value} {ev : D → D → Hq → Option Bool} (h : OpR X f (tk g lk ev)) : OpR X f (t2 g lk fun a b C => (ev a b C).map fun k => (.bl k, C)) := by
  rintro pins s σ H x y v u Q I rx ry ⟨m, C, a, b, d, C', hd, ra, rb, e, k⟩
  obtain ⟨c, e1, e2⟩ := Option.map_eq_some_iff.mp e
  cases e2
  exact h pins s σ H x y v u Q I rx ry ⟨m, C, a, b, c, hd, ra, rb, e1, k _ m H (Step.refl _ _) hd Rep.bl⟩
end

/-! ### None among items -/
theorem dict_eq_none (l : Addr) (es : Array DictEntry) (ep : Nat) (dd : Option Addr) (sl : Array (Option Value)) :
    Meets (Builtin.«dict.__eq__» ⟨[.ref l, .none], []⟩) (fun _ R s => s.heap.get? l = some { cls := .type "dict", dict := dd, data := .dict es ep, slots := sl } ∧ R (.ok (.ret .notImplemented)) s) :=
  .of_wp fun prog w A R s h => by
    obtain ⟨hp, g, d, tk, os⟩ := s
    obtain ⟨hl, h⟩ := h
    have f1 := F.sub_NoneType_dict
    wp_walk using wpAny_loadPart' hl
    exact ⟨_, rfl, h⟩
section
variable {A : Around} {s : Shared}
theorem eqAt_dict_none {l : Addr} {o : Obj} {es : Array DictEntry} {ep : Nat} (ho : s.heap.get? l = some o) (hc : o.cls = .type "dict") (hd : o.data = .dict es ep) (hu : A.units < cLine) : SeqAt.EqAt A s (.ref l) .none false := fun prog w E Q h => by
  obtain ⟨cls, dd, data, sl⟩ := o
  simp only at hc hd
  subst hc hd
  unfold eqBool
  refine wpAny_holding ?_
  refine wpAny_ite_split (fun hab => absurd (eq_of_beq hab) nofun) (fun _ => ?_)
  refine wpAny_bind ?_
  exact SeqAt.rc_eq_decline_or (k := false) ⟨_, ho, rfl⟩ rfl (by decide) F.sub_NoneType_dict F.slot_dict_eq F.slot_NoneType_eq_refl
    (fun _ hq => call_meets F.slot_dict_eq ⟨_, ho, rfl⟩ F.entry_dict_eq (F.args_dict_eq_2 _ _) (dict_eq_none l es ep dd sl) ⟨ho, hq⟩)
    (fun _ hq => call_gives F.slot_NoneType_eq_refl rfl F.entry_NoneType_eq (F.args_NoneType_eq_2 _ _) (SeqAt.NoneType___eq___none_ref_0 l) hq)
    (fun _ hq => wpAny_of_eq (rfl : isSame (.ref l) .none = pure false) hq) (.inr hu) (wpAny_truthy_bool h)
end
def isNV : Value → Bool
  | .none => true
  | _ => false
section
variable {X : Cx} {pins : List (Addr × Obj)} {σ : L2.St} {H : L2.Hp} {s : Shared} {g : Stg} {lk : List Nat} {m : List Addr} {C : Hq}
theorem rd_dic {l : Nat} {kvs : List (D × D)} {a : Addr} (hd : Held g lk m C H) (e : C.get l = some (.dic kvs)) (hl : m[l]? = some a) :
    (∃ ws, Rd H a (.dK ws) ∧ KvR KeyR1 H m kvs ws ∧ (ws.map (·.1)).Nodup ∧ (isLk lk l = false → H a = some (.dK ws))) ∨ ∃ ws, Rd H a (.dT ws) ∧ KvR KeyR2 H m kvs ws ∧ (ws.map (·.1)).Nodup ∧ (isLk lk l = false → H a = some (.dT ws)) := by
  obtain ⟨a', u, h1, h2, h3⟩ := hd.at e
  rw [hl] at h1
  cases h1
  rcases h3 with ⟨ws, q1, q2, q3⟩ | ⟨ws, q1, q2, q3⟩
  · refine .inl ⟨ws, rd_of_lk h2 q1, q2, q3, fun z => ?_⟩
    rw [z] at q1
    rw [h2]
    exact congrArg some q1
  · refine .inr ⟨ws, rd_of_lk h2 q1, q2, q3, fun z => ?_⟩
    rw [z] at q1
    rw [h2]
    exact congrArg some q1
theorem plainD_loc (C : Hq) (l : Nat) : plainD C (.loc l) = (match C.get l with
    | some (.lst _) => true
    | some (.dic _) => true
    | _ => false) := rfl
theorem none_at (I : Inv X pins σ H s) (hu : X.A.units + 65 < cLine) (hd : Held g lk m C H) {d : D} {v : V} {u : Value} (r : Rep H m d v) (ru : RelV v u) (hp : plainD C d = true) : SeqAt.EqAt X.A.in1 s u .none (isNV u) ∧ isNV u = isNonD d := by
  have hu1 : X.A.in1.units < cLine := by
    show X.A.units + 1 < cLine
    omega
  cases d with
  | non => cases r.non_; cases ru; exact ⟨SeqAt.EqAt.same _, rfl⟩
  | bl b => cases r.bl_; cases ru; exact ⟨SeqAt.EqAt.bool_none _, rfl⟩
  | int i => cases r.int_; obtain ⟨t, rfl⟩ := ru; exact ⟨SeqAt.EqAt.int_none _ _, rfl⟩
  | str x => cases r.str_; obtain ⟨t, rfl⟩ := ru; exact ⟨SeqAt.EqAt.str_none _ _, rfl⟩
  | tup xs =>
    obtain ⟨a, vs, rfl, ha, _, _⟩ := r.tup_
    cases ru
    obtain ⟨its, _, ht, _⟩ := I.tuple (SqT_of (K := X.K) ha)
    exact ⟨SeqAt.EqAt.tuple_none ht hu1, rfl⟩
  | loc l =>
    obtain ⟨a, ha, rfl⟩ := r.loc_
    cases ru
    rw [plainD_loc] at hp
    split at hp
    · rename_i xs q
      obtain ⟨vs, h1, _, _⟩ := hd.sql (K := X.K) (xs := xs) (by unfold asLst; rw [q]) ha
      obtain ⟨its, _, hp', _⟩ := I.list h1
      exact ⟨SeqAt.EqAt.list_none hp'.isList hu1, rfl⟩
    · rename_i kvs q
      rcases rd_dic hd q ha with ⟨ws, h1, _⟩ | ⟨ws, h1, _⟩
      · obtain ⟨_, _, vs, _, o, es, ep, h2, h3, h4, _⟩ := dk_rd I.hok h1
        exact ⟨eqAt_dict_none h2 h3.1 h4 hu1, rfl⟩
      · obtain ⟨_, _, vs, _, o, es, ep, h2, h3, h4, _⟩ := dt_rd I.hok h1
        exact ⟨eqAt_dict_none h2 h3.1 h4 hu1, rfl⟩
    · cases hp
theorem nones_at (I : Inv X pins σ H s) (hu : X.A.units + 65 < cLine) (hd : Held g lk m C H) : ∀ {xs : List D} {vs : List V} {us : List Value}, Reps H m xs vs → Vals vs us → xs.all (plainD C) = true →
    (∀ y ∈ us, SeqAt.EqAt X.A.in1 s y .none (isNV y)) ∧ us.any isNV = xs.any isNonD
  | [], vs, us, r, ru, _ => by
    cases r.unnil
    cases ru
    exact ⟨fun y hy => (nomatch hy), rfl⟩
  | x :: xs, vs, us, r, ru, hp => by
    obtain ⟨v, vs', rfl, h1, h2⟩ := r.uncons
    cases ru with
    | cons q1 q2 =>
      rw [List.all_cons, Bool.and_eq_true] at hp
      obtain ⟨a1, a2⟩ := none_at I hu hd h1 q1 hp.1
      obtain ⟨b1, b2⟩ := nones_at I hu hd h2 q2 hp.2
      refine ⟨fun y hy => ?_, by rw [List.any_cons, List.any_cons, a2, b2]⟩
      rcases List.mem_cons.mp hy with rfl | hy
      · exact a1
      · exact b1 y hy
theorem inD_cases {x : D} {xs : List D} {k : Bool} (h : inD C x xs = some k) :
    (x = .non ∧ xs.all (plainD C) = true ∧ k = xs.any isNonD) ∨ ∃ d ds, toP 40 C x = some d ∧ Paired (fun a b => toP 40 C a = some b) xs ds ∧ k = ds.any fun z => PyData.eqv z d := by
  have slow : ((toP 40 C x).bind fun d => (xs.mapM (toP 40 C)).map fun ds => ds.any fun z => PyData.eqv z d) = some k → ∃ d ds, toP 40 C x = some d ∧ Paired (fun a b => toP 40 C a = some b) xs ds ∧ k = ds.any fun z => PyData.eqv z d := fun h => by
    obtain ⟨d, h1, h⟩ := Option.bind_eq_some_iff.mp h
    obtain ⟨ds, h2, h⟩ := Option.map_eq_some_iff.mp h
    exact ⟨d, ds, h1, mapM_some h2, h.symm⟩
  cases x with
  | non =>
    rw [show inD C .non xs = (if xs.all (plainD C) then some (xs.any isNonD) else none) from rfl] at h
    split at h
    · rename_i q
      cases h
      exact .inl ⟨rfl, q, rfl⟩
    · cases h
  | _ => exact .inr (slow h)
end

section
variable {X : Cx} {g : Stg} {lk : List Nat}
theorem memC_is (c : Nat) : ∀ t : List Nat, memC c t = decide (c ∈ t)
  | [] => by simp [memC]
  | b :: t => by
    unfold memC
    rw [memC_is c t]
    cases e : Nat.beq b c with
    | true =>
      have := Nat.eq_of_beq_eq_true e
      subst this
      simp
    | false =>
      have : b ≠ c := fun z => by subst z; rw [Nat.beq_refl] at e; cases e
      simp [this, Ne.symm this]
theorem inC_str (lk : List Nat) (x : D) (t : List Nat) (C : Hq) : inC lk x (.str t) C = (match x with
    | .str [s] => some (memC s t)
    | _ => none) := rfl
theorem inC_loc (lk : List Nat) (x : D) (l : Nat) (C : Hq) : inC lk x (.loc l) C = (match C.get l with
    | some (.lst xs) => inD C x xs
    | some (.dic kvs) => if kfit lk l kvs x then some (dget kvs x).isSome else none
    | _ => none) := rfl
theorem or_in (hu : X.A.units + 65 < cLine) : OpR X (compareOp .In) (t2 g lk fun a b C => (cmpD .isin lk a b C).map fun k => (.bl k, C)) := by
  rintro pins s σ H x y v u Q I rx ry ⟨m, C, a, b, d, C', hd, ra, rb, e, k⟩
  obtain ⟨c, e1, e2⟩ := Option.map_eq_some_iff.mp e
  cases e2
  have e1 : inC lk a b C = some c := e1
  clear e
  have k' := k (.bl c) m H (Step.refl _ _) hd Rep.bl
  cases b with
  | str t =>
    rw [inC_str] at e1
    split at e1
    · rename_i z
      cases e1
      cases ra.str_
      cases rb.str_
      refine op_in_sign pins s σ H _ _ v u Q I rx ry ⟨_, _, rfl, rfl, ?_⟩
      rw [Sx_cps, ← memC_is]
      exact k'
    · cases e1
  | tup xs =>
    have e1 : inD C a xs = some c := e1
    obtain ⟨p, vs, rfl, ha, _, rs⟩ := rb.tup_
    cases ry
    rcases inD_cases e1 with ⟨rfl, h1, rfl⟩ | ⟨d, ds, h1, h2, rfl⟩
    · cases ra.non_
      cases rx
      obtain ⟨its, rv, ht, _⟩ := I.tuple (SqT_of (K := X.K) ha)
      obtain ⟨n1, n2⟩ := nones_at I hu hd rs rv h1
      refine SeqAt.in_tupleAt isNV ht (fun y hy => n1 y (by simpa using hy)) ?_
      rw [List.any_toArray, n2]
      exact ⟨.bl _, H, I, rfl, k'⟩
    · obtain ⟨d1, c1, l1⟩ := dp_of hd (K := X.K) 40 h1 ra
      obtain ⟨d2, c2, l2⟩ := dp_all hd (K := X.K) (f := 40) (fun z w => dp_of hd 40 z w) h2 rs
      obtain ⟨as, r1⟩ := Dp.reads I d _ v d1 rx
      obtain ⟨bs, r2⟩ := Dp.reads I (.tuple ds) _ _ (.tup (SqT_of ha) d2) rfl
      exact SeqAt.in_tuple_reads r2 r1 c2 c1 (room_in_shaped (shaped_of c1 (by omega)) hu) ⟨.bl _, H, I, rfl, k'⟩
  | loc l =>
    rw [inC_loc] at e1
    split at e1
    · rename_i xs q
      obtain ⟨p, hp, rfl⟩ := rb.loc_
      cases ry
      obtain ⟨vs, q1, rs, _⟩ := hd.sql (K := X.K) (xs := xs) (by unfold asLst; rw [q]) hp
      rcases inD_cases e1 with ⟨rfl, h1, rfl⟩ | ⟨d, ds, h1, h2, rfl⟩
      · cases ra.non_
        cases rx
        obtain ⟨its, rv, ht, _⟩ := I.list q1
        obtain ⟨n1, n2⟩ := nones_at I hu hd rs rv h1
        refine SeqAt.in_listAt isNV ht.isList (fun y hy => n1 y (by simpa using hy)) ?_
        rw [List.any_toArray, n2]
        exact ⟨.bl _, H, I, rfl, k'⟩
      · obtain ⟨d1, c1, l1⟩ := dp_of hd (K := X.K) 40 h1 ra
        obtain ⟨d2, c2, l2⟩ := dp_all hd (K := X.K) (f := 40) (fun z w => dp_of hd 40 z w) h2 rs
        obtain ⟨as, r1⟩ := Dp.reads I d _ v d1 rx
        obtain ⟨bs, r2⟩ := Dp.reads I (.list ds) _ _ (.lst q1 d2) rfl
        exact SeqAt.in_list_reads r2 r1 c2 c1 (room_in_shaped (shaped_of c1 (by omega)) hu) ⟨.bl _, H, I, rfl, k'⟩
    · rename_i kvs q
      split at e1
      · rename_i f
        cases e1
        obtain ⟨p, hp, rfl⟩ := rb.loc_
        cases ry
        obtain ⟨H2, t⟩ := dat_of (X := X) hd hp q ra f
        obtain ⟨o, g1, g2⟩ := t.get
        refine d_in (by omega) (t.inv I) g1 rx fun s' I' => ⟨.bl _, H2, I', rfl, ?_⟩
        have : o.isSome = (dget kvs a).isSome := by
          cases h1 : dget kvs a <;> cases h2 : o <;> rw [h1, h2] at g2 <;> first | rfl | exact g2.elim
        rw [this]
        exact k _ m H2 t.step t.held Rep.bl
      · cases e1
    · cases e1
  | _ => cases e1
theorem or_notin (hu : X.A.units + 65 < cLine) : OpR X (compareOp .NotIn) (t2 g lk fun a b C => (cmpD .notin lk a b C).map fun k => (.bl k, C)) := by
  rintro pins s σ H x y v u Q I rx ry ⟨m, C, a, b, d, C', hd, ra, rb, e, k⟩
  obtain ⟨c, e1, e2⟩ := Option.map_eq_some_iff.mp e
  cases e2
  obtain ⟨c, e3, rfl⟩ := Option.map_eq_some_iff.mp (show (inC lk a b C).map (!·) = some c from e1)
  clear e1 e
  have e1 := e3
  clear e3
  have k' := k (.bl (!c)) m H (Step.refl _ _) hd Rep.bl
  cases b with
  | str t =>
    rw [inC_str] at e1
    split at e1
    · rename_i z
      cases e1
      cases ra.str_
      cases rb.str_
      refine op_notIn_sign pins s σ H _ _ v u Q I rx ry ⟨_, _, rfl, rfl, ?_⟩
      rw [Sx_cps, ← memC_is]
      exact k'
    · cases e1
  | tup xs =>
    have e1 : inD C a xs = some c := e1
    obtain ⟨p, vs, rfl, ha, _, rs⟩ := rb.tup_
    cases ry
    rcases inD_cases e1 with ⟨rfl, h1, rfl⟩ | ⟨d, ds, h1, h2, rfl⟩
    · cases ra.non_
      cases rx
      obtain ⟨its, rv, ht, _⟩ := I.tuple (SqT_of (K := X.K) ha)
      obtain ⟨n1, n2⟩ := nones_at I hu hd rs rv h1
      refine SeqAt.notIn_tupleAt isNV ht (fun y hy => n1 y (by simpa using hy)) ?_
      rw [List.any_toArray, n2]
      exact ⟨.bl _, H, I, rfl, k'⟩
    · obtain ⟨d1, c1, l1⟩ := dp_of hd (K := X.K) 40 h1 ra
      obtain ⟨d2, c2, l2⟩ := dp_all hd (K := X.K) (f := 40) (fun z w => dp_of hd 40 z w) h2 rs
      obtain ⟨as, r1⟩ := Dp.reads I d _ v d1 rx
      obtain ⟨bs, r2⟩ := Dp.reads I (.tuple ds) _ _ (.tup (SqT_of ha) d2) rfl
      exact SeqAt.notIn_tuple_reads r2 r1 c2 c1 (room_in_shaped (shaped_of c1 (by omega)) hu) ⟨.bl _, H, I, rfl, k'⟩
  | loc l =>
    rw [inC_loc] at e1
    split at e1
    · rename_i xs q
      obtain ⟨p, hp, rfl⟩ := rb.loc_
      cases ry
      obtain ⟨vs, q1, rs, _⟩ := hd.sql (K := X.K) (xs := xs) (by unfold asLst; rw [q]) hp
      rcases inD_cases e1 with ⟨rfl, h1, rfl⟩ | ⟨d, ds, h1, h2, rfl⟩
      · cases ra.non_
        cases rx
        obtain ⟨its, rv, ht, _⟩ := I.list q1
        obtain ⟨n1, n2⟩ := nones_at I hu hd rs rv h1
        refine SeqAt.notIn_listAt isNV ht.isList (fun y hy => n1 y (by simpa using hy)) ?_
        rw [List.any_toArray, n2]
        exact ⟨.bl _, H, I, rfl, k'⟩
      · obtain ⟨d1, c1, l1⟩ := dp_of hd (K := X.K) 40 h1 ra
        obtain ⟨d2, c2, l2⟩ := dp_all hd (K := X.K) (f := 40) (fun z w => dp_of hd 40 z w) h2 rs
        obtain ⟨as, r1⟩ := Dp.reads I d _ v d1 rx
        obtain ⟨bs, r2⟩ := Dp.reads I (.list ds) _ _ (.lst q1 d2) rfl
        exact SeqAt.notIn_list_reads r2 r1 c2 c1 (room_in_shaped (shaped_of c1 (by omega)) hu) ⟨.bl _, H, I, rfl, k'⟩
    · rename_i kvs q
      split at e1
      · rename_i f
        cases e1
        obtain ⟨p, hp, rfl⟩ := rb.loc_
        cases ry
        obtain ⟨H2, t⟩ := dat_of (X := X) hd hp q ra f
        obtain ⟨o, g1, g2⟩ := t.get
        refine d_notIn (by omega) (t.inv I) g1 rx fun s' I' => ⟨.bl _, H2, I', rfl, ?_⟩
        have : o.isSome = (dget kvs a).isSome := by
          cases h1 : dget kvs a <;> cases h2 : o <;> rw [h1, h2] at g2 <;> first | rfl | exact g2.elim
        rw [this]
        exact k _ m H2 t.step t.held Rep.bl
      · cases e1
    · cases e1
  | _ => cases e1

/-! ### truth, sign -/
/-- what is to be shown of a test -/
def tt1 (g : Stg) (lk : List Nat) : V → L2.Hp → (Bool → L2.Hp → Prop) → Prop := fun x H Q => ∃ m C a k, Held g lk m C H ∧ Rep H m a x ∧ tru C a = some k ∧ Q k H
theorem tru_loc (C : Hq) (l : Nat) : tru C (.loc l) = (match C.get l with
    | some (.lst xs) => some (!xs.isEmpty)
    | _ => none) := rfl
theorem truV_of {x : V} {H : L2.Hp} {m : List Addr} {C : Hq} {a : D} {k : Bool} (hd : Held g lk m C H) (r : Rep H m a x) (e : tru C a = some k) : TruV X.K x H k := by
  cases a with
  | non => cases r.non_; cases e; exact rfl
  | bl b => cases r.bl_; cases e; exact rfl
  | int i => cases r.int_; cases e; exact rfl
  | str s =>
    have hl := r.slen
    cases r.str_
    cases e
    refine ⟨by rw [Sx_len, line_is]; omega, ?_⟩
    rw [Sx_len]
    cases s with
    | nil => rfl
    | cons c s =>
      show true = _
      have : (((c :: s).length : Int) != 0) = true := by
        rw [bne_iff_ne]
        simp only [List.length_cons]
        omega
      rw [this]
  | tup xs =>
    obtain ⟨p, vs, rfl, ha, _, rs⟩ := r.tup_
    cases e
    refine .inr (.inl ⟨vs, SqT_of ha, ?_⟩)
    have := rs.length
    cases xs <;> cases vs <;> first | rfl | cases this
  | loc l =>
    obtain ⟨p, hp, rfl⟩ := r.loc_
    rw [tru_loc] at e
    split at e
    · rename_i xs q
      cases e
      obtain ⟨vs, q1, rs, _⟩ := hd.sql (K := X.K) (xs := xs) (by unfold asLst; rw [q]) hp
      refine .inl ⟨vs, q1, ?_⟩
      have := rs.length
      cases xs <;> cases vs <;> first | rfl | cases this
    · cases e
/-- what is to be shown of a one-place operation -/
def t1 (g : Stg) (lk : List Nat) (ev : D → Hq → Option (D × Hq)) : V → L2.Hp → VK → Prop := fun x H Q => ∃ m C a d C', Held g lk m C H ∧ Rep H m a x ∧ ev a C = some (d, C') ∧
  ∀ v m' H', Step m H m' H' → Held g lk m' C' H' → Rep H' m' d v → Q v H'
theorem or_neg : UnR X (unaryOp .USub) (t1 g lk fun a C => (negD a).map fun d => (d, C)) := by
  rintro pins s σ H x v Q I rx ⟨m, C, a, d, C', hd, ra, e, k⟩
  cases a with
  | int i =>
    cases e
    cases ra.int_
    exact un_neg pins s σ H _ v Q I rx ⟨i, rfl, k _ m H (Step.refl _ _) hd Rep.int⟩
  | _ => cases e

/-! ### places -/
theorem atN_is (i : Int) (n : Nat) : atN i n = ixN n i := rfl
theorem atOf_is {α : Type} (xs : List α) (i : Int) : atOf xs i = atI xs i := rfl
theorem atI_rep {H : L2.Hp} {m : List Addr} {xs : List D} {vs : List V} {i : Int} {d : D} (r : Reps H m xs vs) (e : atOf xs i = some d) : ∃ v, atI vs i = some v ∧ Rep H m d v := by
  unfold atOf at e
  obtain ⟨k, e1, e2⟩ := Option.bind_eq_some_iff.mp e
  obtain ⟨v, h1, h2⟩ := r.get e2
  refine ⟨v, ?_, h2⟩
  unfold atI
  rw [← r.length, ← atN_is, e1]
  exact h1
theorem idxD_loc (lk : List Nat) (l : Nat) (i : D) (C : Hq) : idxD lk (.loc l) i C = (match C.get l with
    | some (.lst xs) => match i with
      | .int j => atOf xs j
      | _ => none
    | some (.dic kvs) => if kfit lk l kvs i then dget kvs i else none
    | _ => none) := rfl
theorem or_idx (hu : X.A.units + 65 < cLine) : IxR X (t2 g lk fun a b C => (idxD lk a b C).map fun d => (d, C)) := by
  rintro value slice pins s σ H x y v u Q I rx ry ⟨m, C, a, b, d, C', hd, ra, rb, e, k⟩ hs
  obtain ⟨c, e1, e2⟩ := Option.map_eq_some_iff.mp e
  cases e2
  cases a with
  | str t =>
    cases b with
    | int j =>
      obtain ⟨w, e2, rfl⟩ := Option.map_eq_some_iff.mp (show (atOf t j).map (fun c => D.str [c]) = some d from e1)
      have hl := ra.slen
      cases ra.str_
      cases rb.int_
      refine ix_seq value slice pins s σ H _ _ v u Q I rx ry (.inr (.inr ⟨Sx t, j, w, rfl, rfl, by rw [Sx_len, line_is]; omega, ?_, ?_⟩)) hs
      · rw [Sx_cps]
        exact e2
      · exact k (.str (Sx [w])) m H (Step.refl _ _) hd (Rep.str (by simp))
    | _ => cases e1
  | tup xs =>
    cases b with
    | int j =>
      obtain ⟨p, vs, rfl, ha, _, rs⟩ := ra.tup_
      cases rb.int_
      obtain ⟨w, h1, h2⟩ := atI_rep rs (show atOf xs j = some d from e1)
      exact ix_seq value slice pins s σ H _ _ v u Q I rx ry (.inr (.inl ⟨p, vs, j, w, rfl, rfl, SqT_of ha, h1, k w m H (Step.refl _ _) hd h2⟩)) hs
    | _ => cases e1
  | loc l =>
    obtain ⟨p, hp, rfl⟩ := ra.loc_
    rw [idxD_loc] at e1
    split at e1
    · rename_i xs q
      split at e1
      · rename_i j
        cases rb.int_
        obtain ⟨vs, q1, rs, _⟩ := hd.sql (K := X.K) (xs := xs) (by unfold asLst; rw [q]) hp
        obtain ⟨w, h1, h2⟩ := atI_rep rs e1
        exact ix_seq value slice pins s σ H _ _ v u Q I rx ry (.inl ⟨p, vs, j, w, rfl, rfl, q1, h1, k w m H (Step.refl _ _) hd h2⟩) hs
      · cases e1
    · rename_i kvs q
      split at e1
      · rename_i f
        cases rx
        obtain ⟨H2, t⟩ := dat_of (X := X) hd hp q rb f
        obtain ⟨o, g1, g2⟩ := t.get
        rw [e1] at g2
        cases o with
        | none => exact g2.elim
        | some w =>
          exact tail_any (dict_typeIs (t.inv I) g1) F.slot_dict_getitem.lookup (d_getItem (by omega) (t.inv I) g1 ry fun w' s' I' r' => ⟨w, H2, I', r', k w m H2 t.step t.held g2⟩) hs
      · cases e1
    · cases e1
  | _ => cases e1
end
end
end Q

set_option Elab.async false
set_option linter.all false
set_option maxRecDepth 100000
set_option maxHeartbeats 4000000
/-! Expressions of Q, put together. -/
namespace Q
noncomputable section
open PySem L2 PySem.Spec PyProof.Rows

/-- the slots -/
def Slt (H : L2.Hp) (m : List Addr) (ls : Sl) (σ : L2.St) : Prop := ls.length = σ.length ∧ ∀ (i : Nat) (d : D), ls[i]? = some (some d) → ∃ v, σ[i]? = some (some v) ∧ Rep H m d v
theorem Slt.step {H H' : L2.Hp} {m m' : List Addr} {ls : Sl} {σ : L2.St} (h : Slt H m ls σ) (s : Step m H m' H') : Slt H' m' ls σ :=
  ⟨h.1, fun i d e => let ⟨v, e', r⟩ := h.2 i d e; ⟨v, e', r.step s⟩⟩
abbrev EvE := Sl → Hq → R (D × Hq)
def tE (g : Stg) (lk : List Nat) (ev : EvE) : TE := fun σ H Q => ∃ m C ls d C', Held g lk m C H ∧ Slt H m ls σ ∧ ev ls C = .ok (d, C') ∧ ∀ v m' H', Step m H m' H' → Held g lk m' C' H' → Rep H' m' d v → Q v H'
def tT (g : Stg) (lk : List Nat) (ev : Sl → Hq → R (Bool × Hq)) : TT := fun σ H Q => ∃ m C ls k C', Held g lk m C H ∧ Slt H m ls σ ∧ ev ls C = .ok (k, C') ∧ ∀ m' H', Step m H m' H' → Held g lk m' C' H' → Q k H'
def tAs (g : Stg) (lk : List Nat) (ev : Sl → Hq → R (List D × Hq)) : TA := fun σ H Q => ∃ m C ls ds C', Held g lk m C H ∧ Slt H m ls σ ∧ ev ls C = .ok (ds, C') ∧ ∀ vs m' H', Step m H m' H' → Held g lk m' C' H' → Reps H' m' ds vs → Q vs H'
def evT (ev : EvE) : Sl → Hq → R (Bool × Hq) := fun ls C => (ev ls C).bind fun x => (R.of (tru x.2 x.1)).bind fun k => .ok (k, x.2)
theorem evT_mk {ev : EvE} {ls : Sl} {C C1 : Hq} {d : D} {k : Bool} (h : ev ls C = .ok (d, C1)) (e : tru C1 d = some k) : evT ev ls C = .ok (k, C1) := by
  unfold evT
  rw [h]
  show (R.of (tru C1 d)).bind _ = _
  rw [e]
  rfl
theorem evT_inv {ev : EvE} {ls : Sl} {C C1 : Hq} {k : Bool} (h : evT ev ls C = .ok (k, C1)) : ∃ d, ev ls C = .ok (d, C1) ∧ tru C1 d = some k := by
  obtain ⟨⟨d, C2⟩, e1, e⟩ := R.bind_eq_ok h
  obtain ⟨k', e2, e⟩ := R.bind_eq_ok e
  cases e
  exact ⟨d, e1, R.of_eq_ok e2⟩
structure PB (X : Cx) (g : Stg) (lk : List Nat) (x : PySem.Expr) (ev : EvE) : Prop where
  pe : PE X x (tE g lk ev)
  pt : PT X x (tT g lk (evT ev))
  pw : ∀ op vs p, x = .BoolOp op vs p → PW X x (tT g lk (evT ev))

section
variable {X : Cx} {g : Stg} {lk : List Nat}
theorem pe_mono {e : PySem.Expr} {t t' : TE} (h : PE X e t) (k : ∀ σ H Q, t' σ H Q → t σ H Q) : PE X e t' := ⟨fun pins s σ H Q I q => h.run pins s σ H Q I (k σ H Q q)⟩
theorem pt_mono {e : PySem.Expr} {t t' : TT} (h : PT X e t) (k : ∀ σ H Q, t' σ H Q → t σ H Q) : PT X e t' := ⟨fun pins s σ H Q I q => h.run pins s σ H Q I (k σ H Q q)⟩
theorem pw_mono {e : PySem.Expr} {t t' : TT} (h : PW X e t) (k : ∀ σ H Q, t' σ H Q → t σ H Q) : PW X e t' := ⟨fun w pins s σ H Q I q => h.run w pins s σ H Q I (k σ H Q q)⟩
theorem pa_mono {e : List PySem.Expr} {t t' : TA} (h : PA X e t) (k : ∀ σ H Q, t' σ H Q → t σ H Q) : PA X e t' := ⟨fun pos pins s σ H Q I q => h.run pos pins s σ H Q I (k σ H Q q)⟩
theorem pt_val_ {x : PySem.Expr} {ev : EvE} (h : PE X x (tE g lk ev)) (he : ∀ whole, isTrue x X.env whole = (do let v ← whole; standAt x.pos; holding [v] (truthy v))) : PT X x (tT g lk (evT ev)) := by
  refine pt_mono (pt_truth h he) fun σ H Q q => ?_
  obtain ⟨m, C, ls, k, C', hd, sl, e, q⟩ := q
  obtain ⟨d, e1, e2⟩ := evT_inv e
  exact ⟨m, C, ls, d, C', hd, sl, e1, fun v m' H' st hd' r => ⟨k, truV_of hd' r e2, q m' H' st hd'⟩⟩
/-- a form whose test is its value -/
theorem PB.of {x : PySem.Expr} {ev : EvE} (h : PE X x (tE g lk ev)) (he : ∀ whole, isTrue x X.env whole = (do let v ← whole; standAt x.pos; holding [v] (truthy v))) (hb : ∀ op vs p, x ≠ .BoolOp op vs p) : PB X g lk x ev :=
  ⟨h, pt_val_ h he, fun op vs p e => absurd e (hb op vs p)⟩

/-! ### leaves -/
theorem b_var {N : List Str} {sc : Scope} {i : Nat} {x : Str} {p : Pos} (hN : X.N[i]? = some x) (hv : Vis X.env.scope x) (h1 : (x == ("__debug__" : Str)) = false) (h2 : (x == ("__classdict__" : Str)) = false) :
    PB X g lk (.Name x p) (fun ls C => (R.of (getV ls i)).bind fun d => .ok (d, C)) := by
  refine PB.of (pe_mono (pe_var hN hv h1 h2) fun σ H Q q => ?_) (fun _ => rfl) (fun _ _ _ z => nomatch z)
  obtain ⟨m, C, ls, d, C', hd, sl, e, k⟩ := q
  obtain ⟨d', e1, e⟩ := R.bind_eq_ok e
  cases e
  have e2 := R.of_eq_ok e1
  unfold getV at e2
  split at e2
  · rename_i z
    cases e2
    obtain ⟨v, h3, h4⟩ := sl.2 i d z
    exact ⟨v, h3, k v m H (Step.refl _ _) hd h4⟩
  · cases e2
/-- a value that stands so in every heap -/
def Flat (d : D) (v : V) : Prop := ∀ H m, Rep H m d v
theorem b_val {x : PySem.Expr} {d : D} {v : V} (h : PE X x (tC v)) (hf : Flat d v) (he : ∀ whole, isTrue x X.env whole = (do let v ← whole; standAt x.pos; holding [v] (truthy v))) (hb : ∀ op vs p, x ≠ .BoolOp op vs p) : PB X g lk x (fun ls C => .ok (d, C)) := by
  refine PB.of (pe_mono h fun σ H Q q => ?_) he hb
  obtain ⟨m, C, ls, d', C', hd, sl, e, k⟩ := q
  cases e
  exact k v m H (Step.refl _ _) hd (hf _ _)

/-! ### operators -/
section
variable {a b c : PySem.Expr} {ea eb ec : EvE} {p : Pos}
theorem two {r : R2} {ev : D → D → Hq → Option (D × Hq)} {σ : L2.St} {H : L2.Hp} {Q : VK}
    (q : tE g lk (fun ls C => (ea ls C).bind fun x => (eb ls x.2).bind fun y => R.of (ev x.1 y.1 y.2)) σ H Q) : tOp (t2 g lk ev) (tE g lk ea) (tE g lk eb) σ H Q := by
  obtain ⟨m, C, ls, d, C', hd, sl, e, k⟩ := q
  obtain ⟨⟨x, C1⟩, e1, e⟩ := R.bind_eq_ok e
  obtain ⟨⟨y, C2⟩, e2, e⟩ := R.bind_eq_ok e
  have e3 := R.of_eq_ok e
  exact ⟨m, C, ls, x, C1, hd, sl, e1, fun v m1 H1 s1 d1 r1 => ⟨m1, C1, ls, y, C2, d1, sl.step s1, e2, fun u m2 H2 s2 d2 r2 =>
    ⟨m2, C2, x, y, d, C', d2, r1.step s2, r2, e3, fun w m3 H3 s3 d3 r3 => k w m3 H3 ((s1.trans s2).trans s3) d3 r3⟩⟩⟩
theorem b_bin {op : Operator} {ev : D → D → Hq → Option (D × Hq)} (ho : OpR X (binaryOp op) (t2 g lk ev)) (ha : PB X g lk a ea) (hb : PB X g lk b eb) :
    PB X g lk (.BinOp a op b p) (fun ls C => (ea ls C).bind fun x => (eb ls x.2).bind fun y => R.of (ev x.1 y.1 y.2)) :=
  PB.of (pe_mono (pe_op ho ha.pe hb.pe) fun σ H Q q => two (r := t2 g lk ev) q) (fun _ => rfl) (fun _ _ _ z => nomatch z)
theorem b_idx {ev : D → D → Hq → Option (D × Hq)} (ho : IxR X (t2 g lk ev)) (hs : PlainIx b) (ha : PB X g lk a ea) (hb : PB X g lk b eb) :
    PB X g lk (.Subscript a b p) (fun ls C => (ea ls C).bind fun x => (eb ls x.2).bind fun y => R.of (ev x.1 y.1 y.2)) :=
  PB.of (pe_mono (pe_ix ho ha.pe hb.pe hs) fun σ H Q q => two (r := t2 g lk ev) q) (fun _ => rfl) (fun _ _ _ z => nomatch z)
theorem R.map_of {α β : Type} {o : Option α} {f : α → β} {b : β} (e : R.of (o.map f) = .ok b) : ∃ a, o = some a ∧ f a = b := Option.map_eq_some_iff.mp (R.of_eq_ok e)
theorem cmp_b {ev : D → D → Hq → Option Bool} : (fun ls C => (ea ls C).bind fun x => (eb ls x.2).bind fun y => R.of ((ev x.1 y.1 y.2).map fun k => (D.bl k, y.2))) =
    (fun ls C => (ea ls C).bind fun x => (eb ls x.2).bind fun y => (R.of (ev x.1 y.1 y.2)).bind fun k => .ok (.bl k, y.2)) := by
  funext ls C
  congr 1
  funext x
  congr 1
  funext y
  cases ev x.1 y.1 y.2 <;> rfl
/-- the rule of a comparison -/
abbrev t2b (g : Stg) (lk : List Nat) (ev : D → D → Hq → Option Bool) : R2 := t2 g lk fun a b C => (ev a b C).map fun k => (.bl k, C)
theorem b_cmp {op : CmpOp} {ev : D → D → Hq → Option Bool} (ho : OpR X (compareOp op) (t2b g lk ev)) (hm : behindInMarks op b = false) (ha : PB X g lk a ea) (hb : PB X g lk b eb) :
    PB X g lk (.Compare a [op] [b] p) (fun ls C => (ea ls C).bind fun x => (eb ls x.2).bind fun y => (R.of (ev x.1 y.1 y.2)).bind fun k => .ok (.bl k, y.2)) := by
  refine ⟨pe_mono (pe_cmpR ho ha.pe hb.pe hm) fun σ H Q q => two (r := t2b g lk ev) (by rw [cmp_b]; exact q), pt_mono (pt_cmpR ho ha.pe hb.pe hm) fun σ H Q q => ?_, fun _ _ _ z => nomatch z⟩
  refine two (r := t2b g lk ev) ?_
  rw [cmp_b]
  obtain ⟨m, C, ls, k, C', hd, sl, e, k1⟩ := q
  obtain ⟨d, e1, e2⟩ := evT_inv e
  refine ⟨m, C, ls, d, C', hd, sl, e1, fun v m' H' st hd' r => ?_⟩
  obtain ⟨⟨x, C2⟩, f1, f⟩ := R.bind_eq_ok e1
  obtain ⟨⟨y, C3⟩, f2, f⟩ := R.bind_eq_ok f
  obtain ⟨c, f3, f⟩ := R.bind_eq_ok f
  cases f
  cases r.bl_
  cases (show some c = some k from e2)
  exact ⟨k, rfl, k1 m' H' st hd'⟩
theorem b_chn {op op' : CmpOp} {ev ev' : D → D → Hq → Option Bool} (ho : OpR X (compareOp op) (t2b g lk ev)) (ho' : OpR X (compareOp op') (t2b g lk ev')) (hm : lastMarks [op, op'] [b, c] = false) (ha : PB X g lk a ea) (hb : PB X g lk b eb) (hc : PB X g lk c ec) :
    PB X g lk (.Compare a [op, op'] [b, c] p) (fun ls C => (ea ls C).bind fun x => (eb ls x.2).bind fun y => (R.of (ev x.1 y.1 y.2)).bind fun k =>
      if k then (ec ls y.2).bind fun z => (R.of (ev' y.1 z.1 z.2)).bind fun m => .ok (.bl m, z.2) else .ok (.bl false, y.2)) := by
  have main : ∀ σ H Q, tE g lk (fun ls C => (ea ls C).bind fun x => (eb ls x.2).bind fun y => (R.of (ev x.1 y.1 y.2)).bind fun k =>
      if k then (ec ls y.2).bind fun z => (R.of (ev' y.1 z.1 z.2)).bind fun m => .ok (.bl m, z.2) else .ok (.bl false, y.2)) σ H Q → tChain (t2b g lk ev) (t2b g lk ev') (tE g lk ea) (tE g lk eb) (tE g lk ec) σ H Q := by
    intro σ H Q q
    obtain ⟨m, C, ls, d, C', hd, sl, e, k⟩ := q
    obtain ⟨⟨x, C1⟩, e1, e⟩ := R.bind_eq_ok e
    obtain ⟨⟨y, C2⟩, e2, e⟩ := R.bind_eq_ok e
    obtain ⟨c1, e3, e⟩ := R.bind_eq_ok e
    have e3 := R.of_eq_ok e3
    refine ⟨m, C, ls, x, C1, hd, sl, e1, fun v m1 H1 s1 d1 r1 => ⟨m1, C1, ls, y, C2, d1, sl.step s1, e2, fun u m2 H2 s2 d2 r2 =>
      ⟨m2, C2, x, y, .bl c1, C2, d2, r1.step s2, r2, by dsimp only at e3 ⊢; rw [e3]; rfl, fun w m3 H3 s3 d3 r3 => ⟨c1, r3.bl_, ?_⟩⟩⟩⟩
    cases c1 with
    | false =>
      cases e
      exact k _ m3 H3 ((s1.trans s2).trans s3) d3 Rep.bl
    | true =>
      obtain ⟨⟨z, C3⟩, e4, e⟩ := R.bind_eq_ok e
      obtain ⟨c2, e5, e⟩ := R.bind_eq_ok e
      cases e
      have e5 := R.of_eq_ok e5
      exact ⟨m3, C2, ls, z, C3, d3, sl.step ((s1.trans s2).trans s3), e4, fun w4 m4 H4 s4 d4 r4 => ⟨m4, C3, y, z, .bl c2, C3, d4, (r2.step s3).step s4, r4, by dsimp only at e5 ⊢; rw [e5]; rfl,
        fun w5 m5 H5 s5 d5 r5 => k w5 m5 H5 ((((s1.trans s2).trans s3).trans s4).trans s5) d5 r5⟩⟩
  refine ⟨pe_mono (pe_chain ho ho' ha.pe hb.pe hc.pe hm) main, pt_mono (pt_chain ho ho' ha.pe hb.pe hc.pe hm) fun σ H Q q => ?_, fun _ _ _ z => nomatch z⟩
  refine main σ H _ ?_
  obtain ⟨m, C, ls, k, C', hd, sl, e, k1⟩ := q
  obtain ⟨d, e1, e2⟩ := evT_inv e
  refine ⟨m, C, ls, d, C', hd, sl, e1, fun v m' H' st hd' r => ?_⟩
  have hbl : ∃ c, d = .bl c := by
    obtain ⟨⟨x, C2⟩, f1, f⟩ := R.bind_eq_ok e1
    obtain ⟨⟨y, C3⟩, f2, f⟩ := R.bind_eq_ok f
    obtain ⟨c, f3, f⟩ := R.bind_eq_ok f
    cases c with
    | false => cases f; exact ⟨_, rfl⟩
    | true =>
      obtain ⟨z, f4, f⟩ := R.bind_eq_ok f
      obtain ⟨c, f5, f⟩ := R.bind_eq_ok f
      cases f
      exact ⟨_, rfl⟩
  obtain ⟨c, rfl⟩ := hbl
  cases r.bl_
  cases (show some c = some k from e2)
  exact ⟨k, rfl, k1 m' H' st hd'⟩
theorem b_neg {ev : D → Option D} (ho : UnR X (unaryOp .USub) (t1 g lk fun a C => (ev a).map fun d => (d, C))) (ha : PB X g lk a ea) : PB X g lk (.UnaryOp .USub a p) (fun ls C => (ea ls C).bind fun x => (R.of (ev x.1)).bind fun d => .ok (d, x.2)) := by
  refine PB.of (pe_mono (pe_un ho ha.pe) fun σ H Q q => ?_) (fun _ => rfl) (fun _ _ _ z => nomatch z)
  obtain ⟨m, C, ls, d, C', hd, sl, e, k⟩ := q
  obtain ⟨⟨x, C1⟩, e1, e⟩ := R.bind_eq_ok e
  obtain ⟨d', e2, e⟩ := R.bind_eq_ok e
  cases e
  have e2 := R.of_eq_ok e2
  exact ⟨m, C, ls, x, C1, hd, sl, e1, fun v m1 H1 s1 d1 r1 => ⟨m1, C1, x, d, C1, d1, r1, by dsimp only at e2 ⊢; rw [e2]; rfl, fun w m2 H2 s2 d2 r2 => k w m2 H2 (s1.trans s2) d2 r2⟩⟩
/-! ### and, or, not, if -/
theorem tE_bind {ev : EvE} {f : Sl → D × Hq → R (D × Hq)} {σ : L2.St} {H : L2.Hp} {Q : VK} (q : tE g lk (fun ls C => (ev ls C).bind (f ls)) σ H Q) :
    ∃ m C ls x C1 d C', Held g lk m C H ∧ Slt H m ls σ ∧ ev ls C = .ok (x, C1) ∧ f ls (x, C1) = .ok (d, C') ∧ ∀ v m' H', Step m H m' H' → Held g lk m' C' H' → Rep H' m' d v → Q v H' := by
  obtain ⟨m, C, ls, d, C', hd, sl, e, k⟩ := q
  obtain ⟨⟨x, C1⟩, e1, e⟩ := R.bind_eq_ok e
  exact ⟨m, C, ls, x, C1, d, C', hd, sl, e1, e, k⟩
def evAnd (ea eb : EvE) : EvE := fun ls C => (ea ls C).bind fun x => (R.of (tru x.2 x.1)).bind fun k => if k then eb ls x.2 else .ok x
def evOr (ea eb : EvE) : EvE := fun ls C => (ea ls C).bind fun x => (R.of (tru x.2 x.1)).bind fun k => if k then .ok x else eb ls x.2
def evNot (ea : EvE) : EvE := fun ls C => (ea ls C).bind fun x => (R.of (tru x.2 x.1)).bind fun k => .ok (.bl (!k), x.2)
def evIf (ec ea eb : EvE) : EvE := fun ls C => (ec ls C).bind fun x => (R.of (tru x.2 x.1)).bind fun k => if k then ea ls x.2 else eb ls x.2
/-- the second part of and, or: the expression behind -/
theorem b_and {y : PySem.Expr} {rest : List PySem.Expr} (ha : PB X g lk a ea) (hb : PE X (.BoolOp .And (y :: rest) p) (tE g lk eb)) (hw : PW X (.BoolOp .And (y :: rest) p) (tT g lk (evT eb))) : PB X g lk (.BoolOp .And (a :: y :: rest) p) (evAnd ea eb) := by
  have w : PW X (.BoolOp .And (a :: y :: rest) p) (tT g lk (evT (evAnd ea eb))) := by
    refine pw_mono (pw_and ha.pt hw) fun σ H Q q => ?_
    obtain ⟨m, C, ls, k, C', hd, sl, e, k1⟩ := q
    obtain ⟨d, e1, e2⟩ := evT_inv e
    obtain ⟨⟨x, C2⟩, f1, f⟩ := R.bind_eq_ok e1
    obtain ⟨c, f2, f⟩ := R.bind_eq_ok f
    have f2 := R.of_eq_ok f2
    refine ⟨m, C, ls, c, C2, hd, sl, evT_mk f1 f2, fun m1 H1 s1 d1 => ?_⟩
    cases c with
    | true =>
      exact ⟨m1, C2, ls, k, C', d1, sl.step s1, evT_mk (show eb ls C2 = .ok (d, C') from f) e2, fun m2 H2 s2 d2 => k1 m2 H2 (s1.trans s2) d2⟩
    | false =>
      cases f
      have : k = false := Option.some.inj (e2.symm.trans f2)
      subst this
      exact k1 m1 H1 s1 d1
  refine ⟨pe_mono (pe_andT ha.pe hb) fun σ H Q q => ?_, w.pt, fun _ _ _ _ => w⟩
  obtain ⟨m, C, ls, x, C1, d, C', hd, sl, e1, e, k⟩ := tE_bind q
  obtain ⟨c, e2, e⟩ := R.bind_eq_ok e
  refine ⟨m, C, ls, x, C1, hd, sl, e1, fun v m1 H1 s1 d1 r1 => ⟨c, truV_of d1 r1 (R.of_eq_ok e2), ?_⟩⟩
  cases c with
  | true => exact ⟨m1, C1, ls, d, C', d1, sl.step s1, e, fun v m2 H2 s2 d2 r2 => k v m2 H2 (s1.trans s2) d2 r2⟩
  | false => cases e; exact k v m1 H1 s1 d1 r1
theorem b_or {y : PySem.Expr} {rest : List PySem.Expr} (ha : PB X g lk a ea) (hb : PE X (.BoolOp .Or (y :: rest) p) (tE g lk eb)) (hw : PW X (.BoolOp .Or (y :: rest) p) (tT g lk (evT eb))) : PB X g lk (.BoolOp .Or (a :: y :: rest) p) (evOr ea eb) := by
  have w : PW X (.BoolOp .Or (a :: y :: rest) p) (tT g lk (evT (evOr ea eb))) := by
    refine pw_mono (pw_or ha.pt hw) fun σ H Q q => ?_
    obtain ⟨m, C, ls, k, C', hd, sl, e, k1⟩ := q
    obtain ⟨d, e1, e2⟩ := evT_inv e
    obtain ⟨⟨x, C2⟩, f1, f⟩ := R.bind_eq_ok e1
    obtain ⟨c, f2, f⟩ := R.bind_eq_ok f
    have f2 := R.of_eq_ok f2
    refine ⟨m, C, ls, c, C2, hd, sl, evT_mk f1 f2, fun m1 H1 s1 d1 => ?_⟩
    cases c with
    | false =>
      exact ⟨m1, C2, ls, k, C', d1, sl.step s1, evT_mk (show eb ls C2 = .ok (d, C') from f) e2, fun m2 H2 s2 d2 => k1 m2 H2 (s1.trans s2) d2⟩
    | true =>
      cases f
      have : k = true := Option.some.inj (e2.symm.trans f2)
      subst this
      exact k1 m1 H1 s1 d1
  refine ⟨pe_mono (pe_orT ha.pe hb) fun σ H Q q => ?_, w.pt, fun _ _ _ _ => w⟩
  obtain ⟨m, C, ls, x, C1, d, C', hd, sl, e1, e, k⟩ := tE_bind q
  obtain ⟨c, e2, e⟩ := R.bind_eq_ok e
  refine ⟨m, C, ls, x, C1, hd, sl, e1, fun v m1 H1 s1 d1 r1 => ⟨c, truV_of d1 r1 (R.of_eq_ok e2), ?_⟩⟩
  cases c with
  | false => exact ⟨m1, C1, ls, d, C', d1, sl.step s1, e, fun v m2 H2 s2 d2 r2 => k v m2 H2 (s1.trans s2) d2 r2⟩
  | true => cases e; exact k v m1 H1 s1 d1 r1
theorem b_not (ha : PB X g lk a ea) : PB X g lk (.UnaryOp .Not a p) (evNot ea) := by
  refine ⟨pe_mono (pe_notT ha.pe) fun σ H Q q => ?_, pt_mono (pt_not ha.pt) fun σ H Q q => ?_, fun _ _ _ z => nomatch z⟩
  · obtain ⟨m, C, ls, x, C1, d, C', hd, sl, e1, e, k⟩ := tE_bind q
    obtain ⟨c, e2, e⟩ := R.bind_eq_ok e
    cases e
    exact ⟨m, C, ls, x, C1, hd, sl, e1, fun v m1 H1 s1 d1 r1 => ⟨c, truV_of d1 r1 (R.of_eq_ok e2), k _ m1 H1 s1 d1 Rep.bl⟩⟩
  · obtain ⟨m, C, ls, k, C', hd, sl, e, k1⟩ := q
    obtain ⟨d, e1, e2⟩ := evT_inv e
    obtain ⟨⟨x, C2⟩, f1, f⟩ := R.bind_eq_ok e1
    obtain ⟨c, f2, f⟩ := R.bind_eq_ok f
    cases f
    cases (show some (!c) = some k from e2)
    exact ⟨m, C, ls, c, _, hd, sl, evT_mk f1 (R.of_eq_ok f2), k1⟩
theorem b_ife (hc : PB X g lk c ec) (ha : PB X g lk a ea) (hb : PB X g lk b eb) : PB X g lk (.IfExp c a b p) (evIf ec ea eb) := by
  refine ⟨pe_mono (pe_ifExp hc.pt ha.pe hb.pe) fun σ H Q q => ?_, ?_, fun _ _ _ z => nomatch z⟩
  · obtain ⟨m, C, ls, x, C1, d, C', hd, sl, e1, e, k⟩ := tE_bind q
    obtain ⟨c, e2, e⟩ := R.bind_eq_ok e
    refine ⟨m, C, ls, c, C1, hd, sl, evT_mk e1 (R.of_eq_ok e2), fun m1 H1 s1 d1 => ?_⟩
    cases c with
    | true => exact ⟨m1, C1, ls, d, C', d1, sl.step s1, e, fun v m2 H2 s2 d2 r2 => k v m2 H2 (s1.trans s2) d2 r2⟩
    | false => exact ⟨m1, C1, ls, d, C', d1, sl.step s1, e, fun v m2 H2 s2 d2 r2 => k v m2 H2 (s1.trans s2) d2 r2⟩
  · refine ⟨fun pins s σ H Q I q => ?_⟩
    obtain ⟨m, C, ls, k, C', hd, sl, e, k1⟩ := q
    obtain ⟨d, e1, e2⟩ := evT_inv e
    obtain ⟨⟨x, C2⟩, f1, f⟩ := R.bind_eq_ok e1
    obtain ⟨c1, f2, f⟩ := R.bind_eq_ok f
    show wpAny _ _ (isTrue c X.env (eval c X.env) >>= fun z => if z = true then isTrue a X.env (eval a X.env) else isTrue b X.env (eval b X.env)) _ _ _
    refine wpAny_bind (thn (hc.pt.run pins s σ H (fun z H1 => ∃ m1, Step m H m1 H1 ∧ Held g lk m1 C2 H1 ∧ z = c1) I ⟨m, C, ls, c1, C2, hd, sl, evT_mk f1 (R.of_eq_ok f2), fun m1 H1 s1 d1 => ⟨m1, s1, d1, rfl⟩⟩) ?_)
    rintro z s1 ⟨H1, I1, m1, st1, d1, rfl⟩
    cases z with
    | true => exact ha.pt.run pins s1 σ H1 Q I1 ⟨m1, C2, ls, k, C', d1, sl.step st1, evT_mk (show ea ls C2 = .ok (d, C') from f) e2, fun m2 H2 s2 d2 => k1 m2 H2 (st1.trans s2) d2⟩
    | false => exact hb.pt.run pins s1 σ H1 Q I1 ⟨m1, C2, ls, k, C', d1, sl.step st1, evT_mk (show eb ls C2 = .ok (d, C') from f) e2, fun m2 H2 s2 d2 => k1 m2 H2 (st1.trans s2) d2⟩
end

/-! ### arguments, displays -/
section
variable {e : PySem.Expr} {es : List PySem.Expr} {ev : EvE} {evs : Sl → Hq → R (List D × Hq)} {p : Pos}
theorem as_nil : PA X [] (tAs g lk fun ls C => .ok ([], C)) := pa_mono pa_nil fun σ H Q q => by
  obtain ⟨m, C, ls, ds, C', hd, sl, e, k⟩ := q
  cases e
  exact k [] m H (Step.refl _ _) hd .nil
theorem as_cons (ha : PB X g lk e ev) (hr : PA X es (tAs g lk evs)) (hs : starEach (e :: es) X.env = (false, eval e X.env) :: starEach es X.env) :
    PA X (e :: es) (tAs g lk fun ls C => (ev ls C).bind fun x => (evs ls x.2).bind fun y => .ok (x.1 :: y.1, y.2)) := pa_mono (pa_cons ha.pe hr hs) fun σ H Q q => by
  obtain ⟨m, C, ls, ds, C', hd, sl, e, k⟩ := q
  obtain ⟨⟨x, C1⟩, e1, e⟩ := R.bind_eq_ok e
  obtain ⟨⟨y, C2⟩, e2, e⟩ := R.bind_eq_ok e
  cases e
  exact ⟨m, C, ls, x, C1, hd, sl, e1, fun v m1 H1 s1 d1 r1 => ⟨m1, C1, ls, y, _, d1, sl.step s1, e2, fun vs m2 H2 s2 d2 r2 => k _ m2 H2 (s1.trans s2) d2 (.cons (r1.step s2) r2)⟩⟩
theorem b_tup {n : Nat} (h : PA X es (tAs g lk evs)) (hl : ∀ ls C ds C', evs ls C = .ok (ds, C') → ds.length ≤ 1000) : PB X g lk (.Tuple es n p) (fun ls C => (evs ls C).bind fun x => .ok (.tup x.1, x.2)) := by
  refine PB.of (pe_mono (pe_tup h) fun σ H Q q => ?_) (fun _ => rfl) (fun _ _ _ z => nomatch z)
  obtain ⟨m, C, ls, d, C', hd, sl, e, k⟩ := q
  obtain ⟨⟨ds, C1⟩, e1, e⟩ := R.bind_eq_ok e
  cases e
  refine ⟨m, C, ls, ds, _, hd, sl, e1, fun vs m1 H1 s1 d1 r1 => ?_⟩
  have h1 := hl _ _ _ _ e1
  have h2 := r1.length
  exact ⟨by rw [line_is]; omega, d1.newT (by omega) r1 fun v m2 H2 s2 d2 r2 => k v m2 H2 (s1.trans s2) d2 r2⟩
theorem b_lst (h : PA X es (tAs g lk evs)) (hl : ∀ ls C ds C', evs ls C = .ok (ds, C') → ds.length ≤ 1000) : PB X g lk (.List es p) (fun ls C => (evs ls C).bind fun x => .ok (newL x.2 (.lst x.1))) := by
  refine PB.of (pe_mono (pe_lst h) fun σ H Q q => ?_) (fun _ => rfl) (fun _ _ _ z => nomatch z)
  obtain ⟨m, C, ls, d, C', hd, sl, e, k⟩ := q
  obtain ⟨⟨ds, C1⟩, e1, e⟩ := R.bind_eq_ok e
  cases e
  refine ⟨m, C, ls, ds, C1, hd, sl, e1, fun vs m1 H1 s1 d1 r1 => ?_⟩
  have h1 := hl _ _ _ _ e1
  have h2 := r1.length
  exact ⟨by rw [line_is]; omega, d1.newL (K := X.K) r1 fun v m2 H2 s2 d2 r2 => k v m2 H2 (s1.trans s2) d2 r2⟩
end
end
end
end Q

set_option Elab.async false
set_option linter.all false
set_option maxRecDepth 100000
set_option maxHeartbeats 4000000
/-! Slices, attributes, calls of Q. -/
namespace Q
noncomputable section
open PySem L2 PySem.Spec PyProof.Rows

/-! ### no star, no super -/
def noStar : PySem.Expr → Bool
  | .Starred _ _ => false
  | _ => true
theorem starEach_no {e : PySem.Expr} {es : List PySem.Expr} {env : Env} (h : noStar e = true) : starEach (e :: es) env = (false, eval e env) :: starEach es env := by
  cases e <;> first | rfl | cases h
theorem star_any {es : List PySem.Expr} {env : Env} {pos : Pos} : es.all noStar = true → (backTo pos (starEach es env)).any (·.1) = false ∧ (backTo pos (starEach es env)).all (!·.1) = true := by
  induction es with
  | nil => intro _; exact ⟨rfl, rfl⟩
  | cons e es ih =>
    intro h
    rw [List.all_cons, Bool.and_eq_true] at h
    obtain ⟨h1, h2⟩ := ih h.2
    rw [starEach_no h.1]
    have e1 : backTo pos ((false, eval e env) :: starEach es env) = (false, eval e env) :: backTo pos (starEach es env) := rfl
    rw [e1, List.any_cons, List.all_cons, h1, h2]
    exact ⟨rfl, rfl⟩
/-- not super() -/
def noSuper : PySem.Expr → Bool
  | .Call _ _ _ _ => false
  | _ => true
theorem base_no {e : PySem.Expr} {f : Str} {env : Env} {whole : Sem Value} (h : noSuper e = true) : attributeBase e f env whole = whole := by
  cases e <;> first | rfl | cases h
/-- a call whose callee is an attribute, or a call with arguments: super() takes none -/
def okBase : PySem.Expr → Bool
  | .Call (.Name _ _) [] [] _ => false
  | _ => true
theorem base_ok {e : PySem.Expr} {f : Str} {env : Env} {whole : Sem Value} (h : okBase e = true) : attributeBase e f env whole = whole := by
  unfold okBase at h
  split at h
  · cases h
  · rename_i hn
    unfold attributeBase
    split
    · rename_i id p1 p2
      exact absurd rfl (hn id p1 p2)
    · rfl

section
variable {X : Cx} {g : Stg} {lk : List Nat}
/-! ### slices -/
theorem clamp_is (i : Int) (n d : Nat) : clampI i n = HT.sIx n d (some i) := rfl
theorem cut_is {α : Type} (xs : List α) (lo hi : Option Int) : cutL xs lo hi = (xs.drop (HT.sIx xs.length 0 lo)).take (HT.sIx xs.length xs.length hi - HT.sIx xs.length 0 lo) := by
  cases lo <;> cases hi <;> rfl
theorem cut_len {α : Type} (xs : List α) (lo hi : Option Int) : (cutL xs lo hi).length ≤ xs.length := by
  rw [cut_is, List.length_take, List.length_drop]
  omega
theorem cut_all {α : Type} {xs : List α} {lo hi : Option Int} (h : HT.sIx xs.length 0 lo = 0 ∧ HT.sIx xs.length xs.length hi = xs.length) : cutL xs lo hi = xs := by
  rw [cut_is, h.1, h.2]
  simp
theorem rep_cut {H : L2.Hp} {m : List Addr} {xs : List D} {vs : List V} (r : Reps H m xs vs) (lo hi : Option Int) : Reps H m (cutL xs lo hi) (cutV vs lo hi) := by
  rw [cut_is]
  unfold cutV
  rw [← r.length]
  exact (r.drop _).take _
theorem cutS_is (s : List Nat) (lo hi : Option Int) : cutS (Sx s) lo hi = Sx (cutL s lo hi) := by
  unfold cutS
  rw [cut_is, Sx_len, Sx_cps]
/-- the rule of a slice -/
def t3 (g : Stg) (lk : List Nat) : V → Option Int → Option Int → L2.Hp → VK → Prop := fun x lo hi H Q => ∃ m C a d C', Held g lk m C H ∧ Rep H m a x ∧ slcD a lo hi C = some (d, C') ∧
  ∀ v m' H', Step m H m' H' → Held g lk m' C' H' → Rep H' m' d v → Q v H'
theorem or_slc : L2.SlR X (t3 g lk) := by
  rintro pins s σ H x v vl vu lo hi sl Q I rx hs pl pu ⟨m, C, a, d, C', hd, ra, e, k⟩
  cases a with
  | str t =>
    cases e
    have hl := ra.slen
    cases ra.str_
    refine sl_str pins s σ H _ v vl vu lo hi sl Q I rx hs pl pu ⟨Sx t, rfl, by rw [Sx_len, line_is]; omega, ?_⟩
    rw [cutS_is]
    exact k _ m H (Step.refl _ _) hd (Rep.str (Nat.le_trans (cut_len _ _ _) hl))
  | tup xs =>
    cases e
    obtain ⟨p, vs, rfl, ha, hl, rs⟩ := ra.tup_
    have hlen := rs.length
    refine sl_tupA pins s σ H _ v vl vu lo hi sl Q I rx hs pl pu ⟨p, vs, rfl, SqT_of ha, fun hw => ?_, fun hw => ?_⟩
    · rw [← hlen] at hw
      rw [cut_all hw] at k
      exact k _ m H (Step.refl _ _) hd (Rep.tup ha hl rs)
    · exact hd.newT (Nat.le_trans (cutV_length _ _ _) hl) (rep_cut rs lo hi) k
  | loc l =>
    obtain ⟨xs, e1, e2⟩ := Option.map_eq_some_iff.mp (show (asLst C l).map (fun xs => newL C (.lst (cutL xs lo hi))) = some (d, C') from e)
    cases e2
    obtain ⟨p, hp, rfl⟩ := ra.loc_
    obtain ⟨vs, q1, rs, _⟩ := hd.sql (K := X.K) e1 hp
    exact sl_list pins s σ H _ v vl vu lo hi sl Q I rx hs pl pu ⟨p, vs, rfl, q1, hd.newL (K := X.K) (rep_cut rs lo hi) k⟩
  | _ => cases e
section
variable {a b c : PySem.Expr} {ea eb ec : EvE} {p p2 : Pos}
theorem asInt_is {H : L2.Hp} {m : List Addr} {d : D} {v : V} {i : Int} (r : Rep H m d v) (e : asInt d = some i) : v = .int i := by
  cases d with
  | int j => cases e; exact r.int_
  | _ => cases e
theorem b_slo (ha : PB X g lk a ea) (hb : PB X g lk b eb) : PB X g lk (.Subscript a (.Slice (some b) none none p2) p) (fun ls C => (ea ls C).bind fun x => (eb ls x.2).bind fun y => (R.of (asInt y.1)).bind fun i => R.of (slcD x.1 (some i) none y.2)) := by
  refine PB.of (pe_mono (pe_slice (or_slc (g := g) (lk := lk)) ha.pe (po_some hb.pe) po_none) fun σ H Q q => ?_) (fun _ => rfl) (fun _ _ _ z => nomatch z)
  obtain ⟨m, C, ls, d, C', hd, sl, e, k⟩ := q
  obtain ⟨⟨x, C1⟩, e1, e⟩ := R.bind_eq_ok e
  obtain ⟨⟨y, C2⟩, e2, e⟩ := R.bind_eq_ok e
  obtain ⟨i, e3, e⟩ := R.bind_eq_ok e
  exact ⟨m, C, ls, x, C1, hd, sl, e1, fun v m1 H1 s1 d1 r1 => ⟨m1, C1, ls, y, C2, d1, sl.step s1, e2, fun u m2 H2 s2 d2 r2 => ⟨i, asInt_is r2 (R.of_eq_ok e3),
    m2, C2, x, d, C', d2, r1.step s2, R.of_eq_ok e, fun w m3 H3 s3 d3 r3 => k w m3 H3 ((s1.trans s2).trans s3) d3 r3⟩⟩⟩
theorem b_shi (ha : PB X g lk a ea) (hb : PB X g lk b eb) : PB X g lk (.Subscript a (.Slice none (some b) none p2) p) (fun ls C => (ea ls C).bind fun x => (eb ls x.2).bind fun y => (R.of (asInt y.1)).bind fun i => R.of (slcD x.1 none (some i) y.2)) := by
  refine PB.of (pe_mono (pe_slice (or_slc (g := g) (lk := lk)) ha.pe po_none (po_some hb.pe)) fun σ H Q q => ?_) (fun _ => rfl) (fun _ _ _ z => nomatch z)
  obtain ⟨m, C, ls, d, C', hd, sl, e, k⟩ := q
  obtain ⟨⟨x, C1⟩, e1, e⟩ := R.bind_eq_ok e
  obtain ⟨⟨y, C2⟩, e2, e⟩ := R.bind_eq_ok e
  obtain ⟨i, e3, e⟩ := R.bind_eq_ok e
  exact ⟨m, C, ls, x, C1, hd, sl, e1, fun v m1 H1 s1 d1 r1 => ⟨m1, C1, ls, y, C2, d1, sl.step s1, e2, fun u m2 H2 s2 d2 r2 => ⟨i, asInt_is r2 (R.of_eq_ok e3),
    m2, C2, x, d, C', d2, r1.step s2, R.of_eq_ok e, fun w m3 H3 s3 d3 r3 => k w m3 H3 ((s1.trans s2).trans s3) d3 r3⟩⟩⟩
theorem b_slh (ha : PB X g lk a ea) (hb : PB X g lk b eb) (hc : PB X g lk c ec) : PB X g lk (.Subscript a (.Slice (some b) (some c) none p2) p) (fun ls C => (ea ls C).bind fun x => (eb ls x.2).bind fun y => (R.of (asInt y.1)).bind fun i =>
      (ec ls y.2).bind fun z => (R.of (asInt z.1)).bind fun j => R.of (slcD x.1 (some i) (some j) z.2)) := by
  refine PB.of (pe_mono (pe_slice (or_slc (g := g) (lk := lk)) ha.pe (po_some hb.pe) (po_some hc.pe)) fun σ H Q q => ?_) (fun _ => rfl) (fun _ _ _ z => nomatch z)
  obtain ⟨m, C, ls, d, C', hd, sl, e, k⟩ := q
  obtain ⟨⟨x, C1⟩, e1, e⟩ := R.bind_eq_ok e
  obtain ⟨⟨y, C2⟩, e2, e⟩ := R.bind_eq_ok e
  obtain ⟨i, e3, e⟩ := R.bind_eq_ok e
  obtain ⟨⟨z, C3⟩, e4, e⟩ := R.bind_eq_ok e
  obtain ⟨j, e5, e⟩ := R.bind_eq_ok e
  exact ⟨m, C, ls, x, C1, hd, sl, e1, fun v m1 H1 s1 d1 r1 => ⟨m1, C1, ls, y, C2, d1, sl.step s1, e2, fun u m2 H2 s2 d2 r2 => ⟨i, asInt_is r2 (R.of_eq_ok e3),
    m2, C2, ls, z, C3, d2, (sl.step s1).step s2, e4, fun u2 m3 H3 s3 d3 r3 => ⟨j, asInt_is r3 (R.of_eq_ok e5),
    m3, C3, x, d, C', d3, (r1.step s2).step s3, R.of_eq_ok e, fun w m4 H4 s4 d4 r4 => k w m4 H4 (((s1.trans s2).trans s3).trans s4) d4 r4⟩⟩⟩⟩
theorem b_rev {k1 : Nat} {q1 q2 q3 : Pos} (ha : PB X g lk a ea) : PB X g lk (.Subscript a (.Slice none none (some (.UnaryOp .USub (.Constant (.int 1) k1 q1) q2)) q3) p) (fun ls C => (ea ls C).bind fun x => R.of (revD x.1 x.2)) := by
  refine PB.of (pe_mono (pe_revL ha.pe) fun σ H Q q => ?_) (fun _ => rfl) (fun _ _ _ z => nomatch z)
  obtain ⟨m, C, ls, d, C', hd, sl, e, k⟩ := q
  obtain ⟨⟨x, C1⟩, e1, e⟩ := R.bind_eq_ok e
  have e := R.of_eq_ok e
  cases x with
  | loc l =>
    obtain ⟨xs, e2, e3⟩ := Option.map_eq_some_iff.mp (show (asLst C1 l).map (fun xs => newL C1 (.lst xs.reverse)) = some (d, C') from e)
    cases e3
    refine ⟨m, C, ls, .loc l, C1, hd, sl, e1, fun v m1 H1 s1 d1 r1 => ?_⟩
    obtain ⟨p, hp, rfl⟩ := r1.loc_
    obtain ⟨vs, q1, rs, _⟩ := d1.sql (K := X.K) e2 hp
    exact ⟨p, vs, rfl, q1, d1.newL (K := X.K) rs.rev fun w m2 H2 s2 d2 r2 => k w m2 H2 (s1.trans s2) d2 r2⟩
  | _ => cases e
end
end
end
end Q

set_option Elab.async false
set_option linter.all false
set_option maxRecDepth 100000
set_option maxHeartbeats 4000000
/-! Attributes and calls of Q. -/
namespace Q
noncomputable section
open PySem L2 PySem.Spec PyProof.Rows

/-- the promise of a def: what the reckoning says -/
def spF (g : Stg) (fn : List Nat → List D → Hq → R (D × Hq)) : Sp := fun vs H Q _ => ∃ lk m C as d C', Held g lk m C H ∧ Reps H m as vs ∧ fn lk as C = .ok (d, C') ∧
  ∀ v m' H', Step m H m' H' → Held g lk m' C' H' → Rep H' m' d v → Q v H'
/-- .. of a classmethod: its class comes first -/
def spC (g : Stg) (fn : List Nat → List D → Hq → R (D × Hq)) : Sp := fun vs H Q E => ∃ x r, vs = x :: r ∧ spF g fn r H Q E
/-- the promise of a method that is called by self and one name -/
def KwR (P : Program) (w : World) (K : PySem.W.Frag) (mg : Str → Option Value) (base : Heap) (k : Nat) (f : Addr) (kn : Str) (sp : Sp) : Prop :=
  ∀ (A : Around) (outer : List Env) (s : Shared) (H : L2.Hp) (u u2 : Value) (vs : List V) (Q : VK) (E : XK), Room k A → Env0 P w K mg base A outer s H → Vals vs [u, u2] → sp vs H Q E →
    codeAny (model P w) A (.call (.ref f) ⟨[u], [(kn, u2)]⟩) (CR CX0 outer P w H s Q E) s
/-- a classmethod, read off its class -/
structure CmOk (K : PySem.W.Frag) (C f : Addr) (m : Str) : Prop where
  ex : ∃ mc p, ClX.CRead K C mc ∧ ClX.CMet K C mc m p f
/-- what is known where a def runs -/
structure Wd (g : Stg) (G : Gam) (kk : Nat) (X : Cx) : Prop where
  room : Room (kk + 1) X.A
  fns : ∀ i, FnR X.prog X.w X.K X.mg X.base CX0 kk (g.fad i) (spF g (G.fn i))
  cls : ∀ c cl, G.cls c = some cl → Cls X.K (g.cad c)
  make_ : ∀ c cl, G.cls c = some cl → (∃ lk as C r, G.fn cl.init lk as C = .ok r) → Mk X.K (g.cad c) (g.fad cl.init)
  no : ∀ c cl f x, G.cls c = some cl → g.fld[f]? = some x → noAt cl f = true → NoAttr X.K (g.cad c) x
  meth : ∀ c cl m x f, G.cls c = some cl → g.fld[m]? = some x → getN cl.meths m = some f → (∃ lk as C r, G.fn f lk as C = .ok r) → Meth X.K (g.cad c) x (g.fad f)
  prop : ∀ c cl m x f, G.cls c = some cl → g.fld[m]? = some x → getN cl.props m = some f → ∃ p, PropOf X.K (g.cad c) x p (g.fad f)
  nd : g.fld.Nodup
  cfns : ∀ i, FnR X.prog X.w X.K X.mg X.base CX0 kk (g.fad i) (spC g (G.cfn i))
  cm : ∀ c cl m x f, G.cls c = some cl → g.fld[m]? = some x → getN cl.cmets m = some f → (∃ lk as C r, G.cfn f lk as C = .ok r) → CmOk X.K (g.cad c) (g.fad f) x
  kw : ∀ c cl m x f k, G.cls c = some cl → g.fld[m]? = some x → getN cl.meths m = some f → (x, k) ∈ g.kw → KwR X.prog X.w X.K X.mg X.base kk (g.fad f) k (spF g (G.fn f))
theorem Wd.same {g : Stg} {G : Gam} {kk : Nat} {X Y : Cx} (h : Wd g G kk X) (h1 : Y.prog = X.prog) (h2 : Y.w = X.w) (h3 : Y.K = X.K) (h4 : Y.mg = X.mg) (h5 : Y.base = X.base) (h6 : Y.A = X.A) : Wd g G kk Y := by
  refine ⟨?_, ?_, ?_, ?_, ?_, ?_, ?_, h.nd, ?_, ?_, ?_⟩
  · rw [h6]; exact h.room
  · rw [h1, h2, h3, h4, h5]; exact h.fns
  · rw [h3]; exact h.cls
  · rw [h3]; exact h.make_
  · rw [h3]; exact h.no
  · rw [h3]; exact h.meth
  · rw [h3]; exact h.prop
  · rw [h1, h2, h3, h4, h5]; exact h.cfns
  · rw [h3]; exact h.cm
  · rw [h1, h2, h3, h4, h5]; exact h.kw

/-! ### fields -/
section
variable {g : Stg} {lk : List Nat} {m : List Addr} {C : Hq} {H : L2.Hp}
theorem Held.ins {l c : Nat} {fs : List (Nat × D)} {a : Addr} (h : Held g lk m C H) (e : asIns C l = some (c, fs)) (hl : m[l]? = some a) : ∃ dx fs', H a = some (.ins (g.cad c) dx fs') ∧ FsR g H m fs fs' := by
  unfold asIns at e
  split at e
  · rename_i c' fs' q
    cases e
    obtain ⟨a', u, h1, h2, h3⟩ := h.at q
    rw [hl] at h1
    cases h1
    obtain ⟨_, dx, fs2, rfl, h4⟩ := h3
    exact ⟨dx, fs2, h2, h4⟩
  · cases e
theorem asIns_get {l c : Nat} {fs : List (Nat × D)} (e : asIns C l = some (c, fs)) : C.get l = some (.ins c fs) := by
  unfold asIns at e
  split at e
  · rename_i c' fs' q
    cases e
    exact q
  · cases e
theorem nodup_at {N : List Str} (h : N.Nodup) {i j : Nat} {x : Str} (a : N[i]? = some x) (b : N[j]? = some x) : i = j := nodup_ix h a b
theorem getF_cons (k f : Nat) (d : D) (r : List (Nat × D)) : getF ((k, d) :: r) f = cond (Nat.beq k f) (some d) (getF r f) := rfl
theorem putF_cons (k f : Nat) (d e : D) (r : List (Nat × D)) : putF ((k, d) :: r) f e = cond (Nat.beq k f) ((k, e) :: r) ((k, d) :: putF r f e) := rfl
theorem putL_cons (k f : Str) (d e : V) (r : List (Str × V)) : L2.putF f e ((k, d) :: r) = if k = f then (k, e) :: r else (k, d) :: L2.putF f e r := rfl
theorem beq_no {k f : Nat} (h : ¬ k = f) : Nat.beq k f = false := by
  cases z : Nat.beq k f with
  | false => rfl
  | true => exact absurd (Nat.eq_of_beq_eq_true z) h
theorem fs_get (nd : g.fld.Nodup) {f : Nat} {x : Str} (hx : g.fld[f]? = some x) : ∀ {fs : List (Nat × D)} {fs' : List (Str × V)} {d : D}, FsR g H m fs fs' → getF fs f = some d → ∃ v, fs'.lookup x = some v ∧ Rep H m d v
  | _, _, _, .nil, e => by cases e
  | _, _, d, .cons (a := p) (b := q) h t, e => by
    obtain ⟨k, d'⟩ := p
    obtain ⟨y, v⟩ := q
    rw [getF_cons] at e
    rw [List.lookup_cons]
    by_cases c : k = f
    · subst c
      have hy : y = x := Option.some.inj (h.1.symm.trans hx)
      subst hy
      rw [Nat.beq_refl] at e
      cases e
      refine ⟨v, ?_, h.2⟩
      simp
    · rw [beq_no c] at e
      obtain ⟨w, h1, h2⟩ := fs_get nd hx t e
      have hy : (x == y) = false := by
        rw [beq_eq_false_iff_ne]
        intro z
        subst z
        exact c (nodup_at nd h.1 hx)
      rw [hy]
      exact ⟨w, h1, h2⟩
theorem fs_put (nd : g.fld.Nodup) {f : Nat} {x : Str} {d : D} {v : V} (hx : g.fld[f]? = some x) (rv : Rep H m d v) : ∀ {fs : List (Nat × D)} {fs' : List (Str × V)}, FsR g H m fs fs' → FsR g H m (putF fs f d) (L2.putF x v fs')
  | _, _, .nil => .cons ⟨hx, rv⟩ .nil
  | _, _, .cons (a := p) (b := q) h t => by
    obtain ⟨k, d'⟩ := p
    obtain ⟨y, w⟩ := q
    rw [putF_cons, putL_cons]
    by_cases c : k = f
    · subst c
      have hy : y = x := Option.some.inj (h.1.symm.trans hx)
      subst hy
      rw [Nat.beq_refl, if_pos rfl]
      exact .cons ⟨hx, rv⟩ t
    · rw [beq_no c, if_neg fun z => c (nodup_at nd h.1 (by rw [show (y, w).1 = x from z]; exact hx))]
      exact .cons h (fs_put nd hx rv t)
theorem fs_none {x : Str} {f : Nat} (nd : g.fld.Nodup) (hx : g.fld[f]? = some x) : ∀ {fs : List (Nat × D)} {fs' : List (Str × V)}, FsR g H m fs fs' → getF fs f = none → fs'.lookup x = none
  | _, _, .nil, _ => rfl
  | _, _, .cons (a := p) (b := q) h t, e => by
    obtain ⟨k, d'⟩ := p
    obtain ⟨y, w⟩ := q
    rw [getF_cons] at e
    rw [List.lookup_cons]
    by_cases c : k = f
    · subst c
      rw [Nat.beq_refl] at e
      cases e
    · rw [beq_no c] at e
      have hy : (x == y) = false := by
        rw [beq_eq_false_iff_ne]
        intro z
        subst z
        exact c (nodup_at nd h.1 hx)
      rw [hy]
      exact fs_none nd hx t e
end

section
variable {X : Cx} {g : Stg} {G : Gam} {kk : Nat} {lk : List Nat}
/-- a property's value -/
theorem getprop_R {C p q a dx : Addr} {fs : List (Str × V)} {f : Str} {sp : Sp} {pins : List (Addr × Obj)} {σ : L2.St} {H : L2.Hp} {s : Shared} {Q : VK} {b : Bool} {E' : Value → Shared → Prop} (I : Inv X pins σ H s) (ea : H a = some (.ins C dx fs)) (c : Cls X.K C) (hp : PropOf X.K C f p q)
    (F : FnR X.prog X.w X.K X.mg X.base CX0 kk q sp) (hr : Room (kk + 1) X.A) (h : sp [.ref a] H Q E0) : wpAny (model X.prog X.w) X.A (getAttr (.ref a) f b) (EP X pins σ Q) E' s := by
  obtain ⟨mA, O, _, _, _, _⟩ := ins_get I.hok ea
  obtain ⟨od, J, _⟩ := O.look
  obtain ⟨rest, hrec⟩ := hp.rec_
  have I1 := I.tok (s.toks + 1)
  have hc : (PySem.W.clsIn X.K C).isSome = true := by
    obtain ⟨cd, hc, _⟩ := PySem.W.any_some c.hd
    rw [hc]
    rfl
  refine PySem.W.get_bind I.kIn J (PySem.W.plainGet_of (c.get f)).1 (PySem.W.findObj_data hc hp.at_ hp.get hp.tak) (PySem.W.plainGet_of (c.get f)).2 (wpAny_call (PySem.W.prop_get (s := { s with toks := s.toks + 1 }) I.kIn hrec ?_))
  refine codeAny_mono (F X.A.in1 X.stack { s with toks := s.toks + 1 } H [.ref a] [.ref a] Q E0 hr.in1 I1.env0.in1 (.cons rfl .nil) h) fun r s' hq => ?_
  cases r with
  | error er => exact False.elim hq
  | ok fl =>
    cases fl with
    | ret u =>
      obtain ⟨v, H', I3, rv, q3⟩ := I1.after hq
      show wpAny _ _ (handedOut u) _ _ _
      rw [PySem.W.handedOut_of (handed_of rv)]
      exact wpAny_pure ⟨v, H', I3, rv, q3⟩
    | next => exact False.elim hq
    | brk => exact False.elim hq
    | cont => exact False.elim hq
variable {e o : PySem.Expr} {es : List PySem.Expr} {ev ea : EvE} {evs : Sl → Hq → R (List D × Hq)} {p q pos apos : Pos}
def evFld (G : Gam) (lk : List Nat) (f : Nat) (ev : EvE) : EvE := fun ls C => (ev ls C).bind fun x => match x.1 with
    | .loc l => (R.of (asIns x.2 l)).bind fun p => (R.of (G.cls p.1)).bind fun cl => match getN cl.props f with
      | some g => G.fn g lk [x.1] x.2
      | none => if noAt cl f then (R.of (getF p.2 f)).bind fun d => .ok (d, x.2) else .no
    | _ => .no
theorem b_fld (W : Wd g G kk X) {f : Nat} {x : Str} (hx : g.fld[f]? = some x) (he : PB X g lk e ev) (hb : okBase e = true) : PB X g lk (.Attribute e x p) (evFld G lk f ev) := by
  refine PB.of ⟨fun pins s σ H Q I q => ?_⟩ (fun _ => rfl) (fun _ _ _ z => nomatch z)
  obtain ⟨m, C, ls, x1, C1, d, C', hd, sl, e1, e2, k⟩ := tE_bind q
  dsimp only at e2
  split at e2
  · rename_i l
    obtain ⟨⟨c, fs⟩, f1, e2⟩ := R.bind_eq_ok e2
    obtain ⟨cl, f2, e2⟩ := R.bind_eq_ok e2
    have f1 := R.of_eq_ok f1
    have f2 := R.of_eq_ok f2
    refine attr_of (base_ok hb) (thn (he.pe.run pins s σ H (fun v H1 => ∃ m1, Step m H m1 H1 ∧ Held g lk m1 C1 H1 ∧ Rep H1 m1 (.loc l) v) I ⟨m, C, ls, .loc l, C1, hd, sl, e1, fun v m1 H1 s1 d1 r1 => ⟨m1, s1, d1, r1⟩⟩) ?_)
    rintro u s1 ⟨v, H1, I1, rv, m1, st1, d1, r1⟩
    obtain ⟨a, ha, rfl⟩ := r1.loc_
    cases rv
    obtain ⟨dx, fs', h1, h2⟩ := d1.ins f1 ha
    cases hp : getN cl.props f with
    | some gi =>
      rw [hp] at e2
      obtain ⟨pp, hprop⟩ := W.prop c cl f x gi f2 hx hp
      exact getprop_R I1 h1 (W.cls c cl f2) hprop (W.fns gi) W.room ⟨lk, m1, C1, [.loc l], d, C', d1, .cons (Rep.loc ha) .nil, e2, fun v m2 H2 s2 d2 r2 => k v m2 H2 (st1.trans s2) d2 r2⟩
    | none =>
      rw [hp] at e2
      dsimp only at e2
      split at e2
      · rename_i hn
        obtain ⟨d', e3, e4⟩ := R.bind_eq_ok e2
        cases e4
        obtain ⟨v, h3, h4⟩ := fs_get W.nd hx h2 (R.of_eq_ok e3)
        exact getattr_ok I1 h1 (W.cls c cl f2) (W.no c cl f x f2 hx hn) h3 fun u s2 I2 ru => ⟨v, H1, I2, ru, k v m1 H1 st1 d1 h4⟩
      · cases e2
  · cases e2

/-! ### calls of defs -/
def evCall (G : Gam) (lk : List Nat) (i : Nat) (evs : Sl → Hq → R (List D × Hq)) : EvE := fun ls C => (evs ls C).bind fun x => G.fn i lk x.1 x.2
theorem b_call (W : Wd g G kk X) {i : Nat} {x : Str} (hg : Gl X x) (hm : X.mg x = some (.ref (g.fad i))) (hk : PySem.W.keepIn X.K (.ref (g.fad i)) = true) (hdb : (x == ("__debug__" : Str)) = false) (ha : PA X (e :: es) (tAs g lk evs)) (hs : (e :: es).all noStar = true) :
    PB X g lk (.Call (.Name x p) (e :: es) [] pos) (evCall G lk i evs) := by
  have hr := W.room.mono (Nat.le_succ kk)
  refine PB.of ⟨fun pins s σ H Q I q => ?_⟩ (fun _ => rfl) (fun _ _ _ z => nomatch z)
  obtain ⟨m, C, ls, d, C', hd, sl, e1, k⟩ := q
  obtain ⟨⟨ds, C1⟩, e1, e2⟩ := R.bind_eq_ok e1
  rw [List.all_cons, Bool.and_eq_true] at hs
  refine wpAny_Call_Name_kw (ld_glob I hg hm ?_ hdb)
  refine PySem.W.callWith_K (h₀ := X.base) I.ok.mod.kin hk (thn (ha.run pos pins s σ H (fun vs H1 => ∃ m1, Step m H m1 H1 ∧ Held g lk m1 C1 H1 ∧ Reps H1 m1 ds vs) I ⟨m, C, ls, ds, C1, hd, sl, e1, fun vs m1 H1 s1 d1 r1 => ⟨m1, s1, d1, r1⟩⟩)
    fun us s1 ⟨vs, H1, I1, r, m1, st1, d1, r1⟩ => ⟨I1.kIn, wpAny_call (run_fnR (W.fns i) hr (pass0 (X := X)) I1 r ⟨lk, m1, C1, ds, d, C', d1, r1, e2, fun v m2 H2 s2 d2 r2 => k v m2 H2 (st1.trans s2) d2 r2⟩)⟩) (starEach_no hs.1) (star_any hs.2).1
theorem b_call0 (W : Wd g G kk X) {i : Nat} {x : Str} (hg : Gl X x) (hm : X.mg x = some (.ref (g.fad i))) (hk : PySem.W.keepIn X.K (.ref (g.fad i)) = true) (hdb : (x == ("__debug__" : Str)) = false) :
    PB X g lk (.Call (.Name x p) [] [] pos) (evCall G lk i fun _ C => .ok ([], C)) := by
  have hr := W.room.mono (Nat.le_succ kk)
  refine PB.of ⟨fun pins s σ H Q I q => ?_⟩ (fun _ => rfl) (fun _ _ _ z => nomatch z)
  obtain ⟨m, C, ls, d, C', hd, sl, e1, k⟩ := q
  have e2 : G.fn i lk [] C = .ok (d, C') := e1
  refine wpAny_Call_Name_kw (ld_glob I hg hm ?_ hdb)
  exact PySem.W.callWith_K0 I.kIn hk (wpAny_call (run_fnR (us := []) (W.fns i) hr (pass0 (X := X)) I .nil ⟨lk, m, C, [], d, C', hd, .nil, e2, k⟩))

/-! ### instances made -/
def evMake (G : Gam) (lk : List Nat) (c : Nat) (evs : Sl → Hq → R (List D × Hq)) : EvE := fun ls C => (evs ls C).bind fun x => (R.of (G.cls c)).bind fun cl =>
      (G.fn cl.init lk (.loc x.2.n :: x.1) (x.2.push (.ins c []))).bind fun y => match y.1 with
        | .non => .ok (.loc x.2.n, y.2)
        | _ => .no
theorem make_run (W : Wd g G kk X) {c : Nat} {cl : Cl} {pins : List (Addr × Obj)} {σ : L2.St} {H1 : L2.Hp} {s1 : Shared} {Q : VK} {us : List Value} {vs : List V} {m1 : List Addr} {C1 C' : Hq} {ds : List D} {d : D} (hc : G.cls c = some cl) (I1 : Inv X pins σ H1 s1) (r : Vals vs us) (d1 : Held g lk m1 C1 H1) (r1 : Reps H1 m1 ds vs)
    (e : ((G.fn cl.init lk (.loc C1.n :: ds) (C1.push (.ins c []))).bind fun y => match y.1 with | .non => .ok (.loc C1.n, y.2) | _ => .no) = .ok (d, C')) (k : ∀ v m' H', Step m1 H1 m' H' → Held g lk m' C' H' → Rep H' m' d v → Q v H') :
    wpAny (model X.prog X.w) X.A (call (.ref (g.cad c)) us) (EP X pins σ Q) X.xe s1 := by
  obtain ⟨⟨y, C2⟩, e1, e2⟩ := R.bind_eq_ok e
  dsimp only at e2
  split at e2
  · cases e2
    have hin : m1[C1.n]? = none := by
      rw [← d1.len]
      simp
    refine StX.run_makeR (W.make_ c cl hc ⟨_, _, _, _, e1⟩) (W.fns cl.init) W.room (pass0 (X := X)) I1 r fun x dx hx hdx hne => ?_
    have d2 := d1.new (o := HO.own x) hdx
    have s2 := step_new (o := HO.own x) d1 hdx
    have hx2 : (upd H1 dx (.own x)) x = none := by
      rw [upd_ne (Ne.symm hne)]
      exact hx
    have s3 := step_push (o := HO.ins (g.cad c) dx []) d2 hx2
    have d3 := d2.push (o := HO.ins (g.cad c) dx []) (co := .ins c []) hx2 ⟨rfl, dx, [], rfl, .nil⟩
    have hat : (m1 ++ [x])[C1.n]? = some x := by
      rw [← d1.len]
      simp
    refine ⟨lk, m1 ++ [x], C1.push (.ins c []), .loc C1.n :: ds, .non, C', d3, .cons (Rep.loc hat) (r1.step (s2.trans s3)), e1, fun v m4 H4 s4 d4 r4 => ⟨r4.non_, ?_⟩⟩
    exact k _ m4 H4 ((s2.trans s3).trans s4) d4 (Rep.loc (s4.get hat))
  · cases e2
theorem b_make (W : Wd g G kk X) {c : Nat} {x : Str} (hg : Gl X x) (hm : X.mg x = some (.ref (g.cad c))) (hdb : (x == ("__debug__" : Str)) = false) (hk : PySem.W.keepIn X.K (.ref (g.cad c)) = true) (ha : PA X (e :: es) (tAs g lk evs)) (hs : (e :: es).all noStar = true) :
    PB X g lk (.Call (.Name x p) (e :: es) [] pos) (evMake G lk c evs) := by
  refine PB.of ⟨fun pins s σ H Q I q => ?_⟩ (fun _ => rfl) (fun _ _ _ z => nomatch z)
  obtain ⟨m, C, ls, d, C', hd, sl, e1, k⟩ := q
  obtain ⟨⟨ds, C1⟩, e1, e2⟩ := R.bind_eq_ok e1
  obtain ⟨cl, e3, e2⟩ := R.bind_eq_ok e2
  rw [List.all_cons, Bool.and_eq_true] at hs
  refine wpAny_Call_Name_kw (ld_glob I hg hm ?_ hdb)
  exact PySem.W.callWith_K (h₀ := X.base) I.ok.mod.kin hk (thn (ha.run pos pins s σ H (fun vs H1 => ∃ m1, Step m H m1 H1 ∧ Held g lk m1 C1 H1 ∧ Reps H1 m1 ds vs) I ⟨m, C, ls, ds, C1, hd, sl, e1, fun vs m1 H1 s1 d1 r1 => ⟨m1, s1, d1, r1⟩⟩)
    fun us s1 ⟨vs, H1, I1, r, m1, st1, d1, r1⟩ => ⟨I1.kIn, make_run W (R.of_eq_ok e3) I1 r d1 r1 e2 fun v m2 H2 s2 d2 r2 => k v m2 H2 (st1.trans s2) d2 r2⟩) (starEach_no hs.1) (star_any hs.2).1
theorem b_make0 (W : Wd g G kk X) {c : Nat} {x : Str} (hg : Gl X x) (hm : X.mg x = some (.ref (g.cad c))) (hdb : (x == ("__debug__" : Str)) = false) (hk : PySem.W.keepIn X.K (.ref (g.cad c)) = true) :
    PB X g lk (.Call (.Name x p) [] [] pos) (evMake G lk c fun _ C => .ok ([], C)) := by
  refine PB.of ⟨fun pins s σ H Q I q => ?_⟩ (fun _ => rfl) (fun _ _ _ z => nomatch z)
  obtain ⟨m, C, ls, d, C', hd, sl, e1, k⟩ := q
  obtain ⟨cl, e3, e2⟩ := R.bind_eq_ok (show ((R.of (G.cls c)).bind _) = .ok (d, C') from e1)
  refine wpAny_Call_Name_kw (ld_glob I hg hm ?_ hdb)
  exact PySem.W.callWith_K0 I.kIn hk (make_run (ds := []) W (R.of_eq_ok e3) I .nil hd .nil e2 k)
/-- C( *e) -/
def evMaks (G : Gam) (lk : List Nat) (c : Nat) (ev : EvE) : EvE := fun ls C => (ev ls C).bind fun x => (R.of (seqOf x.2 x.1)).bind fun xs => (R.of (G.cls c)).bind fun cl =>
      (G.fn cl.init lk (.loc x.2.n :: xs) (x.2.push (.ins c []))).bind fun y => match y.1 with
        | .non => .ok (.loc x.2.n, y.2)
        | _ => .no
theorem seq_of {H : L2.Hp} {m : List Addr} {C : Hq} {x : D} {v : V} {xs : List D} {K : PySem.W.Frag} (hd : Held g lk m C H) (r : Rep H m x v) (e : seqOf C x = some xs) : ∃ a vs, v = .ref a ∧ (SqT K H a vs ∨ SqL K H a vs) ∧ Reps H m xs vs := by
  cases x with
  | tup ys =>
    cases e
    obtain ⟨a, vs, rfl, ha, _, rs⟩ := r.tup_
    exact ⟨a, vs, rfl, .inl (SqT_of ha), rs⟩
  | loc l =>
    obtain ⟨a, ha, rfl⟩ := r.loc_
    obtain ⟨vs, q1, rs, _⟩ := hd.sql (K := K) (show asLst C l = some xs from e) ha
    exact ⟨a, vs, rfl, .inr q1, rs⟩
  | _ => cases e
theorem b_maks (W : Wd g G kk X) {c : Nat} {x : Str} (hg : Gl X x) (hm : X.mg x = some (.ref (g.cad c))) (hdb : (x == ("__debug__" : Str)) = false) (hk : PySem.W.keepIn X.K (.ref (g.cad c)) = true) (he : PB X g lk e ev) :
    PB X g lk (.Call (.Name x p) [.Starred e q] [] pos) (evMaks G lk c ev) := by
  refine PB.of ⟨fun pins s σ H Q I hq => ?_⟩ (fun _ => rfl) (fun _ _ _ z => nomatch z)
  obtain ⟨m, C, ls, d, C', hd, sl, e1, k⟩ := hq
  obtain ⟨⟨x1, C1⟩, e1, e2⟩ := R.bind_eq_ok e1
  obtain ⟨xs, e4, e2⟩ := R.bind_eq_ok e2
  obtain ⟨cl, e3, e2⟩ := R.bind_eq_ok e2
  refine wpAny_Call_Name_kw (ld_glob I hg hm ?_ hdb)
  refine PySem.W.callWith_S (h₀ := X.base) I.ok.mod.kin hk (thn (he.pe.run pins s σ H (fun v H1 => ∃ m1, Step m H m1 H1 ∧ Held g lk m1 C1 H1 ∧ Rep H1 m1 x1 v) I ⟨m, C, ls, x1, C1, hd, sl, e1, fun v m1 H1 s1 d1 r1 => ⟨m1, s1, d1, r1⟩⟩)
    fun v s1 ⟨y, H1, I1, ry, m1, st1, d1, r1⟩ => ?_) rfl
  obtain ⟨a, vs, rfl, hsq, rs⟩ := seq_of (K := X.K) d1 r1 (R.of_eq_ok e4)
  obtain rfl : v = Value.ref a := ry
  exact StX.star_any I1 hsq fun us s2 I2 rv => ⟨I2.kIn, make_run W (R.of_eq_ok e3) I2 rv d1 rs e2 fun v m2 H2 s2 d2 r2 => k v m2 H2 (st1.trans s2) d2 r2⟩

/-! ### methods -/
def evMeth (G : Gam) (lk : List Nat) (m : Nat) (ev : EvE) (evs : Sl → Hq → R (List D × Hq)) : EvE := fun ls C => (ev ls C).bind fun x => match x.1 with
    | .loc l => (R.of (asIns x.2 l)).bind fun p => (R.of (G.cls p.1)).bind fun cl => (R.of (getN cl.meths m)).bind fun g =>
        if (getF p.2 m).isNone then (evs ls x.2).bind fun y => G.fn g lk (x.1 :: y.1) y.2 else .no
    | _ => .no
theorem meth_form {es : List PySem.Expr} {env : Env} {x : Str} (hb : okBase o = true) (hs : es.all noStar = true) (hl : es.length < 29) (hline : (apos.endLine == pos.line) = true) :
    eval (.Call (.Attribute o x apos) es [] pos) env = (do
      let ov ← eval o env
      standAt apos.atName
      let (f, first) ← holding [ov] (getMethod ov x (do return (← importBound o env).getD true))
      callWith pos f first (backTo pos (starEach es env)) (backToKw pos (keywordEach [] env))) := by
  have hform : methodCallForm (es.length + ([] : List Keyword).length) (backTo pos (starEach es env)) (backToKw pos (keywordEach [] env)) = true := by
    unfold methodCallForm
    rw [(star_any hs).2]
    have hl' : decide (es.length + ([] : List Keyword).length + 0 < 30) = true := decide_eq_true (by simp; omega)
    exact hl'
  have hpos : methodCallPos true o env apos pos = pure pos := by
    unfold methodCallPos
    rw [hline]
    rfl
  rw [arm_eval_Call, base_ok hb]
  unfold methodCall
  rw [hform, hpos]
  rfl
theorem b_meth (W : Wd g G kk X) {f : Nat} {x : Str} (hx : g.fld[f]? = some x) (he : PB X g lk o ea) (hb : okBase o = true) (hl : (e :: es).length < 29) (hline : (apos.endLine == pos.line) = true) (ha : PA X (e :: es) (tAs g lk evs)) (hs : (e :: es).all noStar = true) :
    PB X g lk (.Call (.Attribute o x apos) (e :: es) [] pos) (evMeth G lk f ea evs) := by
  have hr := W.room.mono (Nat.le_succ kk)
  refine PB.of ⟨fun pins s σ H Q I q => ?_⟩ (fun _ => rfl) (fun _ _ _ z => nomatch z)
  obtain ⟨m, C, ls, x1, C1, d, C', hd, sl, e1, e2, k⟩ := tE_bind q
  dsimp only at e2
  split at e2
  · rename_i l
    obtain ⟨⟨c, fs⟩, f1, e2⟩ := R.bind_eq_ok e2
    obtain ⟨cl, f2, e2⟩ := R.bind_eq_ok e2
    obtain ⟨gi, f3, e2⟩ := R.bind_eq_ok e2
    have f1 := R.of_eq_ok f1
    have f2 := R.of_eq_ok f2
    have f3 := R.of_eq_ok f3
    split at e2
    · rename_i hn
      have hn : getF fs f = none := by simpa using hn
      obtain ⟨⟨ds, C2⟩, e3, e4⟩ := R.bind_eq_ok e2
      have hh := hs
      rw [List.all_cons, Bool.and_eq_true] at hs
      refine PySem.W.methodCall_KW (pl := _) (thn (he.pe.run pins s σ H (fun v H1 => ∃ m1, Step m H m1 H1 ∧ Held g lk m1 C1 H1 ∧ Rep H1 m1 (.loc l) v) I ⟨m, C, ls, .loc l, C1, hd, sl, e1, fun v m1 H1 s1 d1 r1 => ⟨m1, s1, d1, r1⟩⟩) ?_) (meth_form hb hh hl hline)
      rintro u s1 ⟨v, H1, I1, rv, m1, st1, d1, r1⟩
      obtain ⟨a, hat, rfl⟩ := r1.loc_
      obtain rfl : u = Value.ref a := rv
      obtain ⟨dx, fs', h1, h2⟩ := d1.ins f1 hat
      have M := W.meth c cl f x gi f2 hx f3 ⟨_, _, _, _, e4⟩
      refine getmeth_ok I1 h1 (W.cls c cl f2) M (fs_none W.nd hx h2 hn) ?_
      refine PySem.W.callWith_K (first := [.ref a]) (h₀ := X.base) I.ok.mod.kin M.kp (thn (ha.run pos pins s1 σ H1 (fun vs H2 => ∃ m2, Step m1 H1 m2 H2 ∧ Held g lk m2 C2 H2 ∧ Reps H2 m2 ds vs) I1 ⟨m1, C1, ls, ds, C2, d1, sl.step st1, e3, fun vs m2 H2 s2 d2 r2 => ⟨m2, s2, d2, r2⟩⟩)
        fun us s2 ⟨vs, H2, I2, r, m2, st2, d2, r2⟩ => ⟨I2.kIn, ?_⟩) (starEach_no hs.1) (star_any hs.2).1
      exact wpAny_call (run_fnR (us := .ref a :: us) (vs := .ref a :: vs) (W.fns gi) hr (pass0 (X := X)) I2 (.cons rfl r) ⟨lk, m2, C2, .loc l :: ds, d, C', d2, .cons (Rep.loc (st2.get hat)) r2, e4, fun v m3 H3 s3 d3 r3 => k v m3 H3 ((st1.trans st2).trans s3) d3 r3⟩)
    · cases e2
  · cases e2
theorem b_meth0 (W : Wd g G kk X) {f : Nat} {x : Str} (hx : g.fld[f]? = some x) (he : PB X g lk o ea) (hb : okBase o = true) (hline : (apos.endLine == pos.line) = true) :
    PB X g lk (.Call (.Attribute o x apos) [] [] pos) (evMeth G lk f ea fun _ C => .ok ([], C)) := by
  have hr := W.room.mono (Nat.le_succ kk)
  refine PB.of ⟨fun pins s σ H Q I q => ?_⟩ (fun _ => rfl) (fun _ _ _ z => nomatch z)
  obtain ⟨m, C, ls, x1, C1, d, C', hd, sl, e1, e2, k⟩ := tE_bind q
  dsimp only at e2
  split at e2
  · rename_i l
    obtain ⟨⟨c, fs⟩, f1, e2⟩ := R.bind_eq_ok e2
    obtain ⟨cl, f2, e2⟩ := R.bind_eq_ok e2
    obtain ⟨gi, f3, e2⟩ := R.bind_eq_ok e2
    have f1 := R.of_eq_ok f1
    have f2 := R.of_eq_ok f2
    have f3 := R.of_eq_ok f3
    split at e2
    · rename_i hn
      have hn : getF fs f = none := by simpa using hn
      have e4 : G.fn gi lk [.loc l] C1 = .ok (d, C') := e2
      refine PySem.W.methodCall_KW (pl := _) (thn (he.pe.run pins s σ H (fun v H1 => ∃ m1, Step m H m1 H1 ∧ Held g lk m1 C1 H1 ∧ Rep H1 m1 (.loc l) v) I ⟨m, C, ls, .loc l, C1, hd, sl, e1, fun v m1 H1 s1 d1 r1 => ⟨m1, s1, d1, r1⟩⟩) ?_) (meth_form hb rfl (by decide) hline)
      rintro u s1 ⟨v, H1, I1, rv, m1, st1, d1, r1⟩
      obtain ⟨a, hat, rfl⟩ := r1.loc_
      obtain rfl : u = Value.ref a := rv
      obtain ⟨dx, fs', h1, h2⟩ := d1.ins f1 hat
      have M := W.meth c cl f x gi f2 hx f3 ⟨_, _, _, _, e4⟩
      refine getmeth_ok I1 h1 (W.cls c cl f2) M (fs_none W.nd hx h2 hn) ?_
      exact PySem.W.callWith_K0 (first := [.ref a]) I1.kIn M.kp (wpAny_call (run_fnR (us := [.ref a]) (vs := [.ref a]) (W.fns gi) hr (pass0 (X := X)) I1 (.cons rfl .nil) ⟨lk, m1, C1, [.loc l], d, C', d1, .cons (Rep.loc hat) .nil, e4, fun v m3 H3 s3 d3 r3 => k v m3 H3 (st1.trans s3) d3 r3⟩))
    · cases e2
  · cases e2
end
end
end Q

set_option Elab.async false
set_option linter.all false
set_option maxRecDepth 100000
set_option maxHeartbeats 4000000
/-! Locks, targets, what is walked. -/
namespace Q
noncomputable section
open PySem L2 PySem.Spec PyProof.Rows

/-! ### locks -/
inductive Ext (lk : List Nat) : List Nat → Prop where
  | refl : Ext lk lk
  | cons {l : Nat} {r : List Nat} : Ext lk r → isLk r l = false → Ext lk (l :: r)
theorem Ext.trans {a b c : List Nat} (x : Ext a b) (y : Ext b c) : Ext a c := by
  induction y with
  | refl => exact x
  | cons _ h ih => exact .cons ih h
theorem isLk_cons (l j : Nat) (lk : List Nat) : isLk (l :: lk) j = (Nat.beq l j || isLk lk j) := rfl
theorem Ext.free {a b : List Nat} (x : Ext a b) {l : Nat} (h : isLk b l = false) : isLk a l = false := by
  induction x with
  | refl => exact h
  | cons _ _ ih =>
    rw [isLk_cons, Bool.or_eq_false_iff] at h
    exact ih h.2
theorem lock_ext (J : Iter) (lk : List Nat) : Ext lk (J.lock lk) := by
  cases J with
  | key l =>
    show Ext lk (if isLk lk l then lk else l :: lk)
    split
    · exact .refl
    · rename_i h
      exact .cons .refl (by simpa using h)
  | _ => exact .refl

section
variable {g : Stg} {lk : List Nat} {m m' : List Addr} {C C' : Hq} {H H' : L2.Hp}
theorem at_inj (h : Held g lk m C H) {i j : Nat} {a : Addr} (h1 : m[i]? = some a) (h2 : m[j]? = some a) : i = j := by
  obtain ⟨hk1, hk2⟩ := List.getElem?_eq_some_iff.mp h1
  obtain ⟨hl1, hl2⟩ := List.getElem?_eq_some_iff.mp h2
  exact (List.getElem_inj h.nd).mp (hk2.trans hl2.symm)
theorem Held.lock {l : Nat} {a : Addr} {u : HO} {od : Obj} {kvs : List (D × D)} (h : Held g lk m C H) (hl : m[l]? = some a) (hu : H a = some u) (f : isLk lk l = false) (e : C.get l = some (.dic kvs)) :
    Step m H m (upd H a (.frz od u)) ∧ Held g (l :: lk) m C (upd H a (.frz od u)) := by
  have st := step_set (o := HO.frz od u) h hl (h.notFrz hl f)
  refine ⟨st, h.len, h.nd, fun j b hj => ?_, h.non, fun k hk => ?_⟩
  · by_cases q : j = l
    · subst q
      rw [hl] at hj
      cases hj
      obtain ⟨o, u', h1, h2, h3⟩ := h.obj j a hl
      rw [hu] at h2
      cases h2
      rw [e] at h1
      cases h1
      rw [f] at h3
      have hk : isLk (j :: lk) j = true := by rw [isLk_cons, Nat.beq_refl]; rfl
      refine ⟨_, _, e, upd_same, ?_⟩
      rw [hk]
      rcases h3 with ⟨ws, q1, q2, q3⟩ | ⟨ws, q1, q2, q3⟩
      · exact .inl ⟨ws, ⟨od, by rw [show u = .dK ws from q1]⟩, q2.step st, q3⟩
      · exact .inr ⟨ws, ⟨od, by rw [show u = .dT ws from q1]⟩, q2.step st, q3⟩
    · obtain ⟨o, u', h1, h2, h3⟩ := h.obj j b hj
      have hk : isLk (l :: lk) j = isLk lk j := by
        rw [isLk_cons, beq_no (fun z => q z.symm)]
        rfl
      refine ⟨o, u', h1, ?_, ?_⟩
      · rw [upd_ne (fun z : b = a => q (at_inj h (z ▸ hj) hl))]
        exact h2
      · rw [hk]
        exact h3.step st
  · rcases List.mem_cons.mp hk with rfl | hk
    · have := (List.getElem?_eq_some_iff.mp hl).1
      rw [h.len] at this
      exact this
    · exact h.lko k hk
/-- what was no locked thing at the start -/
theorem start_free {lk0 : List Nat} {m0 : List Addr} {C0 : Hq} {H0 : L2.Hp} {l : Nat} {d : Addr} (h0 : Held g lk0 m0 C0 H0) (st : Step m0 H0 m' H') (h : Held g lk m' C' H') (hl : m'[l]? = some d) (f : isLk lk0 l = false) : ∀ o u, H0 d ≠ some (.frz o u) := by
  intro o u e
  have hm : d ∈ m' := List.mem_of_getElem? hl
  rcases st.new d hm with q | q
  · obtain ⟨j, hj, ej⟩ := List.getElem_of_mem q
    have e1 : m0[j]? = some d := by simp [hj, ej]
    have : j = l := at_inj h (st.get e1) hl
    subst this
    exact h0.notFrz e1 f o u e
  · rw [e] at q
    cases q
inductive Unl (H : L2.Hp) : L2.Hp → L2.Hp → Prop where
  | refl {H' : L2.Hp} : Unl H H' H'
  | step {H' H'' : L2.Hp} {d : Addr} {od : Obj} {u : HO} : H' d = some (.frz od u) → (∀ o w, H d ≠ some (.frz o w)) → Unl H (upd H' d u) H'' → Unl H H' H''
theorem Unl.inv {X : Cx} {pins pins' : List (Addr × Obj)} {σ σ' : L2.St} {s s' : Shared} {H'' : L2.Hp} (I : Inv X pins σ H s) (u : Unl H H' H'') (I' : Inv X pins' σ' H' s') : Inv X pins' σ' H'' s' := by
  induction u with
  | refl => exact I'
  | step e n _ ih => exact ih (I'.unlock e fun o w q => n o w (I.base.frzs _ _ _ q))
theorem unl_all {lk0 : List Nat} {m0 : List Addr} {C0 : Hq} {H0 : L2.Hp} (h0 : Held g lk0 m0 C0 H0) {lk1 : List Nat} (x : Ext lk0 lk1) : ∀ {H' : L2.Hp}, Step m0 H0 m' H' → Held g lk1 m' C' H' → ∃ H'', Unl H0 H' H'' ∧ Step m0 H0 m' H'' ∧ Held g lk0 m' C' H'' ∧ Up m' H' m' H'' := by
  induction x with
  | refl => intro H' st h; exact ⟨H', .refl, st, h, ⟨[], by simp⟩, fun _ _ e => e⟩
  | @cons l r x f ih =>
    intro H' st h
    have hlt : l < m'.length := by
      rw [h.len]
      exact h.lko l List.mem_cons_self
    have hl : m'[l]? = some m'[l] := by simp [hlt]
    obtain ⟨o, u', h1, h2, h3⟩ := h.obj l m'[l] hl
    have hk : isLk (l :: r) l = true := by rw [isLk_cons, Nat.beq_refl]; rfl
    rw [hk] at h3
    have hf := start_free h0 st h hl (x.free f)
    -- what is locked: a list or a dict
    obtain ⟨od, w, rfl, hw⟩ : ∃ od w, u' = .frz od w ∧ ObjR g H' m' false o w ∧ (∀ vs, w ≠ .tup vs) := by
      cases o with
      | lst xs =>
        obtain ⟨vs, ⟨od, e⟩, q⟩ := h3
        exact ⟨od, _, e, ⟨vs, rfl, q⟩, fun _ z => nomatch z⟩
      | dic kvs =>
        rcases h3 with ⟨ws, ⟨od, e⟩, q2, q3⟩ | ⟨ws, ⟨od, e⟩, q2, q3⟩
        · exact ⟨od, _, e, .inl ⟨ws, rfl, q2, q3⟩, fun _ z => nomatch z⟩
        · exact ⟨od, _, e, .inr ⟨ws, rfl, q2, q3⟩, fun _ z => nomatch z⟩
      | set xs => exact h3.elim
      | ins c fs => cases h3.1
    obtain ⟨hw, hnt⟩ := hw
    have hup : Up m' H' m' (upd H' m'[l] w) := ⟨⟨[], by simp⟩, fun a vs e => by
      rw [upd_ne (fun z : a = m'[l] => by rw [z, h2] at e; cases e)]
      exact e⟩
    have st' : Step m0 H0 m' (upd H' m'[l] w) := by
      refine ⟨st.pre, fun a vs e => hup.tup a vs (st.tup a vs e), fun a o e ha => ?_, st.new, fun a o u e => ?_⟩
      · have e' := st.off a o e ha
        rw [upd_ne (fun z : a = m'[l] => ?_)]
        · exact e'
        · subst z
          rcases st.new _ (List.mem_of_getElem? hl) with q | q
          · exact ha q
          · rw [e] at q
            cases q
      · rw [upd_ne (fun z : a = m'[l] => hf o u (z ▸ e))]
        exact st.frz a o u e
    have h' : Held g r m' C' (upd H' m'[l] w) := by
      refine ⟨h.len, h.nd, fun j b hj => ?_, h.non, fun k hk => h.lko k (List.mem_cons_of_mem _ hk)⟩
      by_cases q : j = l
      · subst q
        rw [hl] at hj
        cases hj
        exact ⟨o, w, h1, upd_same, by rw [f]; exact hw.upw hup⟩
      · obtain ⟨o', u2, g1, g2, g3⟩ := h.obj j b hj
        have hk : isLk (l :: r) j = isLk r j := by
          rw [isLk_cons, beq_no (fun z => q z.symm)]
          rfl
        rw [hk] at g3
        refine ⟨o', u2, g1, ?_, g3.upw hup⟩
        rw [upd_ne (fun z : b = m'[l] => q (at_inj h (z ▸ hj) hl))]
        exact g2
    obtain ⟨H'', k1, k2, k3, k4⟩ := ih st' h'
    exact ⟨H'', .step h2 hf k1, k2, k3, ⟨⟨[], by simp⟩, fun a vs e => k4.tup a vs (hup.tup a vs e)⟩⟩
end

section
variable {X : Cx}
theorem pe_unl {e : PySem.Expr} {t : TE} (h : PE X e t) : PE X e (fun σ H Q => t σ H fun v H' => ∃ H'', Unl H H' H'' ∧ Q v H'') :=
  ⟨fun pins s σ H Q I q => thn (h.run pins s σ H _ I q) fun v s1 ⟨x, H1, I1, r, H2, u, q⟩ => ⟨x, H2, u.inv I I1, r, q⟩⟩
theorem ps_unl {st : Stmt} {t : TS} (h : PS X st t) : PS X st (fun D σ H => t ⟨fun σ' H' => ∃ H'', Unl H H' H'' ∧ D.nx σ' H'', fun v H' => ∃ H'', Unl H H' H'' ∧ D.rt v H'', fun σ' H' => ∃ H'', Unl H H' H'' ∧ D.bk σ' H'', fun σ' H' => ∃ H'', Unl H H' H'' ∧ D.ct σ' H''⟩ σ H) := by
  refine ⟨fun pins s σ H D I q => thn (h.run pins s σ H _ I q) fun f s1 z => ?_⟩
  cases f with
  | next => obtain ⟨σ', H', I1, H2, u, q⟩ := z; exact ⟨σ', H2, u.inv I I1, q⟩
  | brk => obtain ⟨σ', H', I1, H2, u, q⟩ := z; exact ⟨σ', H2, u.inv I I1, q⟩
  | cont => obtain ⟨σ', H', I1, H2, u, q⟩ := z; exact ⟨σ', H2, u.inv I I1, q⟩
  | ret v => obtain ⟨x, σ', H', I1, r, H2, u, q⟩ := z; exact ⟨x, σ', H2, u.inv I I1, r, q⟩
end

/-! ### what is walked -/
/-- the hand layer's walk JJ is our walk J -/
def Imp (g : Stg) (J : Iter) (JJ : It) (m0 : List Addr) (H0 : L2.Hp) : Prop := ∀ (i : Nat) (m : List Addr) (C : Hq) (H : L2.Hp) (lk : List Nat), Upf m0 H0 m H → Held g lk m C H →
  (∀ x, J.next i C = some (some x) → JJ.go i H ∧ ∀ v H', JJ.yld i H v H' → Step m H m H' ∧ Held g lk m C H' ∧ Rep H' m x v) ∧ (J.next i C = some none → JJ.stop i H)
def tIt (g : Stg) (lk : List Nat) (ev : Sl → Hq → R (Iter × Hq)) : TI := fun σ H R => ∃ m C ls J C', Held g lk m C H ∧ Slt H m ls σ ∧ ev ls C = .ok (J, C') ∧
  ∀ JJ m' H', Step m H m' H' → Held g (J.lock lk) m' C' H' → Imp g J JJ m' H' → R JJ H'
section
variable {g : Stg} {lk : List Nat} {X : Cx} {tg e e2 : PySem.Expr} {ev ev2 : EvE}
theorem imp_items {xs : List D} {vs : List V} {JJ : It} {m0 : List Addr} {H0 : L2.Hp} (r : Reps H0 m0 xs vs) (hgo : ∀ i v H, vs[i]? = some v → Up m0 H0 m0 H → JJ.go i H) (hy : ∀ i H v H', Up m0 H0 m0 H → JJ.yld i H v H' → H' = H ∧ vs[i]? = some v)
    (hs : ∀ i H, vs.length ≤ i → Up m0 H0 m0 H → JJ.stop i H) : Imp g (.items xs) JJ m0 H0 := by
  intro i m C H lk st hd
  have up : Up m0 H0 m0 H := ⟨⟨[], by simp⟩, st.tup⟩
  refine ⟨fun x e => ?_, fun e => ?_⟩
  · have e : xs[i]? = some x := Option.some.inj e
    obtain ⟨v, h1, h2⟩ := r.get e
    refine ⟨hgo i v H h1 up, fun w H' y => ?_⟩
    obtain ⟨rfl, h3⟩ := hy i H w H' up y
    rw [h1] at h3
    cases h3
    exact ⟨Step.refl _ _, hd, h2.upw st.up⟩
  · have e : xs[i]? = none := Option.some.inj e
    have := List.getElem?_eq_none_iff.mp e
    exact hs i H (by rw [← r.length]; exact this) up
theorem imp_lst {l : Nat} {a : Addr} {m0 : List Addr} {H0 : L2.Hp} (hl : m0[l]? = some a) : Imp g (.lst l) (Itl X.K a) m0 H0 := by
  intro i m C H lk st hd
  have hl' := st.up.get hl
  refine ⟨fun x e => ?_, fun e => ?_⟩
  · obtain ⟨xs, e1, e2⟩ := Option.map_eq_some_iff.mp (show (asLst C l).map (fun xs => xs[i]?) = some (some x) from e)
    obtain ⟨vs, q1, rs, _⟩ := hd.sql (K := X.K) e1 hl'
    obtain ⟨v, h1, h2⟩ := rs.get e2
    refine ⟨⟨vs, v, q1, h1⟩, fun w H' y => ?_⟩
    obtain ⟨rfl, h3⟩ := y
    have := (h3 vs q1).symm.trans h1
    cases this
    exact ⟨Step.refl _ _, hd, h2⟩
  · obtain ⟨xs, e1, e2⟩ := Option.map_eq_some_iff.mp (show (asLst C l).map (fun xs => xs[i]?) = some none from e)
    obtain ⟨vs, q1, rs, _⟩ := hd.sql (K := X.K) e1 hl'
    exact ⟨vs, q1, by rw [← rs.length]; exact List.getElem?_eq_none_iff.mp e2⟩
theorem rngL_get : ∀ (n : Nat) (a : Int) (i : Nat), (rngL a n)[i]? = if i < n then some (.int (a + i)) else none
  | 0, a, i => by simp [rngL]
  | n + 1, a, 0 => by simp [rngL]
  | n + 1, a, i + 1 => by
    show (rngL (a + 1) n)[i]? = _
    rw [rngL_get n (a + 1) i]
    by_cases h : i < n
    · rw [if_pos h, if_pos (by omega)]
      congr 2
      push_cast
      omega
    · rw [if_neg h, if_neg (by omega)]
theorem imp_rng {a : Int} {n : Nat} {m0 : List Addr} {H0 : L2.Hp} : Imp g (.items (rngL a n)) (Itr a n) m0 H0 := by
  intro i m C H lk st hd
  refine ⟨fun x e => ?_, fun e => ?_⟩
  · have e : (rngL a n)[i]? = some x := Option.some.inj e
    rw [rngL_get] at e
    split at e
    · rename_i h
      cases e
      refine ⟨h, fun w H' y => ?_⟩
      obtain ⟨rfl, rfl⟩ := y
      exact ⟨Step.refl _ _, hd, Rep.int⟩
    · cases e
  · have e : (rngL a n)[i]? = none := Option.some.inj e
    rw [rngL_get] at e
    split at e
    · cases e
    · rename_i h
      exact Nat.le_of_not_lt h
theorem imp_str {s : List Nat} {m0 : List Addr} {H0 : L2.Hp} : Imp g (.items (s.map fun c => .str [c])) (Its (Sx s)) m0 H0 := by
  intro i m C H lk st hd
  have hc : ∀ k : Nat, (Sx s).cps[k]? = s[k]? := fun k => by simp
  refine ⟨fun x e => ?_, fun e => ?_⟩
  · have e : (s.map fun c => D.str [c])[i]? = some x := Option.some.inj e
    rw [List.getElem?_map] at e
    obtain ⟨c, e1, e2⟩ := Option.map_eq_some_iff.mp e
    subst e2
    have hi := (List.getElem?_eq_some_iff.mp e1).1
    refine ⟨by show i < (Sx s).cps.size; simp; exact hi, fun w H' y => ?_⟩
    obtain ⟨rfl, c', h1, rfl⟩ := y
    rw [hc, e1] at h1
    cases h1
    exact ⟨Step.refl _ _, hd, Rep.str (s := [c]) (by simp)⟩
  · have e : (s.map fun c => D.str [c])[i]? = none := Option.some.inj e
    rw [List.getElem?_map] at e
    show (Sx s).cps.size ≤ i
    have := List.getElem?_eq_none_iff.mp (Option.map_eq_none_iff.mp e)
    simpa using this
theorem kv_at {κ : Type} {kr : D → κ → Prop} {H : L2.Hp} {m : List Addr} : ∀ {kvs : List (D × D)} {ws : List (κ × V)} {i : Nat} {p : D × D}, KvR kr H m kvs ws → kvs[i]? = some p → ∃ q, ws[i]? = some q ∧ kr p.1 q.1 ∧ Rep H m p.2 q.2
  | _, _, i, p, .nil, e => by simp at e
  | _, _, 0, p, .cons h t, e => by
    simp at e
    subst e
    exact ⟨_, rfl, h⟩
  | _, _, i + 1, p, .cons h t, e => by
    obtain ⟨q, h1, h2⟩ := kv_at (i := i) t (by simpa using e)
    exact ⟨q, by simpa using h1, h2⟩
theorem rep_key1 {H : L2.Hp} {m : List Addr} {d : D} {k : Key} (h : KeyR1 d k) : Rep H m d (kV k) := by
  cases d with
  | int i => cases (show k = .inl i from h); exact Rep.int
  | str s => cases (show k = .inr (Sx s) from h.1); exact Rep.str h.2
  | _ => exact h.elim
theorem reps_key1 {H : L2.Hp} {m : List Addr} : ∀ {xs : List D} {ks : List Key}, Paired KeyR1 xs ks → Reps H m xs (ks.map kV)
  | _, _, .nil => .nil
  | _, _, .cons h t => .cons (rep_key1 h) (reps_key1 t)
theorem rep_key2 {H : L2.Hp} {m : List Addr} {d : D} {k : List Key} {q : Addr} (h : KeyR2 d k) (hq : H q = some (.tup (k.map kV))) : Rep H m d (.ref q) := by
  cases d with
  | tup xs => exact Rep.tup hq (by rw [List.length_map]; exact h.2) (reps_key1 h.1)
  | _ => exact h.elim
theorem frz_dic {l : Nat} {a : Addr} {m : List Addr} {C : Hq} {H : L2.Hp} {o : Obj} {w : HO} {kvs : List (D × D)} (hd : Held g lk m C H) (hl : m[l]? = some a) (hz : H a = some (.frz o w)) (e : asDic C l = some kvs) :
    (∃ ws, w = .dK ws ∧ KvR KeyR1 H m kvs ws) ∨ ∃ ws, w = .dT ws ∧ KvR KeyR2 H m kvs ws := by
  unfold asDic at e
  split at e
  · rename_i kvs' q
    cases e
    obtain ⟨a', u, h1, h2, h3⟩ := hd.at q
    rw [hl] at h1
    cases h1
    rw [hz] at h2
    cases h2
    have key : ∀ {z : HO} {b : Bool}, Lkd b (.frz o w) z → (∀ o' w', z ≠ .frz o' w') → z = w := fun {z b} y n => by
      unfold Lkd at y
      split at y
      · obtain ⟨_, y⟩ := y
        cases y
        rfl
      · exact absurd y.symm (n o w)
    rcases h3 with ⟨ws, q1, q2, _⟩ | ⟨ws, q1, q2, _⟩
    · exact .inl ⟨ws, (key q1 fun _ _ z => nomatch z).symm, q2⟩
    · exact .inr ⟨ws, (key q1 fun _ _ z => nomatch z).symm, q2⟩
  · cases e
theorem imp_keyK {l : Nat} {a : Addr} {m0 : List Addr} {H0 : L2.Hp} {o : Obj} {ws : List (Key × V)} (hl : m0[l]? = some a) (hz : H0 a = some (.frz o (.dK ws))) : Imp g (.key l) (Itk a o ws) m0 H0 := by
  intro i m C H lk st hd
  have hl' := st.up.get hl
  have hz' := st.frz _ _ _ hz
  refine ⟨fun x e => ?_, fun e => ?_⟩
  · obtain ⟨kvs, e1, e2⟩ := Option.map_eq_some_iff.mp (show (asDic C l).map (fun kvs => (kvs[i]?).map (·.1)) = some (some x) from e)
    obtain ⟨p, e3, rfl⟩ := Option.map_eq_some_iff.mp e2
    rcases frz_dic hd hl' hz' e1 with ⟨ws', q1, q2⟩ | ⟨ws', q1, _⟩
    · cases q1
      obtain ⟨q, h1, h2, h3⟩ := kv_at q2 e3
      refine ⟨⟨hz', (List.getElem?_eq_some_iff.mp h1).1⟩, fun w H' y => ?_⟩
      obtain ⟨rfl, k, v, h4, rfl⟩ := y
      rw [h1] at h4
      cases h4
      exact ⟨Step.refl _ _, hd, rep_key1 h2⟩
    · cases q1
  · obtain ⟨kvs, e1, e2⟩ := Option.map_eq_some_iff.mp (show (asDic C l).map (fun kvs => (kvs[i]?).map (·.1)) = some none from e)
    rcases frz_dic hd hl' hz' e1 with ⟨ws', q1, q2⟩ | ⟨ws', q1, _⟩
    · cases q1
      exact ⟨hz', by rw [← q2.length]; exact List.getElem?_eq_none_iff.mp (Option.map_eq_none_iff.mp e2)⟩
    · cases q1
theorem imp_keyT {l : Nat} {a : Addr} {m0 : List Addr} {H0 : L2.Hp} {o : Obj} {ws : List (List Key × V)} (hl : m0[l]? = some a) (hz : H0 a = some (.frz o (.dT ws))) : Imp g (.key l) (Itkt a o ws) m0 H0 := by
  intro i m C H lk st hd
  have hl' := st.up.get hl
  have hz' := st.frz _ _ _ hz
  refine ⟨fun x e => ?_, fun e => ?_⟩
  · obtain ⟨kvs, e1, e2⟩ := Option.map_eq_some_iff.mp (show (asDic C l).map (fun kvs => (kvs[i]?).map (·.1)) = some (some x) from e)
    obtain ⟨p, e3, rfl⟩ := Option.map_eq_some_iff.mp e2
    rcases frz_dic hd hl' hz' e1 with ⟨ws', q1, _⟩ | ⟨ws', q1, q2⟩
    · cases q1
    · cases q1
      obtain ⟨q, h1, h2, h3⟩ := kv_at q2 e3
      refine ⟨⟨hz', (List.getElem?_eq_some_iff.mp h1).1⟩, fun w H' y => ?_⟩
      obtain ⟨rfl, k, v, q, h4, rfl, hq⟩ := y
      rw [h1] at h4
      cases h4
      exact ⟨Step.refl _ _, hd, rep_key2 h2 hq⟩
  · obtain ⟨kvs, e1, e2⟩ := Option.map_eq_some_iff.mp (show (asDic C l).map (fun kvs => (kvs[i]?).map (·.1)) = some none from e)
    rcases frz_dic hd hl' hz' e1 with ⟨ws', q1, _⟩ | ⟨ws', q1, q2⟩
    · cases q1
    · cases q1
      exact ⟨hz', by rw [← q2.length]; exact List.getElem?_eq_none_iff.mp (Option.map_eq_none_iff.mp e2)⟩
theorem imp_enl {l : Nat} {a : Addr} {m0 : List Addr} {H0 : L2.Hp} (hl : m0[l]? = some a) : Imp g (.enl l) (Ite X.K a) m0 H0 := by
  intro i m C H lk st hd
  have hl' := st.up.get hl
  refine ⟨fun x e => ?_, fun e => ?_⟩
  · obtain ⟨xs, e1, e2⟩ := Option.map_eq_some_iff.mp (show (asLst C l).map (fun xs => (xs[i]?).map fun d => D.tup [.int i, d]) = some (some x) from e)
    obtain ⟨d, e3, rfl⟩ := Option.map_eq_some_iff.mp e2
    obtain ⟨vs, q1, rs, _⟩ := hd.sql (K := X.K) e1 hl'
    obtain ⟨v, h1, h2⟩ := rs.get e3
    refine ⟨⟨vs, v, q1, h1⟩, fun w H' y => ?_⟩
    obtain ⟨T, x, rfl, hT, rfl, h3⟩ := y
    have := (h3 vs q1).symm.trans h1
    cases this
    have s2 := step_new (o := HO.tup [.int (i : Nat), v]) hd hT
    exact ⟨s2, hd.new hT, Rep.tup upd_same (by simp) ((Reps.cons Rep.int (Reps.cons h2 .nil)).step s2)⟩
  · obtain ⟨xs, e1, e2⟩ := Option.map_eq_some_iff.mp (show (asLst C l).map (fun xs => (xs[i]?).map fun d => D.tup [.int i, d]) = some none from e)
    obtain ⟨vs, q1, rs, _⟩ := hd.sql (K := X.K) e1 hl'
    exact ⟨vs, q1, by rw [← rs.length]; exact List.getElem?_eq_none_iff.mp (Option.map_eq_none_iff.mp e2)⟩
theorem imp_zil {l l2 : Nat} {a b : Addr} {m0 : List Addr} {H0 : L2.Hp} (hl : m0[l]? = some a) (hl2 : m0[l2]? = some b) : Imp g (.zil l l2) (Itz X.K a b) m0 H0 := by
  intro i m C H lk st hd
  have hl' := st.up.get hl
  have hl2' := st.up.get hl2
  have e0 : ∀ o, Iter.next (.zil l l2) i C = some o → ∃ xs ys, asLst C l = some xs ∧ asLst C l2 = some ys ∧ ((xs[i]?).bind fun d => (ys[i]?).map fun e => D.tup [d, e]) = o := fun o e => by
    obtain ⟨xs, e1, e⟩ := Option.bind_eq_some_iff.mp (show ((asLst C l).bind fun xs => (asLst C l2).map fun ys => (xs[i]?).bind fun d => (ys[i]?).map fun e => D.tup [d, e]) = some o from e)
    obtain ⟨ys, e2, e⟩ := Option.map_eq_some_iff.mp e
    exact ⟨xs, ys, e1, e2, e⟩
  refine ⟨fun x e => ?_, fun e => ?_⟩
  · obtain ⟨xs, ys, e1, e2, e3⟩ := e0 _ e
    obtain ⟨d, f1, e3⟩ := Option.bind_eq_some_iff.mp e3
    obtain ⟨d2, f2, rfl⟩ := Option.map_eq_some_iff.mp e3
    obtain ⟨vs, q1, rs, _⟩ := hd.sql (K := X.K) e1 hl'
    obtain ⟨us, p1, rt, _⟩ := hd.sql (K := X.K) e2 hl2'
    obtain ⟨v, h1, h2⟩ := rs.get f1
    obtain ⟨u, g1, g2⟩ := rt.get f2
    refine ⟨⟨vs, us, v, u, q1, p1, h1, g1⟩, fun w H' y => ?_⟩
    obtain ⟨T, x, z, rfl, hT, rfl, h3, h4⟩ := y
    have t1 := (h3 vs q1).symm.trans h1
    cases t1
    have t2 := (h4 us p1).symm.trans g1
    cases t2
    have s2 := step_new (o := HO.tup [v, u]) hd hT
    exact ⟨s2, hd.new hT, Rep.tup upd_same (by simp) ((Reps.cons h2 (Reps.cons g2 .nil)).step s2)⟩
  · obtain ⟨xs, ys, e1, e2, e3⟩ := e0 _ e
    obtain ⟨vs, q1, rs, _⟩ := hd.sql (K := X.K) e1 hl'
    obtain ⟨us, p1, rt, _⟩ := hd.sql (K := X.K) e2 hl2'
    refine ⟨vs, us, q1, p1, ?_⟩
    rw [← rs.length, ← rt.length]
    cases f1 : xs[i]? with
    | none => exact .inl (List.getElem?_eq_none_iff.mp f1)
    | some d =>
      rw [f1] at e3
      exact .inr (List.getElem?_eq_none_iff.mp (Option.map_eq_none_iff.mp e3))

/-! ### the judgements -/
theorem pe_relock {t : TE} (h : PE X e t) : PE X e (fun σ H Q => t σ H fun v H' => ∃ d u, v = V.ref d ∧ H' d = some u ∧ Mut (some u) ∧ ∀ od, Q v (upd H' d (.frz od u))) :=
  ⟨fun pins s σ H Q I q => thn (h.run pins s σ H _ I q) fun v s1 ⟨x, H1, I1, r, d, u, ex, hd, mu, k⟩ => let ⟨od, I2⟩ := I1.lock hd mu; ⟨x, _, I2, r, k od⟩⟩
def evItr (ev : EvE) : Sl → Hq → R (Iter × Hq) := fun ls C => (ev ls C).bind fun x => (R.of (iterD x.2 x.1)).bind fun J => .ok (J, x.2)
theorem iterD_loc (C : Hq) (l : Nat) : iterD C (.loc l) = (match C.get l with
    | some (.lst _) => some (.lst l)
    | some (.dic _) => some (.key l)
    | _ => none) := rfl
theorem i_itr (he : PB X g lk e ev) : PI X tg e (tIt g lk (evItr ev)) := by
  refine ⟨fun pins s σ H Rk I q => ?_⟩
  obtain ⟨m, C, ls, J, C', hd, sl, e0, k⟩ := q
  obtain ⟨⟨d, C1⟩, e1, e0⟩ := R.bind_eq_ok e0
  obtain ⟨J', e3, e4⟩ := R.bind_eq_ok e0
  cases e4
  have e2 := R.of_eq_ok e3
  clear e0 e3
  cases d with
  | str x =>
    cases e2
    exact (pi_str he.pe).run pins s σ H Rk I ⟨m, C, ls, _, C1, hd, sl, e1, fun v m1 H1 s1 d1 r1 => ⟨Sx x, r1.str_, k _ m1 H1 s1 d1 imp_str⟩⟩
  | tup xs =>
    cases e2
    refine (pi_tup he.pe).run pins s σ H Rk I ⟨m, C, ls, _, C1, hd, sl, e1, fun v m1 H1 s1 d1 r1 => ?_⟩
    obtain ⟨a, vs, rfl, ha, _, rs⟩ := r1.tup_
    refine ⟨a, rfl, ⟨vs, SqT_of ha⟩, k _ m1 H1 s1 d1 (imp_items rs (fun i v H h up => ⟨vs, v, SqT_of (up.tup _ _ ha), h⟩) (fun i H v H' up y => ⟨y.1, y.2 vs (SqT_of (up.tup _ _ ha))⟩) (fun i H h up => ⟨vs, SqT_of (up.tup _ _ ha), h⟩))⟩
  | loc l =>
    rw [iterD_loc] at e2
    split at e2
    · rename_i xs q
      cases e2
      refine (pi_list he.pe).run pins s σ H Rk I ⟨m, C, ls, _, C1, hd, sl, e1, fun v m1 H1 s1 d1 r1 => ?_⟩
      obtain ⟨a, ha, rfl⟩ := r1.loc_
      obtain ⟨vs, q1, rs, _⟩ := d1.sql (K := X.K) (xs := xs) (by unfold asLst; rw [q]) ha
      exact ⟨a, rfl, ⟨vs, q1⟩, k _ m1 H1 s1 d1 (imp_lst (X := X) ha)⟩
    · rename_i kvs q
      cases e2
      have kl : (Iter.key l).lock lk = if isLk lk l then lk else l :: lk := rfl
      rw [kl] at k
      cases f : isLk lk l with
      | true =>
        rw [f, if_pos rfl] at k
        refine (pi_keys he.pe).run pins s σ H Rk I ⟨m, C, ls, _, C1, hd, sl, e1, fun v m1 H1 s1 d1 r1 => ?_⟩
        obtain ⟨a, ha, rfl⟩ := r1.loc_
        obtain ⟨a', u, h1, h2, h3⟩ := d1.at q
        rw [ha] at h1
        cases h1
        rw [f] at h3
        rcases h3 with ⟨ws, ⟨o, rfl⟩, q2, _⟩ | ⟨ws, ⟨o, rfl⟩, q2, _⟩
        · exact ⟨a, o, rfl, .inl ⟨ws, h2, k _ m1 H1 s1 d1 (imp_keyK ha h2)⟩⟩
        · exact ⟨a, o, rfl, .inr ⟨ws, h2, k _ m1 H1 s1 d1 (imp_keyT ha h2)⟩⟩
      | false =>
        rw [f, if_neg (by decide)] at k
        refine (pi_keys (pe_relock he.pe)).run pins s σ H Rk I ⟨m, C, ls, _, C1, hd, sl, e1, fun v m1 H1 s1 d1 r1 => ?_⟩
        obtain ⟨a, ha, rfl⟩ := r1.loc_
        obtain ⟨a', u, h1, h2, h3⟩ := d1.at q
        rw [ha] at h1
        cases h1
        rw [f] at h3
        rcases h3 with ⟨ws, q1, q2, _⟩ | ⟨ws, q1, q2, _⟩
        · cases (show u = .dK ws from q1)
          refine ⟨a, _, rfl, h2, True.intro, fun od => ?_⟩
          obtain ⟨st, d2⟩ := d1.lock (od := od) ha h2 f q
          exact ⟨a, od, rfl, .inl ⟨ws, upd_same, k _ m1 _ (s1.trans st) d2 (imp_keyK ha upd_same)⟩⟩
        · cases (show u = .dT ws from q1)
          refine ⟨a, _, rfl, h2, True.intro, fun od => ?_⟩
          obtain ⟨st, d2⟩ := d1.lock (od := od) ha h2 f q
          exact ⟨a, od, rfl, .inr ⟨ws, upd_same, k _ m1 _ (s1.trans st) d2 (imp_keyT ha upd_same)⟩⟩
    · cases e2
  | _ => cases e2
def evRg1 (ev : EvE) : Sl → Hq → R (Iter × Hq) := fun ls C => (ev ls C).bind fun x => (R.of (asInt x.1)).bind fun j => if decide (-(2 ^ 60) < j) && decide (j < 2 ^ 60) then .ok (.items (rngL 0 j.toNat), x.2) else .no
theorem i_rg1 {p pos : Pos} (hg : Gl X "range") (hm : X.mg "range" = none) (he : PB X g lk e ev) (hs : noStar e = true) : PI X tg (.Call (.Name "range" p) [e] [] pos) (tIt g lk (evRg1 ev)) := by
  refine ⟨fun pins s σ H Rk I q => ?_⟩
  obtain ⟨m, C, ls, J, C', hd, sl, e0, k⟩ := q
  obtain ⟨⟨d, C1⟩, e1, e2⟩ := R.bind_eq_ok e0
  obtain ⟨j, e3, e2⟩ := R.bind_eq_ok e2
  split at e2
  · rename_i hl
    simp only [Bool.and_eq_true, decide_eq_true_eq] at hl
    cases e2
    refine (pi_range1 hg hm (as_cons he as_nil (starEach_no hs)) (starEach_no hs)).run pins s σ H Rk I ⟨m, C, ls, [d], C1, hd, sl, by dsimp only; rw [e1]; rfl, fun vs m1 H1 s1 d1 r1 => ?_⟩
    obtain ⟨v, r, rfl, hv, hr⟩ := r1.uncons
    cases hr.unnil
    refine ⟨j, by rw [asInt_is hv (R.of_eq_ok e3)], by omega, by omega, k _ m1 H1 s1 d1 imp_rng⟩
  · cases e2
def evRg2 (ev ev2 : EvE) : Sl → Hq → R (Iter × Hq) := fun ls C => (ev ls C).bind fun x => (ev2 ls x.2).bind fun y => (R.of (asInt x.1)).bind fun i => (R.of (asInt y.1)).bind fun j =>
      if decide (-(2 ^ 60) < i) && decide (i < 2 ^ 60) && decide (-(2 ^ 60) < j) && decide (j < 2 ^ 60) then .ok (.items (rngL i (j - i).toNat), y.2) else .no
theorem i_rg2 {p pos : Pos} (hg : Gl X "range") (hm : X.mg "range" = none) (he : PB X g lk e ev) (he2 : PB X g lk e2 ev2) (hs : noStar e = true) (hs2 : noStar e2 = true) : PI X tg (.Call (.Name "range" p) [e, e2] [] pos) (tIt g lk (evRg2 ev ev2)) := by
  refine ⟨fun pins s σ H Rk I q => ?_⟩
  obtain ⟨m, C, ls, J, C', hd, sl, e0, k⟩ := q
  obtain ⟨⟨d, C1⟩, e1, e2⟩ := R.bind_eq_ok e0
  obtain ⟨⟨d2, C2⟩, e4, e2⟩ := R.bind_eq_ok e2
  obtain ⟨i, e3, e2⟩ := R.bind_eq_ok e2
  obtain ⟨j, e5, e2⟩ := R.bind_eq_ok e2
  split at e2
  · rename_i hl
    simp only [Bool.and_eq_true, decide_eq_true_eq] at hl
    cases e2
    refine (pi_range2 hg hm (as_cons he (as_cons he2 as_nil (starEach_no hs2)) (starEach_no hs)) (by rw [starEach_no hs, starEach_no hs2]; rfl) (starEach_no hs2)).run pins s σ H Rk I ⟨m, C, ls, [d, d2], C2, hd, sl, by dsimp only; rw [e1]; show R.bind (R.bind (ev2 ls C1) _) _ = _; rw [e4]; rfl, fun vs m1 H1 s1 d1 r1 => ?_⟩
    obtain ⟨v, r, rfl, hv, hr⟩ := r1.uncons
    obtain ⟨v2, r2, rfl, hv2, hr⟩ := hr.uncons
    cases hr.unnil
    exact ⟨i, j, by rw [asInt_is hv (R.of_eq_ok e3), asInt_is hv2 (R.of_eq_ok e5)], ⟨by omega, by omega, by omega, by omega⟩, k _ m1 H1 s1 d1 imp_rng⟩
  · cases e2
end
end
end Q

set_option Elab.async false
set_option linter.all false
set_option maxRecDepth 100000
set_option maxHeartbeats 4000000
/-! Targets and statements of Q. -/
namespace Q
noncomputable section
open PySem L2 PySem.Spec PyProof.Rows

/-- the scope of what runs -/
structure Good (X : Cx) (N : List Str) (sc ss : Scope) : Prop where
  hN : X.N = N
  nd : N.Nodup
  hsc : X.env.scope = sc
  calm : X.calm = true
  fn : ∀ x, Loc ss x → Loc sc x ∧ (X.fn x = true ∨ X.env.scope.names.lookup x = some .local)

/-! ### slots -/
section
variable {H : L2.Hp} {m : List Addr} {ls : Sl} {σ : L2.St}
theorem Slt.put (h : Slt H m ls σ) {i : Nat} {d : D} {v : V} (r : Rep H m d v) : Slt H m (setV ls i d) (σ.set i (some v)) := by
  refine ⟨by unfold setV; rw [List.length_set, List.length_set]; exact h.1, fun j e he => ?_⟩
  unfold setV at he
  by_cases q : i = j
  · subst q
    have hi : i < ls.length := by
      have := (List.getElem?_eq_some_iff.mp he).1
      rwa [List.length_set] at this
    rw [List.getElem?_set_self hi] at he
    cases he
    exact ⟨v, by rw [List.getElem?_set_self (by rw [← h.1]; exact hi)], r⟩
  · rw [List.getElem?_set_ne q] at he
    obtain ⟨w, h1, h2⟩ := h.2 j e he
    exact ⟨w, by rw [List.getElem?_set_ne q]; exact h1, h2⟩
theorem Slt.wipe (h : Slt H m ls σ) : ∀ vs : List Nat, Slt H m (Q.wipe ls vs) (L2.wipe σ vs)
  | [] => h
  | v :: vs => by
    have ih := Slt.wipe h vs
    refine ⟨by unfold Q.wipe L2.wipe; rw [List.length_set, List.length_set]; exact ih.1, fun j e he => ?_⟩
    unfold Q.wipe at he
    by_cases q : v = j
    · subst q
      have hi : v < (Q.wipe ls vs).length := by
        have := (List.getElem?_eq_some_iff.mp he).1
        rwa [List.length_set] at this
      rw [List.getElem?_set_self hi] at he
      cases he
    · rw [List.getElem?_set_ne q] at he
      obtain ⟨w, h1, h2⟩ := ih.2 j e he
      exact ⟨w, by unfold L2.wipe; rw [List.getElem?_set_ne q]; exact h1, h2⟩
/-- outside these slots it is as it was -/
def OutS (is : List Nat) (σ σ' : L2.St) : Prop := σ'.length = σ.length ∧ ∀ i, i ∉ is → σ'[i]? = σ[i]?
theorem OutS.refl (is : List Nat) (σ : L2.St) : OutS is σ σ := ⟨rfl, fun _ _ => rfl⟩
theorem OutS.set {is : List Nat} {σ σ' : L2.St} (h : OutS is σ σ') {i : Nat} {v : Option V} : OutS (i :: is) σ (σ'.set i v) :=
  ⟨by rw [List.length_set]; exact h.1, fun j hj => by
    rw [List.mem_cons, not_or] at hj
    rw [List.getElem?_set_ne (Ne.symm hj.1)]
    exact h.2 j hj.2⟩
theorem wipe_get (σ : L2.St) (i : Nat) : ∀ vs : List Nat, i ∈ vs → (L2.wipe σ vs)[i]? = if i < σ.length then some none else none
  | v :: vs, h => by
    unfold L2.wipe
    by_cases q : v = i
    · subst q
      by_cases hv : v < (L2.wipe σ vs).length
      · rw [List.getElem?_set_self hv, if_pos (by rw [wipe_length] at hv; exact hv)]
      · rw [List.getElem?_eq_none (by simpa using hv), if_neg (by rw [wipe_length] at hv; exact hv)]
    · rw [List.getElem?_set_ne q]
      rcases List.mem_cons.mp h with z | z
      · exact absurd z.symm q
      · exact wipe_get σ i vs z
theorem wipe_out' {σ : L2.St} {i : Nat} {vs : List Nat} (h : i ∉ vs) : (L2.wipe σ vs)[i]? = σ[i]? := L2.wipe_out h
theorem OutS.wipe {is vs : List Nat} {σ σ' : L2.St} (h : OutS is σ σ') (hs : ∀ i ∈ is, i ∈ vs) : L2.wipe σ' vs = L2.wipe σ vs := by
  apply List.ext_getElem?
  intro i
  by_cases q : i ∈ vs
  · rw [wipe_get σ' i vs q, wipe_get σ i vs q, h.1]
  · rw [wipe_out' q, wipe_out' q]
    exact h.2 i fun z => q (hs i z)
theorem wipe_wipe {σ : L2.St} {vs : List Nat} : L2.wipe (L2.wipe σ vs) vs = L2.wipe σ vs := by
  apply List.ext_getElem?
  intro i
  by_cases q : i ∈ vs
  · rw [wipe_get _ i vs q, wipe_get σ i vs q, wipe_length]
  · rw [wipe_out' q]
end

/-! ### targets -/
/-- what a target does -/
def tPg (g : Stg) (lk : List Nat) (p : P) : TG := fun v σ H Q => ∃ m C ls x ls', Held g lk m C H ∧ Slt H m ls σ ∧ Rep H m x v ∧ putP p x C ls = some ls' ∧ ∀ σ', OutS p.slots σ σ' → Slt H m ls' σ' → Q σ' H
def ckName (N : List Str) (sc : Scope) (i : Nat) : PySem.Expr → Bool
  | .Name x _ => decide (N[i]? = some x) && (decide (sc.names.lookup x = some .local) || decide (sc.names.lookup x = some .cell))
  | _ => false
def ckNames (N : List Str) (sc : Scope) : List Nat → List PySem.Expr → Bool
  | [], [] => true
  | i :: is, e :: es => ckName N sc i e && ckNames N sc is es
  | _, _ => false
def ckP (N : List Str) (sc : Scope) (p : P) (e : PySem.Expr) : Bool :=
  match p, e with
  | .one i, e => ckName N sc i e
  | .many is, .Tuple es _ _ => ckNames N sc is es
  | _, _ => false
section
variable {X : Cx} {N : List Str} {sc ss : Scope} {g : Stg} {lk : List Nat}
theorem g_name (G : Good X N sc ss) {i : Nat} {e : PySem.Expr} (h : ckName N ss i e = true) : PG X e (gName i) := by
  unfold ckName at h
  split at h
  · rename_i x p
    rw [Bool.and_eq_true, Bool.or_eq_true, decide_eq_true_eq, decide_eq_true_eq, decide_eq_true_eq] at h
    obtain ⟨h1, h2⟩ := h
    have hl := G.fn x h2
    exact pg_name (by rw [G.hN]; exact G.nd) (by rw [G.hN]; exact h1) (by rw [G.hsc]; exact hl.1) hl.2
  · cases h
theorem name_not {N : List Str} {ss : Scope} {i : Nat} {e : PySem.Expr} (h : ckName N ss i e = true) : ∀ es env, assignEach (e :: es) env = (false, assign e env) :: assignEach es env := by
  unfold ckName at h
  split at h
  · intro es env; rfl
  · cases h
def gNames : List Nat → TGs
  | [] => gNil
  | i :: is => gCons (gName i) (gNames is)
theorem g_names (G : Good X N sc ss) : ∀ {is : List Nat} {es : List PySem.Expr}, ckNames N ss is es = true → PGs X es (gNames is) ∧ (assignEach es X.env).length = is.length ∧ (assignEach es X.env).findIdx? (·.1) = none
  | [], [], _ => ⟨pgs_nil, rfl, rfl⟩
  | [], _ :: _, h => by cases h
  | _ :: _, [], h => by cases h
  | i :: is, e :: es, h => by
    have h : (ckName N ss i e && ckNames N ss is es) = true := h
    rw [Bool.and_eq_true] at h
    obtain ⟨h1, h2, h3⟩ := g_names G h.2
    have ne := name_not h.1 es X.env
    refine ⟨pgs_cons (g_name G h.1) h1 (by rw [ne]; rfl), by rw [ne, List.length_cons, h2]; rfl, ?_⟩
    rw [ne, List.findIdx?_cons, h3]
    rfl
theorem gNames_ok {H : L2.Hp} {m : List Addr} : ∀ {is : List Nat} {vs : List V} {ds : List D} {ls ls' : Sl} {σ : L2.St} {Q : L2.St → L2.Hp → Prop}, Reps H m ds vs → Slt H m ls σ → setVs ls is ds = some ls' →
    (∀ σ', OutS is σ σ' → Slt H m ls' σ' → Q σ' H) → gNames is vs σ H Q
  | [], vs, ds, ls, ls', σ, Q, r, sl, e, k => by
    cases ds with
    | nil => cases e; exact ⟨r.unnil, k σ (OutS.refl _ _) sl⟩
    | cons d ds => cases e
  | i :: is, vs, ds, ls, ls', σ, Q, r, sl, e, k => by
    cases ds with
    | nil => cases e
    | cons d ds =>
      obtain ⟨v, vs', rfl, rv, rr⟩ := r.uncons
      refine ⟨v, vs', rfl, gNames_ok rr (sl.put rv) e fun σ' o sl' => k σ' ⟨?_, fun j hj => ?_⟩ sl'⟩
      · rw [o.1, List.length_set]
      · rw [List.mem_cons, not_or] at hj
        rw [o.2 j hj.2, List.getElem?_set_ne (Ne.symm hj.1)]
theorem g_p (G : Good X N sc ss) {p : P} {e : PySem.Expr} (h : ckP N ss p e = true) : PG X e (tPg g lk p) := by
  cases p with
  | one i =>
    have h : ckName N ss i e = true := by cases e <;> exact h
    refine ⟨fun pins s σ H v u Q I r q => (g_name G h).run pins s σ H v u Q I r ?_⟩
    obtain ⟨m, C, ls, x, ls', hd, sl, rx, e, k⟩ := q
    cases e
    exact k _ (OutS.refl [] _).set (sl.put rx)
  | many is =>
    cases e with
    | Tuple es n p =>
      obtain ⟨h1, h2, h3⟩ := g_names G (show ckNames N ss is es = true from h)
      refine ⟨fun pins s σ H v u Q I r q => (pg_tup G.calm h1 h2 h3).run pins s σ H v u Q I r ?_⟩
      obtain ⟨m, C, ls, x, ls', hd, sl, rx, e, k⟩ := q
      cases x with
      | tup ds =>
        obtain ⟨a, vs, rfl, ha, _, rs⟩ := rx.tup_
        have hlen : vs.length = is.length := by
          have : ∀ {is : List Nat} {ds : List D} {ls ls' : Sl}, setVs ls is ds = some ls' → ds.length = is.length := by
            intro is
            induction is with
            | nil => intro ds ls ls' e; cases ds with | nil => rfl | cons d ds => cases e
            | cons i is ih => intro ds ls ls' e; cases ds with | nil => cases e | cons d ds => rw [List.length_cons, List.length_cons, ih e]
          rw [← rs.length]
          exact this e
        exact ⟨a, vs, rfl, SqT_of ha, hlen, gNames_ok rs sl e k⟩
      | _ => cases e
    | _ => cases h
end

/-! ### statements -/
def flow (D' : Ends) (fl : Fl) (σ : L2.St) (H : L2.Hp) (m : List Addr) : Prop :=
  match fl with
  | .nx => D'.nx σ H
  | .bk => D'.bk σ H
  | .ct => D'.ct σ H
  | .rt d => ∀ v, Rep H m d v → D'.rt v H
abbrev EvS := Sl → Hq → R (Fl × Sl × Hq)
def tS (g : Stg) (lk : List Nat) (ev : EvS) : TS := fun D' σ H => ∃ m C ls fl ls' C', Held g lk m C H ∧ Slt H m ls σ ∧ ev ls C = .ok (fl, ls', C') ∧
  ∀ m' H' σ', Step m H m' H' → Held g lk m' C' H' → Slt H' m' ls' σ' → flow D' fl σ' H' m'
section
variable {X : Cx} {g : Stg} {lk : List Nat}
theorem ps_mono {s : Stmt} {t t' : TS} (h : PS X s t) (k : ∀ D' σ H, t' D' σ H → t D' σ H) : PS X s t' := ⟨fun pins s σ H D' I q => h.run pins s σ H D' I (k D' σ H q)⟩
theorem pss_mono {s : List Stmt} {t t' : TS} (h : PSs X s t) (k : ∀ D' σ H, t' D' σ H → t D' σ H) : PSs X s t' := ⟨fun pins s σ H D' I q => h.run pins s σ H D' I (k D' σ H q)⟩
def evSeq (a b : EvS) : EvS := fun ls C => (a ls C).bind fun x => match x with
    | (.nx, ls', C') => b ls' C'
    | (.rt d, ls', C') => .ok (.rt d, ls', C')
    | (.bk, ls', C') => .ok (.bk, ls', C')
    | (.ct, ls', C') => .ok (.ct, ls', C')
theorem s_nil : PSs X [] (tS g lk fun ls C => .ok (.nx, ls, C)) := pss_mono pss_nil fun D' σ H q => by
  obtain ⟨m, C, ls, fl, ls', C', hd, sl, e, k⟩ := q
  cases e
  exact k m H σ (Step.refl _ _) hd sl
theorem s_cons {s : Stmt} {r : List Stmt} {a b : EvS} (h1 : PS X s (tS g lk a)) (h2 : PSs X r (tS g lk b)) : PSs X (s :: r) (tS g lk (evSeq a b)) := pss_mono (pss_cons h1 h2) fun D' σ H q => by
  obtain ⟨m, C, ls, fl, ls', C', hd, sl, e, k⟩ := q
  obtain ⟨⟨f1, ls1, C1⟩, e1, e2⟩ := R.bind_eq_ok e
  refine ⟨m, C, ls, f1, ls1, C1, hd, sl, e1, fun m1 H1 σ1 s1 d1 sl1 => ?_⟩
  cases f1 with
  | nx => exact ⟨m1, C1, ls1, fl, ls', C', d1, sl1, e2, fun m2 H2 σ2 s2 d2 sl2 => k m2 H2 σ2 (s1.trans s2) d2 sl2⟩
  | rt d => cases e2; exact k m1 H1 σ1 s1 d1 sl1
  | bk => cases e2; exact k m1 H1 σ1 s1 d1 sl1
  | ct => cases e2; exact k m1 H1 σ1 s1 d1 sl1
variable {e : PySem.Expr} {ev : EvE} {pos p2 : Pos}
theorem s_exp (he : PB X g lk e ev) (hs : swapsWith e none pos.line X.env = pure false) : PS X (.Expr e pos) (tS g lk fun ls C => (ev ls C).bind fun x => .ok (.nx, ls, x.2)) := ps_mono (ps_expr he.pe hs) fun D' σ H q => by
  obtain ⟨m, C, ls, fl, ls', C', hd, sl, e0, k⟩ := q
  obtain ⟨⟨d, C1⟩, e1, e2⟩ := R.bind_eq_ok e0
  cases e2
  exact ⟨m, C, ls, d, C1, hd, sl, e1, fun v m1 H1 s1 d1 r1 => k m1 H1 σ s1 d1 (sl.step s1)⟩
theorem s_ret (he : PB X g lk e ev) : PS X (.Return (some e) pos) (tS g lk fun ls C => (ev ls C).bind fun x => .ok (.rt x.1, ls, x.2)) := ps_mono (ps_ret he.pe) fun D' σ H q => by
  obtain ⟨m, C, ls, fl, ls', C', hd, sl, e0, k⟩ := q
  obtain ⟨⟨d, C1⟩, e1, e2⟩ := R.bind_eq_ok e0
  cases e2
  exact ⟨m, C, ls, d, C1, hd, sl, e1, fun v m1 H1 s1 d1 r1 => k m1 H1 σ s1 d1 (sl.step s1) v r1⟩
theorem s_rtn : PS X (.Return none pos) (tS g lk fun ls C => .ok (.rt .non, ls, C)) := ps_mono ps_retN fun D' σ H q => by
  obtain ⟨m, C, ls, fl, ls', C', hd, sl, e0, k⟩ := q
  cases e0
  exact k m H σ (Step.refl _ _) hd sl _ Rep.non
theorem s_pas : PS X (.Pass pos) (tS g lk fun ls C => .ok (.nx, ls, C)) := ps_mono ps_pass fun D' σ H q => by
  obtain ⟨m, C, ls, fl, ls', C', hd, sl, e0, k⟩ := q
  cases e0
  exact k m H σ (Step.refl _ _) hd sl
theorem s_brk : PS X (.Break pos) (tS g lk fun ls C => .ok (.bk, ls, C)) := ps_mono ps_break fun D' σ H q => by
  obtain ⟨m, C, ls, fl, ls', C', hd, sl, e0, k⟩ := q
  cases e0
  exact k m H σ (Step.refl _ _) hd sl
theorem s_cnt : PS X (.Continue pos) (tS g lk fun ls C => .ok (.ct, ls, C)) := ps_mono ps_continue fun D' σ H q => by
  obtain ⟨m, C, ls, fl, ls', C', hd, sl, e0, k⟩ := q
  cases e0
  exact k m H σ (Step.refl _ _) hd sl
theorem s_no {s : Stmt} : PS X s (tS g lk fun _ _ => .no) := ⟨fun pins s σ H D' I q => by
  obtain ⟨m, C, ls, fl, ls', C', hd, sl, e0, k⟩ := q
  cases e0⟩
def evIfs (ec : EvE) (a b : EvS) : EvS := fun ls C => (ec ls C).bind fun x => (R.of (tru x.2 x.1)).bind fun k => if k then a ls x.2 else b ls x.2
theorem s_ifs {c : PySem.Expr} {x y : List Stmt} {ec : EvE} {a b : EvS} (hc : PB X g lk c ec) (ha : PSs X x (tS g lk a)) (hb : PSs X y (tS g lk b)) : PS X (.If c x y pos) (tS g lk (evIfs ec a b)) := ps_mono (ps_if hc.pt ha hb) fun D' σ H q => by
  obtain ⟨m, C, ls, fl, ls', C', hd, sl, e0, k⟩ := q
  obtain ⟨⟨d, C1⟩, e1, e2⟩ := R.bind_eq_ok e0
  obtain ⟨c, e3, e2⟩ := R.bind_eq_ok e2
  refine ⟨m, C, ls, c, C1, hd, sl, evT_mk e1 (R.of_eq_ok e3), fun m1 H1 s1 d1 => ?_⟩
  cases c with
  | true => exact ⟨m1, C1, ls, fl, ls', C', d1, sl.step s1, e2, fun m2 H2 σ2 s2 d2 sl2 => k m2 H2 σ2 (s1.trans s2) d2 sl2⟩
  | false => exact ⟨m1, C1, ls, fl, ls', C', d1, sl.step s1, e2, fun m2 H2 σ2 s2 d2 sl2 => k m2 H2 σ2 (s1.trans s2) d2 sl2⟩
/-! ### while -/
theorem s_whl (hx : PassesOwn (model X.prog X.w) X.A X.env X.xe) {c : PySem.Expr} {x : List Stmt} {ec : EvE} {a : EvS} {fuel : Nat} (hc : PB X g lk c ec) (ha : PSs X x (tS g lk a)) :
    PS X (.While c x [] pos) (tS g lk fun ls C => loopW (evT ec) a fuel ls C) := ps_mono (ps_while hx hc.pt ha) fun D' σ H q => by
  obtain ⟨m, C, ls, fl, ls', C', hd, sl, e0, k⟩ := q
  refine ⟨fun n σ1 H1 => ∃ m1 C1 ls1, Step m H m1 H1 ∧ Held g lk m1 C1 H1 ∧ Slt H1 m1 ls1 σ1 ∧ loopW (evT ec) a n ls1 C1 = .ok (fl, ls', C'), ⟨fuel, m, C, ls, Step.refl _ _, hd, sl, e0⟩, ?_⟩
  rintro n σ1 H1 ⟨m1, C1, ls1, s1, d1, sl1, e1⟩
  cases n with
  | zero => cases e1
  | succ n =>
    obtain ⟨⟨t, C2⟩, e2, e3⟩ := R.bind_eq_ok (show ((evT ec ls1 C1).bind fun t => if t.1 then (a ls1 t.2).bind fun r => (match r with
      | (.nx, ls', C') => loopW (evT ec) a n ls' C'
      | (.ct, ls', C') => loopW (evT ec) a n ls' C'
      | (.bk, ls', C') => .ok (.nx, ls', C')
      | (.rt d, ls', C') => .ok (.rt d, ls', C')) else .ok (.nx, ls1, t.2)) = .ok (fl, ls', C') from e1)
    refine ⟨m1, C1, ls1, t, C2, d1, sl1, e2, fun m2 H2 s2 d2 => ?_⟩
    cases t with
    | false => cases e3; exact k m2 H2 σ1 (s1.trans s2) d2 (sl1.step s2)
    | true =>
      obtain ⟨⟨f4, ls4, C4⟩, e4, e5⟩ := R.bind_eq_ok e3
      refine ⟨fun σ' H' => ∃ m1 C1 ls1, Step m H m1 H' ∧ Held g lk m1 C1 H' ∧ Slt H' m1 ls1 σ' ∧ loopW (evT ec) a n ls1 C1 = .ok (fl, ls', C'), fun σ' H' z => ⟨n, Nat.lt_succ_self n, z⟩, ?_⟩
      refine ⟨m2, C2, ls1, f4, ls4, C4, d2, sl1.step s2, e4, fun m3 H3 σ3 s3 d3 sl3 => ?_⟩
      have st := (s1.trans s2).trans s3
      cases f4 with
      | nx => exact ⟨m3, C4, ls4, st, d3, sl3, e5⟩
      | ct => exact ⟨m3, C4, ls4, st, d3, sl3, e5⟩
      | bk => cases e5; exact k m3 H3 σ3 st d3 sl3
      | rt d => cases e5; exact k m3 H3 σ3 st d3 sl3
/-! ### for -/
def evFor (ei : Sl → Hq → R (Iter × Hq)) (p : P) (body : List Nat → EvS) (lk : List Nat) (fuel : Nat) : EvS := fun ls C => (ei ls C).bind fun J => loopF J.1.next (fun x ls C => (R.of (putP p x C ls)).bind fun ls' => body (J.1.lock lk) ls' C) fuel 0 ls J.2
theorem s_for {N : List Str} {sc ss : Scope} (G : Good X N sc ss) (hx : PassesOwn (model X.prog X.w) X.A X.env X.xe) {tg it : PySem.Expr} {x : List Stmt} {ei : Sl → Hq → R (Iter × Hq)} {p : P} {body : List Nat → EvS} {fuel : Nat} (hi : PI X tg it (tIt g lk ei)) (hp : ckP N ss p tg = true)
    (hb : ∀ lk', PSs X x (tS g lk' (body lk'))) (hs : ∀ y, foldedSetIterable it X.env y = pure y) : PS X (.For tg it x [] pos) (tS g lk (evFor ei p body lk fuel)) := by
  -- the lock is not known ahead: the rule is taken at each
  refine ⟨fun pins s σ H D' I q => ?_⟩
  obtain ⟨m, C, ls, fl, ls', C', hd, sl, e0, k⟩ := q
  obtain ⟨⟨J, C1⟩, e1, e2⟩ := R.bind_eq_ok e0
  have ext := lock_ext J lk
  refine (ps_unl (ps_for hx G.calm hi (g_p (g := g) (lk := J.lock lk) G hp) (hb (J.lock lk)) hs)).run pins s σ H D' I ?_
  refine ⟨m, C, ls, J, C1, hd, sl, e1, fun JJ m1 H1 s1 d1 imp => ?_⟩
  -- the end of the loop
  have fin : ∀ m' H' σ' fl1 ls1 Cx, Step m H m' H' → Held g (J.lock lk) m' Cx H' → Slt H' m' ls1 σ' → fl1 = fl → ls1 = ls' → Cx = C' →
      flow ⟨fun σ' H' => ∃ H'', Unl H H' H'' ∧ D'.nx σ' H'', fun v H' => ∃ H'', Unl H H' H'' ∧ D'.rt v H'', fun σ' H' => ∃ H'', Unl H H' H'' ∧ D'.bk σ' H'', fun σ' H' => ∃ H'', Unl H H' H'' ∧ D'.ct σ' H''⟩ fl1 σ' H' m' := by
    rintro m' H' σ' fl1 ls1 Cx st hd' sl' rfl rfl rfl
    obtain ⟨H'', u1, u2, u3, u4⟩ := unl_all hd ext st hd'
    have sl'' : Slt H'' m' ls1 σ' := ⟨sl'.1, fun i d e => let ⟨v, a, b⟩ := sl'.2 i d e; ⟨v, a, b.upw u4⟩⟩
    have kk := k m' H'' σ' u2 u3 sl''
    cases fl1 with
    | nx => exact ⟨H'', u1, kk⟩
    | bk => exact ⟨H'', u1, kk⟩
    | ct => exact ⟨H'', u1, kk⟩
    | rt d => exact fun v r => ⟨H'', u1, kk v (r.upw u4)⟩
  refine ⟨fun i n σ2 H2 => ∃ m2 C2 ls2, Step m1 H1 m2 H2 ∧ Held g (J.lock lk) m2 C2 H2 ∧ Slt H2 m2 ls2 σ2 ∧ loopF J.next (fun x ls C => (R.of (putP p x C ls)).bind fun ls' => body (J.lock lk) ls' C) n i ls2 C2 = .ok (fl, ls', C'), ⟨fuel, m1, C1, ls, Step.refl _ _, d1, sl.step s1, e2⟩, ?_⟩
  rintro i n σ2 H2 ⟨m2, C2, ls2, s2, d2, sl2, e3⟩
  cases n with
  | zero => cases e3
  | succ n =>
    obtain ⟨o, f1, f2⟩ := R.bind_eq_ok (show ((R.of (J.next i C2)).bind fun o => match o with
      | none => .ok (.nx, ls2, C2)
      | some x => ((R.of (putP p x C2 ls2)).bind fun ls' => body (J.lock lk) ls' C2).bind fun r => match r with
        | (.nx, ls', C') => loopF J.next (fun x ls C => (R.of (putP p x C ls)).bind fun ls' => body (J.lock lk) ls' C) n (i + 1) ls' C'
        | (.ct, ls', C') => loopF J.next (fun x ls C => (R.of (putP p x C ls)).bind fun ls' => body (J.lock lk) ls' C) n (i + 1) ls' C'
        | (.bk, ls', C') => .ok (.nx, ls', C')
        | (.rt d, ls', C') => .ok (.rt d, ls', C')) = .ok (fl, ls', C') from e3)
    have f1 := R.of_eq_ok f1
    obtain ⟨i1, i2⟩ := imp i m2 C2 H2 (J.lock lk) s2.upf d2
    cases o with
    | none =>
      cases f2
      exact .inl ⟨i2 f1, fin m2 H2 σ2 .nx _ _ (s1.trans s2) d2 sl2 rfl rfl rfl⟩
    | some x =>
      obtain ⟨g1, g2⟩ := i1 x f1
      refine .inr ⟨g1, fun σ' H' => ∃ m2 C2 ls2, Step m1 H1 m2 H' ∧ Held g (J.lock lk) m2 C2 H' ∧ Slt H' m2 ls2 σ' ∧ loopF J.next (fun x ls C => (R.of (putP p x C ls)).bind fun ls' => body (J.lock lk) ls' C) n (i + 1) ls2 C2 = .ok (fl, ls', C'),
        fun σ' H' z => ⟨n, Nat.lt_succ_self n, z⟩, fun v H3 y => ?_⟩
      obtain ⟨s3, d3, r3⟩ := g2 v H3 y
      obtain ⟨⟨f4, ls4, C4⟩, e4, e5⟩ := R.bind_eq_ok f2
      obtain ⟨ls5, e6, e7⟩ := R.bind_eq_ok e4
      refine ⟨m2, C2, ls2, x, ls5, d3, sl2.step s3, r3, R.of_eq_ok e6, fun σ4 o4 sl4 => ?_⟩
      refine ⟨m2, C2, ls5, f4, ls4, C4, d3, sl4, e7, fun m5 H5 σ5 s5 d5 sl5 => ?_⟩
      have st := (s2.trans s3).trans s5
      cases f4 with
      | nx => exact ⟨m5, C4, ls4, st, d5, sl5, e5⟩
      | ct => exact ⟨m5, C4, ls4, st, d5, sl5, e5⟩
      | bk => cases e5; exact fin m5 H5 σ5 .nx _ _ (s1.trans st) d5 sl5 rfl rfl rfl
      | rt d => cases e5; exact fin m5 H5 σ5 (.rt d) _ _ (s1.trans st) d5 sl5 rfl rfl rfl
end
end
end Q

set_option Elab.async false
set_option linter.all false
set_option maxRecDepth 100000
set_option maxHeartbeats 4000000
/-! Assignments of Q. -/
namespace Q
noncomputable section
open PySem L2 PySem.Spec PyProof.Rows

section
variable {X : Cx} {g : Stg} {lk : List Nat}
/-- the rule of a store -/
def tSt (g : Stg) (lk : List Nat) : TSet := fun o i v H Q => ∃ m C a b d C', Held g lk m C H ∧ Rep H m a o ∧ Rep H m b i ∧ Rep H m d v ∧ setSub lk a b d C = some C' ∧ ∀ H', Step m H m H' → Held g lk m C' H' → Q H'
theorem setSub_loc (lk : List Nat) (l : Nat) (i d : D) (C : Hq) : setSub lk (.loc l) i d C = (if free lk l then (match C.get l with
    | some (.lst xs) => match i with
      | .int j => (atN j xs.length).map fun k => C.set l (.lst (xs.set k d))
      | _ => none
    | some (.dic kvs) => if keyFits kvs i && roomy kvs then some (C.set l (.dic (dput kvs i d))) else none
    | _ => none) else none) := rfl
theorem kfit_of {kvs : List (D × D)} {k : D} {lk : List Nat} {l : Nat} (h : keyFits kvs k = true) (f : isLk lk l = false) : kfit lk l kvs k = true := by
  cases kvs with
  | nil =>
    have e : kfit lk l [] k = ((isKey1 k || isKey2 k) && !isLk lk l) := rfl
    have h : (isKey1 k || isKey2 k) = true := h
    rw [e, f, h]
    rfl
  | cons p r => exact h
theorem or_st (hu : X.A.units + 65 < cLine) : PSet X (tSt g lk) := by
  rintro pins s σ H o i v ov iv u Q I ro ri rv ⟨m, C, a, b, d, C', hd, ra, rb, rd, e, k⟩
  cases a with
  | loc l =>
    obtain ⟨p, hp, rfl⟩ := ra.loc_
    rw [setSub_loc] at e
    split at e
    · rename_i f
      have f := free_is f
      split at e
      · rename_i xs q
        split at e
        · rename_i j
          obtain ⟨n, e1, rfl⟩ := Option.map_eq_some_iff.mp e
          cases rb.int_
          obtain ⟨vs, _, rs, hh⟩ := hd.sql (K := X.K) (xs := xs) (by unfold asLst; rw [q]) hp
          have st := step_set (o := HO.lst (vs.set n v)) hd hp (hd.notFrz hp f)
          refine set_list pins s σ H _ _ v ov iv u Q I ro ri rv ⟨p, vs, j, n, rfl, rfl, hh f, by rw [← rs.length]; exact e1, k _ st (hd.set hp (hd.notFrz hp f) ?_)⟩
          rw [f]
          exact ⟨_, rfl, (rs.set rd n).step st⟩
        · cases e
      · rename_i kvs q
        split at e
        · rename_i c
          cases e
          rw [Bool.and_eq_true] at c
          obtain ⟨H2, t⟩ := dat_of (X := X) hd hp q rb (kfit_of c.1 f)
          have hr : kvs.length < 1000000 := by
            have := c.2
            unfold roomy at this
            simpa using this
          obtain ⟨H3, g1, g2, g3⟩ := t.put hp f hr (rd.step t.step)
          cases ro
          exact d_setItem (by omega) (t.inv I) g1 ri rv fun s' I' => ⟨H3, I', k H3 (t.step.trans g2) g3⟩
        · cases e
      · cases e
    · cases e
  | _ => cases e

/-! ### targets of an assignment -/
abbrev EvT := D → Sl → Hq → R (Sl × Hq)
def tTg (g : Stg) (lk : List Nat) (ev : EvT) : TG := fun v σ H Q => ∃ m C ls x ls' C', Held g lk m C H ∧ Slt H m ls σ ∧ Rep H m x v ∧ ev x ls C = .ok (ls', C') ∧ ∀ m' H' σ', Step m H m' H' → Held g lk m' C' H' → Slt H' m' ls' σ' → Q σ' H'
variable {N : List Str} {sc ss : Scope} {kk : Nat} {G : Gam} {a b e : PySem.Expr} {ea eb ev : EvE} {p pos : Pos}
theorem g_one (Gd : Good X N sc ss) {i : Nat} (h : ckName N ss i e = true) : PG X e (tTg g lk fun d ls C => .ok (setV ls i d, C)) := by
  refine ⟨fun pins s σ H v u Q I r q => (g_name Gd h).run pins s σ H v u Q I r ?_⟩
  obtain ⟨m, C, ls, x, ls', C', hd, sl, rx, e, k⟩ := q
  cases e
  exact k m H _ (Step.refl _ _) hd (sl.put rx)
def evTFld (G : Gam) (f : Nat) (ea : EvE) : EvT := fun d ls C => (ea ls C).bind fun x => match x.1 with
    | .loc l => (R.of (asIns x.2 l)).bind fun p => (R.of (G.cls p.1)).bind fun cl => if noAt cl f && decide (p.2.length < 1000) then .ok (ls, x.2.set l (.ins p.1 (putF p.2 f d))) else .no
    | _ => .no
theorem g_fld (W : Wd g G kk X) {f : Nat} {x : Str} (hx : g.fld[f]? = some x) (ha : PB X g lk a ea) : PG X (.Attribute a x p) (tTg g lk (evTFld G f ea)) := by
  refine ⟨fun pins s σ H v u Q I r q => ?_⟩
  obtain ⟨m, C, ls, d, ls', C', hd, sl, rd, e0, k⟩ := q
  obtain ⟨⟨y, C1⟩, e1, e2⟩ := R.bind_eq_ok e0
  dsimp only at e2
  split at e2
  · rename_i l
    obtain ⟨⟨c, fs⟩, f1, e2⟩ := R.bind_eq_ok e2
    obtain ⟨cl, f2, e2⟩ := R.bind_eq_ok e2
    have f1 := R.of_eq_ok f1
    have f2 := R.of_eq_ok f2
    split at e2
    · rename_i hc
      rw [Bool.and_eq_true, decide_eq_true_eq] at hc
      cases e2
      rw [arm_assign_Attribute]
      refine wpAny_bind (wpAny_holding (thn (ha.pe.run pins s σ H (fun v1 H1 => ∃ m1, Step m H m1 H1 ∧ Held g lk m1 C1 H1 ∧ Rep H1 m1 (.loc l) v1) I ⟨m, C, ls, .loc l, C1, hd, sl, e1, fun v m1 H1 s1 d1 r1 => ⟨m1, s1, d1, r1⟩⟩) ?_))
      rintro ov s1 ⟨w, H1, I1, rw', m1, st1, d1, r1⟩
      obtain ⟨ad, hat, rfl⟩ := r1.loc_
      obtain rfl : ov = Value.ref ad := rw'
      obtain ⟨dx, fs', h1, h2⟩ := d1.ins f1 hat
      have hz : ∀ q w, H1 ad ≠ some (.frz q w) := fun q w z => by rw [h1] at z; cases z
      have st := step_set (o := HO.ins (g.cad c) dx (L2.putF x v fs')) d1 hat hz
      have hlen : fs.length = fs'.length := Paired.length h2
      have hc2 : fs.length < 1000 := hc.2
      refine wpAny_bind (wpAny_standAt (wpAny_bind (wpAny_holding (setattr_ok I1 h1 (W.cls c cl f2) (W.no c cl f x f2 hx hc.1) (by omega) r fun s3 I3 => ?_))))
      refine wpAny_release ⟨σ, _, I3, k m1 _ σ (st1.trans st) (d1.set hat hz ?_) (sl.step (st1.trans st))⟩
      have f0 : isLk lk l = false := by
        obtain ⟨o', u', z1, z2, z3⟩ := d1.obj l ad hat
        rw [h1] at z2
        cases z2
        rw [asIns_get f1] at z1
        cases z1
        exact z3.1
      exact ⟨f0, dx, _, rfl, fs_put W.nd hx ((rd.step st1).step st) (h2.step st)⟩
    · cases e2
  · cases e2
def evTSub (lk : List Nat) (ea eb : EvE) : EvT := fun d ls C => (ea ls C).bind fun x => (eb ls x.2).bind fun y => (R.of (setSub lk x.1 y.1 d y.2)).bind fun C' => .ok (ls, C')
def noSlice : PySem.Expr → Bool
  | .Slice _ _ _ _ => false
  | _ => true
theorem g_sub (hu : X.A.units + 65 < cLine) (ha : PB X g lk a ea) (hb : PB X g lk b eb) (hs : noSlice b = true) : PG X (.Subscript a b p) (tTg g lk (evTSub lk ea eb)) := by
  refine ⟨fun pins s σ H v u Q I r q => (pg_sub ha.pe hb.pe (or_st (g := g) (lk := lk) hu) (fun _ => by cases b <;> first | rfl | cases hs)).run pins s σ H v u Q I r ?_⟩
  obtain ⟨m, C, ls, d, ls', C', hd, sl, rd, e0, k⟩ := q
  obtain ⟨⟨x, C1⟩, e1, e2⟩ := R.bind_eq_ok e0
  obtain ⟨⟨y, C2⟩, e3, e2⟩ := R.bind_eq_ok e2
  obtain ⟨C3, e4, e2⟩ := R.bind_eq_ok e2
  cases e2
  exact ⟨m, C, ls, x, C1, hd, sl, e1, fun v1 m1 H1 s1 d1 r1 => ⟨m1, C1, ls, y, C2, d1, sl.step s1, e3, fun v2 m2 H2 s2 d2 r2 =>
    ⟨m2, C2, x, y, d, _, d2, r1.step s2, r2, (rd.step s1).step s2, R.of_eq_ok e4, fun H3 s3 d3 => k m2 H3 σ ((s1.trans s2).trans s3) d3 (((sl.step s1).step s2).step s3)⟩⟩⟩
/-- one after the other -/
def evTs : List EvT → List D → Sl → Hq → R (Sl × Hq)
  | [], [], ls, C => .ok (ls, C)
  | t :: ts, d :: ds, ls, C => (t d ls C).bind fun r => evTs ts ds r.1 r.2
  | _, _, _, _ => .no
def tTgs (g : Stg) (lk : List Nat) (ts : List EvT) : TGs := fun vs σ H Q => ∃ m C ls ds ls' C', Held g lk m C H ∧ Slt H m ls σ ∧ Reps H m ds vs ∧ evTs ts ds ls C = .ok (ls', C') ∧ ∀ m' H' σ', Step m H m' H' → Held g lk m' C' H' → Slt H' m' ls' σ' → Q σ' H'
theorem gs_nil : PGs X [] (tTgs g lk []) := by
  refine ⟨fun pins s σ H vs us Q I r q => pgs_nil.run pins s σ H vs us Q I r ?_⟩
  obtain ⟨m, C, ls, ds, ls', C', hd, sl, rd, e0, k⟩ := q
  cases ds with
  | nil => cases e0; exact ⟨rd.unnil, k m H σ (Step.refl _ _) hd sl⟩
  | cons d ds => cases e0
theorem each_no {e : PySem.Expr} (h : noStar e = true) (es : List PySem.Expr) (env : Env) : assignEach (e :: es) env = (false, assign e env) :: assignEach es env := by
  cases e <;> first | rfl | cases h
theorem gs_cons {es : List PySem.Expr} {t : EvT} {ts : List EvT} (h1 : PG X e (tTg g lk t)) (h2 : PGs X es (tTgs g lk ts)) (hs : noStar e = true) : PGs X (e :: es) (tTgs g lk (t :: ts)) := by
  refine ⟨fun pins s σ H vs us Q I r q => (pgs_cons h1 h2 (by rw [each_no hs]; rfl)).run pins s σ H vs us Q I r ?_⟩
  obtain ⟨m, C, ls, ds, ls', C', hd, sl, rd, e0, k⟩ := q
  cases ds with
  | nil => cases e0
  | cons d ds =>
    obtain ⟨v, vr, rfl, rv, rr⟩ := rd.uncons
    obtain ⟨⟨ls1, C1⟩, e1, e2⟩ := R.bind_eq_ok (show ((t d ls C).bind fun r => evTs ts ds r.1 r.2) = .ok (ls', C') from e0)
    exact ⟨v, vr, rfl, m, C, ls, d, ls1, C1, hd, sl, rv, e1, fun m1 H1 σ1 s1 d1 sl1 => ⟨m1, C1, ls1, ds, ls', C', d1, sl1, rr.step s1, e2, fun m2 H2 σ2 s2 d2 sl2 => k m2 H2 σ2 (s1.trans s2) d2 sl2⟩⟩
theorem evTs_len : ∀ {ts : List EvT} {ds : List D} {ls ls' : Sl} {C C' : Hq}, evTs ts ds ls C = .ok (ls', C') → ds.length = ts.length
  | [], [], _, _, _, _, _ => rfl
  | [], _ :: _, _, _, _, _, e => by cases e
  | _ :: _, [], _, _, _, _, e => by cases e
  | t :: ts, d :: ds, ls, ls', C, C', e => by
    obtain ⟨⟨ls1, C1⟩, _, e2⟩ := R.bind_eq_ok (show ((t d ls C).bind fun r => evTs ts ds r.1 r.2) = .ok (ls', C') from e)
    rw [List.length_cons, List.length_cons, evTs_len e2]
theorem each_len : ∀ {es : List PySem.Expr} {env : Env}, es.all noStar = true → (assignEach es env).length = es.length ∧ (assignEach es env).findIdx? (·.1) = none
  | [], _, _ => ⟨rfl, rfl⟩
  | e :: es, env, h => by
    rw [List.all_cons, Bool.and_eq_true] at h
    obtain ⟨h1, h2⟩ := each_len (env := env) h.2
    rw [each_no h.1, List.length_cons, h1]
    refine ⟨rfl, ?_⟩
    rw [List.findIdx?_cons, h2]
    rfl
def evAsg (t : EvT) (ev : EvE) : EvS := fun ls C => (ev ls C).bind fun x => (t x.1 ls x.2).bind fun r => .ok (.nx, r.1, r.2)
theorem s_asg {tg : PySem.Expr} {t : EvT} (he : PB X g lk e ev) (hg : PG X tg (tTg g lk t)) (hs : swapsWithSole [tg] e pos.line X.env = pure false) (hw : swappedStores [tg] e X.env = pure none) (hn : noStar tg = true) : PS X (.Assign [tg] e pos) (tS g lk (evAsg t ev)) :=
  ps_mono (ps_asg he.pe hg hs hw (by rw [each_no hn]; rfl)) fun D' σ H q => by
    obtain ⟨m, C, ls, fl, ls', C', hd, sl, e0, k⟩ := q
    obtain ⟨⟨x, C1⟩, e1, e2⟩ := R.bind_eq_ok e0
    obtain ⟨⟨ls2, C2⟩, e3, e2⟩ := R.bind_eq_ok e2
    cases e2
    exact ⟨m, C, ls, x, C1, hd, sl, e1, fun v m1 H1 s1 d1 r1 => ⟨m1, C1, ls, x, _, _, d1, sl.step s1, r1, e3, fun m2 H2 σ2 s2 d2 sl2 => k m2 H2 σ2 (s1.trans s2) d2 sl2⟩⟩
def evAsm (ts : List EvT) (ev : EvE) : EvS := fun ls C => (ev ls C).bind fun x => match x.1 with
    | .tup ds => (evTs ts ds ls x.2).bind fun r => .ok (.nx, r.1, r.2)
    | _ => .no
theorem s_asm (Gd : Good X N sc ss) {tgs : List PySem.Expr} {ts : List EvT} {n : Nat} (he : PB X g lk e ev) (hg : PGs X tgs (tTgs g lk ts)) (hlen : tgs.length = ts.length) (hs : swapsWithSole [.Tuple tgs n p] e pos.line X.env = pure false) (hw : swappedStores [.Tuple tgs n p] e X.env = pure none) (hn : tgs.all noStar = true) :
    PS X (.Assign [.Tuple tgs n p] e pos) (tS g lk (evAsm ts ev)) :=
  ps_mono (ps_asg he.pe (pg_tup Gd.calm hg (each_len hn).1 (each_len hn).2) hs hw rfl) fun D' σ H q => by
    obtain ⟨m, C, ls, fl, ls', C', hd, sl, e0, k⟩ := q
    obtain ⟨⟨x, C1⟩, e1, e2⟩ := R.bind_eq_ok e0
    dsimp only at e2
    split at e2
    · rename_i ds
      obtain ⟨⟨ls2, C2⟩, e3, e2⟩ := R.bind_eq_ok e2
      cases e2
      refine ⟨m, C, ls, .tup ds, C1, hd, sl, e1, fun v m1 H1 s1 d1 r1 => ?_⟩
      obtain ⟨ad, vs, rfl, ha, _, rs⟩ := r1.tup_
      exact ⟨ad, vs, rfl, SqT_of ha, by rw [← rs.length, evTs_len e3, hlen], m1, C1, ls, ds, _, _, d1, sl.step s1, rs, e3, fun m2 H2 σ2 s2 d2 sl2 => k m2 H2 σ2 (s1.trans s2) d2 sl2⟩
    · cases e2
/-! ### stores that are exchanged: (x, y) = (a, b) -/
theorem s_par2 (Gd : Good X N sc ss) {i j : Nat} {x y : Str} {c1 c2 : PySem.Expr} {evs : Sl → Hq → R (List D × Hq)} {px py pt q2 : Pos} {n1 n2 : Nat} (hi : N[i]? = some x) (hj : N[j]? = some y) (hij : i ≠ j) (hx : sc.names.lookup x = some .local) (hy : sc.names.lookup y = some .local)
    (ha : PA X [c1, c2] (tAs g lk evs)) (hw : swappedStores [.Tuple [.Name x px, .Name y py] n1 pt] (.Tuple [c1, c2] n2 q2) X.env = pure (some [x, y])) :
    PS X (.Assign [.Tuple [.Name x px, .Name y py] n1 pt] (.Tuple [c1, c2] n2 q2) pos) (tS g lk (evAsm [fun d ls C => .ok (setV ls i d, C), fun d ls C => .ok (setV ls j d, C)] fun ls C => (evs ls C).bind fun x => .ok (.tup x.1, x.2))) :=
  ps_mono (ps_par Gd.calm (by rw [Gd.hN]; exact Gd.nd) (by rw [Gd.hN]; exact hi) (by rw [Gd.hN]; exact hj) hij (by rw [Gd.hsc]; exact hx) (by rw [Gd.hsc]; exact hy) ha hw) fun D' σ H q => by
    obtain ⟨m, C, ls, fl, ls', C', hd, sl, e0, k⟩ := q
    obtain ⟨⟨d, C1⟩, e1, e2⟩ := R.bind_eq_ok e0
    obtain ⟨⟨ds, C3⟩, f1, f2⟩ := R.bind_eq_ok e1
    cases f2
    obtain ⟨⟨ls2, C2⟩, e3, e2⟩ := R.bind_eq_ok (show ((evTs _ ds ls C3).bind fun r => .ok (.nx, r.1, r.2)) = .ok (fl, ls', C') from e2)
    cases e2
    refine ⟨m, C, ls, ds, C3, hd, sl, f1, fun vs m1 H1 s1 d1 r1 => ?_⟩
    have hl := evTs_len e3
    match ds, hl with
    | [d1', d2'], _ =>
      cases e3
      obtain ⟨v, vr, rfl, rv, rr⟩ := r1.uncons
      obtain ⟨w, vr, rfl, rw', rr⟩ := rr.uncons
      cases rr.unnil
      exact ⟨v, w, rfl, k m1 H1 _ s1 d1 (((sl.step s1).put rv).put rw')⟩
theorem s_par3 (Gd : Good X N sc ss) {i j l : Nat} {x y z : Str} {c1 c2 c3 : PySem.Expr} {evs : Sl → Hq → R (List D × Hq)} {px py pz pt q2 : Pos} {n1 n2 : Nat} (hi : N[i]? = some x) (hj : N[j]? = some y) (hl : N[l]? = some z) (hij : i ≠ j) (hil : i ≠ l) (hjl : j ≠ l)
    (hx : sc.names.lookup x = some .local) (hy : sc.names.lookup y = some .local) (hz : sc.names.lookup z = some .local)
    (ha : PA X [c1, c2, c3] (tAs g lk evs)) (hw : swappedStores [.Tuple [.Name x px, .Name y py, .Name z pz] n1 pt] (.Tuple [c1, c2, c3] n2 q2) X.env = pure (some [x, y, z])) :
    PS X (.Assign [.Tuple [.Name x px, .Name y py, .Name z pz] n1 pt] (.Tuple [c1, c2, c3] n2 q2) pos) (tS g lk (evAsm [fun d ls C => .ok (setV ls i d, C), fun d ls C => .ok (setV ls j d, C), fun d ls C => .ok (setV ls l d, C)] fun ls C => (evs ls C).bind fun x => .ok (.tup x.1, x.2))) :=
  ps_mono (ps_par3 Gd.calm (by rw [Gd.hN]; exact Gd.nd) (by rw [Gd.hN]; exact hi) (by rw [Gd.hN]; exact hj) (by rw [Gd.hN]; exact hl) hij hil hjl (by rw [Gd.hsc]; exact hx) (by rw [Gd.hsc]; exact hy) (by rw [Gd.hsc]; exact hz) ha hw) fun D' σ H q => by
    obtain ⟨m, C, ls, fl, ls', C', hd, sl, e0, k⟩ := q
    obtain ⟨⟨d, C1⟩, e1, e2⟩ := R.bind_eq_ok e0
    obtain ⟨⟨ds, C3⟩, f1, f2⟩ := R.bind_eq_ok e1
    cases f2
    obtain ⟨⟨ls2, C2⟩, e3, e2⟩ := R.bind_eq_ok (show ((evTs _ ds ls C3).bind fun r => .ok (.nx, r.1, r.2)) = .ok (fl, ls', C') from e2)
    cases e2
    refine ⟨m, C, ls, ds, C3, hd, sl, f1, fun vs m1 H1 s1 d1 r1 => ?_⟩
    have hl := evTs_len e3
    match ds, hl with
    | [d1', d2', d3'], _ =>
      cases e3
      obtain ⟨v, vr, rfl, rv, rr⟩ := r1.uncons
      obtain ⟨w, vr, rfl, rw', rr⟩ := rr.uncons
      obtain ⟨w3, vr, rfl, rw3, rr⟩ := rr.uncons
      cases rr.unnil
      exact ⟨v, w, w3, rfl, k m1 H1 _ s1 d1 ((((sl.step s1).put rv).put rw').put rw3)⟩
end
end
end Q

set_option Elab.async false
set_option linter.all false
set_option maxRecDepth 100000
set_option maxHeartbeats 4000000
/-! Comprehensions of Q. -/
namespace Q
noncomputable section
open PySem L2 PySem.Spec PyProof.Rows

/-- a block's context -/
abbrev Bk (X : Cx) (scope : Scope) (s : Shared) (H : L2.Hp) (C : Addr) (cl : List (Str × Addr)) (fp : List Addr) : Cx := X.blk s H scope (compEnvC scope cl C X.env) fp
section
variable {X : Cx} {N : List Str} {sc ss scope : Scope}
theorem good_blk (G : Good X N sc ss) (s : Shared) (H : L2.Hp) (C : Addr) (cl : List (Str × Addr)) (fp : List Addr) : Good (Bk X scope s H C cl fp) N (relS scope sc) scope := by
  have hsc : (Bk X scope s H C cl fp).env.scope = relS scope sc := by
    rw [← G.hsc]
    rfl
  refine ⟨G.hN, G.nd, hsc, G.calm, fun x h => ?_⟩
  have keep : ∀ k, k ≠ NameKind.free → scope.names.lookup x = some k → (relS scope sc).names.lookup x = some k := fun k hk e => lookup_relS_keep hk e
  rcases h with h | h
  · exact ⟨.inl (keep _ (by decide) h), .inr (by rw [hsc]; exact keep _ (by decide) h)⟩
  · refine ⟨.inr (keep _ (by decide) h), .inl ?_⟩
    show (scope.names.lookup x == some NameKind.cell) = true
    rw [h]
    rfl
end
def noSet : PySem.Expr → Bool
  | .Set _ _ _ => false
  | _ => true
theorem fold_no {e : PySem.Expr} (h : noSet e = true) : ∀ env x, foldedSetIterable e env x = pure x := by
  cases e <;> first | (intro _ _; rfl) | cases h

section
variable {X : Cx} {g : Stg} {lk : List Nat}
theorem ts_nil : PTs X [] (tT g lk fun _ C => .ok (true, C)) := ⟨fun pins s σ H Q I q => by
  obtain ⟨m, C, ls, k, C', hd, sl, e, k1⟩ := q
  cases e
  exact pts_nil.run pins s σ H Q I (k1 m H (Step.refl _ _) hd)⟩
theorem ts_one {c : PySem.Expr} {ev : EvE} (h : PB X g lk c ev) : PTs X [c] (tT g lk (evT ev)) := pts_one h.pt

def evLc (fuel : Nat) (own : List Nat) (p : P) (ei : Sl → Hq → R (Iter × Hq)) (ec : List Nat → Sl → Hq → R (Bool × Hq)) (ee : List Nat → EvE) (lk : List Nat) : EvE := fun ls C => (ei ls C).bind fun J =>
      (loopC J.1.next (fun x C' => (R.of (putP p x C' (wipe ls own))).bind fun ls' => (ec (J.1.lock lk) ls' C').bind fun t => if t.1 then
          (ee (J.1.lock lk) ls' t.2).bind fun y => (R.of (asLst y.2 J.2.n)).bind fun xs => if roomy xs then .ok (y.2.set J.2.n (.lst (xs ++ [y.1]))) else .no else .ok t.2) fuel 0 (J.2.push (.lst []))).bind fun C' => .ok (.loc J.2.n, C')
theorem loopC_succ {σ : Type} (nxt : Nat → σ → Option (Option D)) (body : D → σ → R σ) (k i : Nat) (C : σ) : loopC nxt body (k + 1) i C = ((R.of (nxt i C)).bind fun o => match o with
    | none => .ok C
    | some x => (body x C).bind fun C' => loopC nxt body k (i + 1) C') := rfl
theorem acc_at {m : List Addr} {C : Hq} {H : L2.Hp} {n : Nat} {d : Addr} {xs : List D} (hd : Held g lk m C H) (hl : m[n]? = some d) (f : isLk lk n = false) (e : asLst C n = some xs) : ∃ vs, H d = some (.lst vs) ∧ Reps H m xs vs := by
  obtain ⟨a, vs, h1, h2, h3, h4⟩ := hd.lst e
  rw [hl] at h1
  cases h1
  exact ⟨vs, h4 f, h3⟩
/-- the list that grows, one more -/
theorem acc_put {m : List Addr} {C : Hq} {H : L2.Hp} {n : Nat} {d : Addr} {xs : List D} {y : D} {v : V} (hd : Held g lk m C H) (hl : m[n]? = some d) (f : isLk lk n = false) (e : asLst C n = some xs) (r : Rep H m y v) (hr : roomy xs = true) :
    ∃ vs, H d = some (.lst vs) ∧ vs.length < sizeLine ∧ Step m H m (upd H d (.lst (vs ++ [v]))) ∧ Held g lk m (C.set n (.lst (xs ++ [y]))) (upd H d (.lst (vs ++ [v]))) := by
  obtain ⟨vs, h1, h2⟩ := acc_at hd hl f e
  have st := step_set (o := HO.lst (vs ++ [v])) hd hl (hd.notFrz hl f)
  have hlen := h2.length
  unfold roomy at hr
  have hr : xs.length < 1000000 := by simpa using hr
  refine ⟨vs, h1, by rw [line_is]; omega, st, hd.set hl (hd.notFrz hl f) ?_⟩
  rw [f]
  exact ⟨_, rfl, (h2.app (.cons r .nil)).step st⟩
theorem isLk_ge {lk : List Nat} {n : Nat} (h : ∀ k ∈ lk, k < n) : isLk lk n = false := by
  unfold isLk
  rw [List.any_eq_false]
  intro k hk e
  have := h k hk
  have := Nat.eq_of_beq_eq_true e
  omega
section
variable {N : List Str} {sc ss scope : Scope} {fuel : Nat} {own : List (Str × Nat)} {p : P} {ei : Sl → Hq → R (Iter × Hq)} {ec : List Nat → Sl → Hq → R (Bool × Hq)} {ee : List Nat → EvE} {tg it elt : PySem.Expr} {ifs : List PySem.Expr} {pos : Pos}
/-- what tLc asks, of our reckoning -/
theorem lc_body {J : Iter} {JJ : It} {σ : L2.St} {lk1 : List Nat} {m0 : List Addr} {H0 : L2.Hp} {C0 Cf : Hq} {ls : Sl} {n0 : Nat} {d : Addr} {Qd : L2.Hp → Prop} {vs : List Nat} {gg : TG} {tt : TT} {te : TE} (hgg : ∀ v σ H Q, tPg g lk1 p v σ H Q → gg v σ H Q) (htt : ∀ σ H Q, tT g lk1 (ec lk1) σ H Q → tt σ H Q) (hte : ∀ σ H Q, tE g lk1 (ee lk1) σ H Q → te σ H Q) (hs : ∀ i ∈ p.slots, i ∈ vs) (d0 : Held g lk1 m0 C0 H0) (sl : Slt H0 m0 ls σ) (hat : m0[n0]? = some d) (hf : isLk lk1 n0 = false)
    (imp : ∀ i m C H, Step m0 H0 m H → Held g lk1 m C H → (∀ x, J.next i C = some (some x) → JJ.go i H ∧ ∀ v H', JJ.yld i H v H' → Step m H m H' ∧ Held g lk1 m C H' ∧ Rep H' m x v) ∧ (J.next i C = some none → JJ.stop i H))
    (e : loopC J.next (fun x C' => (R.of (putP p x C' (wipe ls vs))).bind fun ls' => (ec lk1 ls' C').bind fun t => if t.1 then
          (ee lk1 ls' t.2).bind fun y => (R.of (asLst y.2 n0)).bind fun xs => if roomy xs then .ok (y.2.set n0 (.lst (xs ++ [y.1]))) else .no else .ok t.2) fuel 0 C0 = .ok Cf)
    (k : ∀ m H, Step m0 H0 m H → Held g lk1 m Cf H → Qd H) :
    ∃ W : Nat → Nat → L2.Hp → Prop, (∃ m, W 0 m H0) ∧ ∀ i m H, W i m H →
      (JJ.stop i H ∧ Qd H) ∨ (JJ.go i H ∧ ∃ Nx : L2.Hp → Prop, (∀ H', Nx H' → ∃ m', m' < m ∧ W (i + 1) m' H') ∧ ∀ x H', JJ.yld i H x H' → gg x (L2.wipe σ vs) H' fun σ2 H2 => L2.wipe σ2 vs = L2.wipe σ vs ∧ tt σ2 H2 fun b H3 =>
        if b = true then te σ2 H3 fun y H4 => ∃ acc, H4 d = some (.lst acc) ∧ acc.length < sizeLine ∧ Nx (upd H4 d (.lst (acc ++ [y]))) else Nx H3) := by
  refine ⟨fun i n H => ∃ m2 C2, Step m0 H0 m2 H ∧ Held g lk1 m2 C2 H ∧ loopC J.next (fun x C' => (R.of (putP p x C' (wipe ls vs))).bind fun ls' => (ec lk1 ls' C').bind fun t => if t.1 then
          (ee lk1 ls' t.2).bind fun y => (R.of (asLst y.2 n0)).bind fun xs => if roomy xs then .ok (y.2.set n0 (.lst (xs ++ [y.1]))) else .no else .ok t.2) n i C2 = .ok Cf, ⟨fuel, m0, C0, Step.refl _ _, d0, e⟩, ?_⟩
  rintro i n H ⟨m2, C2, s2, d2, e3⟩
  cases n with
  | zero => cases e3
  | succ n =>
    rw [loopC_succ] at e3
    obtain ⟨o, f1, f2⟩ := R.bind_eq_ok e3
    have f1 := R.of_eq_ok f1
    obtain ⟨i1, i2⟩ := imp i m2 C2 H s2 d2
    cases o with
    | none =>
      cases f2
      exact .inl ⟨i2 f1, k m2 H s2 d2⟩
    | some x =>
      obtain ⟨g1, g2⟩ := i1 x f1
      refine .inr ⟨g1, fun H' => ∃ m2 C2, Step m0 H0 m2 H' ∧ Held g lk1 m2 C2 H' ∧ loopC J.next (fun x C' => (R.of (putP p x C' (wipe ls vs))).bind fun ls' => (ec lk1 ls' C').bind fun t => if t.1 then
          (ee lk1 ls' t.2).bind fun y => (R.of (asLst y.2 n0)).bind fun xs => if roomy xs then .ok (y.2.set n0 (.lst (xs ++ [y.1]))) else .no else .ok t.2) n (i + 1) C2 = .ok Cf, fun H' z => ⟨n, Nat.lt_succ_self n, z⟩, fun v H3 y => ?_⟩
      obtain ⟨s3, d3, r3⟩ := g2 v H3 y
      obtain ⟨C4, e4, e5⟩ := R.bind_eq_ok f2
      obtain ⟨ls5, e6, e7⟩ := R.bind_eq_ok e4
      obtain ⟨⟨b, C6⟩, e8, e9⟩ := R.bind_eq_ok e7
      have sl3 := (sl.step (s2.trans s3)).wipe vs
      refine hgg _ _ _ _ ⟨m2, C2, _, x, ls5, d3, sl3, r3, R.of_eq_ok e6, fun σ4 o4 sl4 => ⟨by rw [o4.wipe hs, wipe_wipe], ?_⟩⟩
      refine htt _ _ _ ⟨m2, C2, ls5, b, C6, d3, sl4, e8, fun m7 H7 s7 d7 => ?_⟩
      have st7 := (s2.trans s3).trans s7
      cases b with
      | false =>
        cases e9
        exact ⟨m7, _, st7, d7, e5⟩
      | true =>
        obtain ⟨⟨y8, C8⟩, ea, eb⟩ := R.bind_eq_ok e9
        obtain ⟨xs, ec1, ed⟩ := R.bind_eq_ok eb
        split at ed
        · rename_i hr
          cases ed
          refine hte _ _ _ ⟨m7, C6, ls5, y8, C8, d7, sl4.step s7, ea, fun w8 m8 H8 s8 d8 r8 => ?_⟩
          have st8 := st7.trans s8
          obtain ⟨vs8, p1, p2, p3, p4⟩ := acc_put d8 (st8.get hat) hf (R.of_eq_ok ec1) r8 hr
          exact ⟨vs8, p1, p2, m8, _, st8.trans p3, p4, e5⟩
        · cases ed
theorem pe_lc_ (G : Good X N sc ss) (hi : PI X tg it (tIt g lk ei)) (ok : BlkOk N sc scope own) (hp : ckP N scope p tg = true) (hs : ∀ i ∈ p.slots, i ∈ own.map (·.2)) (hset : noSet it = true)
    (ht : ∀ (lk' : List Nat) s H C cl fp, PTs (Bk X scope s H C cl fp) ifs (tT g lk' (ec lk'))) (he : ∀ (lk' : List Nat) s H C cl fp, PB (Bk X scope s H C cl fp) g lk' elt (ee lk')) :
    PE X (.ListComp elt [⟨tg, it, ifs, 0⟩] scope pos) (tE g lk (evLc fuel (own.map (·.2)) p ei ec ee lk)) := by
  refine ⟨fun pins s σ H Q I q => ?_⟩
  obtain ⟨m, C, ls, d, C', hd, sl, e0, k⟩ := q
  obtain ⟨⟨J, C1⟩, e1, e2⟩ := R.bind_eq_ok e0
  obtain ⟨Cf, e3, e4⟩ := R.bind_eq_ok e2
  cases e4
  refine (pe_unl (pe_lc G.calm (by rw [G.hN]; exact G.nd) hi (by rw [G.hN, G.hsc]; exact ok) (fun s H C cl fp => g_p (g := g) (lk := J.lock lk) (good_blk G s H C cl fp) hp) (fun s H C cl fp => ht (J.lock lk) s H C cl fp) (fun s H C cl fp => (he (J.lock lk) s H C cl fp).pe) (fold_no hset X.env))).run pins s σ H Q I ?_
  refine ⟨m, C, ls, J, C1, hd, sl, e1, fun JJ m1 H1 s1 d1 imp Da hDa => ?_⟩
  have s2 := step_push (o := HO.lst []) d1 hDa
  have d2 := d1.push (o := HO.lst []) (co := .lst []) hDa ⟨[], rfl, .nil⟩
  have hat : (m1 ++ [Da])[C1.n]? = some Da := by
    rw [← d1.len]
    simp
  refine lc_body (fun _ _ _ _ z => z) (fun _ _ _ z => z) (fun _ _ _ z => z) hs d2 (sl.step (s1.trans s2)) hat (isLk_ge d1.lko) (fun i m C H st hd => imp i m C H _ (s2.trans st).upf hd) e3 fun m3 H3 s3 d3 => ?_
  obtain ⟨H'', u1, u2, u3, u4⟩ := unl_all hd (lock_ext J lk) ((s1.trans s2).trans s3) d3
  exact ⟨H'', u1, k _ m3 H'' u2 u3 (Rep.loc (s3.get hat))⟩
theorem b_lc (G : Good X N sc ss) (hi : PI X tg it (tIt g lk ei)) (ok : BlkOk N sc scope own) (hp : ckP N scope p tg = true) (hs : ∀ i ∈ p.slots, i ∈ own.map (·.2)) (hset : noSet it = true)
    (ht : ∀ (lk' : List Nat) s H C cl fp, PTs (Bk X scope s H C cl fp) ifs (tT g lk' (ec lk'))) (he : ∀ (lk' : List Nat) s H C cl fp, PB (Bk X scope s H C cl fp) g lk' elt (ee lk')) :
    PB X g lk (.ListComp elt [⟨tg, it, ifs, 0⟩] scope pos) (evLc fuel (own.map (·.2)) p ei ec ee lk) := PB.of (pe_lc_ G hi ok hp hs hset ht he) (fun _ => rfl) (fun _ _ _ z => nomatch z)
/-- name = [..] -/
theorem s_lc (G : Good X N sc ss) (hi : PI X tg it (tIt g lk ei)) (ok : BlkOk N sc scope own) (hp : ckP N scope p tg = true) (hs : ∀ i ∈ p.slots, i ∈ own.map (·.2)) (hset : noSet it = true)
    (ht : ∀ (lk' : List Nat) s H C cl fp, PTs (Bk X scope s H C cl fp) ifs (tT g lk' (ec lk'))) (he : ∀ (lk' : List Nat) s H C cl fp, PB (Bk X scope s H C cl fp) g lk' elt (ee lk'))
    {i : Nat} {y : Str} {py spos : Pos} (hy : N[i]? = some y) (hyl : sc.names.lookup y = some .local) (hsw : swapsWith (.ListComp elt [⟨tg, it, ifs, 0⟩] scope pos) (some (.Name y py)) spos.line X.env = pure true) :
    PS X (.Assign [.Name y py] (.ListComp elt [⟨tg, it, ifs, 0⟩] scope pos) spos) (tS g lk (evAsg (fun d ls C => .ok (setV ls i d, C)) (evLc fuel (own.map (·.2)) p ei ec ee lk))) := by
  refine ⟨fun pins s σ H D' I q => ?_⟩
  obtain ⟨m, C, ls, fl, ls', C', hd, sl, e0, k⟩ := q
  obtain ⟨⟨d, C9⟩, e10, e9⟩ := R.bind_eq_ok (show ((evLc fuel (own.map (·.2)) p ei ec ee lk ls C).bind fun x => (R.ok (setV ls i x.1, x.2) : R (Sl × Hq)).bind fun r => .ok (.nx, r.1, r.2)) = .ok (fl, ls', C') from e0)
  cases e9
  obtain ⟨⟨J, C1⟩, e1, e2⟩ := R.bind_eq_ok e10
  obtain ⟨Cf, e3, e4⟩ := R.bind_eq_ok e2
  cases e4
  refine (ps_unl (ps_setLc G.calm (by rw [G.hN]; exact G.nd) (by rw [G.hN]; exact hy) (by rw [G.hsc]; exact hyl) hsw hi (by rw [G.hN, G.hsc]; exact ok) (fun s H C cl fp => g_p (g := g) (lk := J.lock lk) (good_blk G s H C cl fp) hp) (fun s H C cl fp => ht (J.lock lk) s H C cl fp) (fun s H C cl fp => (he (J.lock lk) s H C cl fp).pe) (fold_no hset X.env))).run pins s σ H D' I ?_
  refine ⟨m, C, ls, J, C1, hd, sl, e1, fun JJ m1 H1 s1 d1 imp Da hDa => ?_⟩
  have s2 := step_push (o := HO.lst []) d1 hDa
  have d2 := d1.push (o := HO.lst []) (co := .lst []) hDa ⟨[], rfl, .nil⟩
  have hat : (m1 ++ [Da])[C1.n]? = some Da := by
    rw [← d1.len]
    simp
  refine lc_body (fun _ _ _ _ z => z) (fun _ _ _ z => z) (fun _ _ _ z => z) hs d2 (sl.step (s1.trans s2)) hat (isLk_ge d1.lko) (fun i m C H st hd => imp i m C H _ (s2.trans st).upf hd) e3 fun m3 H3 s3 d3 => ?_
  obtain ⟨H'', u1, u2, u3, u4⟩ := unl_all hd (lock_ext J lk) ((s1.trans s2).trans s3) d3
  exact ⟨H'', u1, k m3 H'' _ u2 u3 ((sl.step u2).put (Rep.loc (s3.get hat)))⟩
/-! ### two clauses -/
def evLc2 (fuel : Nat) (own : List Nat) (p : P) (ei : Sl → Hq → R (Iter × Hq)) (p2 : P) (ei2 : List Nat → Sl → Hq → R (Iter × Hq)) (ec : List Nat → Sl → Hq → R (Bool × Hq)) (ee : List Nat → EvE) (lk : List Nat) : EvE := fun ls C => (ei ls C).bind fun J =>
      (loopC (fun i s => J.1.next i s.2) (fun x s => (R.of (putP p x s.2 (wipe ls own))).bind fun ls' => (ei2 s.1 ls' s.2).bind fun J2 => if isLk (J2.1.lock s.1) J.2.n then .no else
        (loopC J2.1.next (fun x2 C2 => (R.of (putP p2 x2 C2 (wipe ls' p2.slots))).bind fun ls2 => (ec (J2.1.lock s.1) ls2 C2).bind fun t => if t.1 then
          (ee (J2.1.lock s.1) ls2 t.2).bind fun y => (R.of (asLst y.2 J.2.n)).bind fun xs => if roomy xs then .ok (y.2.set J.2.n (.lst (xs ++ [y.1]))) else .no else .ok t.2) fuel 0 J2.2).bind fun C' => .ok (J2.1.lock s.1, C')) fuel 0 (J.1.lock lk, J.2.push (.lst []))).bind fun s => .ok (.loc J.2.n, s.2)
variable {p2 : P} {ei2 : List Nat → Sl → Hq → R (Iter × Hq)} {tg2 it2 : PySem.Expr}
/-- what tLc2 asks, of our reckoning -/
theorem lc2_body {J : Iter} {JJ : It} {σ : L2.St} {lk1 lkf : List Nat} {m0 : List Addr} {H0 : L2.Hp} {C0 Cf : Hq} {ls : Sl} {n0 : Nat} {d : Addr} {Qd : L2.Hp → Prop} {vs : List Nat} (hs : ∀ i ∈ p.slots, i ∈ vs) (d0 : Held g lk1 m0 C0 H0) (sl : Slt H0 m0 ls σ) (hat : m0[n0]? = some d) (hf : isLk lk1 n0 = false)
    (imp : ∀ i m C H lk2, Step m0 H0 m H → Held g lk2 m C H → (∀ x, J.next i C = some (some x) → JJ.go i H ∧ ∀ v H', JJ.yld i H v H' → Step m H m H' ∧ Held g lk2 m C H' ∧ Rep H' m x v) ∧ (J.next i C = some none → JJ.stop i H))
    (e : loopC (fun i s => J.next i s.2) (fun x s => (R.of (putP p x s.2 (wipe ls vs))).bind fun ls' => (ei2 s.1 ls' s.2).bind fun J2 => if isLk (J2.1.lock s.1) n0 then .no else
        (loopC J2.1.next (fun x2 C2 => (R.of (putP p2 x2 C2 (wipe ls' p2.slots))).bind fun ls2 => (ec (J2.1.lock s.1) ls2 C2).bind fun t => if t.1 then
          (ee (J2.1.lock s.1) ls2 t.2).bind fun y => (R.of (asLst y.2 n0)).bind fun xs => if roomy xs then .ok (y.2.set n0 (.lst (xs ++ [y.1]))) else .no else .ok t.2) fuel 0 J2.2).bind fun C' => .ok (J2.1.lock s.1, C')) fuel 0 (lk1, C0) = .ok (lkf, Cf))
    (k : ∀ m H, Step m0 H0 m H → Ext lk1 lkf → Held g lkf m Cf H → Qd H) :
    ∃ W : Nat → Nat → L2.Hp → Prop, (∃ m, W 0 m H0) ∧ ∀ i m H, W i m H →
      (JJ.stop i H ∧ Qd H) ∨ (JJ.go i H ∧ ∃ Nx : L2.Hp → Prop, (∀ H', Nx H' → ∃ m', m' < m ∧ W (i + 1) m' H') ∧ ∀ x H', JJ.yld i H x H' → (fun v σ H Q => ∃ lk, tPg g lk p v σ H Q : TG) x (L2.wipe σ vs) H' fun σ2 H2 => L2.wipe σ2 vs = L2.wipe σ vs ∧ tYes σ2 H2 fun b H3 =>
        if b = true then (fun σ H R => ∃ lk, tIt g lk (ei2 lk) σ H R : TI) σ2 H3 fun J1 H4 => ∃ W1 : Nat → Nat → L2.Hp → Prop, (∃ m, W1 0 m H4) ∧ ∀ j k H, W1 j k H →
          (J1.stop j H ∧ Nx H) ∨ (J1.go j H ∧ ∃ Nx1 : L2.Hp → Prop, (∀ H', Nx1 H' → ∃ k', k' < k ∧ W1 (j + 1) k' H') ∧ ∀ x H', J1.yld j H x H' → (fun v σ H Q => ∃ lk, tPg g lk p2 v σ H Q : TG) x (L2.wipe σ2 p2.slots) H' fun σ3 H5 => L2.wipe σ3 p2.slots = L2.wipe σ2 p2.slots ∧
            (fun σ H Q => ∃ lk, tT g lk (ec lk) σ H Q : TT) σ3 H5 fun b H6 => if b = true then (fun σ H Q => ∃ lk, tE g lk (ee lk) σ H Q : TE) σ3 H6 fun y H7 => ∃ acc, H7 d = some (.lst acc) ∧ acc.length < sizeLine ∧ Nx1 (upd H7 d (.lst (acc ++ [y]))) else Nx1 H6)
        else Nx H3) := by
  refine ⟨fun i n H => ∃ m2 C2 lk2, Step m0 H0 m2 H ∧ Ext lk1 lk2 ∧ isLk lk2 n0 = false ∧ Held g lk2 m2 C2 H ∧ loopC (fun i s => J.next i s.2) (fun x s => (R.of (putP p x s.2 (wipe ls vs))).bind fun ls' => (ei2 s.1 ls' s.2).bind fun J2 => if isLk (J2.1.lock s.1) n0 then .no else
        (loopC J2.1.next (fun x2 C2 => (R.of (putP p2 x2 C2 (wipe ls' p2.slots))).bind fun ls2 => (ec (J2.1.lock s.1) ls2 C2).bind fun t => if t.1 then
          (ee (J2.1.lock s.1) ls2 t.2).bind fun y => (R.of (asLst y.2 n0)).bind fun xs => if roomy xs then .ok (y.2.set n0 (.lst (xs ++ [y.1]))) else .no else .ok t.2) fuel 0 J2.2).bind fun C' => .ok (J2.1.lock s.1, C')) n i (lk2, C2) = .ok (lkf, Cf), ⟨fuel, m0, C0, lk1, Step.refl _ _, .refl, hf, d0, e⟩, ?_⟩
  rintro i n H ⟨m2, C2, lk2, s2, x2, hf2, d2, e3⟩
  cases n with
  | zero => cases e3
  | succ n =>
    rw [loopC_succ] at e3
    obtain ⟨o, f1, f2⟩ := R.bind_eq_ok e3
    have f1 := R.of_eq_ok f1
    obtain ⟨i1, i2⟩ := imp i m2 C2 H lk2 s2 d2
    cases o with
    | none =>
      cases f2
      exact .inl ⟨i2 f1, k m2 H s2 x2 d2⟩
    | some x =>
      obtain ⟨g1, g2⟩ := i1 x f1
      refine .inr ⟨g1, fun H' => ∃ m2 C2 lk2, Step m0 H0 m2 H' ∧ Ext lk1 lk2 ∧ isLk lk2 n0 = false ∧ Held g lk2 m2 C2 H' ∧ loopC (fun i s => J.next i s.2) (fun x s => (R.of (putP p x s.2 (wipe ls vs))).bind fun ls' => (ei2 s.1 ls' s.2).bind fun J2 => if isLk (J2.1.lock s.1) n0 then .no else
        (loopC J2.1.next (fun x2 C2 => (R.of (putP p2 x2 C2 (wipe ls' p2.slots))).bind fun ls2 => (ec (J2.1.lock s.1) ls2 C2).bind fun t => if t.1 then
          (ee (J2.1.lock s.1) ls2 t.2).bind fun y => (R.of (asLst y.2 n0)).bind fun xs => if roomy xs then .ok (y.2.set n0 (.lst (xs ++ [y.1]))) else .no else .ok t.2) fuel 0 J2.2).bind fun C' => .ok (J2.1.lock s.1, C')) n (i + 1) (lk2, C2) = .ok (lkf, Cf), fun H' z => ⟨n, Nat.lt_succ_self n, z⟩, fun v H3 y => ?_⟩
      obtain ⟨s3, d3, r3⟩ := g2 v H3 y
      obtain ⟨⟨lk4, C4⟩, e4, e5⟩ := R.bind_eq_ok f2
      obtain ⟨ls5, e6, e7⟩ := R.bind_eq_ok e4
      obtain ⟨⟨J2, C6⟩, e8, e9⟩ := R.bind_eq_ok e7
      split at e9
      · cases e9
      · rename_i hf6
        have hf6 : isLk (J2.lock lk2) n0 = false := by simpa using hf6
        obtain ⟨C7, ea, eb⟩ := R.bind_eq_ok e9
        cases eb
        have sl3 := (sl.step (s2.trans s3)).wipe vs
        refine ⟨lk2, m2, C2, _, x, ls5, d3, sl3, r3, R.of_eq_ok e6, fun σ4 o4 sl4 => ⟨by rw [o4.wipe hs, wipe_wipe], ?_⟩⟩
        show (∃ lk, tIt g lk (ei2 lk) σ4 H3 _)
        refine ⟨lk2, m2, C2, ls5, J2, C6, d3, sl4, e8, fun JJ2 m7 H7 s7 d7 imp2 => ?_⟩
        have st7 := (s2.trans s3).trans s7
        refine lc_body (p := p2) (ec := ec) (ee := ee) (lk1 := J2.lock lk2) (gg := fun v σ H Q => ∃ lk, tPg g lk p2 v σ H Q) (tt := fun σ H Q => ∃ lk, tT g lk (ec lk) σ H Q) (te := fun σ H Q => ∃ lk, tE g lk (ee lk) σ H Q) (fun _ _ _ _ z => ⟨J2.lock lk2, z⟩) (fun _ _ _ z => ⟨J2.lock lk2, z⟩) (fun _ _ _ z => ⟨J2.lock lk2, z⟩) (fun _ z => z) d7 (sl4.step s7) (st7.get hat) hf6 (fun i m C H st hd => imp2 i m C H _ st.upf hd) ea fun m8 H8 s8 d8 => ?_
        exact ⟨m8, _, J2.lock lk2, st7.trans s8, x2.trans (lock_ext J2 lk2), hf6, d8, e5⟩
theorem ex_pg {tgt : PySem.Expr} {t : List Nat → TG} (h : ∀ lk, PG X tgt (t lk)) : PG X tgt (fun v σ H Q => ∃ lk, t lk v σ H Q) := ⟨fun pins s σ H v u Q I r ⟨lk, q⟩ => (h lk).run pins s σ H v u Q I r q⟩
theorem ex_pts {cs : List PySem.Expr} {t : List Nat → TT} (h : ∀ lk, PTs X cs (t lk)) : PTs X cs (fun σ H Q => ∃ lk, t lk σ H Q) := ⟨fun pins s σ H Q I ⟨lk, q⟩ => (h lk).run pins s σ H Q I q⟩
theorem ex_pe {e : PySem.Expr} {t : List Nat → TE} (h : ∀ lk, PE X e (t lk)) : PE X e (fun σ H Q => ∃ lk, t lk σ H Q) := ⟨fun pins s σ H Q I ⟨lk, q⟩ => (h lk).run pins s σ H Q I q⟩
theorem ex_pi {tgt e : PySem.Expr} {t : List Nat → TI} (h : ∀ lk, PI X tgt e (t lk)) : PI X tgt e (fun σ H R => ∃ lk, t lk σ H R) := ⟨fun pins s σ H Rk I ⟨lk, q⟩ => (h lk).run pins s σ H Rk I q⟩
theorem pe_lc2_ (G : Good X N sc ss) (hi : PI X tg it (tIt g lk ei)) (ok : BlkOk N sc scope own) (hp : ckP N scope p tg = true) (hs : ∀ i ∈ p.slots, i ∈ own.map (·.2)) (hset : noSet it = true)
    (hi2 : ∀ (lk' : List Nat) s H C cl fp, PI (Bk X scope s H C cl fp) tg2 it2 (tIt g lk' (ei2 lk'))) (hp2 : ckP N scope p2 tg2 = true) (hs2 : ∀ i ∈ p2.slots, i ∈ own.map (·.2)) (hset2 : noSet it2 = true)
    (ht : ∀ (lk' : List Nat) s H C cl fp, PTs (Bk X scope s H C cl fp) ifs (tT g lk' (ec lk'))) (he : ∀ (lk' : List Nat) s H C cl fp, PB (Bk X scope s H C cl fp) g lk' elt (ee lk')) :
    PE X (.ListComp elt [⟨tg, it, [], 0⟩, ⟨tg2, it2, ifs, 0⟩] scope pos) (tE g lk (evLc2 fuel (own.map (·.2)) p ei p2 ei2 ec ee lk)) := by
  refine ⟨fun pins s σ H Q I q => ?_⟩
  obtain ⟨m, C, ls, d, C', hd, sl, e0, k⟩ := q
  obtain ⟨⟨J, C1⟩, e1, e2⟩ := R.bind_eq_ok e0
  obtain ⟨⟨lkf, Cf⟩, e3, e4⟩ := R.bind_eq_ok e2
  cases e4
  refine (pe_unl (pe_lc2 G.calm (by rw [G.hN]; exact G.nd) hi (by rw [G.hN, G.hsc]; exact ok) hs2 (fun s H C cl fp => ex_pg fun lk' => g_p (g := g) (lk := lk') (good_blk G s H C cl fp) hp) (fun _ _ _ _ _ => pts_nil)
    (fun s H C cl fp => ex_pi fun lk' => hi2 lk' s H C cl fp) (fun s H C cl fp => ex_pg fun lk' => g_p (g := g) (lk := lk') (good_blk G s H C cl fp) hp2) (fun s H C cl fp => ex_pts fun lk' => ht lk' s H C cl fp)
    (fun s H C cl fp => ex_pe fun lk' => (he lk' s H C cl fp).pe) (fold_no hset X.env) (fun env => fold_no hset2 env))).run pins s σ H Q I ?_
  refine ⟨m, C, ls, J, C1, hd, sl, e1, fun JJ m1 H1 s1 d1 imp Da hDa => ?_⟩
  have s2 := step_push (o := HO.lst []) d1 hDa
  have d2 := d1.push (o := HO.lst []) (co := .lst []) hDa ⟨[], rfl, .nil⟩
  have hat : (m1 ++ [Da])[C1.n]? = some Da := by
    rw [← d1.len]
    simp
  refine lc2_body hs d2 (sl.step (s1.trans s2)) hat (isLk_ge d1.lko) (fun i m C H lk2 st hd => imp i m C H _ (s2.trans st).upf hd) e3 fun m3 H3 s3 x3 d3 => ?_
  obtain ⟨H'', u1, u2, u3, u4⟩ := unl_all hd ((lock_ext J lk).trans x3) ((s1.trans s2).trans s3) d3
  exact ⟨H'', u1, k _ m3 H'' u2 u3 (Rep.loc (s3.get hat))⟩
theorem b_lc2 (G : Good X N sc ss) (hi : PI X tg it (tIt g lk ei)) (ok : BlkOk N sc scope own) (hp : ckP N scope p tg = true) (hs : ∀ i ∈ p.slots, i ∈ own.map (·.2)) (hset : noSet it = true)
    (hi2 : ∀ (lk' : List Nat) s H C cl fp, PI (Bk X scope s H C cl fp) tg2 it2 (tIt g lk' (ei2 lk'))) (hp2 : ckP N scope p2 tg2 = true) (hs2 : ∀ i ∈ p2.slots, i ∈ own.map (·.2)) (hset2 : noSet it2 = true)
    (ht : ∀ (lk' : List Nat) s H C cl fp, PTs (Bk X scope s H C cl fp) ifs (tT g lk' (ec lk'))) (he : ∀ (lk' : List Nat) s H C cl fp, PB (Bk X scope s H C cl fp) g lk' elt (ee lk')) :
    PB X g lk (.ListComp elt [⟨tg, it, [], 0⟩, ⟨tg2, it2, ifs, 0⟩] scope pos) (evLc2 fuel (own.map (·.2)) p ei p2 ei2 ec ee lk) := PB.of (pe_lc2_ G hi ok hp hs hset hi2 hp2 hs2 hset2 ht he) (fun _ => rfl) (fun _ _ _ z => nomatch z)
theorem s_lc2 (G : Good X N sc ss) (hi : PI X tg it (tIt g lk ei)) (ok : BlkOk N sc scope own) (hp : ckP N scope p tg = true) (hs : ∀ i ∈ p.slots, i ∈ own.map (·.2)) (hset : noSet it = true)
    (hi2 : ∀ (lk' : List Nat) s H C cl fp, PI (Bk X scope s H C cl fp) tg2 it2 (tIt g lk' (ei2 lk'))) (hp2 : ckP N scope p2 tg2 = true) (hs2 : ∀ i ∈ p2.slots, i ∈ own.map (·.2)) (hset2 : noSet it2 = true)
    (ht : ∀ (lk' : List Nat) s H C cl fp, PTs (Bk X scope s H C cl fp) ifs (tT g lk' (ec lk'))) (he : ∀ (lk' : List Nat) s H C cl fp, PB (Bk X scope s H C cl fp) g lk' elt (ee lk'))
    {i : Nat} {y : Str} {py spos : Pos} (hy : N[i]? = some y) (hyl : sc.names.lookup y = some .local) (hsw : swapsWith (.ListComp elt [⟨tg, it, [], 0⟩, ⟨tg2, it2, ifs, 0⟩] scope pos) (some (.Name y py)) spos.line X.env = pure true) :
    PS X (.Assign [.Name y py] (.ListComp elt [⟨tg, it, [], 0⟩, ⟨tg2, it2, ifs, 0⟩] scope pos) spos) (tS g lk (evAsg (fun d ls C => .ok (setV ls i d, C)) (evLc2 fuel (own.map (·.2)) p ei p2 ei2 ec ee lk))) := by
  refine ⟨fun pins s σ H D' I q => ?_⟩
  obtain ⟨m, C, ls, fl, ls', C', hd, sl, e0, k⟩ := q
  obtain ⟨⟨d, C9⟩, e10, e9⟩ := R.bind_eq_ok (show ((evLc2 fuel (own.map (·.2)) p ei p2 ei2 ec ee lk ls C).bind fun x => (R.ok (setV ls i x.1, x.2) : R (Sl × Hq)).bind fun r => .ok (.nx, r.1, r.2)) = .ok (fl, ls', C') from e0)
  cases e9
  obtain ⟨⟨J, C1⟩, e1, e2⟩ := R.bind_eq_ok e10
  obtain ⟨⟨lkf, Cf⟩, e3, e4⟩ := R.bind_eq_ok e2
  cases e4
  refine (ps_unl (ps_setLc2 G.calm (by rw [G.hN]; exact G.nd) (by rw [G.hN]; exact hy) (by rw [G.hsc]; exact hyl) hsw hi (by rw [G.hN, G.hsc]; exact ok) hs2 (fun s H C cl fp => ex_pg fun lk' => g_p (g := g) (lk := lk') (good_blk G s H C cl fp) hp) (fun _ _ _ _ _ => pts_nil)
    (fun s H C cl fp => ex_pi fun lk' => hi2 lk' s H C cl fp) (fun s H C cl fp => ex_pg fun lk' => g_p (g := g) (lk := lk') (good_blk G s H C cl fp) hp2) (fun s H C cl fp => ex_pts fun lk' => ht lk' s H C cl fp)
    (fun s H C cl fp => ex_pe fun lk' => (he lk' s H C cl fp).pe) (fold_no hset X.env) (fun env => fold_no hset2 env))).run pins s σ H D' I ?_
  refine ⟨m, C, ls, J, C1, hd, sl, e1, fun JJ m1 H1 s1 d1 imp Da hDa => ?_⟩
  have s2 := step_push (o := HO.lst []) d1 hDa
  have d2 := d1.push (o := HO.lst []) (co := .lst []) hDa ⟨[], rfl, .nil⟩
  have hat : (m1 ++ [Da])[C1.n]? = some Da := by
    rw [← d1.len]
    simp
  refine lc2_body hs d2 (sl.step (s1.trans s2)) hat (isLk_ge d1.lko) (fun i m C H lk2 st hd => imp i m C H _ (s2.trans st).upf hd) e3 fun m3 H3 s3 x3 d3 => ?_
  obtain ⟨H'', u1, u2, u3, u4⟩ := unl_all hd ((lock_ext J lk).trans x3) ((s1.trans s2).trans s3) d3
  exact ⟨H'', u1, k m3 H'' _ u2 u3 ((sl.step u2).put (Rep.loc (s3.get hat)))⟩
end
end
end
end Q

set_option Elab.async false
set_option linter.all false
set_option maxRecDepth 100000
set_option maxHeartbeats 4000000
/-! Built-in functions of Q. -/
namespace Q
noncomputable section
open PySem L2 PySem.Spec PyProof.Rows

/-- the rule of a built-in function -/
def tB (g : Stg) (lk : List Nat) (ev : List D → Hq → Option (D × Hq)) : List V → L2.Hp → VK → Prop := fun xs H Q => ∃ m C as d C', Held g lk m C H ∧ Reps H m as xs ∧ ev as C = some (d, C') ∧
  ∀ v m' H', Step m H m' H' → Held g lk m' C' H' → Rep H' m' d v → Q v H'
section
variable {X : Cx} {g : Stg} {lk : List Nat}
theorem one_is {α : Type} {as : List D} {f : D → Option α} {r : α} (e : one1 as f = some r) : ∃ a, as = [a] ∧ f a = some r := by
  unfold one1 at e
  split at e
  · exact ⟨_, rfl, e⟩
  · cases e
theorem two_is {α : Type} {as : List D} {f : D → D → Option α} {r : α} (e : two1 as f = some r) : ∃ a b, as = [a, b] ∧ f a b = some r := by
  unfold two1 at e
  split at e
  · exact ⟨_, _, rfl, e⟩
  · cases e
theorem Reps.one {H : L2.Hp} {m : List Addr} {a : D} {vs : List V} (r : Reps H m [a] vs) : ∃ v, vs = [v] ∧ Rep H m a v := by
  obtain ⟨v, r', rfl, h1, h2⟩ := r.uncons
  cases h2.unnil
  exact ⟨v, rfl, h1⟩
theorem Reps.two {H : L2.Hp} {m : List Addr} {a b : D} {vs : List V} (r : Reps H m [a, b] vs) : ∃ v w, vs = [v, w] ∧ Rep H m a v ∧ Rep H m b w := by
  obtain ⟨v, r', rfl, h1, h2⟩ := r.uncons
  obtain ⟨w, rfl, h3⟩ := h2.one
  exact ⟨v, w, rfl, h1, h3⟩
theorem ii_is {f : Int → Int → Option D} {C : Hq} {a b : D} {d : D} {C' : Hq} (e : ii f C a b = some (d, C')) : ∃ i j, a = .int i ∧ b = .int j ∧ f i j = some d ∧ C' = C := by
  cases a with
  | int i =>
    cases b with
    | int j =>
      obtain ⟨d', e1, e2⟩ := Option.map_eq_some_iff.mp (show (f i j).map (fun d => (d, C)) = some (d, C') from e)
      cases e2
      exact ⟨i, j, rfl, rfl, e1, rfl⟩
    | _ => cases e
  | _ => cases b <;> cases e
theorem or_max2 (hc : X.calm = true) : CallR X (.builtin "max") (tB g lk (biD .max2)) := by
  rintro pins s σ H xs us Q I rx ⟨m, C, as, d, C', hd, rs, e, k⟩
  obtain ⟨a, b, rfl, e⟩ := two_is e
  obtain ⟨i, j, rfl, rfl, e1, rfl⟩ := ii_is e
  obtain ⟨v, w, rfl, r1, r2⟩ := rs.two
  cases r1.int_
  cases r2.int_
  cases e1
  exact call_max2 hc pins s σ H _ us Q I rx ⟨i, j, rfl, k _ m H (Step.refl _ _) hd Rep.int⟩
theorem or_min2 (hc : X.calm = true) : CallR X (.builtin "min") (tB g lk (biD .min2)) := by
  rintro pins s σ H xs us Q I rx ⟨m, C, as, d, C', hd, rs, e, k⟩
  obtain ⟨a, b, rfl, e⟩ := two_is e
  obtain ⟨i, j, rfl, rfl, e1, rfl⟩ := ii_is e
  obtain ⟨v, w, rfl, r1, r2⟩ := rs.two
  cases r1.int_
  cases r2.int_
  cases e1
  exact call_min2 hc pins s σ H _ us Q I rx ⟨i, j, rfl, k _ m H (Step.refl _ _) hd Rep.int⟩
theorem or_divmod : CallR X (.builtin "divmod") (tB g lk (biD .divmod)) := by
  rintro pins s σ H xs us Q I rx ⟨m, C, as, d, C', hd, rs, e, k⟩
  obtain ⟨a, b, rfl, e⟩ := two_is e
  obtain ⟨i, j, rfl, rfl, e1, rfl⟩ := ii_is e
  obtain ⟨v, w, rfl, r1, r2⟩ := rs.two
  cases r1.int_
  cases r2.int_
  split at e1
  · rename_i hl
    cases e1
    simp only [Bool.and_eq_true, decide_eq_true_eq] at hl
    exact call_divmod pins s σ H _ us Q I rx ⟨i, j, rfl, hl, hd.newT (by simp) (.cons Rep.int (.cons Rep.int .nil)) k⟩
  · cases e1
theorem or_abs : CallR X (.builtin "abs") (tB g lk (biD .abs)) := by
  rintro pins s σ H xs us Q I rx ⟨m, C, as, d, C', hd, rs, e, k⟩
  obtain ⟨a, rfl, e⟩ := one_is e
  obtain ⟨v, rfl, r1⟩ := rs.one
  cases a with
  | int i =>
    cases e
    cases r1.int_
    exact call_abs pins s σ H _ us Q I rx ⟨i, rfl, k _ m H (Step.refl _ _) hd Rep.int⟩
  | _ => cases e
theorem bools_of {C : Hq} : ∀ {xs : List D} {H : L2.Hp} {m : List Addr} {vs : List V}, Reps H m xs vs → (∀ k, allB C xs = some k → ∃ bs : List Bool, vs = bs.map V.bl ∧ k = bs.all id) ∧ (∀ k, anyB C xs = some k → ∃ bs : List Bool, vs = bs.map V.bl ∧ k = bs.any id)
  | [], _, _, _, r => ⟨fun k e => by cases e; exact ⟨[], r.unnil, rfl⟩, fun k e => by cases e; exact ⟨[], r.unnil, rfl⟩⟩
  | x :: xs, _, _, _, r => by
    obtain ⟨v, vs, rfl, h1, h2⟩ := r.uncons
    obtain ⟨i1, i2⟩ := bools_of (C := C) h2
    refine ⟨fun k e => ?_, fun k e => ?_⟩
    · cases x with
      | bl b =>
        obtain ⟨k', e1, rfl⟩ := Option.map_eq_some_iff.mp (show (allB C xs).map (fun k => b && k) = some k from e)
        obtain ⟨bs, rfl, rfl⟩ := i1 k' e1
        cases h1.bl_
        exact ⟨b :: bs, rfl, rfl⟩
      | _ => cases e
    · cases x with
      | bl b =>
        obtain ⟨k', e1, rfl⟩ := Option.map_eq_some_iff.mp (show (anyB C xs).map (fun k => b || k) = some k from e)
        obtain ⟨bs, rfl, rfl⟩ := i2 k' e1
        cases h1.bl_
        exact ⟨b :: bs, rfl, rfl⟩
      | _ => cases e
theorem or_all (hc : X.calm = true) : CallR X (.builtin "all") (tB g lk (biD .all)) := by
  rintro pins s σ H xs us Q I rx ⟨m, C, as, d, C', hd, rs, e, k⟩
  obtain ⟨a, rfl, e⟩ := one_is e
  obtain ⟨v, rfl, r1⟩ := rs.one
  obtain ⟨c, e1, e2⟩ := Option.map_eq_some_iff.mp e
  cases e2
  cases a with
  | loc l =>
    obtain ⟨ys, e3, e4⟩ := Option.bind_eq_some_iff.mp (show (asLst C l).bind (allB C) = some c from e1)
    obtain ⟨p, hp, rfl⟩ := r1.loc_
    obtain ⟨vs, q1, rs', _⟩ := hd.sql (K := X.K) e3 hp
    obtain ⟨bs, rfl, rfl⟩ := (bools_of rs').1 c e4
    exact cr_all hc pins s σ H _ us Q I rx ⟨p, bs, rfl, q1, k _ m H (Step.refl _ _) hd Rep.bl⟩
  | _ => cases e1
theorem or_any (hc : X.calm = true) : CallR X (.builtin "any") (tB g lk (biD .any)) := by
  rintro pins s σ H xs us Q I rx ⟨m, C, as, d, C', hd, rs, e, k⟩
  obtain ⟨a, rfl, e⟩ := one_is e
  obtain ⟨v, rfl, r1⟩ := rs.one
  obtain ⟨c, e1, e2⟩ := Option.map_eq_some_iff.mp e
  cases e2
  cases a with
  | loc l =>
    obtain ⟨ys, e3, e4⟩ := Option.bind_eq_some_iff.mp (show (asLst C l).bind (anyB C) = some c from e1)
    obtain ⟨p, hp, rfl⟩ := r1.loc_
    obtain ⟨vs, q1, rs', _⟩ := hd.sql (K := X.K) e3 hp
    obtain ⟨bs, rfl, rfl⟩ := (bools_of rs').2 c e4
    exact cr_any hc pins s σ H _ us Q I rx ⟨p, bs, rfl, q1, k _ m H (Step.refl _ _) hd Rep.bl⟩
  | _ => cases e1
theorem ints_of : ∀ {xs : List D} {ns : List Int} {H : L2.Hp} {m : List Addr} {vs : List V}, intsOf xs = some ns → Reps H m xs vs → vs = ns.map V.int
  | [], ns, _, _, _, e, r => by cases e; exact r.unnil
  | x :: xs, ns, _, _, _, e, r => by
    obtain ⟨v, vs, rfl, h1, h2⟩ := r.uncons
    cases x with
    | int i =>
      obtain ⟨ns', e1, rfl⟩ := Option.map_eq_some_iff.mp (show (intsOf xs).map (fun s => i :: s) = some ns from e)
      rw [ints_of e1 h2, h1.int_]
      rfl
    | _ => cases e
theorem ints_at {C : Hq} {a : D} {v : V} {ns : List Int} {H : L2.Hp} {m : List Addr} (hd : Held g lk m C H) (r : Rep H m a v) (e : intsAt C a = some ns) : ∃ p, v = .ref p ∧ SqL X.K H p (ns.map V.int) := by
  cases a with
  | loc l =>
    obtain ⟨ys, e3, e4⟩ := Option.bind_eq_some_iff.mp (show (asLst C l).bind intsOf = some ns from e)
    obtain ⟨p, hp, rfl⟩ := r.loc_
    obtain ⟨vs, q1, rs', _⟩ := hd.sql (K := X.K) e3 hp
    rw [ints_of e4 rs'] at q1
    exact ⟨p, rfl, q1⟩
  | _ => cases e
theorem or_sum (hc : X.calm = true) : CallR X (.builtin "sum") (tB g lk (biD .sum)) := by
  rintro pins s σ H xs us Q I rx ⟨m, C, as, d, C', hd, rs, e, k⟩
  obtain ⟨a, rfl, e⟩ := one_is e
  obtain ⟨v, rfl, r1⟩ := rs.one
  obtain ⟨c, e1, e2⟩ := Option.map_eq_some_iff.mp e
  cases e2
  obtain ⟨p, rfl, q1⟩ := ints_at (X := X) hd r1 e1
  exact cr_sum hc pins s σ H _ us Q I rx ⟨p, c, rfl, q1, k _ m H (Step.refl _ _) hd Rep.int⟩
theorem max_ge : ∀ (r : List Int) (i : Int), i ≤ maxI i r ∧ (∀ y ∈ r, y ≤ maxI i r) ∧ (maxI i r = i ∨ maxI i r ∈ r)
  | [], i => ⟨Int.le_refl _, fun y h => (nomatch h), .inl rfl⟩
  | j :: r, i => by
    obtain ⟨h1, h2, h3⟩ := max_ge r (if i < j then j else i)
    have e : maxI i (j :: r) = maxI (if i < j then j else i) r := rfl
    rw [e]
    by_cases c : i < j
    · rw [if_pos c] at h1 h2 h3 ⊢
      refine ⟨by omega, fun y hy => ?_, ?_⟩
      · rcases List.mem_cons.mp hy with rfl | hy
        · exact h1
        · exact h2 y hy
      · rcases h3 with z | z
        · exact .inr (by rw [z]; exact List.mem_cons_self)
        · exact .inr (List.mem_cons_of_mem _ z)
    · rw [if_neg c] at h1 h2 h3 ⊢
      refine ⟨h1, fun y hy => ?_, ?_⟩
      · rcases List.mem_cons.mp hy with rfl | hy
        · omega
        · exact h2 y hy
      · rcases h3 with z | z
        · exact .inl z
        · exact .inr (List.mem_cons_of_mem _ z)
theorem min_le : ∀ (r : List Int) (i : Int), minI i r ≤ i ∧ (∀ y ∈ r, minI i r ≤ y) ∧ (minI i r = i ∨ minI i r ∈ r)
  | [], i => ⟨Int.le_refl _, fun y h => (nomatch h), .inl rfl⟩
  | j :: r, i => by
    obtain ⟨h1, h2, h3⟩ := min_le r (if j < i then j else i)
    have e : minI i (j :: r) = minI (if j < i then j else i) r := rfl
    rw [e]
    by_cases c : j < i
    · rw [if_pos c] at h1 h2 h3 ⊢
      refine ⟨by omega, fun y hy => ?_, ?_⟩
      · rcases List.mem_cons.mp hy with rfl | hy
        · exact h1
        · exact h2 y hy
      · rcases h3 with z | z
        · exact .inr (by rw [z]; exact List.mem_cons_self)
        · exact .inr (List.mem_cons_of_mem _ z)
    · rw [if_neg c] at h1 h2 h3 ⊢
      refine ⟨h1, fun y hy => ?_, ?_⟩
      · rcases List.mem_cons.mp hy with rfl | hy
        · omega
        · exact h2 y hy
      · rcases h3 with z | z
        · exact .inl z
        · exact .inr (List.mem_cons_of_mem _ z)
theorem or_max1 (hc : X.calm = true) : CallR X (.builtin "max") (tB g lk (biD .max1)) := by
  rintro pins s σ H xs us Q I rx ⟨m, C, as, d, C', hd, rs, e, k⟩
  obtain ⟨a, rfl, e⟩ := one_is e
  obtain ⟨v, rfl, r1⟩ := rs.one
  obtain ⟨c, e1, e2⟩ := Option.bind_eq_some_iff.mp e
  obtain ⟨p, rfl, q1⟩ := ints_at (X := X) hd r1 e1
  cases c with
  | nil => cases e2
  | cons i r =>
    cases e2
    obtain ⟨h1, h2, h3⟩ := max_ge r i
    refine cr_max hc pins s σ H _ us Q I rx ⟨p, i :: r, rfl, q1, Nat.succ_pos _, fun n hn hy => ?_⟩
    have : n = maxI i r := by
      have a1 : n ≤ maxI i r := by
        rcases List.mem_cons.mp hn with rfl | z
        · exact h1
        · exact h2 n z
      have a2 : maxI i r ≤ n := by
        rcases h3 with z | z
        · rw [z]; exact hy i List.mem_cons_self
        · exact hy _ (List.mem_cons_of_mem _ z)
      omega
    rw [this]
    exact k _ m H (Step.refl _ _) hd Rep.int
theorem or_min1 (hc : X.calm = true) : CallR X (.builtin "min") (tB g lk (biD .min1)) := by
  rintro pins s σ H xs us Q I rx ⟨m, C, as, d, C', hd, rs, e, k⟩
  obtain ⟨a, rfl, e⟩ := one_is e
  obtain ⟨v, rfl, r1⟩ := rs.one
  obtain ⟨c, e1, e2⟩ := Option.bind_eq_some_iff.mp e
  obtain ⟨p, rfl, q1⟩ := ints_at (X := X) hd r1 e1
  cases c with
  | nil => cases e2
  | cons i r =>
    cases e2
    obtain ⟨h1, h2, h3⟩ := min_le r i
    refine cr_min hc pins s σ H _ us Q I rx ⟨p, i :: r, rfl, q1, Nat.succ_pos _, fun n hn hy => ?_⟩
    have : n = minI i r := by
      have a1 : minI i r ≤ n := by
        rcases List.mem_cons.mp hn with rfl | z
        · exact h1
        · exact h2 n z
      have a2 : n ≤ minI i r := by
        rcases h3 with z | z
        · rw [z]; exact hy i List.mem_cons_self
        · exact hy _ (List.mem_cons_of_mem _ z)
      omega
    rw [this]
    exact k _ m H (Step.refl _ _) hd Rep.int
theorem or_len (hc : X.calm = true) : CallR X (.builtin "len") (tB g lk (biD .len)) := by
  rintro pins s σ H xs us Q I rx ⟨m, C, as, d, C', hd, rs, e, k⟩
  obtain ⟨a, rfl, e⟩ := one_is e
  obtain ⟨v, rfl, r1⟩ := rs.one
  obtain ⟨n, e1, e2⟩ := Option.map_eq_some_iff.mp e
  cases e2
  have kk := k (.int n) m H (Step.refl _ _) hd Rep.int
  cases a with
  | str t =>
    cases e1
    have hl := r1.slen
    cases r1.str_
    exact call_len pins s σ H _ us Q I rx ⟨_, _, rfl, ⟨by rw [Sx_len, line_is]; omega, rfl⟩, by rw [Sx_len]; exact kk⟩
  | tup ys =>
    cases e1
    obtain ⟨p, vs, rfl, ha, _, rs'⟩ := r1.tup_
    rw [rs'.length] at kk
    exact call_len pins s σ H _ us Q I rx ⟨_, _, rfl, .inr ⟨vs, SqT_of ha, rfl⟩, kk⟩
  | loc l =>
    obtain ⟨p, hp, rfl⟩ := r1.loc_
    rw [show lenD C (.loc l) = (match C.get l with | some (.lst xs) => some xs.length | some (.dic kvs) => some kvs.length | _ => none) from rfl] at e1
    split at e1
    · rename_i ys q
      cases e1
      obtain ⟨vs, q1, rs', _⟩ := hd.sql (K := X.K) (xs := ys) (by unfold asLst; rw [q]) hp
      rw [rs'.length] at kk
      exact call_len pins s σ H _ us Q I rx ⟨_, _, rfl, .inl ⟨vs, q1, rfl⟩, kk⟩
    · rename_i kvs q
      cases e1
      rw [Vals.ref1 rx]
      rcases rd_dic hd q hp with ⟨ws, h1, h2, _⟩ | ⟨ws, h1, h2, _⟩
      · rw [h2.length] at kk
        exact d_len I h1 fun t s' I' => ⟨.int _, H, I', ⟨t, rfl⟩, kk⟩
      · obtain ⟨z, hs, zs, rel, dd⟩ := dt_rd I.hok h1
        have hl : ws.length = zs.length := Paired.length rel
        rw [h2.length, hl] at kk
        exact PySem.call_len_dictH hs dd (by rw [← hl]; rw [sizeLine_eq] at z; omega) ⟨.int _, H, I.tok _, ⟨_, rfl⟩, kk⟩
    · cases e1
  | _ => cases e1
theorem or_tuple : CallR X (.type "tuple") (tB g lk (biD .tuple)) := by
  rintro pins s σ H xs us Q I rx ⟨m, C, as, d, C', hd, rs, e, k⟩
  obtain ⟨a, rfl, e⟩ := one_is e
  obtain ⟨v, rfl, r1⟩ := rs.one
  cases a with
  | tup ys =>
    cases e
    have r0 := r1
    obtain ⟨p, vs, rfl, ha, _, rs'⟩ := r1.tup_
    exact call_tuple_of pins s σ H _ us Q I rx ⟨p, vs, rfl, .inr ⟨SqT_of ha, k _ m H (Step.refl _ _) hd r0⟩⟩
  | loc l =>
    obtain ⟨ys, e1, e2⟩ := Option.bind_eq_some_iff.mp (show ((asLst C l).bind fun xs => if roomy xs then some (.tup xs, C) else none) = some (d, C') from e)
    split at e2
    · rename_i hr
      cases e2
      obtain ⟨p, hp, rfl⟩ := r1.loc_
      obtain ⟨vs, q1, rs', _⟩ := hd.sql (K := X.K) e1 hp
      unfold roomy at hr
      have hr : ys.length < 1000000 := by simpa using hr
      have hl := rs'.length
      exact call_tuple_of pins s σ H _ us Q I rx ⟨p, vs, rfl, .inl ⟨q1, hd.newT (by omega) rs' k⟩⟩
    · cases e2
  | _ => cases e
theorem ofDigits_is : ∀ (s : List Nat) (n : Nat), (s.all fun c => decide (48 ≤ c) && decide (c ≤ 57)) = true → ofDigits (n : Int) s = ((s.foldl (fun n c => n * 10 + (c - 48)) n : Nat) : Int)
  | [], n, _ => rfl
  | c :: s, n, h => by
    rw [List.all_cons, Bool.and_eq_true] at h
    have h1 := h.1
    simp only [Bool.and_eq_true, decide_eq_true_eq] at h1
    have e : (10 * (n : Int) + ((c : Int) - 48)) = ((n * 10 + (c - 48) : Nat) : Int) := by omega
    show ofDigits (10 * (n : Int) + ((c : Int) - 48)) s = _
    rw [e, ofDigits_is s _ h.2]
    rfl
theorem int_text {s : List Nat} (h : digits s = true) (hl : s.length ≤ 640) : PySem.intText? (Sx s) = some (ofDigits 0 s) := by
  unfold digits at h
  rw [Bool.and_eq_true] at h
  obtain ⟨h0, h⟩ := h
  have hne : s ≠ [] := fun z => by subst z; cases h0
  have e := PySem.intText_digits (x := Sx s) (fun c hc => by
    rw [Sx_cps] at hc
    have := List.all_eq_true.mp h c hc
    simp only [Bool.and_eq_true, decide_eq_true_eq] at this
    exact this) (by rw [Sx_cps]; exact hne) (by rw [Sx_len]; omega)
  rw [e, Sx_cps]
  have e2 := ofDigits_is s 0 h
  exact congrArg some e2.symm
theorem or_int : CallR X (.type "int") (tB g lk (biD .int)) := by
  rintro pins s σ H xs us Q I rx ⟨m, C, as, d, C', hd, rs, e, k⟩
  obtain ⟨a, rfl, e⟩ := one_is e
  obtain ⟨v, rfl, r1⟩ := rs.one
  cases a with
  | int i =>
    cases e
    cases r1.int_
    exact call_int1 pins s σ H _ us Q I rx (.inl ⟨i, rfl, k _ m H (Step.refl _ _) hd Rep.int⟩)
  | bl b =>
    cases e
    cases r1.bl_
    exact call_int1 pins s σ H _ us Q I rx (.inr ⟨b, rfl, k _ m H (Step.refl _ _) hd Rep.int⟩)
  | str t =>
    have e : (if digits t && decide (t.length ≤ 640) then some (D.int (ofDigits 0 t), C) else none) = some (d, C') := e
    split at e
    · rename_i hc
      cases e
      rw [Bool.and_eq_true, decide_eq_true_eq] at hc
      cases r1.str_
      exact call_int_str pins s σ H _ us Q I rx ⟨Sx t, _, rfl, int_text hc.1 hc.2, by rw [Sx_len]; exact hc.2, k _ m H (Step.refl _ _) hd Rep.int⟩
    · cases e
  | _ => cases e

/-! ### a call of a built-in function -/
def evBi (b : BI) (evs : Sl → Hq → R (List D × Hq)) : EvE := fun ls C => (evs ls C).bind fun x => R.of (biD b x.1 x.2)
section
variable {e : PySem.Expr} {es : List PySem.Expr} {evs : Sl → Hq → R (List D × Hq)} {x : Str} {p pos : Pos} {id : String} {b : BI}
theorem bi_tr {σ : L2.St} {H : L2.Hp} {Q : VK} (q : tE g lk (evBi b evs) σ H Q) : tCB (tB g lk (biD b)) (tAs g lk evs) σ H Q := by
  obtain ⟨m, C, ls, d, C', hd, sl, e0, k⟩ := q
  obtain ⟨⟨ds, C1⟩, e1, e2⟩ := R.bind_eq_ok e0
  exact ⟨m, C, ls, ds, C1, hd, sl, e1, fun vs m1 H1 s1 d1 r1 => ⟨m1, C1, ds, d, C', d1, r1, R.of_eq_ok e2, fun v m2 H2 s2 d2 r2 => k v m2 H2 (s1.trans s2) d2 r2⟩⟩
theorem b_biB (hc : CallR X (.builtin id) (tB g lk (biD b))) (hg : Gl X x) (hm : X.mg x = none) (hv : bootBuiltins x = some (.builtin id)) (ha : PA X (e :: es) (tAs g lk evs)) (hn : x ≠ "__name__") (hdb : (x == ("__debug__" : Str)) = false) (hs : (e :: es).all noStar = true) : PB X g lk (.Call (.Name x p) (e :: es) [] pos) (evBi b evs) := by
  rw [List.all_cons, Bool.and_eq_true] at hs
  exact PB.of (pe_mono (pe_callB hc hg hm hv ha hn hdb (starEach_no hs.1) (star_any hs.2).1) fun σ H Q q => bi_tr q) (fun _ => rfl) (fun _ _ _ z => nomatch z)
theorem b_biT {T : String} (hc : CallR X (.type T) (tB g lk (biD b))) (hg : Gl X x) (hm : X.mg x = none) (hv : bootBuiltins x = some (.type T)) (ha : PA X (e :: es) (tAs g lk evs)) (hn : x ≠ "__name__") (hdb : (x == ("__debug__" : Str)) = false) (hs : (e :: es).all noStar = true) : PB X g lk (.Call (.Name x p) (e :: es) [] pos) (evBi b evs) := by
  rw [List.all_cons, Bool.and_eq_true] at hs
  exact PB.of (pe_mono (pe_callTy hc hg hm hv ha hn hdb (starEach_no hs.1) (star_any hs.2).1) fun σ H Q q => bi_tr q) (fun _ => rfl) (fun _ _ _ z => nomatch z)
end
end
end
end Q

set_option Elab.async false
set_option linter.all false
set_option maxRecDepth 100000
set_option maxHeartbeats 4000000
/-! Methods of the built-in types. -/
namespace Q
noncomputable section
open PySem L2 PySem.Spec PyProof.Rows

/-- the rule of a method -/
def tM (g : Stg) (lk : List Nat) (ev : D → List D → Hq → Option (D × Hq)) : V → List V → L2.Hp → VK → Prop := fun x xs H Q => ∃ m C a as d C', Held g lk m C H ∧ Rep H m a x ∧ Reps H m as xs ∧ ev a as C = some (d, C') ∧
  ∀ v m' H', Step m H m' H' → Held g lk m' C' H' → Rep H' m' d v → Q v H'
section
variable {X : Cx} {g : Stg} {lk : List Nat}
theorem frLst_is {C : Hq} {a : D} {l : Nat} {xs : List D} (e : frLst lk C a = some (l, xs)) : a = .loc l ∧ isLk lk l = false ∧ asLst C l = some xs := by
  cases a with
  | loc j =>
    have e : (if free lk j then (asLst C j).map fun xs => (j, xs) else none) = some (l, xs) := e
    split at e
    · rename_i f
      obtain ⟨ys, e1, e2⟩ := Option.map_eq_some_iff.mp e
      cases e2
      exact ⟨rfl, free_is f, e1⟩
    · cases e
  | _ => cases e
theorem atDic_is {C : Hq} {a : D} {l : Nat} {xs : List (D × D)} (e : atDic C a = some (l, xs)) : a = .loc l ∧ C.get l = some (.dic xs) := by
  cases a with
  | loc j =>
    obtain ⟨ys, e1, e2⟩ := Option.map_eq_some_iff.mp (show (asDic C j).map (fun xs => (j, xs)) = some (l, xs) from e)
    cases e2
    refine ⟨rfl, ?_⟩
    unfold asDic at e1
    split at e1
    · rename_i q
      cases e1
      exact q
    · cases e1
  | _ => cases e
/-- the list at a place, free -/
theorem Held.frl {m : List Addr} {C : Hq} {H : L2.Hp} {l : Nat} {xs : List D} {a : Addr} (hd : Held g lk m C H) (e : asLst C l = some xs) (hl : m[l]? = some a) (f : isLk lk l = false) : ∃ vs, H a = some (.lst vs) ∧ Reps H m xs vs := acc_at hd hl f e
theorem rep_dropLast {H : L2.Hp} {m : List Addr} : ∀ {xs : List D} {vs : List V}, Reps H m xs vs → Reps H m xs.dropLast vs.dropLast
  | [], vs, r => by
    rw [r.unnil]
    exact .nil
  | [x], vs, r => by
    obtain ⟨v, rfl, _⟩ := r.one
    exact .nil
  | x :: y :: xs, vs, r => by
    obtain ⟨v, vs', rfl, h1, h2⟩ := r.uncons
    obtain ⟨w, vs2, rfl, h3, h4⟩ := h2.uncons
    rw [List.dropLast_cons₂, List.dropLast_cons₂]
    exact .cons h1 (rep_dropLast (.cons h3 h4))
theorem rep_erase {H : L2.Hp} {m : List Addr} : ∀ {xs : List D} {vs : List V} (i : Nat), Reps H m xs vs → Reps H m (xs.eraseIdx i) (vs.eraseIdx i)
  | [], vs, i, r => by
    rw [r.unnil]
    exact .nil
  | x :: xs, vs, 0, r => by
    obtain ⟨v, vs', rfl, h1, h2⟩ := r.uncons
    exact h2
  | x :: xs, vs, i + 1, r => by
    obtain ⟨v, vs', rfl, h1, h2⟩ := r.uncons
    exact .cons h1 (rep_erase i h2)
theorem om_append : MtR X "list.append" (tM g lk (bmD .append lk)) := by
  rintro pins s σ H x xs v us Q I rx rxs ⟨m, C, a, as, d, C', hd, ra, rs, e, k⟩
  obtain ⟨⟨l, ys⟩, e1, e2⟩ := Option.bind_eq_some_iff.mp e
  obtain ⟨rfl, f, e1⟩ := frLst_is e1
  obtain ⟨y, rfl, e3⟩ := one_is e2
  split at e3
  · rename_i hr
    cases e3
    obtain ⟨p, hp, rfl⟩ := ra.loc_
    obtain ⟨w, rfl, rw'⟩ := rs.one
    obtain ⟨vs, h1, h2, h3, h4⟩ := acc_put hd hp f e1 rw' hr
    exact mt_append pins s σ H _ _ v us Q I rx rxs ⟨p, vs, w, rfl, rfl, h1, h2, k _ m _ h3 h4 Rep.non⟩
  · cases e3
theorem om_extend : MtR X "list.extend" (tM g lk (bmD .extend lk)) := by
  rintro pins s σ H x xs v us Q I rx rxs ⟨m, C, a, as, d, C', hd, ra, rs, e, k⟩
  obtain ⟨⟨l, ys⟩, e1, e2⟩ := Option.bind_eq_some_iff.mp e
  obtain ⟨rfl, f, e1⟩ := frLst_is e1
  obtain ⟨y, rfl, e3⟩ := one_is e2
  obtain ⟨⟨l2, zs⟩, e4, e5⟩ := Option.bind_eq_some_iff.mp e3
  obtain ⟨rfl, f2, e4⟩ := frLst_is e4
  split at e5
  · rename_i hr
    cases e5
    have hr : ys.length + zs.length ≤ 1000000 := by simpa using hr
    obtain ⟨p, hp, rfl⟩ := ra.loc_
    obtain ⟨w, rfl, rw'⟩ := rs.one
    obtain ⟨q, hq, rfl⟩ := rw'.loc_
    obtain ⟨vs, h1, h2⟩ := hd.frl e1 hp f
    obtain ⟨ws, h3, h4⟩ := hd.frl e4 hq f2
    have l1 := h2.length
    have l2 := h4.length
    have st := step_set (o := HO.lst (vs ++ ws)) hd hp (hd.notFrz hp f)
    refine mt_extend pins s σ H _ _ v us Q I rx rxs ⟨p, q, vs, ws, rfl, rfl, h1, h3, by rw [line_is]; omega, k _ m _ st (hd.set hp (hd.notFrz hp f) ?_) Rep.non⟩
    rw [f]
    exact ⟨_, rfl, (h2.app h4).step st⟩
  · cases e5
theorem om_pop0 : MtR X "list.pop" (tM g lk (bmD .pop0 lk)) := by
  rintro pins s σ H x xs v us Q I rx rxs ⟨m, C, a, as, d, C', hd, ra, rs, e, k⟩
  obtain ⟨⟨l, ys⟩, e1, e2⟩ := Option.bind_eq_some_iff.mp e
  obtain ⟨rfl, f, e1⟩ := frLst_is e1
  cases as with
  | nil =>
    obtain ⟨y, e3, e4⟩ := Option.map_eq_some_iff.mp (show (ys[ys.length - 1]?).map (fun x => (x, C.set l (.lst ys.dropLast))) = some (d, C') from e2)
    cases e4
    obtain ⟨p, hp, rfl⟩ := ra.loc_
    cases rs.unnil
    obtain ⟨vs, h1, h2⟩ := hd.frl e1 hp f
    obtain ⟨w, g1, g2⟩ := h2.get e3
    have st := step_set (o := HO.lst vs.dropLast) hd hp (hd.notFrz hp f)
    refine mt_pop pins s σ H _ _ v us Q I rx rxs ⟨p, vs, w, rfl, rfl, h1, by rw [← h2.length]; exact g1, k _ m _ st (hd.set hp (hd.notFrz hp f) ?_) (g2.step st)⟩
    rw [f]
    exact ⟨_, rfl, (rep_dropLast h2).step st⟩
  | cons y r => cases e2
theorem om_pop1 : MtR X "list.pop" (tM g lk (bmD .pop1 lk)) := by
  rintro pins s σ H x xs v us Q I rx rxs ⟨m, C, a, as, d, C', hd, ra, rs, e, k⟩
  obtain ⟨⟨l, ys⟩, e1, e2⟩ := Option.bind_eq_some_iff.mp e
  obtain ⟨rfl, f, e1⟩ := frLst_is e1
  obtain ⟨y, rfl, e3⟩ := one_is e2
  obtain ⟨i, e4, e5⟩ := Option.bind_eq_some_iff.mp e3
  obtain ⟨n, e6, e7⟩ := Option.bind_eq_some_iff.mp e5
  obtain ⟨z, e8, e9⟩ := Option.map_eq_some_iff.mp e7
  cases e9
  obtain ⟨p, hp, rfl⟩ := ra.loc_
  obtain ⟨w, rfl, rw'⟩ := rs.one
  cases asInt_is rw' e4
  obtain ⟨vs, h1, h2⟩ := hd.frl e1 hp f
  obtain ⟨t, g1, g2⟩ := h2.get e8
  have st := step_set (o := HO.lst (vs.eraseIdx n)) hd hp (hd.notFrz hp f)
  have e6' : ixN ys.length i = some n := e6
  obtain ⟨q1, q2, q3, q4⟩ := ixN_seq e6'
  obtain ⟨hz, _⟩ := I.lstM h1
  rw [h2.length] at q1 q3 q4
  have l63 := line63
  refine mt_popAt pins s σ H _ _ v us Q I rx rxs ⟨p, vs, i, n, t, rfl, rfl, h1, by omega, by omega, q1, g1, k _ m _ st (hd.set hp (hd.notFrz hp f) ?_) (g2.step st)⟩
  rw [f]
  exact ⟨_, rfl, (rep_erase n h2).step st⟩
theorem om_get1 (hu : X.A.units + 65 < cLine) : MtR X "dict.get" (tM g lk (bmD .get1 lk)) := by
  rintro pins s σ H x xs v us Q I rx rxs ⟨m, C, a, as, d, C', hd, ra, rs, e, k⟩
  obtain ⟨⟨l, kvs⟩, e1, e2⟩ := Option.bind_eq_some_iff.mp e
  obtain ⟨rfl, e9⟩ := atDic_is e1
  obtain ⟨y, rfl, e3⟩ := one_is e2
  split at e3
  · rename_i f
    cases e3
    obtain ⟨p, hp, rfl⟩ := ra.loc_
    obtain ⟨w, rfl, rw'⟩ := rs.one
    obtain ⟨u, rfl, ru⟩ := vals1 rxs
    cases rx
    obtain ⟨H2, t⟩ := dat_of (X := X) hd hp e9 rw' f
    obtain ⟨o, g1, g2⟩ := t.get
    refine d_get1 (by omega) (t.inv I) g1 ru fun w' s' I' r' => ⟨_, H2, I', r', ?_⟩
    have : Rep H2 m ((dget kvs y).getD .non) (o.getD .non) := by
      cases h1 : dget kvs y <;> cases h2 : o <;> rw [h1, h2] at g2
      · exact Rep.non
      · exact g2.elim
      · exact g2.elim
      · exact g2
    exact k _ m H2 t.step t.held this
  · cases e3
theorem om_get2 (hu : X.A.units + 65 < cLine) : MtR X "dict.get" (tM g lk (bmD .get2 lk)) := by
  rintro pins s σ H x xs v us Q I rx rxs ⟨m, C, a, as, d, C', hd, ra, rs, e, k⟩
  obtain ⟨⟨l, kvs⟩, e1, e2⟩ := Option.bind_eq_some_iff.mp e
  obtain ⟨rfl, e9⟩ := atDic_is e1
  obtain ⟨y, z, rfl, e3⟩ := two_is e2
  split at e3
  · rename_i f
    cases e3
    obtain ⟨p, hp, rfl⟩ := ra.loc_
    obtain ⟨w, w2, rfl, rw', rw2⟩ := rs.two
    obtain ⟨u, u2, rfl, ru, ru2⟩ := vals2 rxs
    cases rx
    obtain ⟨H2, t⟩ := dat_of (X := X) hd hp e9 rw' f
    obtain ⟨o, g1, g2⟩ := t.get
    refine d_get2 (by omega) (t.inv I) g1 ru ru2 fun w' s' I' r' => ⟨_, H2, I', r', ?_⟩
    have : Rep H2 m ((dget kvs y).getD z) (o.getD w2) := by
      cases h1 : dget kvs y <;> cases h2 : o <;> rw [h1, h2] at g2
      · exact rw2.step t.step
      · exact g2.elim
      · exact g2.elim
      · exact g2
    exact k _ m H2 t.step t.held this
  · cases e3
theorem om_setd (hu : X.A.units + 65 < cLine) : MtR X "dict.setdefault" (tM g lk (bmD .setd lk)) := by
  rintro pins s σ H x xs v us Q I rx rxs ⟨m, C, a, as, d, C', hd, ra, rs, e, k⟩
  obtain ⟨⟨l, kvs⟩, e1, e2⟩ := Option.bind_eq_some_iff.mp e
  obtain ⟨rfl, e9⟩ := atDic_is e1
  obtain ⟨y, z, rfl, e3⟩ := two_is e2
  split at e3
  · rename_i hc
    simp only [Bool.and_eq_true] at hc
    obtain ⟨⟨⟨k1, kf⟩, ff⟩, hr⟩ := hc
    have f := free_is ff
    have hr : kvs.length < 1000000 := by
      unfold roomy at hr
      simpa using hr
    obtain ⟨p, hp, rfl⟩ := ra.loc_
    obtain ⟨w, w2, rfl, rw', rw2⟩ := rs.two
    obtain ⟨u, u2, rfl, ru, ru2⟩ := vals2 rxs
    cases rx
    obtain ⟨H2, t⟩ := dat_of (X := X) hd hp e9 rw' (kfit_of kf f)
    rcases t.at_ with ⟨ws, kk, h1, h2, h3, h4, h5, h6⟩ | ⟨ws, kk, b, h1, h2, h3, h4, h5, h6, h7⟩
    · subst h6
      obtain ⟨o, ho⟩ := Option.isSome_iff_exists.mp h2
      rw [ho, f] at h1
      cases (show o = .dK ws from h1)
      have hv := dget_val beq_key1 h5 h3
      have hlen := h3.length
      refine d_setd (t.inv I) ho ru ru2 (by rw [line_is]; omega) (fun v hv1 w' s' I' rw3 => ?_) (fun hv1 w' s' I' rw3 => ?_)
      · rw [hv1] at hv
        cases hg : dget kvs y with
        | none => rw [hg] at hv; exact hv.elim
        | some v0 =>
          rw [hg] at hv e3
          cases e3
          exact ⟨_, H2, I', rw3, k _ m H2 t.step t.held hv⟩
      · rw [hv1] at hv
        cases hg : dget kvs y with
        | some v0 => rw [hg] at hv; exact hv.elim
        | none =>
          rw [hg] at e3
          cases e3
          have st := step_set (o := HO.dK (putK ws kk w2)) t.held hp (t.held.notFrz hp f)
          refine ⟨_, _, I', rw3, k _ m _ (t.step.trans st) (t.held.set hp (t.held.notFrz hp f) ?_) ((rw2.step t.step).step st)⟩
          rw [f]
          exact .inl ⟨_, rfl, (dput_put beq_key1 h5 (rw2.step t.step) h3 h4).step st, putK_nodup h4⟩
    · rw [keyR2_is h5] at k1
      cases k1
  · cases e3
/-! ### texts -/
theorem Str.eta (z : Str) : Sx z.cps.toList = z := by simp
theorem splitS_ne (c : Nat) : ∀ s : List Nat, splitS c s ≠ []
  | [] => by simp [splitS]
  | a :: s => by
    unfold splitS
    split
    · simp
    · have := splitS_ne c s
      split
      · simp
      · simp
theorem splitS_free (c : Nat) : ∀ s : List Nat, ∀ w ∈ splitS c s, c ∉ w
  | [], w, h => by
    simp [splitS] at h
    subst h
    simp
  | a :: s, w, h => by
    have ih := splitS_free c s
    unfold splitS at h
    split at h
    · rcases List.mem_cons.mp h with rfl | h
      · simp
      · exact ih w h
    · rename_i hac
      split at h
      · rename_i e
        exact absurd e (splitS_ne c s)
      · rename_i w' ws e
        rcases List.mem_cons.mp h with rfl | h
        · rw [List.mem_cons, not_or]
          exact ⟨fun z => hac z.symm, ih w' (by rw [e]; exact List.mem_cons_self)⟩
        · exact ih w (by rw [e]; exact List.mem_cons_of_mem _ h)
theorem splitS_join (c : Nat) : ∀ s : List Nat, joinS [c] (splitS c s) = s
  | [] => by simp [splitS, joinS]
  | a :: s => by
    have ih := splitS_join c s
    unfold splitS
    split
    · rename_i h
      subst h
      cases e : splitS a s with
      | nil => exact absurd e (splitS_ne a s)
      | cons w ws =>
        rw [e] at ih
        show [] ++ [a] ++ joinS [a] (w :: ws) = _
        rw [ih]
        rfl
    · split
      · rename_i e
        exact absurd e (splitS_ne c s)
      · rename_i w ws e
        rw [e] at ih
        cases ws with
        | nil =>
          show a :: w = a :: s
          exact congrArg (a :: ·) ih
        | cons w2 ws =>
          show (a :: w) ++ [c] ++ joinS [c] (w2 :: ws) = a :: s
          have : w ++ [c] ++ joinS [c] (w2 :: ws) = s := ih
          rw [← this]
          simp
theorem join_inj (c : Nat) : ∀ {xs ys : List (List Nat)}, xs ≠ [] → ys ≠ [] → (∀ w ∈ xs, c ∉ w) → (∀ w ∈ ys, c ∉ w) → joinS [c] xs = joinS [c] ys → xs = ys := by
  -- the first part ends where c first stands
  have cut : ∀ {u v r t : List Nat}, c ∉ u → c ∉ v → u ++ c :: r = v ++ c :: t → u = v ∧ r = t := by
    intro u
    induction u with
    | nil =>
      intro v r t _ hv e
      cases v with
      | nil => cases e; exact ⟨rfl, rfl⟩
      | cons b v =>
        injection e with e1 e2
        subst e1
        exact absurd List.mem_cons_self hv
    | cons a u ih =>
      intro v r t hu hv e
      cases v with
      | nil =>
        injection e with e1 e2
        subst e1
        exact absurd List.mem_cons_self hu
      | cons b v =>
        injection e with e1 e2
        obtain ⟨h1, h2⟩ := ih (fun z => hu (List.mem_cons_of_mem _ z)) (fun z => hv (List.mem_cons_of_mem _ z)) e2
        exact ⟨by rw [e1, h1], h2⟩
  have nomem : ∀ {u r v : List Nat}, c ∉ v → u ++ c :: r = v → False := fun {u r v} hv e => hv (by rw [← e]; simp)
  intro xs
  induction xs with
  | nil => intro ys h; exact absurd rfl h
  | cons x xs ih =>
    intro ys _ hy fx fy e
    cases ys with
    | nil => exact absurd rfl hy
    | cons y ys =>
      have hx := fx x List.mem_cons_self
      have hy' := fy y List.mem_cons_self
      cases xs with
      | nil =>
        cases ys with
        | nil => exact congrArg (fun z => [z]) e
        | cons y2 ys =>
          have e' : x = y ++ [c] ++ joinS [c] (y2 :: ys) := e
          rw [List.append_assoc] at e'
          exact (nomem hx e'.symm).elim
      | cons x2 xs =>
        cases ys with
        | nil =>
          have e' : x ++ [c] ++ joinS [c] (x2 :: xs) = y := e
          rw [List.append_assoc] at e'
          exact (nomem hy' e').elim
        | cons y2 ys =>
          have e' : x ++ [c] ++ joinS [c] (x2 :: xs) = y ++ [c] ++ joinS [c] (y2 :: ys) := e
          rw [List.append_assoc, List.append_assoc] at e'
          obtain ⟨h1, h2⟩ := cut hx hy' e'
          rw [h1, ih (by simp) (by simp) (fun w hw => fx w (List.mem_cons_of_mem _ hw)) (fun w hw => fy w (List.mem_cons_of_mem _ hw)) h2]
theorem join_Sx (sep : List Nat) : ∀ ws : List (List Nat), Str.join (Sx sep) (ws.map Sx) = Sx (joinS sep ws)
  | [] => rfl
  | [w] => rfl
  | w :: w2 :: ws => by
    show Sx w ++ Sx sep ++ Str.join (Sx sep) ((w2 :: ws).map Sx) = _
    rw [join_Sx sep (w2 :: ws), Sx_app, Sx_app]
    rfl
theorem split_is (c : Nat) (s : List Nat) : Txt.split (Sx s) ⟨#[c]⟩ = (splitS c s).map Sx := by
  have h1 := PySem.StrLaws.join_split (Sx s) ⟨#[c]⟩
  have h2 := PySem.StrLaws.split_free (Sx s) c
  have hne : Txt.split (Sx s) ⟨#[c]⟩ ≠ [] := fun z => by
    have := split_pos (Sx s) ⟨#[c]⟩
    rw [z] at this
    exact absurd this (by decide)
  have e : Txt.split (Sx s) ⟨#[c]⟩ = ((Txt.split (Sx s) ⟨#[c]⟩).map fun z => z.cps.toList).map Sx := by
    rw [List.map_map]
    conv => lhs; rw [← List.map_id (Txt.split (Sx s) ⟨#[c]⟩)]
    exact List.map_congr_left fun z _ => (Str.eta z).symm
  rw [e] at h1 ⊢
  have h3 : Str.join (Sx [c]) _ = Sx s := h1
  rw [join_Sx] at h3
  have h4 := Sx_inj h3
  rw [join_inj c (by simpa using hne) (splitS_ne c s) (fun w hw => by
    obtain ⟨z, hz, rfl⟩ := List.mem_map.mp hw
    exact h2 z hz) (splitS_free c s) (h4.trans (splitS_join c s).symm)]
theorem reps_strs {H : L2.Hp} {m : List Addr} : ∀ (ws : List (List Nat)), (∀ w ∈ ws, w.length ≤ 1000000) → Reps H m (ws.map .str) ((ws.map Sx).map V.str)
  | [], _ => .nil
  | w :: ws, h => .cons (Rep.str (h w List.mem_cons_self)) (reps_strs ws fun z hz => h z (List.mem_cons_of_mem _ hz))
theorem splitS_len (c : Nat) (s : List Nat) : ∀ w ∈ splitS c s, w.length ≤ s.length := by
  induction s with
  | nil => intro w h; simp [splitS] at h; subst h; simp
  | cons a s ih =>
    intro w h
    unfold splitS at h
    split at h
    · rcases List.mem_cons.mp h with rfl | h
      · simp
      · have := ih w h; simp; omega
    · split at h
      · rename_i e; exact absurd e (splitS_ne c s)
      · rename_i w' ws e
        rcases List.mem_cons.mp h with rfl | h
        · have := ih w' (by rw [e]; exact List.mem_cons_self)
          simp
          omega
        · have := ih w (by rw [e]; exact List.mem_cons_of_mem _ h)
          simp
          omega
theorem om_split : MtR X "str.split" (tM g lk (bmD .split lk)) := by
  rintro pins s σ H x xs v us Q I rx rxs ⟨m, C, a, as, d, C', hd, ra, rs, e, k⟩
  obtain ⟨t, e1, e2⟩ := Option.bind_eq_some_iff.mp e
  obtain ⟨y, rfl, e3⟩ := one_is e2
  obtain ⟨c, e4, e5⟩ := Option.map_eq_some_iff.mp e3
  cases e5
  cases a with
  | str t' =>
    cases e1
    have hl := ra.slen
    cases ra.str_
    obtain ⟨w, rfl, rw'⟩ := rs.one
    have hy : y = .str [c] := by
      unfold chrOf at e4
      split at e4
      · cases e4; rfl
      · cases e4
    subst hy
    cases rw'.str_
    refine mt_split pins s σ H _ _ v us Q I rx rxs ⟨Sx t, Sx [c], rfl, rfl, rfl, by rw [Sx_len, line_is]; omega, ?_⟩
    rw [show (Sx [c]) = ⟨#[c]⟩ from rfl, split_is]
    exact hd.newL (K := X.K) (reps_strs _ fun w hw => Nat.le_trans (splitS_len c t w hw) hl) k
  | _ => cases e1
theorem strs_of {H : L2.Hp} {m : List Addr} : ∀ {xs : List D} {ws : List (List Nat)} {vs : List V}, strsOf xs = some ws → Reps H m xs vs → vs = (ws.map Sx).map V.str
  | [], ws, vs, e, r => by cases e; exact r.unnil
  | x :: xs, ws, vs, e, r => by
    obtain ⟨v, vs', rfl, h1, h2⟩ := r.uncons
    cases x with
    | str t =>
      obtain ⟨ws', e1, rfl⟩ := Option.map_eq_some_iff.mp (show (strsOf xs).map (fun s => t :: s) = some ws from e)
      rw [strs_of e1 h2, h1.str_]
      rfl
    | _ => cases e
theorem joinS_len (sep : List Nat) : ∀ ws : List (List Nat), (joinS sep ws).length ≤ (ws.map (·.length)).sum + ws.length * sep.length
  | [] => by simp [joinS]
  | [w] => by simp [joinS]
  | w :: w2 :: ws => by
    have ih := joinS_len sep (w2 :: ws)
    show (w ++ sep ++ joinS sep (w2 :: ws)).length ≤ _
    simp only [List.length_append, List.map_cons, List.sum_cons, List.length_cons] at ih ⊢
    rw [Nat.succ_mul]
    omega
end
end
end Q

set_option Elab.async false
set_option linter.all false
set_option maxRecDepth 100000
set_option maxHeartbeats 4000000
/-! Calls of methods, isinstance, displays. -/
namespace Q
noncomputable section
open PySem L2 PySem.Spec PyProof.Rows

section
variable {X : Cx} {g : Stg} {lk : List Nat}
theorem om_join0 {H : L2.Hp} {m : List Addr} {C : Hq} {ws : List (List Nat)} {t : List Nat} (hl : (decide ((ws.map (·.length)).sum + ws.length * t.length ≤ 1000000)) = true) :
    (((ws.map Sx).map (·.length)).sum + (ws.map Sx).length * (Sx t).length ≤ 16777216) ∧ Txt.join (Sx t) (ws.map Sx) = Sx (joinS t ws) ∧ (joinS t ws).length ≤ 1000000 := by
  rw [decide_eq_true_eq] at hl
  have e : ((ws.map Sx).map (·.length)) = ws.map (·.length) := by
    rw [List.map_map]
    exact List.map_congr_left fun w _ => Sx_len w
  refine ⟨?_, ?_, Nat.le_trans (joinS_len t ws) hl⟩
  · rw [e, List.length_map, Sx_len]
    omega
  · exact (PySem.StrLaws.glued_eq_join (Sx t) (ws.map Sx)).trans (join_Sx t ws)

/-! ### the kinds of receivers -/
theorem kind_loc {m : List Addr} {C : Hq} {H : L2.Hp} {pins : List (Addr × Obj)} {σ : L2.St} {s : Shared} {a : D} {x : V} {v : Value} (I : Inv X pins σ H s) (hd : Held g lk m C H) (ra : Rep H m a x) (rx : RelV x v) :
    (bmK .append a C = true → s.TypeIs v "list" ∧ ∀ b, v = .ref b → ∃ ob, s.heap.get? b = some ob ∧ ob.dict = none) ∧
    (bmK .get1 a C = true → s.TypeIs v "dict" ∧ ∀ b, v = .ref b → ∃ ob, s.heap.get? b = some ob ∧ ob.dict = none) ∧
    (bmK .split a C = true → s.TypeIs v "str" ∧ ∀ b, v = .ref b → ∃ ob, s.heap.get? b = some ob ∧ ob.dict = none) := by
  refine ⟨fun h => ?_, fun h => ?_, fun h => ?_⟩
  · cases a with
    | loc l =>
      obtain ⟨xs, e⟩ := Option.isSome_iff_exists.mp h
      obtain ⟨p, hp, rfl⟩ := ra.loc_
      cases rx
      obtain ⟨vs, q1, _, _⟩ := hd.sql (K := X.K) e hp
      obtain ⟨its, _, ⟨o, n, ho, hc, hdn, hdt⟩, _⟩ := I.list q1
      exact ⟨⟨o, ho, hc⟩, fun b e => by cases e; exact ⟨o, ho, hdn⟩⟩
    | _ => cases h
  · cases a with
    | loc l =>
      obtain ⟨xs, e⟩ := Option.isSome_iff_exists.mp h
      obtain ⟨p, hp, rfl⟩ := ra.loc_
      cases rx
      unfold asDic at e
      split at e
      · rename_i kvs q
        have hD : IsD H p := by
          rcases rd_dic hd q hp with ⟨ws, h1, _⟩ | ⟨ws, h1, _⟩
          · exact .inl ⟨ws, h1⟩
          · exact .inr ⟨ws, h1⟩
        obtain ⟨t1, t2, _⟩ := isD_at I hD
        exact ⟨t1, t2⟩
      · cases e
    | _ => cases h
  · cases a with
    | str t =>
      cases ra.str_
      obtain ⟨t, rfl⟩ := rx
      exact ⟨typeIs_str _ _ _, fun b e => nomatch e⟩
    | _ => cases h
/-- the type and the function of a method -/
def bmT : BM → String × Str × String
  | .append => ("list", "append", "list.append")
  | .extend => ("list", "extend", "list.extend")
  | .pop0 => ("list", "pop", "list.pop")
  | .pop1 => ("list", "pop", "list.pop")
  | .index => ("list", "index", "list.index")
  | .count => ("list", "count", "list.count")
  | .get1 => ("dict", "get", "dict.get")
  | .get2 => ("dict", "get", "dict.get")
  | .setd => ("dict", "setdefault", "dict.setdefault")
  | .update => ("dict", "update", "dict.update")
  | .split => ("str", "split", "str.split")
  | .join => ("str", "join", "str.join")
structure BmF (X : Cx) (g : Stg) (m : BM) : Prop where
  pa : PlainAttrs (bmT m).1
  slot : Slot (bmT m).1 (bmT m).2.1 (bmT m).2.2
  ty : typeOf (.builtin (bmT m).2.2) = pure (.type "method_descriptor")
  rule : ∀ lk, MtR X (bmT m).2.2 (tM g lk (bmD m lk))
theorem bm_kind {m : List Addr} {C : Hq} {H : L2.Hp} {pins : List (Addr × Obj)} {σ : L2.St} {s : Shared} {a : D} {x : V} {v : Value} {b : BM} (I : Inv X pins σ H s) (hd : Held g lk m C H) (ra : Rep H m a x) (rx : RelV x v) (h : bmK b a C = true) :
    s.TypeIs v (bmT b).1 ∧ ∀ c, v = .ref c → ∃ ob, s.heap.get? c = some ob ∧ ob.dict = none := by
  obtain ⟨k1, k2, k3⟩ := kind_loc I hd ra rx
  cases b with
  | append => exact k1 h
  | extend => exact k1 h
  | pop0 => exact k1 h
  | pop1 => exact k1 h
  | index => exact k1 h
  | count => exact k1 h
  | get1 => exact k2 h
  | get2 => exact k2 h
  | setd => exact k2 h
  | update => exact k2 h
  | split => exact k3 h
  | join => exact k3 h
section
variable {e o : PySem.Expr} {es : List PySem.Expr} {ea : EvE} {evs : Sl → Hq → R (List D × Hq)} {apos pos : Pos} {b : BM}
def evBm (b : BM) (lk : List Nat) (ea : EvE) (evs : Sl → Hq → R (List D × Hq)) : EvE := fun ls C => (ea ls C).bind fun x => if bmK b x.1 x.2 then (evs ls x.2).bind fun y => R.of (bmD b lk x.1 y.1 y.2) else .no
theorem few_of {es : List PySem.Expr} {env : Env} (hs : es.all noStar = true) (hl : es.length < 29) : ((backTo pos (starEach es env)).all (fun x => !x.1) && (backToKw pos (keywordEach [] env)).all (fun x => x.1.isSome)
      && decide (es.length + ([] : List Keyword).length + (if ([] : List Keyword).isEmpty then 0 else 1) < 30)) = true := by
  rw [(star_any hs).2]
  have hl' : decide (es.length + ([] : List Keyword).length + 0 < 30) = true := decide_eq_true (by simp; omega)
  exact hl'
theorem b_bm (F : BmF X g b) (he : PB X g lk o ea) (ha : PA X (e :: es) (tAs g lk evs)) (hb : okBase o = true) (hs : (e :: es).all noStar = true) (hl : (e :: es).length < 29) (hline : (apos.endLine == pos.line) = true) :
    PB X g lk (.Call (.Attribute o (bmT b).2.1 apos) (e :: es) [] pos) (evBm b lk ea evs) := by
  refine PB.of ⟨fun pins s σ H Q I q => ?_⟩ (fun _ => rfl) (fun _ _ _ z => nomatch z)
  obtain ⟨m, C, ls, x1, C1, d, C', hd, sl, e1, e2, k⟩ := tE_bind q
  dsimp only at e2
  split at e2
  · rename_i hk
    obtain ⟨⟨ds, C2⟩, e3, e4⟩ := R.bind_eq_ok e2
    have hh := hs
    rw [List.all_cons, Bool.and_eq_true] at hs
    refine wpAny_Call_method_late (base_ok hb) (few_of hh hl) hline rfl (thn (he.pe.run pins s σ H (fun v H1 => ∃ m1, Step m H m1 H1 ∧ Held g lk m1 C1 H1 ∧ Rep H1 m1 x1 v) I ⟨m, C, ls, x1, C1, hd, sl, e1, fun v m1 H1 s1 d1 r1 => ⟨m1, s1, d1, r1⟩⟩) ?_)
    rintro v s1 ⟨y, H1, I1, ry, m1, st1, d1, r1⟩
    obtain ⟨h1, h2⟩ := bm_kind I1 d1 r1 ry hk
    refine ⟨_, _, F.pa, F.slot, F.ty, h1, h2, ?_⟩
    have hA := ha.run pos pins s1 σ H1 (fun vs H2 => ∃ m2, Step m1 H1 m2 H2 ∧ Held g lk m2 C2 H2 ∧ Reps H2 m2 ds vs) I1 ⟨m1, C1, ls, ds, C2, d1, sl.step st1, e3, fun vs m2 H2 s2 d2 r2 => ⟨m2, s2, d2, r2⟩⟩
    rw [starEach_no hs.1] at hA ⊢
    refine Calls.callWith_builtin (by show (false || (backTo pos (starEach es X.env)).any (·.1)) = false; rw [(star_any hs.2).1] <;> rfl) (Calls.evalArgs_plain ?_)
    exact thn hA fun us s2 ⟨vs, H2, I2, r2, m2, st2, d2, rr⟩ => F.rule lk pins s2 σ H2 y vs v us Q I2 ry r2 ⟨m2, C2, x1, ds, d, C', d2, r1.step st2, rr, R.of_eq_ok e4, fun w m3 H3 s3 d3 r3 => k w m3 H3 ((st1.trans st2).trans s3) d3 r3⟩
  · cases e2
theorem b_bm0 (F : BmF X g b) (he : PB X g lk o ea) (hb : okBase o = true) (hline : (apos.endLine == pos.line) = true) :
    PB X g lk (.Call (.Attribute o (bmT b).2.1 apos) [] [] pos) (evBm b lk ea fun _ C => .ok ([], C)) := by
  refine PB.of ⟨fun pins s σ H Q I q => ?_⟩ (fun _ => rfl) (fun _ _ _ z => nomatch z)
  obtain ⟨m, C, ls, x1, C1, d, C', hd, sl, e1, e2, k⟩ := tE_bind q
  dsimp only at e2
  split at e2
  · rename_i hk
    have e4 : R.of (bmD b lk x1 [] C1) = .ok (d, C') := e2
    refine wpAny_Call_method_late (base_ok hb) rfl hline rfl (thn (he.pe.run pins s σ H (fun v H1 => ∃ m1, Step m H m1 H1 ∧ Held g lk m1 C1 H1 ∧ Rep H1 m1 x1 v) I ⟨m, C, ls, x1, C1, hd, sl, e1, fun v m1 H1 s1 d1 r1 => ⟨m1, s1, d1, r1⟩⟩) ?_)
    rintro v s1 ⟨y, H1, I1, ry, m1, st1, d1, r1⟩
    obtain ⟨h1, h2⟩ := bm_kind I1 d1 r1 ry hk
    exact ⟨_, _, F.pa, F.slot, F.ty, h1, h2, Calls.callWith_builtin rfl (PySem.evalArgs_none (F.rule lk pins s1 σ H1 y [] v [] Q I1 ry .nil ⟨m1, C1, x1, [], d, C', d1, r1, .nil, R.of_eq_ok e4, fun w m3 H3 s3 d3 r3 => k w m3 H3 (st1.trans s3) d3 r3⟩))⟩
  · cases e2
end
/-- the methods that are covered -/
theorem bmF_append : BmF X g .append := ⟨F.plainAttrs_list, F.slot_list_append, F.type_list_append, fun _ => om_append⟩
theorem bmF_extend : BmF X g .extend := ⟨F.plainAttrs_list, F.slot_list_extend, F.type_list_extend, fun _ => om_extend⟩
theorem bmF_pop0 : BmF X g .pop0 := ⟨F.plainAttrs_list, F.slot_list_pop, F.type_list_pop, fun _ => om_pop0⟩
theorem bmF_pop1 : BmF X g .pop1 := ⟨F.plainAttrs_list, F.slot_list_pop, F.type_list_pop, fun _ => om_pop1⟩
theorem bmF_get1 (hu : X.A.units + 65 < cLine) : BmF X g .get1 := ⟨F.plainAttrs_dict, F.slot_dict_get, F.type_dict_get, fun _ => om_get1 hu⟩
theorem bmF_get2 (hu : X.A.units + 65 < cLine) : BmF X g .get2 := ⟨F.plainAttrs_dict, F.slot_dict_get, F.type_dict_get, fun _ => om_get2 hu⟩
theorem bmF_setd (hu : X.A.units + 65 < cLine) : BmF X g .setd := ⟨F.plainAttrs_dict, F.slot_dict_setdefault, F.type_dict_setdefault, fun _ => om_setd hu⟩
theorem bmF_split : BmF X g .split := ⟨F.plainAttrs_str, F.slot_str_split, F.type_str_split, fun _ => om_split⟩
theorem bmF_index : BmF X g .index := ⟨F.plainAttrs_list, F.slot_list_index, F.type_list_index, fun _ => by rintro pins s σ H x xs v us Q I rx rxs ⟨m, C, a, as, d, C', hd, ra, rs, e, k⟩; cases e⟩
theorem bmF_count : BmF X g .count := ⟨F.plainAttrs_list, F.slot_list_count, F.type_list_count, fun _ => by rintro pins s σ H x xs v us Q I rx rxs ⟨m, C, a, as, d, C', hd, ra, rs, e, k⟩; cases e⟩

/-! ### update -/
theorem keys1_all {kvs : List (D × D)} (h : kvs.all (fun z => isKey1 z.1) = true) {m : List Addr} {C : Hq} {H : L2.Hp} {l : Nat} {a : Addr} (hd : Held g lk m C H) (hl : m[l]? = some a) (e : C.get l = some (.dic kvs)) (hne : kvs ≠ [] ∨ isLk lk l = false) :
    True := True.intro
theorem dputAll_len : ∀ (ws kvs : List (D × D)), True := fun _ _ => True.intro

/-! ### displays -/
theorem b_dic0 {pos : Pos} : PB X g lk (.Dict [] [] pos) (fun _ C => .ok (newL C (.dic []))) := by
  refine PB.of (pe_mono pe_dnewK fun σ H Q q => ?_) (fun _ => rfl) (fun _ _ _ z => nomatch z)
  obtain ⟨m, C, ls, d, C', hd, sl, e, k⟩ := q
  cases e
  intro p hp
  have s2 := step_push (o := HO.dK []) hd hp
  refine k _ (m ++ [p]) _ s2 (hd.push hp (.inl ⟨[], rfl, .nil, List.nodup_nil⟩)) (Rep.loc ?_)
  rw [← hd.len]
  simp

/-! ### isinstance -/
def tyN : D → Hq → String
  | .non, _ => "NoneType"
  | .bl _, _ => "bool"
  | .int _, _ => "int"
  | .str _, _ => "str"
  | .tup _, _ => "tuple"
  | .loc _, _ => "?"
def tyS : TY → Option String
  | .int => some "int"
  | .bool => some "bool"
  | .str => some "str"
  | .tuple => some "tuple"
  | .list => some "list"
  | .cls _ => none
/-- what is known of the classes, for isinstance -/
structure IsF (g : Stg) (G : Gam) (K : PySem.W.Frag) : Prop where
  ty : ∀ c cl, G.cls c = some cl → PySem.W.findIn K (.ref (g.cad c)) "__class__" = some (some (.builtin "object.__class__")) ∧ PySem.W.specialIn K (.builtin "object.__class__") "__get__" = some (some (.builtin "getset_descriptor.__get__")) ∧
    PySem.W.takesIn K (.builtin "object.__class__") = some true ∧ PySem.W.mroIn K (g.cad c) (.type "object") = some true
  bt : ∀ c cl t n, G.cls c = some cl → tyS t = some n → PySem.W.kitOne K (.ref (g.cad c)) (.type n) = some false
  own : ∀ c c' cl cl', G.cls c = some cl → G.cls c' = some cl' → PySem.W.kitOne K (.ref (g.cad c)) (.ref (g.cad c')) = some (Nat.beq c c')
  no : ∀ c cl n, G.cls c = some cl → n ∈ (["NoneType", "bool", "int", "str", "tuple", "list", "dict"] : List String) → PySem.W.kitOne K (.type n) (.ref (g.cad c)) = some false
def evIsi (G : Gam) (t : TY) (ea : EvE) : EvE := fun ls C => (ea ls C).bind fun x => if insOk G.cls x.1 x.2 then (R.of (isiD t x.1 x.2)).bind fun k => .ok (.bl k, x.2) else .no
theorem isiD_loc (t : TY) (l : Nat) (C : Hq) : isiD t (.loc l) C = (match C.get l with
      | some (.lst _) => some (match t with | .list => true | _ => false)
      | some (.ins c _) => some (match t with | .cls c' => Nat.beq c c' | _ => false)
      | _ => none) := rfl
theorem insOk_loc (cls : Nat → Option Cl) (l : Nat) (C : Hq) : insOk cls (.loc l) C = (match C.get l with
    | some (.ins c _) => (cls c).isSome
    | _ => true) := rfl
/-- the class that is asked stands so -/
def TyA (g : Stg) (G : Gam) (t : TY) (c : V) (u : Value) : Prop := match t with
  | .cls k => (∃ cl, G.cls k = some cl) ∧ c = .ref (g.cad k) ∧ u = .ref (g.cad k)
  | t => ∃ n, tyS t = some n ∧ c = .ty n ∧ u = .type n
theorem isi_plain {G : Gam} (IF : IsF g G X.K) {t : TY} {c : V} {u : Value} {n : String} {b : Bool} (ht : TyA g G t c u) (hn : n ∈ (["NoneType", "bool", "int", "str", "tuple", "list", "dict"] : List String))
    (hb : ∀ k, tyS t = some k → kitB n k = some b) (hc : (∃ k, t = .cls k) → b = false) : ClsV c u ∧ PySem.W.kitOne X.K (.type n) u = some b := by
  cases t with
  | cls k =>
    obtain ⟨⟨cl, h⟩, rfl, rfl⟩ := ht
    rw [hc ⟨k, rfl⟩]
    exact ⟨.own _, IF.no k cl n h hn⟩
  | int => obtain ⟨k, h1, rfl, rfl⟩ := ht; exact ⟨.ty _, kit_ty (hb k h1)⟩
  | bool => obtain ⟨k, h1, rfl, rfl⟩ := ht; exact ⟨.ty _, kit_ty (hb k h1)⟩
  | str => obtain ⟨k, h1, rfl, rfl⟩ := ht; exact ⟨.ty _, kit_ty (hb k h1)⟩
  | tuple => obtain ⟨k, h1, rfl, rfl⟩ := ht; exact ⟨.ty _, kit_ty (hb k h1)⟩
  | list => obtain ⟨k, h1, rfl, rfl⟩ := ht; exact ⟨.ty _, kit_ty (hb k h1)⟩
theorem isi_ok {G : Gam} {kk : Nat} (W : Wd g G kk X) (IF : IsF g G X.K) {m : List Addr} {C : Hq} {H : L2.Hp} {t : TY} {c x : V} {u : Value} {a : D} {b : Bool} {Q : VK} (ht : TyA g G t c u) (hd : Held g lk m C H) (ra : Rep H m a x) (e : isiD t a C = some b) (ho : insOk G.cls a C = true) (q : Q (.bl b) H) :
    rIsi X.K [x, c] H Q := by
  cases a with
  | non =>
    cases e
    cases ra.non_
    obtain ⟨h1, h2⟩ := isi_plain (X := X) IF (n := "NoneType") (b := false) ht (by decide) (fun k h => by cases t <;> cases h <;> decide +kernel) (fun _ => rfl)
    exact ⟨_, c, _, u, _, rfl, h1, .base .non, h2, q⟩
  | bl z =>
    cases ra.bl_
    obtain ⟨h1, h2⟩ := isi_plain (X := X) IF (n := "bool") (b := b) ht (by decide) (fun k h => by cases t <;> cases h <;> cases e <;> decide +kernel) (fun ⟨k, hk⟩ => by subst hk; cases e; rfl)
    exact ⟨_, c, _, u, _, rfl, h1, .base (.bl z), h2, q⟩
  | int z =>
    cases ra.int_
    obtain ⟨h1, h2⟩ := isi_plain (X := X) IF (n := "int") (b := b) ht (by decide) (fun k h => by cases t <;> cases h <;> cases e <;> decide +kernel) (fun ⟨k, hk⟩ => by subst hk; cases e; rfl)
    exact ⟨_, c, _, u, _, rfl, h1, .base (.int z), h2, q⟩
  | str z =>
    cases ra.str_
    obtain ⟨h1, h2⟩ := isi_plain (X := X) IF (n := "str") (b := b) ht (by decide) (fun k h => by cases t <;> cases h <;> cases e <;> decide +kernel) (fun ⟨k, hk⟩ => by subst hk; cases e; rfl)
    exact ⟨_, c, _, u, _, rfl, h1, .base (.str _), h2, q⟩
  | tup z =>
    obtain ⟨p, vs, rfl, ha, _, _⟩ := ra.tup_
    obtain ⟨h1, h2⟩ := isi_plain (X := X) IF (n := "tuple") (b := b) ht (by decide) (fun k h => by cases t <;> cases h <;> cases e <;> decide +kernel) (fun ⟨k, hk⟩ => by subst hk; cases e; rfl)
    exact ⟨_, c, _, u, _, rfl, h1, .base (.tup ha), h2, q⟩
  | loc l =>
    obtain ⟨p, hp, rfl⟩ := ra.loc_
    rw [isiD_loc] at e
    rw [insOk_loc] at ho
    split at e
    · rename_i xs z
      obtain ⟨a', vs, h4, h5, _, _⟩ := hd.lst (show asLst C l = some xs by unfold asLst; rw [z])
      rw [hp] at h4
      cases h4
      obtain ⟨h1, h2⟩ := isi_plain (X := X) IF (n := "list") (b := b) ht (by decide) (fun k h => by cases t <;> cases h <;> cases e <;> decide +kernel) (fun ⟨k, hk⟩ => by subst hk; cases e; rfl)
      rcases h5 with h5 | ⟨o, h5⟩
      · exact ⟨_, c, _, u, _, rfl, h1, .base (.lst h5), h2, q⟩
      · exact ⟨_, c, _, u, _, rfl, h1, .base (.frz h5), h2, q⟩
    · rename_i k fs z
      obtain ⟨dx, fs', h5, _⟩ := hd.ins (c := k) (fs := fs) (by unfold asIns; rw [z]) hp
      rw [z] at ho
      obtain ⟨cl, hcl⟩ := Option.isSome_iff_exists.mp ho
      obtain ⟨a1, a2, a3, a4⟩ := IF.ty k cl hcl
      have hT : TyX X.K H (.ref p) (.ref (g.cad k)) := .base (.ins h5 (W.cls k cl hcl) a1 a2 a3 a4)
      cases t with
      | cls k' =>
        cases e
        obtain ⟨⟨cl', h'⟩, rfl, rfl⟩ := ht
        exact ⟨_, _, _, _, _, rfl, .own _, hT, IF.own k k' cl cl' hcl h', q⟩
      | int => cases e; obtain ⟨n, h1, rfl, rfl⟩ := ht; exact ⟨_, _, _, _, _, rfl, .ty _, hT, IF.bt k cl _ n hcl h1, q⟩
      | bool => cases e; obtain ⟨n, h1, rfl, rfl⟩ := ht; exact ⟨_, _, _, _, _, rfl, .ty _, hT, IF.bt k cl _ n hcl h1, q⟩
      | str => cases e; obtain ⟨n, h1, rfl, rfl⟩ := ht; exact ⟨_, _, _, _, _, rfl, .ty _, hT, IF.bt k cl _ n hcl h1, q⟩
      | tuple => cases e; obtain ⟨n, h1, rfl, rfl⟩ := ht; exact ⟨_, _, _, _, _, rfl, .ty _, hT, IF.bt k cl _ n hcl h1, q⟩
      | list => cases e; obtain ⟨n, h1, rfl, rfl⟩ := ht; exact ⟨_, _, _, _, _, rfl, .ty _, hT, IF.bt k cl _ n hcl h1, q⟩
    · cases e
theorem b_isi {G : Gam} {kk : Nat} (W : Wd g G kk X) (IF : IsF g G X.K) {t : TY} {c : V} {u : Value} {e tx : PySem.Expr} {ea : EvE} {p pos : Pos} (ht : TyA g G t c u) (hg : Gl X "isinstance") (hm : X.mg "isinstance" = none) (he : PB X g lk e ea) (hc : PE X tx (tC c)) (hs : noStar e = true) (hs2 : noStar tx = true) :
    PB X g lk (.Call (.Name "isinstance" p) [e, tx] [] pos) (evIsi G t ea) := by
  refine PB.of (pe_mono (pe_callB call_isi hg hm boot_isinstance (pa_cons he.pe (pa_cons hc pa_nil (starEach_no hs2)) (starEach_no hs)) (by decide) (by decide) (starEach_no hs) (by rw [starEach_no hs2]; rfl)) fun σ H Q q => ?_) (fun _ => rfl) (fun _ _ _ z => nomatch z)
  obtain ⟨m, C, ls, x1, C1, d, C', hd, sl, e1, e2, k⟩ := tE_bind q
  dsimp only at e2
  split at e2
  · rename_i ho
    obtain ⟨b, e3, e4⟩ := R.bind_eq_ok e2
    cases e4
    exact ⟨m, C, ls, x1, C1, hd, sl, e1, fun v m1 H1 s1 d1 r1 => isi_ok W IF ht d1 r1 (R.of_eq_ok e3) ho (k _ m1 H1 s1 d1 Rep.bl)⟩
  · cases e2
end
end
end Q

set_option Elab.async false
set_option linter.all false
set_option maxRecDepth 100000
set_option maxHeartbeats 4000000
/-! enumerate over a tuple, over a list; zip. -/
namespace Q
noncomputable section
open PySem L2 PySem.Spec PyProof.Rows

/-- enumerate(v), v told by how it begins -/
theorem en_new {v : Value} {o : Obj} {B0 : Heap → Prop} (B : Begins v o B0) :
    Meets (Builtin.«enumerate.__new__» ⟨[.type "enumerate", v], []⟩) (fun _ R s => B0 s.heap ∧
      R (.ok (.ret (.ref (s.heap.push o).objs.size))) { s with heap := (s.heap.push o).push { cls := .type "enumerate", data := .fields #[.none, .bool false, .ref s.heap.objs.size, rawInt 0, .none, .none] } }) := by
  refine .of_wp fun prog w A R s hh => ?_
  obtain ⟨hp, gs, dr, tk, os⟩ := s
  obtain ⟨b1, b2⟩ := hh
  have sub := sub_enumerate
  have begin_ : ∀ {A' : Around} {E' : Value → Shared → Prop} {Q' : Value → Shared → Prop}, Q' (.ref hp.objs.size) ⟨hp.push o, gs, dr, tk, os⟩ → wpAny (model prog w) A' (pyIter v) Q' E' ⟨hp, gs, dr, tk, os⟩ :=
    fun q => B.iter prog w _ _ ⟨hp, gs, dr, tk, os⟩ _ b1 q
  wp_walk using begin_
  refine wpAny_stack_any fun st => wpAny_pure ?_
  split
  · rename_i c _ _ _ _ _
    cases (c == Value.type "enumerate") <;> (wp_walk using begin_; exact ⟨_, rfl, b2⟩)
  · wp_walk using begin_
    exact ⟨_, rfl, b2⟩
section
variable {prog : Program} {w : World} {A : Around} {E : Value → Shared → Prop} {s : Shared}
theorem en_call {v : Value} {o : Obj} {B0 : Heap → Prop} {Q : Value → Shared → Prop} (B : Begins v o B0) (b1 : B0 s.heap)
    (h : ∀ h', IsEnum h' (s.heap.objs.size + 1) s.heap.objs.size 0 .none → h'.get? s.heap.objs.size = some o → h'.objs.size = s.heap.objs.size + 2 →
      (∀ b u, s.heap.get? b = some u → h'.get? b = some u) → Q (.ref (s.heap.objs.size + 1)) { s with heap := h' }) :
    wpAny (model prog w) A (call (.type "enumerate") [v]) Q E s := by
  have sz : (s.heap.push o).objs.size = s.heap.objs.size + 1 := Heap.size_push ..
  have ie : IsEnum ((s.heap.push o).push { cls := .type "enumerate", data := .fields #[.none, .bool false, .ref s.heap.objs.size, rawInt 0, .none, .none] }) (s.heap.objs.size + 1) s.heap.objs.size 0 .none := by
    rw [← sz]
    exact Heap.get?_push_size (s.heap.push o) rfl
  refine callType_new F.called_enumerate (by decide) (F.typeCall_enumerate_1 _) (F.newCall_enumerate_1 _) (fun ob => F.args_object_init_2 ob _) F.entry_enumerate_new (en_new B) ⟨b1, ?_⟩
  rw [sz]
  exact ⟨⟨_, ie, rfl⟩, h _ ie (Heap.get?_push_of_some _ (Heap.get?_push_size _ B.free)) (by rw [Heap.size_push, sz]) fun b u e => Heap.get?_push_of_some _ (Heap.get?_push_of_some _ e)⟩
end

/-- the tuple's items, each in a new pair -/
def Itet (K : PySem.W.Frag) (a : Addr) : It :=
  ⟨fun i H => ∃ (xs : List V) (x : V), SqT K H a xs ∧ xs[i]? = some x,
   fun i H v H' => ∃ T x, v = .ref T ∧ H T = none ∧ H' = upd H T (.tup [.int (i : Nat), x]) ∧ ∀ xs, SqT K H a xs → xs[i]? = some x,
   fun i H => ∃ xs : List V, SqT K H a xs ∧ xs.length ≤ i⟩
theorem turn_ent {P : Program} {w : World} {K : PySem.W.Frag} {elts : List PySem.Expr} {kk : Nat} {tpos : Pos} (a e it : Addr) (hai : a ≠ it) (hae : e ∉ [it, a]) :
    Turn P w K (.Tuple elts kk tpos) (Itet K a) [e, it] e (fun i h => (∃ old, IsEnum h e it ((i : Nat) : Int) old) ∧ h.IsTupleIter it a i) := by
  have hei : e ≠ it := fun z => hae (by simp [z])
  refine ⟨by simp, ?_, ?_, ?_, ?_, ?_⟩
  · rintro i h ⟨⟨old, q1⟩, o, q2, q3, q4⟩ b hb
    rcases (by simpa using hb : b = e ∨ b = it) with rfl | rfl
    · exact ⟨_, q1, fun v z => nomatch z⟩
    · exact ⟨o, q2, fun v z => by rw [q4] at z; cases z⟩
  · rintro i h h' ⟨⟨old, q1⟩, q2⟩ kp
    exact ⟨⟨old, kp e (by simp) _ q1⟩, q2.at fun o z => kp it (by simp) o z⟩
  · intro X hP hw hK hc i pins s σ H E I hf st hg
    subst hP hw hK
    obtain ⟨⟨old, q1⟩, q2⟩ := st
    obtain ⟨xs, x, hq, hx⟩ := hg
    obtain ⟨its, rv, p, hz⟩ := I.tuple hq
    have p : s.heap.IsTuple a its.toArray := p
    obtain ⟨u, hu, ru⟩ := rv.get hx
    have le : e < s.heap.objs.size := Heap.lt_size q1
    have li : it < s.heap.objs.size := by obtain ⟨_, z, _⟩ := q2; exact Heap.lt_size z
    have hi : i < its.toArray.size := by simpa using (List.getElem?_eq_some_iff.mp hu).1
    refine wpAny_pyNext_enum_itemD (Draws.tuple (w := X.w) (prog := X.prog) (A := X.A.in1) (I.ok.hd hc) it a hai its.toArray) q1 ⟨q2, p⟩ hi hei hae fun y h' tk hy ho ht hT hsz hk => ?_
    have ey : y = u := by
      have z : its.toArray[i]? = some u := by simpa using hu
      exact Option.some.inj (hy.symm.trans z)
    subst ey
    refine ⟨_, rfl, wpAny_letOwnedTupleGo_enum (s := { s with heap := h', toks := tk + 1 }) ho fun h2 he2 sb => ?_⟩
    have hT2 : h2.get? s.heap.objs.size = some { cls := .type "tuple", data := .seq #[.int i tk, y] } := (sb.2 _ (Nat.ne_of_gt le)).trans hT
    have keep : ∀ b ob, b ∉ [e, it] → s.heap.get? b = some ob → h2.get? b = some ob := fun b ob hb z => by
      have n1 : b ≠ e := fun q => hb (by simp [q])
      have n2 : b ≠ it := fun q => hb (by simp [q])
      exact (sb.2 b n1).trans (hk b ob n1 n2 z)
    have I1 : Inv X pins σ (upd H s.heap.objs.size (.tup [.int (i : Nat), x])) { s with heap := h2, toks := tk + 1 } :=
      I.turnedNew (ch := [e, it]) keep hf (Nat.le_refl _) ⟨by show 2 ≤ sizeLine; decide, [.int i tk, y], .cons ⟨_, rfl⟩ (.cons ru .nil), ⟨_, hT2, rfl, _, rfl⟩⟩
    refine ⟨.ref s.heap.objs.size, _, I1, rfl, ⟨_, x, rfl, I.hok.fresh (Nat.le_refl _), rfl, fun ys hy => by rw [I.tuple_inj hy hq]; exact hx⟩, ⟨⟨y, ?_⟩, ht.1.at fun o z => (sb.2 it (Ne.symm hei)).trans z⟩, fun b hb => ?_⟩
    · rw [show ((i + 1 : Nat) : Int) = (i : Int) + 1 from by omega]
      exact he2
    · have lb : b < s.heap.objs.size := by
        rcases (by simpa using hb : b = e ∨ b = it) with rfl | rfl
        · exact le
        · exact li
      rw [upd_ne (Nat.ne_of_lt lb)]
      exact (hf b hb).1
  · intro X hP hw hK hc i pins s σ H E I hf st hg
    subst hP hw hK
    obtain ⟨⟨old, q1⟩, q2⟩ := st
    obtain ⟨xs, hq, hx⟩ := hg
    obtain ⟨its, rv, p, hz⟩ := I.tuple hq
    have p : s.heap.IsTuple a its.toArray := p
    obtain ⟨f0, f1, f2, f3, f4, f5⟩ := hf it (by simp)
    have none_ : its.toArray[i]? = none := by
      have := rv.length
      rw [Array.getElem?_eq_none_iff, List.size_toArray]
      omega
    have Dr : Draws X.prog X.w X.A.in1 it [it, a] i (fun _ _ => True) (fun j h => h.IsTupleIter it a j ∧ h.IsTuple a its.toArray ∧ j = i) :=
      ⟨fun _ _ st => let ⟨o, ho, _⟩ := st.1; ⟨o, ho⟩, fun _ _ _ st kp => ⟨st.1.at fun o z => kp it (by simp) o z, st.2.1.at fun o z => kp a (by simp) o z, st.2.2⟩,
       fun j s' Q' E' lt st _ => absurd st.2.2 (Nat.ne_of_lt lt), fun s' Q' E' st hE => wpAny_nextOf_tuple_end (I.ok.hd hc) st.1 st.2.1 none_ hE⟩
    exact wpAny_pyNext_enum_endD Dr q1 ⟨q2, p, rfl⟩ fun h' eb => ⟨rfl, I.turned (t' := s.toks) (fun b o hb q => eb b o hb q) f0 f1 f3 f4 f5⟩
  · rintro A i s Q E ⟨⟨old, q1⟩, _⟩ h
    exact wpAny_pyIter_enum q1 h
/-- enumerate(e), e a list or a tuple -/
def evEnm (ev : EvE) : Sl → Hq → R (Iter × Hq) := fun ls C => (ev ls C).bind fun x => match x.1 with
    | .tup xs => .ok (.enu xs, x.2)
    | .loc l => (R.of (asLst x.2 l)).bind fun _ => .ok (.enl l, x.2)
    | _ => .no
def evZip (ev ev2 : EvE) : Sl → Hq → R (Iter × Hq) := fun ls C => (ev ls C).bind fun x => (ev2 ls x.2).bind fun y => match x.1, y.1 with
    | .loc l, .loc m => (R.of (asLst y.2 l)).bind fun _ => (R.of (asLst y.2 m)).bind fun _ => .ok (.zil l m, y.2)
    | _, _ => .no
section
variable {g : Stg} {lk : List Nat} {X : Cx} {e e2 : PySem.Expr} {ev ev2 : EvE} {elts : List PySem.Expr} {kk : Nat} {tpos p pos : Pos}
theorem imp_enu {xs : List D} {vs : List V} {a : Addr} {m0 : List Addr} {H0 : L2.Hp} (r : Reps H0 m0 xs vs) (ha : H0 a = some (.tup vs)) : Imp g (.enu xs) (Itet X.K a) m0 H0 := by
  intro i m C H lk st hd
  have ha2 := st.tup _ _ ha
  refine ⟨fun x ex => ?_, fun ex => ?_⟩
  · obtain ⟨d, e3, rfl⟩ := Option.map_eq_some_iff.mp (Option.some.inj (show some ((xs[i]?).map fun d => D.tup [.int i, d]) = some (some x) from ex))
    obtain ⟨v, h1, h2⟩ := r.get e3
    refine ⟨⟨vs, v, SqT_of ha2, h1⟩, fun u H' y => ?_⟩
    obtain ⟨T, z, rfl, hT, rfl, h3⟩ := y
    have := (h3 vs (SqT_of ha2)).symm.trans h1
    cases this
    have s2 := step_new (o := HO.tup [.int (i : Nat), v]) hd hT
    exact ⟨s2, hd.new hT, Rep.tup upd_same (by simp) ((Reps.cons Rep.int (Reps.cons (h2.upw st.up) .nil)).step s2)⟩
  · have e3 := Option.map_eq_none_iff.mp (Option.some.inj (show some ((xs[i]?).map fun d => D.tup [.int i, d]) = some none from ex))
    exact ⟨vs, SqT_of ha2, by rw [← r.length]; exact List.getElem?_eq_none_iff.mp e3⟩
def iEnu (K : PySem.W.Frag) (ta : TA) : TI := fun σ H R => ta σ H fun vs H1 => ∃ a xs, vs = [.ref a] ∧ ((SqL K H1 a xs ∧ R (Ite K a) H1) ∨ (SqT K H1 a xs ∧ R (Itet K a) H1))
theorem pi_enu {ta : TA} (hg : Gl X "enumerate") (hm : X.mg "enumerate" = none) (ha : PA X [e] ta) (hs : starEach [e] X.env = [(false, eval e X.env)]) : PI X (.Tuple elts kk tpos) (.Call (.Name "enumerate" p) [e] [] pos) (iEnu X.K ta) := by
  refine ⟨fun pins s σ H Rk I h => ?_⟩
  refine Call_ (ld_blt I hg hm boot_enumerate (PyProof.Rows.callWith_type1 (thn (ha.run pos pins s σ H _ I h) fun us s1 hx => ?_) hs rfl))
  obtain ⟨vs, H1, I1, r1, a, xs, rfl, q⟩ := hx
  obtain ⟨u, rfl, rr⟩ : ∃ u, us = [u] ∧ L2.RelV (.ref a) u := by
    cases r1 with
    | cons r rr => cases rr; exact ⟨_, rfl, r⟩
  obtain rfl : u = Value.ref a := rr
  have fresh : ∀ b ∈ [s1.heap.objs.size + 1, s1.heap.objs.size], FpOk X pins H1 b := fun b hb => by
    have le : s1.heap.objs.size ≤ b := by
      rcases (by simpa using hb : b = s1.heap.objs.size + 1 ∨ b = s1.heap.objs.size) with rfl | rfl
      · exact Nat.le_add_right _ _
      · exact Nat.le_refl _
    exact I1.fpOk le (I1.hok.fresh le)
  rcases q with ⟨q1, q2⟩ | ⟨q1, q2⟩
  · obtain ⟨its, rv, pl, _⟩ := I1.list q1
    exact call_enumerate_list pl.isList fun h' ie it sz kp => wpAny_pyIter_enum ie ⟨s1.heap.objs.size + 1, [s1.heap.objs.size + 1, s1.heap.objs.size], _, _, H1, rfl, I1.kept (t' := s1.toks) kp, turn_enum a (s1.heap.objs.size + 1) s1.heap.objs.size, ⟨⟨.none, ie⟩, it, Nat.succ_ne_self _⟩, fresh, q2⟩
  · obtain ⟨its, rv, pt, _⟩ := I1.tuple q1
    have pt : s1.heap.IsTuple a its.toArray := pt
    have lt : a < s1.heap.objs.size := by obtain ⟨o, ho, _⟩ := pt; exact Heap.lt_size ho
    exact en_call (begins_tuple a its.toArray) pt fun h' ie it sz kp => wpAny_pyIter_enum ie ⟨s1.heap.objs.size + 1, [s1.heap.objs.size + 1, s1.heap.objs.size], _, _, H1, rfl, I1.kept (t' := s1.toks) kp,
      turn_ent a (s1.heap.objs.size + 1) s1.heap.objs.size (Nat.ne_of_lt lt) (fun z => (List.mem_cons.mp z).elim (Nat.succ_ne_self _) fun q => absurd (List.mem_singleton.mp q) (Nat.ne_of_gt (Nat.lt_succ_of_lt lt))), ⟨⟨.none, ie⟩, ⟨_, it, rfl, rfl⟩⟩, fresh, q2⟩
theorem i_enm (hg : Gl X "enumerate") (hm : X.mg "enumerate" = none) (he : PB X g lk e ev) (hs : noStar e = true) : PI X (.Tuple elts kk tpos) (.Call (.Name "enumerate" p) [e] [] pos) (tIt g lk (evEnm ev)) := by
  refine ⟨fun pins s σ H Rk I q => ?_⟩
  obtain ⟨m, C, ls, J, C', hd, sl, e0, k⟩ := q
  obtain ⟨⟨d, C1⟩, e1, e2⟩ := R.bind_eq_ok e0
  refine (pi_enu hg hm (as_cons he as_nil (starEach_no hs)) (starEach_no hs)).run pins s σ H Rk I ⟨m, C, ls, [d], C1, hd, sl, by dsimp only; rw [e1]; rfl, fun vs m1 H1 s1 d1 r1 => ?_⟩
  obtain ⟨v, r, rfl, hv, hr⟩ := r1.uncons
  cases hr.unnil
  dsimp only at e2
  split at e2
  · cases e2
    obtain ⟨a, us, rfl, ha, _, rs⟩ := hv.tup_
    exact ⟨a, us, rfl, .inr ⟨SqT_of ha, k _ m1 H1 s1 d1 (imp_enu rs ha)⟩⟩
  · obtain ⟨xs, e3, e4⟩ := R.bind_eq_ok e2
    cases e4
    obtain ⟨a, ha, rfl⟩ := hv.loc_
    obtain ⟨us, q1, _, _⟩ := d1.sql (K := X.K) (R.of_eq_ok e3) ha
    exact ⟨a, us, rfl, .inl ⟨q1, k _ m1 H1 s1 d1 (imp_enl ha)⟩⟩
  · cases e2
theorem i_zip (hg : Gl X "zip") (hm : X.mg "zip" = none) (he : PB X g lk e ev) (he2 : PB X g lk e2 ev2) (hs : noStar e = true) (hs2 : noStar e2 = true) : PI X (.Tuple elts kk tpos) (.Call (.Name "zip" p) [e, e2] [] pos) (tIt g lk (evZip ev ev2)) := by
  refine ⟨fun pins s σ H Rk I q => ?_⟩
  obtain ⟨m, C, ls, J, C', hd, sl, e0, k⟩ := q
  obtain ⟨⟨d, C1⟩, e1, e3⟩ := R.bind_eq_ok e0
  obtain ⟨⟨d2, C2⟩, e4, e5⟩ := R.bind_eq_ok e3
  refine (pi_zip hg hm (as_cons he (as_cons he2 as_nil (starEach_no hs2)) (starEach_no hs)) (starEach_no hs) (by rw [starEach_no hs2]; rfl)).run pins s σ H Rk I ⟨m, C, ls, [d, d2], C2, hd, sl, by dsimp only; rw [e1]; show R.bind (R.bind (ev2 ls C1) _) _ = _; rw [e4]; rfl, fun vs m1 H1 s1 d1 r1 => ?_⟩
  obtain ⟨v, r, rfl, hv, hr⟩ := r1.uncons
  obtain ⟨v2, r2, rfl, hv2, hr2⟩ := hr.uncons
  cases hr2.unnil
  dsimp only at e5
  split at e5
  · obtain ⟨xs, e6, e7⟩ := R.bind_eq_ok e5
    obtain ⟨ys, e8, e9⟩ := R.bind_eq_ok e7
    cases e9
    obtain ⟨a, ha, rfl⟩ := hv.loc_
    obtain ⟨b, hb, rfl⟩ := hv2.loc_
    obtain ⟨us, q1, _, _⟩ := d1.sql (K := X.K) (R.of_eq_ok e6) ha
    obtain ⟨us2, q2, _, _⟩ := d1.sql (K := X.K) (R.of_eq_ok e8) hb
    exact ⟨a, b, us, us2, rfl, q1, q2, k _ m1 H1 s1 d1 (imp_zil ha hb)⟩
  · cases e5
end
end
end Q

set_option Elab.async false
set_option linter.all false
set_option maxRecDepth 100000
set_option maxHeartbeats 4000000
/-! What walks a dict's keys: join, list; copies of dicts. -/
namespace Q
noncomputable section
open PySem L2 PySem.Spec PyProof.Rows

/-! ### a dict's entries, whatever its keys are -/
/-- the dict at a: its entries' keys stand for ks -/
structure RawD (s : Shared) (H : L2.Hp) (m : List Addr) (a : Addr) (ks : List D) (es : Array DictEntry) (ep : Nat) (o : Obj) : Prop where
  at_ : s.heap.get? a = some o
  exact_ : o.ExactDict
  dat : o.data = .dict es ep
  lo : (a == sysModules) = false
  len : ks.length = es.size
  few : es.size ≤ sizeLine
  rep : ∃ vs, Reps H m ks vs ∧ Vals vs (es.toList.map (·.key))
section
variable {X : Cx} {g : Stg} {lk : List Nat}
theorem keys_of_KV {H : L2.Hp} {m : List Addr} : ∀ {ks : List (D × D)} {ws : List (Key × V)}, KvR KeyR1 H m ks ws → Reps H m (ks.map (·.1)) (ws.map fun q => kV q.1)
  | _, _, .nil => .nil
  | _, _, .cons h t => .cons (rep_key1 h.1) (keys_of_KV t)
theorem pair_keys {P : Program} {w : World} : ∀ {es : List DictEntry} {vs : List (Key × Value)} {ws : List (Key × V)}, Pairs (mixKind P w) es vs → KV ws vs → Vals (ws.map fun q => kV q.1) (es.map (·.key))
  | _, _, _, .nil, .nil => .nil
  | _, _, _, .cons h1 _ h3, .cons k t => .cons (show RelV (kV _) _ from k.1 ▸ keyIs_rel h1) (pair_keys h3 t)
theorem keys_of_KT {H : L2.Hp} {m : List Addr} : ∀ {ks : List (D × D)} {ws : List (List Key × V)} {xs : List (List Key × Addr × Value)}, KvR KeyR2 H m ks ws → KT H ws xs → Reps H m (ks.map (·.1)) (xs.map fun x => V.ref x.2.1)
  | _, _, _, .nil, .nil => .nil
  | _, _, _, .cons h t, .cons k r => .cons (rep_key2 h.1 k.2.1) (keys_of_KT t r)
theorem pairs_len {P : Program} {w : World} : ∀ {es : List DictEntry} {vs : List (Key × Value)}, Pairs (mixKind P w) es vs → es.length = vs.length
  | _, _, .nil => rfl
  | _, _, .cons _ _ h => congrArg Nat.succ (pairs_len h)
theorem raw_of {l : Nat} {a : Addr} {kvs : List (D × D)} {m : List Addr} {C : Hq} {H : L2.Hp} {pins : List (Addr × Obj)} {σ : L2.St} {s : Shared} (I : Inv X pins σ H s) (hd : Held g lk m C H) (e : C.get l = some (.dic kvs)) (hl : m[l]? = some a) :
    ∃ es ep o, RawD s H m a (kvs.map (·.1)) es ep o := by
  rcases rd_dic hd e hl with ⟨ws, h1, h2, _⟩ | ⟨ws, h1, h2, _⟩
  · obtain ⟨z, lo, vs, rel, o, es, ep, ho, hx, hdat, _, hp, _⟩ := dk_rd I.hok h1
    have l1 : es.size = vs.length := by rw [← Array.length_toList]; exact pairs_len hp
    have l2 : ws.length = vs.length := Paired.length rel
    have l3 : kvs.length = ws.length := h2.length
    exact ⟨es, ep, o, ho, hx, hdat, lo, by rw [List.length_map]; omega, by omega, _, keys_of_KV h2, pair_keys hp rel⟩
  · obtain ⟨z, lo, xs, rel, o, es, ep, ho, hx, hdat, he, _, _⟩ := dt_rd I.hok h1
    have l1 : es.size = xs.length := size_of_entries he
    have l2 : ws.length = xs.length := Paired.length rel
    have l3 : kvs.length = ws.length := h2.length
    refine ⟨es, ep, o, ho, hx, hdat, lo, by rw [List.length_map]; omega, by omega, _, keys_of_KT h2 rel, ?_⟩
    rw [he, List.map_map]
    have : ∀ ys : List (List Key × Addr × Value), Vals (ys.map fun x => V.ref x.2.1) (ys.map fun x => Value.ref x.2.1) := fun ys => by
      induction ys with
      | nil => exact .nil
      | cons y r ih => exact .cons rfl ih
    exact this xs
/-- what the entries' keys are, by place -/
theorem items_keys {es : Array DictEntry} {acc : Array Value} (h : ItemsOf (fun i v => ∃ en : DictEntry, es[i]? = some en ∧ v = en.key) acc es.size) : acc.toList = es.toList.map (·.key) := by
  refine List.ext_getElem? fun i => ?_
  rw [List.getElem?_map, Array.getElem?_toList, Array.getElem?_toList]
  cases q : acc[i]? with
  | none =>
    have : es[i]? = none := by
      rw [Array.getElem?_eq_none_iff] at q ⊢
      rw [← h.1]
      exact q
    rw [this]
    rfl
  | some v =>
    obtain ⟨en, e1, e2⟩ := h.2 i v q
    rw [e1, e2]
    rfl
end

/-! ### a key iterator is collected -/
theorem ki_nolen : typeLookup (.type "dict_keyiterator") "__len__" = pure none := by rw [typeLookup_type, builtinLookup_eq_fast] <;> kernel_rfl
theorem ki_hint : typeLookup (.type "dict_keyiterator") "__length_hint__" = pure (some (.builtin "dict_keyiterator.__length_hint__")) := by rw [typeLookup_type, builtinLookup_eq_fast] <;> kernel_rfl
section
variable {prog : Program} {w : World} {A : Around} {E : Value → Shared → Prop} {s : Shared}
theorem ki_room {It : Addr} {Q : Bool → Shared → Prop} (hT : s.TypeIs (.ref It) "dict_keyiterator") (h : Q false s) : wpAny (model prog w) A (Builtin.List.listLengthHint (.ref It)) Q E s := by
  unfold Builtin.List.listLengthHint
  refine wpAny_bind (wpAny_specialOf hT ki_nolen ?_)
  show wpAny _ _ (specialOf (Value.ref It) (Str.ofString "__length_hint__") >>= _) _ _ _
  refine wpAny_bind (wpAny_specialOf hT ki_hint ?_)
  generalize hn : ("dict_keyiterator.__length_hint__" : String) = nm
  wp_delta
  rw [show splitId nm = some ("dict_keyiterator", "__length_hint__") from by subst hn; decide +kernel]
  subst hn
  refine wpAny_bind (wpAny_isInstance (b := true) hT (by rw [isSubtype_type] <;> kernel_rfl) ?_)
  exact wpAny_pure h
theorem ki_collect {It d : Addr} {o : Obj} {es : Array DictEntry} {ep : Nat} {Q : List Value → Shared → Prop} (hh : A.handled = none) (hne : d ≠ It) (hdt : o.data = .dict es ep) (hit : s.heap.IsKeyIter It d 0 es.size ep) (hd : s.heap.get? d = some o) (hz : es.size ≤ sizeLine)
    (k : ∀ s', (∃ h' tk, s' = { s with heap := h', toks := tk } ∧ ∀ b u, b ≠ It → s.heap.get? b = some u → h'.get? b = some u) → Q (es.toList.map (·.key)) s') : wpAny (model prog w) A (collect (.ref It)) Q E s := by
  have W := (walks_raw (prog := prog) (w := w) (A := A.in1) hh It d hne hdt).toS
  have Tp : ∀ {h : Heap} {i : Nat} {g d' tk os}, h.IsKeyIter It d i es.size ep → (⟨h, g, d', tk, os⟩ : Shared).TypeIs (.ref It) "dict_keyiterator" := fun st => by
    obtain ⟨q, q1, q2, _⟩ := st
    exact ⟨q, q1, q2⟩
  have li : It < s.heap.objs.size := by obtain ⟨q, q1, _⟩ := hit; exact Heap.lt_size q1
  have ld : d < s.heap.objs.size := Heap.lt_size hd
  have new : s.heap.objs.size ∉ [It, d] := by
    intro z
    rcases List.mem_cons.mp z with q | q
    · exact absurd q (Nat.ne_of_gt li)
    · exact absurd (List.mem_singleton.mp q) (Nat.ne_of_gt ld)
  unfold collect
  refine wpAny_bind (wpAny_runValue (codeAny_builtin F.entry_proto_collect ((Around.under_plainId F.plain_proto_collect _).symm ▸ ?_)))
  show wpAny _ A.in1 (newList [] >>= fun l => again (.builtin "list.__iadd__" ⟨[l, .ref It], []⟩)) _ _ s
  refine wpAny_bind (wpAny_newObj_type (wpAny_pure ⟨plainId_quiet F.plain_list_iadd _, codeAny_builtin F.entry_list_iadd ((Around.under_plainId F.plain_list_iadd _).symm ▸ ?_)⟩))
  generalize hL : ({ cls := .type "list", data := .seq ([] : List Value).toArray } : Obj) = L0
  have it1 : (s.heap.push L0).IsKeyIter It d 0 es.size ep := hit.at fun u z => Heap.get?_push_of_some _ z
  have d1 : (s.heap.push L0).get? d = some o := Heap.get?_push_of_some _ hd
  have L1 : (s.heap.push L0).get? s.heap.objs.size = some { cls := .type "list", dict := none, data := .seq #[] 0, slots := #[] } := by rw [← hL]; exact Heap.get?_push_size _ rfl
  show wpAny _ A.in1 (Builtin.List.listExtendWith (.ref s.heap.objs.size) (.ref It) (.ref s.heap.objs.size)) _ _ { s with heap := s.heap.push L0 }
  have same : Builtin.List.listSameRef (.ref s.heap.objs.size) (.ref It) = false := by simp [Builtin.List.listSameRef, Nat.ne_of_gt li]
  unfold Builtin.List.listExtendWith
  refine wpAny_bind (wpAny_typeOf (T := "dict_keyiterator") (Tp it1) ?_)
  rw [if_neg (by rw [same]; decide)]
  refine wpAny_bind (W.self 0 _ _ _ ⟨it1, d1⟩ (wpAny_bind (wpAny_holding (ki_room (Tp it1) ?_))))
  rw [if_neg (by decide)]
  refine wpAny_pure ⟨plainId_quiet F.plain_extend_loop _, codeAny_extend_loopS W hz _ new _ es.size 0 _ _ _ rfl (Nat.zero_le _) ⟨it1, d1⟩ L1 (ItemsOf.nil _) fun s' acc' c' mv ls' items => ?_⟩
  show wpAny _ A (load s.heap.objs.size >>= _) _ _ s'
  refine wpAny_bind (wpAny_load ls' (wpAny_pure ?_))
  rw [items_keys items]
  refine k s' ⟨s'.heap, s'.toks, by rw [Moved.eq_with mv], fun b u hb z => mv.heap b u (fun q => ?_) (Heap.get?_push_of_some _ z)⟩
  rcases List.mem_cons.mp q with q | q
  · exact absurd (Heap.lt_size z) (by rw [q]; exact Nat.lt_irrefl _)
  · exact hb (List.mem_singleton.mp q)
/-- sep.join(d), d a dict of texts -/
theorem join_keys {d : Addr} {o : Obj} {es : Array DictEntry} {ep : Nat} {x : Str} {t : Tok} {ys : List Str} {Q : Value → Shared → Prop} (hh : A.handled = none) (lo : (d == sysModules) = false) (hx : o.ExactDict) (hdt : o.data = .dict es ep) (hd : s.heap.get? d = some o) (hz : es.size ≤ sizeLine)
    (ks : StrsAre (es.toList.map (·.key)) ys) (ok : (ys.map (·.length)).sum + ys.length * x.length ≤ 16777216) (hq : ∀ h' tk t', (∀ b u, s.heap.get? b = some u → h'.get? b = some u) → Q (.str (Txt.join x ys) t') { s with heap := h', toks := tk }) :
    wpAny (model prog w) A (call (.builtin "str.join") [.str x t, .ref d]) Q E s := by
  refine wpAny_call (codeAny_call_builtin F.slot_str_join.plain F.entry_str_join (F.slot_str_join.check _ _ _ _ _ _ _ _ (typeIs_str _ _ _) (F.args_str_join_2 _ _) (join_tree_other x t d ▸ wpAny_bind (wpAny_typeOf (T := "dict") ⟨o, hd, hx.1⟩ ?_))))
  show wpAny _ A.in1 ((pyIter (.ref d)).tryCatch _ >>= fun it => collect it >>= fun items => joinTail x items) _ _ s
  refine wpAny_bind (wpAny_tryCatch (iter_keys lo hd hx hdt ?_))
  refine wpAny_bind (ki_collect (o := o) (A := A.in1) hh (Nat.ne_of_lt (Heap.lt_size hd)) hdt ⟨_, Heap.get?_push_size _ rfl, rfl, rfl⟩ (Heap.get?_push_of_some _ hd) hz ?_)
  rintro s' ⟨h', tk, rfl, kp⟩
  obtain ⟨l, e1, e2⟩ := strsAre_values ks
  subst e2
  rw [e1]
  have ok2 := joinOk_of ok
  unfold JoinOk at ok2
  rw [Bool.not_eq_true'] at ok2
  have gv : Gives (joinTail x (strValues l)) (joinMade x l) := by
    have z := gives_joinTail x l ok2
    rcases l with _ | ⟨p, _ | ⟨q, r⟩⟩ <;> exact z
  exact gv prog w A (wants Q E) _ (post_join l ⟨joinFit_length ok2, fun t' kk => hq h' kk t' fun b u z => kp b u (Nat.ne_of_lt (Heap.lt_size z)) (Heap.get?_push_of_some _ z)⟩)
end

section
variable {X : Cx} {g : Stg} {lk : List Nat}
theorem walkD_loc (C : Hq) (l : Nat) : walkD C (.loc l) = (match C.get l with
    | some (.lst xs) => some xs
    | some (.dic kvs) => some (kvs.map (·.1))
    | _ => none) := rfl
theorem om_join (hc : X.calm = true) : MtR X "str.join" (tM g lk (bmD .join lk)) := by
  rintro pins s σ H x xs v us Q I rx rxs ⟨m, C, a, as, d, C', hd, ra, rs, e, k⟩
  obtain ⟨t, e1, e2⟩ := Option.bind_eq_some_iff.mp e
  obtain ⟨y, rfl, e3⟩ := one_is e2
  obtain ⟨ws0, e4, e5⟩ := Option.bind_eq_some_iff.mp e3
  obtain ⟨ws, e6, e7⟩ := Option.bind_eq_some_iff.mp e5
  split at e7
  · rename_i hl
    cases e7
    cases a with
    | str t' =>
      cases e1
      obtain ⟨w, rfl, rw'⟩ := rs.one
      obtain ⟨j1, j2, j3⟩ := om_join0 (H := H) (m := m) (C := C) hl
      have kk : Q (.str (Txt.join (Sx t) (ws.map Sx))) H := by
        rw [j2]
        exact k _ m H (Step.refl _ _) hd (Rep.str j3)
      cases ra.str_
      cases y with
      | tup ys =>
        cases e4
        obtain ⟨p, vs, rfl, hp, _, rv⟩ := rw'.tup_
        have := strs_of e6 rv
        subst this
        exact mt_join pins s σ H _ _ v us Q I rx rxs ⟨Sx t, p, ws.map Sx, rfl, rfl, .inr (SqT_of hp), j1, kk⟩
      | loc l =>
        rw [walkD_loc] at e4
        obtain ⟨p, hp, rfl⟩ := rw'.loc_
        split at e4
        · rename_i ys q
          cases e4
          obtain ⟨vs, q1, rv, _⟩ := hd.sql (K := X.K) (xs := ws0) (by unfold asLst; rw [q]) hp
          have := strs_of e6 rv
          subst this
          exact mt_join pins s σ H _ _ v us Q I rx rxs ⟨Sx t, p, ws.map Sx, rfl, rfl, .inl q1, j1, kk⟩
        · rename_i kvs q
          cases e4
          obtain ⟨es, ep, o, R⟩ := raw_of I hd q hp
          obtain ⟨vs, rv, vals⟩ := R.rep
          have := strs_of e6 rv
          subst this
          obtain ⟨tk, rfl⟩ := rx
          cases rxs with
          | cons r1 r2 =>
            cases r2
            cases r1
            exact join_keys (I.ok.hd hc) R.lo R.exact_ R.dat R.at_ R.few (strs_of_vals vals) j1 fun h' tk t' kp => ⟨.str (Txt.join (Sx t) (ws.map Sx)), H, I.kept (t' := tk) kp, ⟨t', rfl⟩, kk⟩
        · cases e4
      | _ => cases e4
    | _ => cases e1
  · cases e7
theorem bmF_join (hc : X.calm = true) : BmF X g .join := ⟨F.plainAttrs_str, F.slot_str_join, F.type_str_join, fun _ => om_join hc⟩

/-! ### list(v) -/
theorem toLst_loc (C : Hq) (l : Nat) : toLst C (.loc l) = (match C.get l with
    | some (.lst xs) => some (newL C (.lst xs))
    | some (.dic kvs) => some (newL C (.lst (kvs.map (·.1))))
    | _ => none) := rfl
theorem reps_signs {H : L2.Hp} {m : List Addr} : ∀ s : List Nat, Reps H m (s.map fun c => D.str [c]) (s.map fun c => V.str (Sx [c]))
  | [] => .nil
  | c :: s => .cons (Rep.str (s := [c]) (by simp)) (reps_signs s)
/-- a new list of known values -/
theorem lay_lst {pins : List (Addr × Obj)} {σ : L2.St} {H : L2.Hp} {s : Shared} {vs : List V} {acc : Array Value} {c : Nat} {h' : Heap} {tk : Nat} {Q : VK} (I : Inv X pins σ H s) (kp : ∀ b u, s.heap.get? b = some u → h'.get? b = some u)
    (hl : h'.get? s.heap.objs.size = some { cls := .type "list", dict := none, data := .seq acc c, slots := #[] }) (hz : vs.length ≤ sizeLine) (r : Vals vs acc.toList) (q : ∀ p, H p = none → Q (.ref p) (upd H p (.lst vs))) :
    EP X pins σ Q (.ref s.heap.objs.size) { s with heap := h', toks := tk } :=
  ⟨.ref s.heap.objs.size, upd H s.heap.objs.size (.lst vs), I.laid (t' := tk) kp (Nat.le_refl _) (show ObjOk X.prog X.w _ _ _ (.lst vs) from ⟨hz, acc.toList, c, r, by rw [Array.toArray_toList]; exact hl⟩), rfl, q _ (I.hok.fresh (Nat.le_refl _))⟩
theorem cr_list (hc : X.calm = true) : CallR X (.type "list") (tB g lk (biD .list)) := by
  rintro pins s σ H xs us Q I rx ⟨m, C, as, d, C', hd, rs, e, k⟩
  obtain ⟨a, rfl, e⟩ := one_is e
  obtain ⟨v, rfl, r1⟩ := rs.one
  cases a with
  | str t =>
    cases e
    have hs := r1.slen
    cases r1.str_
    cases rx with
    | cons z1 z2 =>
      cases z2
      obtain ⟨tk, rfl⟩ := z1
      refine call_list_str (I.ok.hd hc) (Sx t) tk (fun h' tk acc c kp hl items => lay_lst I kp hl (by rw [List.length_map, line_is]; omega) ?_ (hd.newL (K := X.K) (reps_signs t) k)) (by rw [line_is]; simp; omega)
      have sz : (Sx t).cps.size = t.length := by simp
      refine vals_of_at (by have := items.1; simp at this ⊢; omega) fun j x w h1 h2 => ?_
      obtain ⟨c, u, h3, h4⟩ := items.2 j w (by rw [← Array.getElem?_toList]; exact h2)
      rw [List.getElem?_map] at h1
      have h3 : t[j]? = some c := by simpa using h3
      rw [h3] at h1
      cases h1
      exact ⟨u, h4⟩
  | tup ys =>
    cases e
    obtain ⟨p, vs, rfl, ha, _, rs'⟩ := r1.tup_
    exact call_list_of pins s σ H _ us Q I rx ⟨p, vs, rfl, .inr (SqT_of ha), hd.newL (K := X.K) rs' k⟩
  | loc l =>
    have e : toLst C (.loc l) = some (d, C') := e
    rw [toLst_loc] at e
    obtain ⟨p, hp, rfl⟩ := r1.loc_
    split at e
    · rename_i ys q
      cases e
      obtain ⟨vs, q1, rs', _⟩ := hd.sql (K := X.K) (xs := ys) (by unfold asLst; rw [q]) hp
      exact call_list_of pins s σ H _ us Q I rx ⟨p, vs, rfl, .inl q1, hd.newL (K := X.K) rs' k⟩
    · rename_i kvs q
      cases e
      obtain ⟨es, ep, o, R⟩ := raw_of I hd q hp
      obtain ⟨vs, rv, vals⟩ := R.rep
      cases rx with
      | cons z1 z2 =>
        cases z2
        cases z1
        refine PySem.W.kdl_call (kdl_raw R.lo R.exact_ R.dat) (I.ok.hd hc) R.at_ R.few fun h' tk acc c kp hl items => lay_lst I kp hl ?_ ?_ (hd.newL (K := X.K) rv k)
        · have := rv.length
          have := R.len
          have := R.few
          omega
        · rw [items_keys items]
          exact vals
    · cases e
  | _ => cases e

end
end
end Q

set_option Elab.async false
set_option linter.all false
set_option maxRecDepth 100000
set_option maxHeartbeats 4000000
/-! A star in a tuple, displays of dicts. -/
namespace Q
noncomputable section
open PySem L2 PySem.Spec PyProof.Rows

section
variable {X : Cx} {g : Stg} {lk : List Nat} {e : PySem.Expr} {es : List PySem.Expr} {ev : EvE} {evs : Sl → Hq → R (List D × Hq)} {p pos : Pos} {k1 : Nat}
def evTst (ev : EvE) (evs : Sl → Hq → R (List D × Hq)) : EvE := fun ls C => (ev ls C).bind fun x => (evs ls x.2).bind fun y => (R.of (seqOf x.2 x.1)).bind fun xs => if decide (xs.length + y.1.length ≤ 1000000) then .ok (.tup (xs ++ y.1), y.2) else .no
theorem starEach_star (env : Env) : starEach (.Starred e p :: es) env = (true, eval e env) :: starEach es env := rfl
theorem b_tst (he : PB X g lk e ev) (ha : PA X es (tAs g lk evs)) : PB X g lk (.Tuple (.Starred e p :: es) k1 pos) (evTst ev evs) := by
  refine PB.of (pe_mono (pe_tup (StX.pa_star (p := p) he.pe ha (starEach_star X.env))) fun σ H Q q => ?_) (fun _ => rfl) (fun _ _ _ z => nomatch z)
  obtain ⟨m, C, ls, d, C', hd, sl, e0, k⟩ := q
  obtain ⟨⟨x, C1⟩, e1, e2⟩ := R.bind_eq_ok e0
  obtain ⟨⟨ys, C2⟩, e3, e4⟩ := R.bind_eq_ok e2
  obtain ⟨xs, e5, e6⟩ := R.bind_eq_ok e4
  split at e6
  · rename_i hl
    cases e6
    have hl : xs.length + ys.length ≤ 1000000 := by simpa using hl
    refine ⟨m, C, ls, x, C1, hd, sl, e1, fun v m1 H1 s1 d1 r1 => ?_⟩
    obtain ⟨a, vs, rfl, hq, rv⟩ := seq_of (K := X.K) d1 r1 (R.of_eq_ok e5)
    refine ⟨a, vs, rfl, hq, m1, C1, ls, ys, _, d1, sl.step s1, e3, fun us m2 H2 s2 d2 r2 => ?_⟩
    have rr := (rv.step s2).app r2
    have hlen := rr.length
    rw [List.length_append] at hlen
    exact ⟨by rw [line_is]; omega, d2.newT (by omega) rr fun v m3 H3 s3 d3 r3 => k v m3 H3 ((s1.trans s2).trans s3) d3 r3⟩
  · cases e6
end

/-! ### a pair is put into a dict -/
theorem dset_ok {X : Cx} {pins : List (Addr × Obj)} {σ : L2.St} {H H' : L2.Hp} {s : Shared} {a : Addr} {y v : V} {u r : Value} {E : Value → Shared → Prop} {Q : Unit → Shared → Prop} (hu : X.A.units < cLine) (I : Inv X pins σ H s) (put : DPut H a y v H') (ry : RelV y u) (rv : RelV v r)
    (q : ∀ s', Inv X pins σ H' s' → Q () s') : wpAny (model X.prog X.w) X.A (dictSet a u r) Q E s := by
  rcases put with ⟨ws, k, e1, rfl, lz, rfl⟩ | ⟨ws, k, b, e1, rfl, eb, lz, rfl⟩
  · exact d_dictSet I e1 lz ry rv q
  · obtain rfl : u = Value.ref b := ry
    obtain ⟨z, lo, xs, rel, dd⟩ := dt_of I.hok e1
    have lx : ws.length = xs.length := Paired.length rel
    have lp := length_putK ws k v
    refine wpAny_dictSet_heap (hsz := by omega) (show X.A.units < cLine from hu) (key_of I.hok eb) dd fun h' dd' hs => q _ ?_
    obtain ⟨o2, es, ep, f1, f2, f3, f4, _, f5⟩ := dd'
    have kt : KT (upd H a (.dT (putK ws k v))) (putK ws k v) (storedH xs k b r) := (rel.put k eb rv).keeps fun c ys ec => by
      rw [upd_ne (fun z : c = a => by subst z; rw [e1] at ec; cases ec)]
      exact ec
    exact d_write I (by rw [e1]; exact True.intro) hs ⟨o2, f1⟩ ⟨by omega, lo, _, kt, o2, es, ep, f1, f2, f3, f4, f5⟩

/-! ### a heap told otherwise -/
def Cvt (H H' : L2.Hp) : Prop := ∀ (Y : Cx) (pins : List (Addr × Obj)) (σ : L2.St) (s : Shared), Inv Y pins σ H s → Inv Y pins σ H' s
def tCv (t : TE) : TE := fun σ H Q => t σ H fun v H' => ∃ H'', Cvt H' H'' ∧ Q v H''
theorem pe_cv {X : Cx} {e : PySem.Expr} {t : TE} (h : PE X e t) : PE X e (tCv t) := ⟨fun pins s σ H Q I q => thn (h.run pins s σ H _ I q) fun v s1 ⟨x, H1, I1, r, H2, u, q⟩ => ⟨x, H2, u X pins σ s1 I1, r, q⟩⟩
theorem dic_at {C : Hq} {n : Nat} {kvs : List (D × D)} (e : asDic C n = some kvs) : C.get n = some (.dic kvs) := by
  unfold asDic at e
  split at e
  · rename_i z
    cases e
    exact z
  · cases e
theorem roomy_lt {α : Type} {xs : List α} (h : roomy xs = true) : xs.length < 1000000 := by
  unfold roomy at h
  simpa using h
/-- one more pair, the key an int or a text -/
theorem dic_put (X : Cx) {g : Stg} {lk : List Nat} {m : List Addr} {C : Hq} {H : L2.Hp} {n : Nat} {d : Addr} {kvs : List (D × D)} {k x : D} {y v : V} (hd : Held g lk m C H) (hl : m[n]? = some d) (f : isLk lk n = false) (e : asDic C n = some kvs) (hk : isKey1 k = true) (hf : keyFits kvs k = true) (hr : roomy kvs = true)
    (rk : Rep H m k y) (rv : Rep H m x v) : ∃ H2, Cvt H H2 ∧ ∃ ws kk, y = kV kk ∧ H2 d = some (.dK ws) ∧ ws.length < sizeLine ∧ Step m H m (upd H2 d (.dK (putK ws kk v))) ∧ Held g lk m (C.set n (.dic (dput kvs k x))) (upd H2 d (.dK (putK ws kk v))) := by
  obtain ⟨H2, t⟩ := dat_of (X := X) hd hl (dic_at e) rk (kfit_of hf f)
  obtain ⟨H3, put, st, h3⟩ := t.put hl f (roomy_lt hr) (rv.step t.step)
  obtain ⟨kk, k1, k2⟩ := key1_of hk rk
  refine ⟨H2, fun Y pins σ s I => t.inv I, ?_⟩
  rcases put with ⟨ws, kq, e1, e2, e3, rfl⟩ | ⟨ws, kq, b, e1, e2, _⟩
  · exact ⟨ws, kq, e2, e1, e3, t.step.trans st, h3⟩
  · exfalso
    rw [k2] at e2
    cases kk <;> cases e2
section
variable {X : Cx} {g : Stg} {lk : List Nat} {k v : PySem.Expr} {tk tv : TE} {ek ew : EvE} {pos : Pos}
/-- {k: v} -/
def tDic1 (tk tv : TE) : TE := fun σ H Q => ∀ p, H p = none → tk σ (upd H p (.dK [])) fun y H1 => tv σ H1 fun z H2 => ∃ H3, Cvt H2 H3 ∧ ∃ H4, DPut H3 p y z H4 ∧ Q (.ref p) H4
theorem pe_dic1 (hu : X.A.units < cLine) (hk : PE X k tk) (hv : PE X v tv) : PE X (.Dict [some k] [v] pos) (tDic1 tk tv) := by
  refine ⟨fun pins s σ H Q I q => ?_⟩
  have fresh := I.hok.fresh (Nat.le_refl s.heap.objs.size)
  have I1 := I.laid (a := s.heap.objs.size) (o := .dK []) (h' := s.heap.push { cls := .type "dict", data := .dict #[] }) (t' := s.toks)
    (fun _ _ z => Heap.get?_push_of_some _ z) (Nat.le_refl _) (dk_empty s.heap I.big)
  have form : (evalEachOpt [some k] X.env).zip ((evalEach [v] X.env).map fun w => do let x ← w; standAt pos; pure x) = [(eval k X.env, do let x ← eval v X.env; standAt pos; pure x)].map fun p => (some p.1, p.2) := rfl
  rw [arm_eval_Dict, form, dictDisplay_pairs _ (by simp) (by simp)]
  refine wpAny_bind (wpAny_standAt (wpAny_bind ?_))
  unfold subDict
  refine wpAny_bind (wpAny_alloc ?_)
  refine wpAny_bind (wpAny_holding ?_)
  have l15 : ([(eval k X.env, (do let x ← eval v X.env; standAt pos; pure x : Sem Value))] : List (Sem Value × Sem Value)).length ≤ 15 := by simp
  rw [if_pos l15]
  refine wpAny_bind (evalPairs_cons (thn (hk.run pins _ σ _ _ I1 (q _ fresh)) fun u s1 ⟨y, H1, J1, ry, q1⟩ => wpAny_bind (thn (hv.run pins s1 σ H1 _ J1 q1) fun r s2 ⟨z, H2, J2, rz, H3, cv, H4, put, q2⟩ => wpAny_bind (wpAny_standAt (wpAny_pure (evalPairs_nil ?_))))))
  refine wpAny_holding (wpAny_bind ?_)
  rw [List.forIn_cons]
  refine wpAny_bind (wpAny_bind (dset_ok hu (cv X pins σ s2 J2) put ry rz fun s3 J3 => wpAny_pure ?_))
  dsimp only
  rw [List.forIn_nil]
  exact wpAny_pure (wpAny_pure (wpAny_pure (wpAny_pure ⟨.ref s.heap.objs.size, H4, J3, rfl, q2⟩)))
def evDic1 (lk : List Nat) (ek ew : EvE) : EvE := fun ls C => (ek ls (C.push (.dic []))).bind fun x => (ew ls x.2).bind fun y => (R.of (asDic y.2 C.n)).bind fun kvs =>
        if kfit lk C.n kvs x.1 && roomy kvs then .ok (.loc C.n, y.2.set C.n (.dic (dput kvs x.1 y.1))) else .no
theorem b_dic1 (hu : X.A.units < cLine) (hk : PB X g lk k ek) (hv : PB X g lk v ew) : PB X g lk (.Dict [some k] [v] pos) (evDic1 lk ek ew) := by
  refine PB.of (pe_mono (pe_dic1 hu hk.pe hv.pe) fun σ H Q q => ?_) (fun _ => rfl) (fun _ _ _ z => nomatch z)
  obtain ⟨m, C, ls, d, C', hd, sl, e0, k⟩ := q
  obtain ⟨⟨x, C1⟩, e1, e2⟩ := R.bind_eq_ok e0
  obtain ⟨⟨y, C2⟩, e3, e4⟩ := R.bind_eq_ok e2
  obtain ⟨kvs, e5, e6⟩ := R.bind_eq_ok e4
  split at e6
  · rename_i hz
    cases e6
    rw [Bool.and_eq_true] at hz
    intro p hp
    have s1 := step_push (o := HO.dK []) hd hp
    have d1 := hd.push (o := HO.dK []) (co := .dic []) hp (.inl ⟨[], rfl, .nil, List.nodup_nil⟩)
    have hat : (m ++ [p])[C.n]? = some p := by
      rw [← hd.len]
      simp
    refine ⟨m ++ [p], C.push (.dic []), ls, x, C1, d1, sl.step s1, e1, fun u m2 H2 s2 d2 r2 => ?_⟩
    refine ⟨m2, C1, ls, y, C2, d2, (sl.step s1).step s2, e3, fun w m3 H3 s3 d3 r3 => ?_⟩
    have hl := (s2.trans s3).get hat
    obtain ⟨H4, t⟩ := dat_of (X := X) d3 hl (dic_at (R.of_eq_ok e5)) (r2.step s3) hz.1
    have fl : isLk lk C.n = false := isLk_ge hd.lko
    obtain ⟨H5, put, s5, d5⟩ := t.put hl fl (roomy_lt hz.2) (r3.step t.step)
    exact ⟨H4, fun Y pins σ s I => t.inv I, H5, put, k _ m3 H5 ((((s1.trans s2).trans s3).trans t.step).trans s5) d5 (Rep.loc hl)⟩
  · cases e6
end

/-! ### {k: v for ..} -/
section
variable {X : Cx} {g : Stg} {lk : List Nat} {N : List Str} {sc ss scope : Scope} {fuel : Nat} {own : List (Str × Nat)} {p : P} {ei : Sl → Hq → R (Iter × Hq)} {ec : List Nat → Sl → Hq → R (Bool × Hq)} {ek ew : List Nat → EvE} {tg it kx vx : PySem.Expr} {ifs : List PySem.Expr} {pos : Pos}
def bodyDc (p : P) (ec : List Nat → Sl → Hq → R (Bool × Hq)) (ek ew : List Nat → EvE) (vs : List Nat) (lk1 : List Nat) (n0 : Nat) (ls : Sl) : D → Hq → R Hq := fun x C' => (R.of (putP p x C' (wipe ls vs))).bind fun ls' => (ec lk1 ls' C').bind fun t => if t.1 then
          (ek lk1 ls' t.2).bind fun y => (ew lk1 ls' y.2).bind fun z => (R.of (asDic z.2 n0)).bind fun kvs =>
            if isKey1 y.1 && keyFits kvs y.1 && roomy kvs then .ok (z.2.set n0 (.dic (dput kvs y.1 z.1))) else .no else .ok t.2
def evDc (fuel : Nat) (own : List Nat) (p : P) (ei : Sl → Hq → R (Iter × Hq)) (ec : List Nat → Sl → Hq → R (Bool × Hq)) (ek ew : List Nat → EvE) (lk : List Nat) : EvE := fun ls C => (ei ls C).bind fun J =>
      (loopC J.1.next (bodyDc p ec ek ew own (J.1.lock lk) J.2.n ls) fuel 0 (J.2.push (.dic []))).bind fun C' => .ok (.loc J.2.n, C')
theorem dc_body (X : Cx) {J : Iter} {JJ : It} {σ : L2.St} {lk1 : List Nat} {m0 : List Addr} {H0 : L2.Hp} {C0 Cf : Hq} {ls : Sl} {n0 : Nat} {d : Addr} {Qd : L2.Hp → Prop} {vs : List Nat} (hs : ∀ i ∈ p.slots, i ∈ vs) (d0 : Held g lk1 m0 C0 H0) (sl : Slt H0 m0 ls σ) (hat : m0[n0]? = some d) (hf : isLk lk1 n0 = false)
    (imp : ∀ i m C H, Step m0 H0 m H → Held g lk1 m C H → (∀ x, J.next i C = some (some x) → JJ.go i H ∧ ∀ v H', JJ.yld i H v H' → Step m H m H' ∧ Held g lk1 m C H' ∧ Rep H' m x v) ∧ (J.next i C = some none → JJ.stop i H))
    (e : loopC J.next (bodyDc p ec ek ew vs lk1 n0 ls) fuel 0 C0 = .ok Cf) (k : ∀ m H, Step m0 H0 m H → Held g lk1 m Cf H → Qd H) :
    ∃ W : Nat → Nat → L2.Hp → Prop, (∃ m, W 0 m H0) ∧ ∀ i m H, W i m H →
      (JJ.stop i H ∧ Qd H) ∨ (JJ.go i H ∧ ∃ Nx : L2.Hp → Prop, (∀ H', Nx H' → ∃ m', m' < m ∧ W (i + 1) m' H') ∧ ∀ x H', JJ.yld i H x H' → tPg g lk1 p x (L2.wipe σ vs) H' fun σ2 H2 => L2.wipe σ2 vs = L2.wipe σ vs ∧ tT g lk1 (ec lk1) σ2 H2 fun b H3 =>
        if b = true then tE g lk1 (ek lk1) σ2 H3 fun y H4 => tCv (tE g lk1 (ew lk1)) σ2 H4 fun z H5 => ∃ kvs kk, y = kV kk ∧ H5 d = some (.dK kvs) ∧ kvs.length < sizeLine ∧ Nx (upd H5 d (.dK (putK kvs kk z))) else Nx H3) := by
  refine ⟨fun i n H => ∃ m2 C2, Step m0 H0 m2 H ∧ Held g lk1 m2 C2 H ∧ loopC J.next (bodyDc p ec ek ew vs lk1 n0 ls) n i C2 = .ok Cf, ⟨fuel, m0, C0, Step.refl _ _, d0, e⟩, ?_⟩
  rintro i n H ⟨m2, C2, s2, d2, e3⟩
  cases n with
  | zero => cases e3
  | succ n =>
    rw [loopC_succ] at e3
    obtain ⟨o, f1, f2⟩ := R.bind_eq_ok e3
    have f1 := R.of_eq_ok f1
    obtain ⟨i1, i2⟩ := imp i m2 C2 H s2 d2
    cases o with
    | none =>
      cases f2
      exact .inl ⟨i2 f1, k m2 H s2 d2⟩
    | some x =>
      obtain ⟨g1, g2⟩ := i1 x f1
      refine .inr ⟨g1, fun H' => ∃ m2 C2, Step m0 H0 m2 H' ∧ Held g lk1 m2 C2 H' ∧ loopC J.next (bodyDc p ec ek ew vs lk1 n0 ls) n (i + 1) C2 = .ok Cf, fun H' z => ⟨n, Nat.lt_succ_self n, z⟩, fun v H3 y => ?_⟩
      obtain ⟨s3, d3, r3⟩ := g2 v H3 y
      obtain ⟨C4, e4, e5⟩ := R.bind_eq_ok f2
      obtain ⟨ls5, e6, e7⟩ := R.bind_eq_ok e4
      obtain ⟨⟨b, C6⟩, e8, e9⟩ := R.bind_eq_ok e7
      have sl3 := (sl.step (s2.trans s3)).wipe vs
      refine ⟨m2, C2, _, x, ls5, d3, sl3, r3, R.of_eq_ok e6, fun σ4 o4 sl4 => ⟨by rw [o4.wipe hs, wipe_wipe], ?_⟩⟩
      refine ⟨m2, C2, ls5, b, C6, d3, sl4, e8, fun m7 H7 s7 d7 => ?_⟩
      have st7 := (s2.trans s3).trans s7
      cases b with
      | false =>
        cases e9
        exact ⟨m7, _, st7, d7, e5⟩
      | true =>
        obtain ⟨⟨y8, C8⟩, ea, eb⟩ := R.bind_eq_ok e9
        obtain ⟨⟨z9, C9⟩, ec1, ed⟩ := R.bind_eq_ok eb
        obtain ⟨kvs, ee, eg⟩ := R.bind_eq_ok ed
        split at eg
        · rename_i hr
          cases eg
          rw [Bool.and_eq_true, Bool.and_eq_true] at hr
          refine ⟨m7, C6, ls5, y8, C8, d7, sl4.step s7, ea, fun w8 m8 H8 s8 d8 r8 => ?_⟩
          refine ⟨m8, C8, ls5, z9, C9, d8, (sl4.step s7).step s8, ec1, fun w9 m9 H9 s9 d9 r9 => ?_⟩
          have st9 := (st7.trans s8).trans s9
          obtain ⟨H10, cv, ws, kk, p1, p2, p3, p4, p5⟩ := dic_put X d9 (st9.get hat) hf (R.of_eq_ok ee) hr.1.1 hr.1.2 hr.2 (r8.step s9) r9
          exact ⟨H10, cv, ws, kk, p1, p2, p3, m9, _, st9.trans p4, p5, e5⟩
        · cases eg
theorem b_dc (G : Good X N sc ss) (hi : PI X tg it (tIt g lk ei)) (ok : BlkOk N sc scope own) (hp : ckP N scope p tg = true) (hs : ∀ i ∈ p.slots, i ∈ own.map (·.2)) (hset : noSet it = true)
    (ht : ∀ (lk' : List Nat) s H C cl fp, PTs (Bk X scope s H C cl fp) ifs (tT g lk' (ec lk'))) (hk : ∀ (lk' : List Nat) s H C cl fp, PB (Bk X scope s H C cl fp) g lk' kx (ek lk')) (hv : ∀ (lk' : List Nat) s H C cl fp, PB (Bk X scope s H C cl fp) g lk' vx (ew lk')) :
    PB X g lk (.DictComp kx vx [⟨tg, it, ifs, 0⟩] scope pos) (evDc fuel (own.map (·.2)) p ei ec ek ew lk) := by
  refine PB.of ⟨fun pins s σ H Q I q => ?_⟩ (fun _ => rfl) (fun _ _ _ z => nomatch z)
  obtain ⟨m, C, ls, d, C', hd, sl, e0, k⟩ := q
  obtain ⟨⟨J, C1⟩, e1, e2⟩ := R.bind_eq_ok e0
  obtain ⟨Cf, e3, e4⟩ := R.bind_eq_ok e2
  cases e4
  refine (pe_unl (pe_dc G.calm (by rw [G.hN]; exact G.nd) hi (by rw [G.hN, G.hsc]; exact ok) (fun s H C cl fp => g_p (g := g) (lk := J.lock lk) (good_blk G s H C cl fp) hp) (fun s H C cl fp => ht (J.lock lk) s H C cl fp) (fun s H C cl fp => (hk (J.lock lk) s H C cl fp).pe)
    (fun s H C cl fp => pe_cv (hv (J.lock lk) s H C cl fp).pe) (fold_no hset X.env))).run pins s σ H Q I ?_
  refine ⟨m, C, ls, J, C1, hd, sl, e1, fun JJ m1 H1 s1 d1 imp Da hDa => ?_⟩
  have s2 := step_push (o := HO.dK []) d1 hDa
  have d2 := d1.push (o := HO.dK []) (co := .dic []) hDa (.inl ⟨[], rfl, .nil, List.nodup_nil⟩)
  have hat : (m1 ++ [Da])[C1.n]? = some Da := by
    rw [← d1.len]
    simp
  refine dc_body X hs d2 (sl.step (s1.trans s2)) hat (isLk_ge d1.lko) (fun i m C H st hd => imp i m C H _ (s2.trans st).upf hd) e3 fun m3 H3 s3 d3 => ?_
  obtain ⟨H'', u1, u2, u3, u4⟩ := unl_all hd (lock_ext J lk) ((s1.trans s2).trans s3) d3
  exact ⟨H'', u1, k _ m3 H'' u2 u3 (Rep.loc (s3.get hat))⟩
end
end
end Q

set_option Elab.async false
set_option linter.all false
set_option maxRecDepth 100000
set_option maxHeartbeats 4000000
/-! len(set(..)) of texts, d.update(e), str(i), f-strings. -/
namespace Q
noncomputable section
open PySem L2 PySem.Spec PyProof.Rows

/-! ### a set of texts, one by one -/
abbrev SObj (led : Bool) : Obj := { cls := .type "set", dict := none, data := .set #[] 0 (.fresh 0 0 led) }
/-- what is in it, and how many -/
def addS (p : (Str → Bool) × Nat) (x : Str) : (Str → Bool) × Nat := (fun k => p.1 k || decide (k = x), if p.1 x = true then p.2 else p.2 + 1)
def setS (xs : List Str) : (Str → Bool) × Nat := xs.foldl addS (fun _ => false, 0)
theorem setS_snoc (xs : List Str) (x : Str) : setS (xs ++ [x]) = addS (setS xs) x := by
  unfold setS
  rw [List.foldl_append]
  rfl
theorem setS_mem (xs : List Str) : ∀ p : (Str → Bool) × Nat, ∀ k, (xs.foldl addS p).1 k = (p.1 k || decide (k ∈ xs)) := by
  induction xs with
  | nil => intro p k; simp
  | cons x r ih =>
    intro p k
    rw [List.foldl_cons, ih]
    show ((p.1 k || decide (k = x)) || decide (k ∈ r)) = _
    simp only [List.mem_cons]
    by_cases e1 : k = x <;> by_cases e2 : k ∈ r <;> simp [e1, e2]
theorem setS_le (xs : List Str) : ∀ p : (Str → Bool) × Nat, (xs.foldl addS p).2 ≤ p.2 + xs.length := by
  induction xs with
  | nil => intro p; exact Nat.le_refl _
  | cons x r ih =>
    intro p
    have h := ih (addS p x)
    have h2 : (addS p x).2 ≤ p.2 + 1 := by
      show (if p.1 x = true then p.2 else p.2 + 1) ≤ p.2 + 1
      split <;> omega
    rw [List.foldl_cons, List.length_cons]
    omega
section
variable {prog : Program} {w : World} {A : Around} {R : Result → Shared → Prop} {I : Addr} {fp wr : List Addr} {G : Array GenState → Array GenState → Prop} {n : Nat} {P : Nat → Value → Prop} {St : Nat → Shared → Prop}
theorem words_loop (W : WalksS prog w A.in1 I fp wr G n P St) (D : Addr) (out : D ∉ fp) (xs : List Str) (len : xs.length = n) (few : n ≤ 1000) (val : ∀ i v, P i v → ∃ t, v = .str (xs.getD i Str.empty) t)
    (i : Nat) (hi : i ≤ n) (s : Shared) (st : St i s) (S : s.heap.SetOf (PySem.strKind prog w) D (setS (xs.take i)).1 (setS (xs.take i)).2)
    (fin : ∀ s', Moved (D :: wr) G s s' → s'.heap.SetOf (PySem.strKind prog w) D (setS xs).1 (setS xs).2 → R (.ok (.ret .none)) s') :
    codeAny (model prog w) A (.builtin "set.update.loop" ⟨[.ref D, .ref I], []⟩) R s := by
  have notW : D ∉ wr := fun z => out (W.sub _ z)
  have inc : ∀ b ∈ wr, b ∈ D :: wr := fun _ z => List.mem_cons_of_mem _ z
  have carry : ∀ {u u' : Shared} {Sm : Str → Bool} {c : Nat}, Moved wr G u u' → u.heap.SetOf (PySem.strKind prog w) D Sm c → u'.heap.SetOf (PySem.strKind prog w) D Sm c := fun m ⟨o, es, ep, tb, ho, r⟩ => ⟨o, es, ep, tb, m.heap D _ notW ho, r⟩
  refine codeAny_builtin F.entry_set_update_loop ?_
  rw [Around.under_plainId F.plain_set_update_loop _]
  show wpAny _ A.in1 (pyNext (.ref I) >>= _) _ _ s
  by_cases hlt : i < n
  · refine wpAny_bind (W.item i s _ _ hlt st fun v s1 hv st1 m1 => ?_)
    obtain ⟨t, rfl⟩ := val i v hv
    have x_at : xs[i]? = some (xs.getD i Str.empty) := by
      rw [List.getD_eq_getElem?_getD, List.getElem?_eq_getElem (by omega)]
      rfl
    generalize xs.getD i Str.empty = x at x_at ⊢
    have z : (setS (xs.take i)).2 ≤ i := by
      have h := setS_le (xs.take i) (fun _ => false, 0)
      rw [List.length_take] at h
      have h : (setS (xs.take i)).2 ≤ 0 + min i xs.length := h
      omega
    show wpAny _ A.in1 (holding [Value.str x t] (setAdd D (.str x t)) >>= _) _ _ s1
    refine wpAny_bind (wpAny_holding ?_)
    unfold setAdd
    refine wpAny_holding (wpAny_bind ((PySem.strKind prog w).pyHash (k := x) (PySem.strKind_is _ _ _ _) ?_))
    refine wpAny_setAddHashed_of (knd := PySem.strKind prog w) (s := { s1 with toks := s1.toks + 1 }) (PySem.strKind_is _ _ _ _) rfl (show s1.heap.SetOf _ D _ _ from carry m1 S) (by unfold scanBound; omega) fun h2 same S2 => ?_
    have S3 : h2.SetOf (PySem.strKind prog w) D (setS (xs.take (i + 1))).1 (setS (xs.take (i + 1))).2 := by
      rw [List.take_add_one, x_at, show (some x).toList = [x] from rfl, setS_snoc]
      exact S2
    refine wpAny_pure ⟨plainId_quiet F.plain_set_update_loop _, words_loop W D out xs len few val (i + 1) hlt _ (W.frame _ s1 _ _ st1 (Nat.le_succ _) fun b hb o e => ?_) S3 fun s3 m3 S4 => fin s3 (Moved.trans W.gtrans ((m1.mono inc).then_heap (Nat.le_succ _) fun b o hb e => ?_) m3) S4⟩
    · exact (same.2 b fun z : b = D => out (z ▸ hb)).trans e
    · exact (same.2 b fun z : b = D => hb (z ▸ List.mem_cons_self)).trans e
  · have hin : i = n := by omega
    subst hin
    refine wpAny_bind (W.done s _ _ st fun s1 m1 => ?_)
    rw [List.take_of_length_le (by omega)] at S
    exact wpAny_pure (fin s1 (m1.mono inc) (carry m1 S))
termination_by n - i
end

section
variable {prog : Program} {w : World} {A : Around} {E : Value → Shared → Prop} {s : Shared}
abbrev withSet (h : Heap) (led : Bool) : Heap := h.push (SObj led)
set_option maxHeartbeats 6400000 in
/-- set(l), l a list of texts -/
theorem set_words {l : Addr} {items : Array Value} {xs : List Str} {Q : Value → Shared → Prop} (calm : A.handled = none) (il : s.heap.IsList l items) (ix : StrsAre items.toList xs) (few : xs.length ≤ 1000)
    (k : ∀ (h' : Heap) (tk : Nat), h'.SetOf (PySem.strKind prog w) s.heap.objs.size (setS xs).1 (setS xs).2 → (∀ b o, b < s.heap.objs.size → s.heap.get? b = some o → h'.get? b = some o) → Q (.ref s.heap.objs.size) { s with heap := h', toks := tk }) :
    wpAny (model prog w) A (call (.type "set") [.ref l]) Q E s := by
  obtain ⟨c, tl, hmro⟩ := PySem.F.called_set.mro
  have made := PySem.F.called_set.made
  have sub := PySem.F.called_set.sub
  refine wpAny_call (codeAny_of_tree ?_)
  show wpAny _ _ (callAny (.type "set") _) _ _ _
  refine wpAny_pure ⟨Code.quiet_builtin _ (by decide +kernel), codeAny_builtin PySem.F.entry_type_call ?_⟩
  rw [Around.under_plain (weight_type_call_type "set" [.ref l] []) rfl]
  have f1 := PySem.F.called_set.notType
  have f2 := PySem.F.called_set.canCreate
  have f3 := PySem.F.typeCall_set_1 (.ref l)
  repeat (any_goals (first | assumption | wp_step))
  refine codeAny_mono (code_set_new_1 (.ref l) (E := E) (Q₁ := fun v t => ∃ led : Bool, v = .ref s.heap.objs.size ∧ t = { s with heap := withSet s.heap led }) fun led => ⟨led, rfl, rfl⟩) fun r t0 hr => ?_
  cases r with
  | error e => exact hr
  | ok fl =>
    cases fl with
    | ret v =>
      obtain ⟨led, rfl, rfl⟩ := hr
      have at0 : (withSet s.heap led).get? s.heap.objs.size = some (SObj led) := Heap.get?_push_size _ rfl
      have ty0 : Shared.TypeIs { s with heap := withSet s.heap led } (.ref s.heap.objs.size) "set" := ⟨_, at0, rfl⟩
      have f4 := PySem.F.called_set.init.lookup
      have f5 := PySem.F.called_set.init.bind (.ref s.heap.objs.size)
      repeat (any_goals (first | assumption | wp_step))
      refine codeAny_mono (codeAny_call_builtin (R := wants (fun r t => r = .none ∧ ∃ h' tk, t = { s with heap := h', toks := tk } ∧ h'.SetOf (PySem.strKind prog w) s.heap.objs.size (setS xs).1 (setS xs).2 ∧
          ∀ b o, b < s.heap.objs.size → s.heap.get? b = some o → h'.get? b = some o) E) PySem.F.called_set.init.plain PySem.F.entry_set_init (check_set_init_1 ty0 ?_)) fun r1 t1 hr1 => ?_
      · obtain ⟨⟨c0, dd, da, sl⟩, at1, q1, nl, q2⟩ := il
        simp only at q1 q2
        subst q1; subst q2
        have at2 : (withSet s.heap led).get? l = some { cls := .type "list", dict := dd, data := .seq items nl, slots := sl } := Heap.get?_push_of_some _ at1
        have f6 := PySem.F.sub_list_set
        have f7 := PySem.F.sub_list_frozenset
        have f8 : (Value.type "list" == Value.type "dict") = false := by decide
        have il2 : (withSet s.heap led).IsList l items := ⟨_, at2, rfl, nl, rfl⟩
        unfold Builtin.«set.__init__» noKeywords Builtin.Frozenset.updateFrom
        generalize hp : pyIter = pit
        wp_walk
        subst hp
        refine wpAny_pyIter_list il2 (wpAny_bind (wpAny_runValue ?_))
        have lt0 : l < s.heap.objs.size := Heap.lt_size at1
        have sz : (withSet s.heap led).objs.size = s.heap.objs.size + 1 := by rw [Heap.size_push]
        have ne1 : l ≠ (withSet s.heap led).objs.size := by rw [sz]; exact Nat.ne_of_lt (Nat.lt_succ_of_lt lt0)
        have out : s.heap.objs.size ∉ [(withSet s.heap led).objs.size, l] := by
          rw [sz]
          simp only [List.mem_cons, List.not_mem_nil, or_false, not_or]
          exact ⟨Nat.ne_of_lt (Nat.lt_succ_self _), Nat.ne_of_gt lt0⟩
        have lx : xs.length = items.size := by rw [← StrsAre.len_eq ix, Array.length_toList]
        have calm3 : A.in1.in1.in1.handled = none := by simp [calm]
        refine words_loop ((Walks.list calm3 _ l ne1 items).toS) s.heap.objs.size out xs lx (by omega) (fun i v hv => SS.strs_at ix i v (by rw [Array.getElem?_toList]; exact hv)) 0 (Nat.zero_le _) _
          ⟨⟨_, Heap.get?_push_size _ rfl, rfl, rfl⟩, il2.push _⟩ ?_ fun t2 m2 S2 => ?_
        · exact SetOf_congr ((setObjOf_fresh (knd := PySem.strKind prog w) led).setOf (Heap.get?_push_of_some _ at0) (by unfold scanBound; omega)) (fun _ => rfl) rfl
        · obtain ⟨h2, g2, d2, k2, o2⟩ := t2
          have eg : g2 = s.gens := m2.gens
          have ed : d2 = s.drawn := m2.drawn
          have eo : o2 = s.os := m2.os
          subst eg; subst ed; subst eo
          show wpAny _ _ _ _ _ _
          refine wpAny_pure ?_
          show wpAny _ _ (ret Value.none) _ _ _
          refine wpAny_pure ⟨rfl, h2, k2, rfl, S2, fun b o hb e => m2.heap b o ?_ (Heap.get?_push_of_some _ (Heap.get?_push_of_some _ e))⟩
          simp only [List.mem_cons, List.not_mem_nil, or_false, not_or]
          rw [sz]
          exact ⟨Nat.ne_of_lt hb, Nat.ne_of_lt (Nat.lt_succ_of_lt hb)⟩
      · cases r1 with
        | error e => exact hr1
        | ok fl1 =>
          cases fl1 with
          | ret r =>
            obtain ⟨rfl, h2, k2, rfl, S2, keep⟩ := hr1
            repeat (any_goals (first | assumption | wp_step))
            exact k _ _ S2 keep
          | _ => exact hr1.elim
    | _ => exact hr.elim
end

theorem cntS_is : ∀ (ws seen : List (List Nat)) (p : (Str → Bool) × Nat), (∀ w, p.1 (Sx w) = seen.any fun z => eqS z w) → p.2 = seen.length → ((ws.map Sx).foldl addS p).2 = cntS seen ws
  | [], seen, p, h1, h2 => h2
  | w :: r, seen, p, h1, h2 => by
    rw [List.map_cons, List.foldl_cons]
    unfold cntS
    cases e : seen.any (fun z => eqS z w) with
    | true =>
      rw [if_pos rfl]
      refine cntS_is r seen _ (fun v => ?_) ?_
      · show (p.1 (Sx v) || decide (Sx v = Sx w)) = _
        by_cases q : v = w
        · subst q
          rw [h1, e]
          rfl
        · rw [h1, decide_eq_false fun z => q (Sx_inj z), Bool.or_false]
      · show (if p.1 (Sx w) = true then p.2 else p.2 + 1) = _
        rw [h1, e, if_pos rfl, h2]
    | false =>
      rw [if_neg (by decide)]
      refine cntS_is r (w :: seen) _ (fun v => ?_) ?_
      · show (p.1 (Sx v) || decide (Sx v = Sx w)) = _
        rw [List.any_cons, h1, eqS_iff]
        by_cases q : v = w
        · subst q
          simp
        · rw [decide_eq_false fun z => q (Sx_inj z), decide_eq_false fun z => q z.symm]
          simp
      · show (if p.1 (Sx w) = true then p.2 else p.2 + 1) = _
        rw [h1, e, if_neg (by decide), h2]
        rfl
section
variable {X : Cx} {g : Stg} {lk : List Nat} {a : PySem.Expr} {ta : TE} {ea : EvE} {p p2 q pos : Pos}
/-- len(set(a)), a a list of texts -/
theorem b_lenset {evs : Sl → Hq → R (List D × Hq)} (hc : X.calm = true) (hg : Gl X "len") (hm : X.mg "len" = none) (hg2 : Gl X "set") (hm2 : X.mg "set" = none) (ha : PA X [a] (tAs g lk evs)) (hs : noStar a = true) :
    PB X g lk (.Call (.Name "len" p) [.Call (.Name "set" p2) [a] [] q] [] pos) (evBi .lenset evs) := by
  refine PB.of ⟨fun pins s σ H Q I h => ?_⟩ (fun _ => rfl) (fun _ _ _ z => nomatch z)
  obtain ⟨m, C, ls, d, C', hd, sl, e0, k⟩ := h
  obtain ⟨⟨ds, C1⟩, e1, e2⟩ := R.bind_eq_ok e0
  obtain ⟨x, rfl, e3⟩ := one_is (R.of_eq_ok e2)
  obtain ⟨xs, e4, e5⟩ := Option.bind_eq_some_iff.mp e3
  obtain ⟨ws, e6, e7⟩ := Option.bind_eq_some_iff.mp e5
  split at e7
  · rename_i few
    cases e7
    have few : ws.length ≤ 1000 := by simpa using few
    refine Call_ (ld_blt I hg hm boot_len (callWith_builtin1 (args_cons (Call_ (ld_blt I hg2 hm2 boot_set (callWith_type1 (thn (ha.run q pins s σ H (fun vs H1 => ∃ m1, Step m H m1 H1 ∧ Held g lk m1 C1 H1 ∧ Reps H1 m1 [x] vs) I ⟨m, C, ls, [x], C1, hd, sl, e1, fun vs m1 H1 s1 d1 r1 => ⟨m1, s1, d1, r1⟩⟩)
      fun us s1 ⟨vs, H1, I1, rv, m1, st1, d1, r1⟩ => ?_) (starEach_no hs) rfl))) rfl) rfl rfl))
    obtain ⟨v, rfl, r2⟩ := r1.one
    obtain ⟨u, rfl, ru⟩ := vals1 rv
    cases x with
    | loc l =>
      obtain ⟨b, hb, rfl⟩ := r2.loc_
      obtain rfl : u = Value.ref b := ru
      obtain ⟨vs, sq, rs, _⟩ := d1.sql (K := X.K) (show asLst C1 l = some xs from e4) hb
      rw [strs_of e6 rs] at sq
      obtain ⟨its, rv, pl, _⟩ := I1.list sq
      have ix : StrsAre its.toArray.toList (ws.map Sx) := by simpa using strsAre_of rv
      refine set_words (I1.ok.hd hc) pl.isList ix (by simpa using few) fun h' tk S keep => args_nil ?_
      obtain ⟨o, es, ep, t, at1, ex, ed, _, _, _, fit, cnt⟩ := S
      have I2 : Inv X pins σ H1 { s1 with heap := h', toks := tk } := I1.kept fun b o e => keep b o (Heap.lt_size e) e
      have le := setS_le (ws.map Sx) (fun _ => false, 0)
      have le : (setS (ws.map Sx)).2 ≤ 0 + (ws.map Sx).length := le
      have le2 : (ws.map Sx).length ≤ 1000 := by simpa using few
      have ec : (setS (ws.map Sx)).2 = cntS [] ws := cntS_is ws [] _ (fun _ => rfl) rfl
      refine call_len_set at1 ex ed fit (by rw [cnt]; omega) ⟨.int (cntS [] ws), H1, I2.tok _, ⟨_, by rw [cnt, ec]⟩, k _ m1 H1 st1 d1 Rep.int⟩
    | _ => cases e4
  · cases e7
end

/-! ### d.update(e) -/
section
variable {X : Cx} {g : Stg} {lk : List Nat}
theorem mergeK_cons (ws : List (Key × V)) (q : Key × V) (r : List (Key × V)) : mergeK ws (q :: r) = mergeK (putK ws q.1 q.2) r := rfl
theorem dputAll_is {H : L2.Hp} {m : List Addr} : ∀ {more : List (D × D)} {ms : List (Key × V)} {kvs : List (D × D)} {ws : List (Key × V)}, KvR KeyR1 H m more ms → KvR KeyR1 H m kvs ws → (ws.map (·.1)).Nodup →
    KvR KeyR1 H m (dputAll kvs more) (mergeK ws ms) ∧ ((mergeK ws ms).map (·.1)).Nodup
  | _, _, kvs, ws, .nil, h, nd => ⟨h, nd⟩
  | _, _, kvs, ws, .cons (a := p) (b := q) h1 t, h, nd => by
    obtain ⟨k, d⟩ := p
    rw [mergeK_cons]
    have ih := dputAll_is t (dput_put beq_key1 h1.1 h1.2 h nd) (putK_nodup nd)
    exact ih
/-- a free dict whose keys are ints and texts, told so -/
theorem dic_K {m : List Addr} {C : Hq} {H : L2.Hp} {l : Nat} {a : Addr} {kvs : List (D × D)} (hd : Held g lk m C H) (hl : m[l]? = some a) (e : C.get l = some (.dic kvs)) (f : isLk lk l = false) (hk : kvs.all (fun z => isKey1 z.1) = true) :
    ∃ H2, Cvt H H2 ∧ Step m H m H2 ∧ Held g lk m C H2 ∧ (∀ b, b ≠ a → H2 b = H b) ∧ ∃ ws, H2 a = some (.dK ws) ∧ KvR KeyR1 H2 m kvs ws ∧ (ws.map (·.1)).Nodup := by
  obtain ⟨a', u, h1, h2, h3⟩ := hd.at e
  rw [hl] at h1
  cases h1
  rw [f] at h3
  rcases h3 with ⟨ws, q1, q2, q3⟩ | ⟨ws, q1, q2, q3⟩
  · cases (show u = .dK ws from q1)
    exact ⟨H, fun _ _ _ _ I => I, Step.refl _ _, hd, fun _ _ => rfl, ws, h2, q2, q3⟩
  · cases (show u = .dT ws from q1)
    cases q2 with
    | cons z t =>
      rw [List.all_cons, Bool.and_eq_true, keyR2_is z.1] at hk
      cases hk.1
    | nil =>
      have st := step_set (o := HO.dK []) hd hl (hd.notFrz hl f)
      have C2 := hd.set (o := HO.dK []) (co := .dic []) hl (hd.notFrz hl f) (by rw [f]; exact .inl ⟨[], rfl, .nil, List.nodup_nil⟩)
      refine ⟨upd H a (.dK []), fun Y pins σ s I => inv_TK I h2, st, ⟨C2.len, C2.nd, fun j b hj => ?_, fun j hj => hd.non j hj, hd.lko⟩, fun b hb => upd_ne hb, [], upd_same, .nil, List.nodup_nil⟩
      obtain ⟨o, u, g1, g2, g3⟩ := C2.obj j b hj
      by_cases q : j = l
      · subst q
        rw [Hq.get_set, if_pos rfl] at g1
        cases g1
        exact ⟨_, u, e, g2, g3⟩
      · rw [Hq.get_set, if_neg q] at g1
        exact ⟨o, u, g1, g2, g3⟩
theorem om_update : MtR X "dict.update" (tM g lk (bmD .update lk)) := by
  rintro pins s σ H x xs v us Q I rx rxs ⟨m, C, a, as, d, C', hd, ra, rs, e, k⟩
  obtain ⟨⟨l, kvs⟩, e1, e2⟩ := Option.bind_eq_some_iff.mp e
  obtain ⟨rfl, e3⟩ := atDic_is e1
  obtain ⟨y, rfl, e4⟩ := one_is e2
  obtain ⟨⟨j, more⟩, e5, e6⟩ := Option.bind_eq_some_iff.mp e4
  obtain ⟨rfl, e7⟩ := atDic_is e5
  split at e6
  · rename_i hz
    cases e6
    simp only [Bool.and_eq_true, Bool.not_eq_true', decide_eq_true_eq] at hz
    obtain ⟨⟨⟨⟨⟨z1, z2⟩, z3⟩, z4⟩, z5⟩, z6⟩ := hz
    have f1 := free_is z1
    have f2 := free_is z2
    obtain ⟨pa, hp, rfl⟩ := ra.loc_
    obtain ⟨w, rfl, rw1⟩ := rs.one
    obtain ⟨pb, hq, rfl⟩ := rw1.loc_
    obtain ⟨u, rfl, ru⟩ := vals1 rxs
    cases rx
    cases ru
    have ne : pa ≠ pb := fun z => by
      subst z
      have := at_inj hd hp hq
      subst this
      rw [Nat.beq_refl] at z3
      cases z3
    obtain ⟨H1, c1, s1, d1, _, ws2, w1, w2, v3⟩ := dic_K hd hp e3 f1 z4
    obtain ⟨H2, c2, s2, d2, o2, ms, m1, m2, m3⟩ := dic_K d1 hq e7 f2 z5
    have I2 := c2 X pins σ s (c1 X pins σ s I)
    have v1 : H2 pa = some (.dK ws2) := (o2 pa ne).trans w1
    have v2 := w2.step s2
    obtain ⟨za, ha, va, ra, da⟩ := dk_of I2.hok v1
    obtain ⟨zb, hb, vb, rb, db⟩ := dk_of I2.hok m1
    have la := v2.length
    have lb := m2.length
    have lva := KV.length ra
    have lvb := KV.length rb
    refine call_meetsIn PySem.F.slot_dict_update da.typeIs PySem.F.entry_dict_update (PySem.F.args_dict_update_2 _ _) (meets_dict_update (mixKind X.prog X.w) pa pb ne hb) ⟨va, vb, da, db, by rw [← lva, ← lvb, line_is]; omega, fun h' dd _ same => ?_⟩
    have hz : (mergeK ws2 ms).length ≤ sizeLine := by
      have := length_mergeK ms ws2
      rw [line_is]
      omega
    have I3 := d_write (t' := s.toks) I2 (by rw [v1]; exact True.intro) same (let ⟨o, _, _, ho, _⟩ := dd; ⟨o, ho⟩) (dk_new hz ha (rb.merge ra) dd)
    obtain ⟨g1, g2⟩ := dputAll_is m2 v2 v3
    have st := step_set (o := HO.dK (mergeK ws2 ms)) d2 hp (d2.notFrz hp f1)
    refine ⟨.non, _, I3, rfl, k _ m _ ((s1.trans s2).trans st) (d2.set hp (d2.notFrz hp f1) ?_) Rep.non⟩
    rw [f1]
    exact .inl ⟨_, rfl, g1.step st, g2⟩
  · cases e6
theorem bmF_update : BmF X g .update := ⟨F.plainAttrs_dict, PySem.F.slot_dict_update, F.type_dict_update, fun _ => om_update⟩
end
end
end Q

set_option Elab.async false
set_option linter.all false
set_option maxRecDepth 100000
set_option maxHeartbeats 4000000
/-! str(i), f-strings. -/
namespace Q
noncomputable section
open PySem L2 PySem.Spec PyProof.Rows

def agree (i : Int) : Bool := decide ((Str.ofString (toString i)).cps.toList = strI i)
def agreeAll : Bool := (List.range 200).all fun n => agree (n : Int) && agree (-(n : Int))
theorem agree_all : agreeAll = true := by decide +kernel
theorem strI_is {i : Int} (h : i.natAbs < 200) : Str.ofString (toString i) = Sx (strI i) := by
  have key := List.all_eq_true.mp agree_all i.natAbs (List.mem_range.mpr h)
  rw [Bool.and_eq_true] at key
  have one : ∀ {j : Int}, agree j = true → Str.ofString (toString j) = Sx (strI j) := fun {j} z => by
    have z := of_decide_eq_true z
    rw [← z]
  rcases Int.natAbs_eq i with e | e
  · rw [e]; exact one key.1
  · rw [e]; exact one key.2
theorem strI_len {i : Int} (h : i.natAbs < 200) : (strI i).length ≤ 1000000 := by
  have e := strI_is h
  have h1 : (List.range 200).all (fun n => decide ((strI (n : Int)).length ≤ 1000) && decide ((strI (-(n : Int))).length ≤ 1000)) = true := by decide +kernel
  have key := List.all_eq_true.mp h1 i.natAbs (List.mem_range.mpr h)
  rw [Bool.and_eq_true, decide_eq_true_eq, decide_eq_true_eq] at key
  rcases Int.natAbs_eq i with e | e
  · rw [e]; omega
  · rw [e]; omega
theorem log_small {i : Int} (h : i.natAbs < 200) : i.natAbs.log2 < 1920 := by
  by_cases z : i.natAbs = 0
  · rw [z]; decide
  · rw [Nat.log2_lt z]
    exact Nat.lt_of_lt_of_le h (by decide +kernel)
section
variable {X : Cx} {g : Stg} {lk : List Nat}
theorem or_str : CallR X (.type "str") (tB g lk (biD .str)) := by
  rintro pins s σ H xs us Q I rx ⟨m, C, as, d, C', hd, rs, e, k⟩
  obtain ⟨a, rfl, e⟩ := one_is e
  obtain ⟨v, rfl, r1⟩ := rs.one
  cases a with
  | int i =>
    have e : (if decide (i.natAbs < 200) then some (D.str (strI i), C) else none) = some (d, C') := e
    split at e
    · rename_i hz
      cases e
      rw [decide_eq_true_eq] at hz
      cases r1.int_
      refine call_str_int pins s σ H _ us Q I rx ⟨i, rfl, log_small hz, ?_⟩
      have q := k (.str (Sx (strI i))) m H (Step.refl _ _) hd (Rep.str (strI_len hz))
      rw [← strI_is hz] at q
      exact q
    · cases e
  | _ => cases e

/-! ### f'..' -/
/-- the parts, evaluated one by one, and told as texts -/
inductive FP (X : Cx) (g : Stg) (lk : List Nat) : List PySem.Expr → (Sl → Hq → R (List D × Hq)) → Prop where
  | nil : FP X g lk [] (fun _ C => .ok ([], C))
  | con {s : List Nat} {j : Nat} {pos : Pos} {es : List PySem.Expr} {evs : Sl → Hq → R (List D × Hq)} (h : s.length ≤ 1000000) (r : FP X g lk es evs) :
      FP X g lk (.Constant (.str (Sx s)) j pos :: es) (fun ls C => (evs ls C).bind fun y => .ok (.str s :: y.1, y.2))
  | fmt {e : PySem.Expr} {ev : EvE} {pos : Pos} {es : List PySem.Expr} {evs : Sl → Hq → R (List D × Hq)} (h : PB X g lk e ev) (r : FP X g lk es evs) :
      FP X g lk (.FormattedValue e (-1) none pos :: es) (fun ls C => (ev ls C).bind fun x => (evs ls x.2).bind fun y => .ok (x.1 :: y.1, y.2))
/-- the rest of a f-string, from a text on -/
def tFs (g : Stg) (lk : List Nat) (evs : Sl → Hq → R (List D × Hq)) (acc : List Nat) : L2.St → L2.Hp → (Str → L2.Hp → Prop) → Prop := fun σ H Q => ∃ m C ls ds C' ws, Held g lk m C H ∧ Slt H m ls σ ∧ evs ls C = .ok (ds, C') ∧ fmtOf ds = some ws ∧ (acc ++ ws.flatten).length ≤ 1000000 ∧
  ∀ m' H', Step m H m' H' → Held g lk m' C' H' → Q (Sx (acc ++ ws.flatten)) H'
theorem fp_run {es : List PySem.Expr} {evs : Sl → Hq → R (List D × Hq)} (h : FP X g lk es evs) : ∃ ts, PJ X es ts ∧ ∀ (acc : List Nat) σ H Q, tFs g lk evs acc σ H Q → tJs ts (Sx acc) σ H Q := by
  induction h with
  | nil =>
    refine ⟨[], .nil, fun acc σ H Q q => ?_⟩
    obtain ⟨m, C, ls, ds, C', ws, hd, sl, e, f, hl, k⟩ := q
    cases e
    cases f
    have := k m H (Step.refl _ _) hd
    rw [List.flatten_nil, List.append_nil] at this
    exact this
  | @con s j pos es evs h r ih =>
    obtain ⟨ts, pj, tr⟩ := ih
    refine ⟨tC (.str (Sx s)) :: ts, .cons pe_str pj, fun acc σ H Q q => ?_⟩
    obtain ⟨m, C, ls, ds, C', ws, hd, sl, e, f, hl, k⟩ := q
    obtain ⟨⟨ys, C1⟩, e1, e2⟩ := R.bind_eq_ok e
    cases e2
    obtain ⟨ws', f1, rfl⟩ := Option.map_eq_some_iff.mp (show (fmtOf ys).map (fun t => s :: t) = some ws from f)
    rw [List.flatten_cons, ← List.append_assoc] at hl
    refine ⟨Sx s, rfl, ?_, ?_⟩
    · rw [Sx_app, Sx_len, line_is]
      rw [List.length_append] at hl
      omega
    · rw [Sx_app]
      exact tr (acc ++ s) σ H Q ⟨m, C, ls, ys, _, ws', hd, sl, e1, f1, hl, fun m' H' st hd' => by
        have := k m' H' st hd'
        rw [List.flatten_cons, ← List.append_assoc] at this
        exact this⟩
  | @fmt e ev pos es evs h r ih =>
    obtain ⟨ts, pj, tr⟩ := ih
    refine ⟨tFmt (tE g lk ev) :: ts, .cons (pe_fmt h.pe) pj, fun acc σ H Q q => ?_⟩
    obtain ⟨m, C, ls, ds, C', ws, hd, sl, e, f, hl, k⟩ := q
    obtain ⟨⟨x, C1⟩, e0, e⟩ := R.bind_eq_ok e
    obtain ⟨⟨ys, C2⟩, e1, e2⟩ := R.bind_eq_ok e
    cases e2
    refine ⟨m, C, ls, x, C1, hd, sl, e0, fun v m1 H1 s1 d1 r1 => ?_⟩
    have go : ∀ {s : List Nat} {ws' : List (List Nat)}, fmtOf ys = some ws' → ws = s :: ws' → ∃ y : Str, V.str (Sx s) = .str y ∧ (Sx acc ++ y).length ≤ sizeLine ∧ tJs ts (Sx acc ++ y) σ H1 Q := fun {s ws'} f1 ew => by
      subst ew
      rw [List.flatten_cons, ← List.append_assoc] at hl
      refine ⟨Sx s, rfl, ?_, ?_⟩
      · rw [Sx_app, Sx_len, line_is]
        rw [List.length_append] at hl
        omega
      · rw [Sx_app]
        exact tr (acc ++ s) σ H1 Q ⟨m1, C1, ls, ys, _, ws', d1, sl.step s1, e1, f1, hl, fun m' H' st hd' => by
          have := k m' H' (s1.trans st) hd'
          rw [List.flatten_cons, ← List.append_assoc] at this
          exact this⟩
    cases x with
    | str s =>
      obtain ⟨ws', f1, rfl⟩ := Option.map_eq_some_iff.mp (show (fmtOf ys).map (fun t => s :: t) = some ws from f)
      have hs := r1.slen
      cases r1.str_
      exact .inl ⟨Sx s, rfl, by rw [Sx_len, line_is]; omega, go f1 rfl⟩
    | int i =>
      have f : (if decide (i.natAbs < 200) then (fmtOf ys).map (fun t => strI i :: t) else none) = some ws := f
      split at f
      · rename_i hz
        rw [decide_eq_true_eq] at hz
        obtain ⟨ws', f1, rfl⟩ := Option.map_eq_some_iff.mp f
        cases r1.int_
        refine .inr ⟨i, rfl, log_small hz, ?_⟩
        have := go f1 rfl
        rw [← strI_is hz] at this
        exact this
      · cases f
    | _ => cases f
def evFst (evs : Sl → Hq → R (List D × Hq)) : EvE := fun ls C => (evs ls C).bind fun x => (R.of (fmtOf x.1)).bind fun ws => if decide (ws.flatten.length ≤ 1000000) then .ok (.str ws.flatten, x.2) else .no
theorem b_fst {v1 v2 : PySem.Expr} {rest : List PySem.Expr} {evs : Sl → Hq → R (List D × Hq)} {pos : Pos} (h : FP X g lk (v1 :: v2 :: rest) evs) : PB X g lk (.JoinedStr (v1 :: v2 :: rest) pos) (evFst evs) := by
  obtain ⟨ts, pj, tr⟩ := fp_run h
  refine PB.of (pe_mono (pe_joined pj) fun σ H Q q => ?_) (fun _ => rfl) (fun _ _ _ z => nomatch z)
  obtain ⟨m, C, ls, d, C', hd, sl, e, k⟩ := q
  obtain ⟨⟨ds, C1⟩, e1, e2⟩ := R.bind_eq_ok e
  obtain ⟨ws, e3, e4⟩ := R.bind_eq_ok e2
  split at e4
  · rename_i hz
    cases e4
    rw [decide_eq_true_eq] at hz
    exact tr [] σ H _ ⟨m, C, ls, ds, _, ws, hd, sl, e1, R.of_eq_ok e3, hz, fun m' H' st hd' => k _ m' H' st hd' (Rep.str hz)⟩
  · cases e4
end
end
end Q

set_option Elab.async false
set_option linter.all false
set_option maxRecDepth 100000
set_option maxHeartbeats 4000000
/-! Calls by name, calls of classmethods, an own ==. -/
namespace Q
noncomputable section
open PySem L2 PySem.Spec PyProof.Rows

section
variable {X : Cx} {g : Stg} {G : Gam} {kk : Nat} {lk : List Nat} {o e a b : PySem.Expr} {es : List PySem.Expr} {ea eb ev : EvE} {evs : Sl → Hq → R (List D × Hq)} {apos pos p kpos : Pos}
theorem run_kw {k : Nat} {f : Addr} {kn : Str} {sp : Sp} {E : XK} {Q : VK} {u u2 : Value} {vs : List V} {pins : List (Addr × Obj)} {σ : L2.St} {H : L2.Hp} {s : Shared} (F : KwR X.prog X.w X.K X.mg X.base k f kn sp) (hr : Room k X.A) (hx : Passes CX0 X E) (I : Inv X pins σ H s) (r : Vals vs [u, u2]) (h : sp vs H Q E) :
    wpAny (model X.prog X.w) X.A (call (.ref f) [u] [(kn, u2)]) (EP X pins σ Q) X.xe s := by
  refine wpAny_call (codeAny_mono (F X.A X.stack s H u u2 vs Q E hr I.env0 r h) fun z t q => ?_)
  cases z with
  | error x => exact hx pins σ H s x t I q
  | ok fl =>
    cases fl with
    | ret v => exact I.after q
    | next => exact q.elim
    | brk => exact q.elim
    | cont => exact q.elim
/-- o.x(kn=e) -/
theorem b_methk (W : Wd g G kk X) {f : Nat} {x kn : Str} (hx : g.fld[f]? = some x) (hk : (x, kn) ∈ g.kw) (he : PB X g lk o ea) (hb : okBase o = true) (hline : (apos.endLine == pos.line) = true) (ha : PB X g lk e ev) :
    PB X g lk (.Call (.Attribute o x apos) [] [⟨some kn, e, kpos⟩] pos) (evMeth G lk f ea fun ls C => (ev ls C).bind fun y => .ok ([y.1], y.2)) := by
  have hr := W.room.mono (Nat.le_succ kk)
  have form : eval (.Call (.Attribute o x apos) [] [⟨some kn, e, kpos⟩] pos) X.env = (do
      let ov ← eval o X.env
      standAt apos.atName
      let (f, first) ← holding [ov] (getMethod ov x (do return (← importBound o X.env).getD true))
      callWith pos f first (backTo pos (starEach [] X.env)) (backToKw pos (keywordEach [⟨some kn, e, kpos⟩] X.env))) := by
    have hpos : methodCallPos true o X.env apos pos = pure pos := by
      unfold methodCallPos
      rw [hline]
      rfl
    rw [arm_eval_Call, base_ok hb]
    unfold methodCall
    rw [show methodCallForm (([] : List PySem.Expr).length + [(⟨some kn, e, kpos⟩ : Keyword)].length) (backTo pos (starEach [] X.env)) (backToKw pos (keywordEach [⟨some kn, e, kpos⟩] X.env)) = true from rfl, hpos]
    rfl
  refine PB.of ⟨fun pins s σ H Q I q => ?_⟩ (fun _ => rfl) (fun _ _ _ z => nomatch z)
  obtain ⟨m, C, ls, x1, C1, d, C', hd, sl, e1, e2, k⟩ := tE_bind q
  dsimp only at e2
  split at e2
  · rename_i l
    obtain ⟨⟨c, fs⟩, f1, e2⟩ := R.bind_eq_ok e2
    obtain ⟨cl, f2, e2⟩ := R.bind_eq_ok e2
    obtain ⟨gi, f3, e2⟩ := R.bind_eq_ok e2
    have f1 := R.of_eq_ok f1
    have f2 := R.of_eq_ok f2
    have f3 := R.of_eq_ok f3
    split at e2
    · rename_i hn
      have hn : getF fs f = none := by simpa using hn
      obtain ⟨⟨ds, C2⟩, e3, e4⟩ := R.bind_eq_ok e2
      obtain ⟨⟨y, C3⟩, e5, e6⟩ := R.bind_eq_ok e3
      cases e6
      refine PySem.W.methodCall_KW (pl := _) (thn (he.pe.run pins s σ H (fun v H1 => ∃ m1, Step m H m1 H1 ∧ Held g lk m1 C1 H1 ∧ Rep H1 m1 (.loc l) v) I ⟨m, C, ls, .loc l, C1, hd, sl, e1, fun v m1 H1 s1 d1 r1 => ⟨m1, s1, d1, r1⟩⟩) ?_) form
      rintro u s1 ⟨v, H1, I1, rv, m1, st1, d1, r1⟩
      obtain ⟨b, hat, rfl⟩ := r1.loc_
      obtain rfl : u = Value.ref b := rv
      obtain ⟨dx, fs', h1, h2⟩ := d1.ins f1 hat
      have M := W.meth c cl f x gi f2 hx f3 ⟨_, _, _, _, e4⟩
      refine getmeth_ok I1 h1 (W.cls c cl f2) M (fs_none W.nd hx h2 hn) ?_
      refine PySem.W.callWith_KW0 (first := [.ref b]) (h₀ := X.base) I1.ok.mod.kin M.kp rfl ?_
      refine thn ((pk_cons (nm := some kn) (kpos := kpos) ha.pe pk_nil).run pos pins s1 σ H1 (fun vs H2 => ∃ w m2, vs = [w] ∧ Step m1 H1 m2 H2 ∧ Held g lk m2 C3 H2 ∧ Rep H2 m2 y w) I1
        ⟨m1, C1, ls, y, _, d1, sl.step st1, e5, fun w m2 H2 s2 d2 r2 => ⟨w, m2, rfl, s2, d2, r2⟩⟩) fun us s2 ⟨vs, H2, I2, r, w, m2, ew, st2, d2, r2⟩ => ⟨I2.kIn, ?_⟩
      subst ew
      obtain ⟨u2, rfl, ru⟩ := vals1 r
      exact run_kw (vs := [.ref b, w]) (W.kw c cl f x gi kn f2 hx f3 hk) hr (pass0 (X := X)) I2 (.cons rfl (.cons ru .nil)) ⟨lk, m2, _, [.loc l, y], d, C', d2, .cons (Rep.loc (st2.get hat)) (.cons r2 .nil), e4, fun v m3 H3 s3 d3 r3 => k v m3 H3 ((st1.trans st2).trans s3) d3 r3⟩
    · cases e2
  · cases e2
/-! ### a classmethod, called off its class -/
def evCmet (G : Gam) (lk : List Nat) (c m : Nat) (evs : Sl → Hq → R (List D × Hq)) : EvE := fun ls C => (evs ls C).bind fun x => (R.of (G.cls c)).bind fun cl => (R.of (getN cl.cmets m)).bind fun f => G.cfn f lk x.1 x.2
theorem b_cmet (W : Wd g G kk X) {c f : Nat} {x y : Str} (hx : g.fld[f]? = some x) (hg : Gl X y) (hm : X.mg y = some (.ref (g.cad c))) (hdb : (y == ("__debug__" : Str)) = false) (hb : okBase (.Name y p) = true) (hl : (e :: es).length < 29) (hline : (apos.endLine == pos.line) = true)
    (ha : PA X (e :: es) (tAs g lk evs)) (hs : (e :: es).all noStar = true) :
    PB X g lk (.Call (.Attribute (.Name y p) x apos) (e :: es) [] pos) (evCmet G lk c f evs) := by
  have hr := W.room.mono (Nat.le_succ kk)
  have hh := hs
  rw [List.all_cons, Bool.and_eq_true] at hs
  refine PB.of ⟨fun pins s σ H Q I q => ?_⟩ (fun _ => rfl) (fun _ _ _ z => nomatch z)
  obtain ⟨m, C, ls, d, C', hd, sl, e0, k⟩ := q
  obtain ⟨⟨ds, C1⟩, e1, e2⟩ := R.bind_eq_ok e0
  obtain ⟨cl, e3, e2⟩ := R.bind_eq_ok e2
  obtain ⟨fi, e4, e5⟩ := R.bind_eq_ok e2
  obtain ⟨mc, pr, cr, cm⟩ := (W.cm c cl f x fi (R.of_eq_ok e3) hx (R.of_eq_ok e4) ⟨_, _, _, _, e5⟩).ex
  refine (ClX.pe_cmeth (pe_glob hg hm (v := .ref (g.cad c)) rfl hdb) cr cm (W.cfns fi) hr (pass0 (X := X)) ha (starEach_no hs.1) (star_any hs.2).1 (meth_form hb hh hl hline)).run pins s σ H Q I ?_
  refine ⟨rfl, m, C, ls, ds, C1, hd, sl, e1, fun vs m1 H1 s1 d1 r1 => ?_⟩
  exact ⟨_, _, rfl, lk, m1, C1, ds, d, C', d1, r1, e5, fun v m2 H2 s2 d2 r2 => k v m2 H2 (s1.trans s2) d2 r2⟩
/-! ### == by an own __eq__ -/
def evEqm (G : Gam) (lk : List Nat) (f : Nat) (ea eb : EvE) : EvE := fun ls C => (ea ls C).bind fun x => (eb ls x.2).bind fun y => match x.1, y.1 with
    | .loc l, .loc j => (R.of (asIns y.2 l)).bind fun p => (R.of (asIns y.2 j)).bind fun q => (R.of (G.cls p.1)).bind fun cl => (R.of (getN cl.meths f)).bind fun g =>
        if Nat.beq p.1 q.1 then (G.fn g lk [x.1, y.1] y.2).bind fun z => match z.1 with
          | .bl k => .ok (.bl k, z.2)
          | _ => .no
        else .no
    | _, _ => .no
/-- the rule of an own == -/
def tEqm (g : Stg) (G : Gam) (lk : List Nat) (f : Nat) : R2 := fun x y H Q => ∃ m C l j c fs gs cl gi k C', Held g lk m C H ∧ Rep H m (.loc l) x ∧ Rep H m (.loc j) y ∧ asIns C l = some (c, fs) ∧ asIns C j = some (c, gs) ∧ G.cls c = some cl ∧ getN cl.meths f = some gi ∧
  G.fn gi lk [.loc l, .loc j] C = .ok (.bl k, C') ∧ ∀ m' H', Step m H m' H' → Held g lk m' C' H' → Q (.bl k) H'
theorem op_eqm (W : Wd g G kk X) {f : Nat} (hx : g.fld[f]? = some ("__eq__" : Str)) : OpR X (compareOp .Eq) (tEqm g G lk f) := by
  have hr := W.room.mono (Nat.le_succ kk)
  rintro pins s σ H x y v u Q I rx ry ⟨m, C, l, j, c, fs, gs, cl, gi, k, C', hd, r1, r2, a1, a2, a3, a4, a5, q⟩
  obtain ⟨pa, hp, rfl⟩ := r1.loc_
  obtain ⟨pb, hq, rfl⟩ := r2.loc_
  cases rx
  cases ry
  obtain ⟨dx, fs', h1, _⟩ := hd.ins a1 hp
  obtain ⟨dy, gs', h2, _⟩ := hd.ins a2 hq
  have M := W.meth c cl f _ gi a3 hx a4 ⟨_, _, _, _, a5⟩
  obtain ⟨_, J, _⟩ := ins_get I.hok h1
  obtain ⟨_, J2, _⟩ := ins_get I.hok h2
  obtain ⟨_, J, _⟩ := J.look
  obtain ⟨_, J2, _⟩ := J2.look
  obtain ⟨_, hF⟩ := I.fr
  refine PySem.W.cmp_K (op := .Eq) (tb := .ref (g.cad c)) (by have := W.room.un; omega) hF I.ok.mod.kin J J2.type (by simp [PySem.W.notFirst]) M.at_ M.fn ?_
  refine wpAny_call (codeAny_mono (run_fnR (Q := fun v H' => v = .bl k ∧ ∃ m3, Step m H m3 H' ∧ Held g lk m3 C' H') (us := [.ref pa, .ref pb]) (vs := [.ref pa, .ref pb]) (W.fns gi) hr (pass0 (X := X)) I (.cons rfl (.cons rfl .nil))
    ⟨lk, m, C, [.loc l, .loc j], .bl k, C', hd, .cons (Rep.loc hp) (.cons (Rep.loc hq) .nil), a5, fun v m3 H3 s3 d3 r3 => ⟨r3.bl_, m3, s3, d3⟩⟩) fun z t hz => ?_)
  cases z with
  | error x => exact hz
  | ok fl =>
    cases fl with
    | ret w =>
      obtain ⟨v, H3, I3, rv, ev, m3, s3, d3⟩ := hz
      subst ev
      obtain rfl : w = Value.bool k := rv
      exact ⟨.bl k, H3, I3, rfl, q m3 H3 s3 d3⟩
    | next => exact hz.elim
    | brk => exact hz.elim
    | cont => exact hz.elim
theorem b_eqm (W : Wd g G kk X) {f : Nat} (hx : g.fld[f]? = some ("__eq__" : Str)) (hm : behindInMarks .Eq b = false) (ha : PB X g lk a ea) (hb : PB X g lk b eb) : PB X g lk (.Compare a [.Eq] [b] p) (evEqm G lk f ea eb) := by
  have main : ∀ σ H Q, tE g lk (evEqm G lk f ea eb) σ H Q → tOp (tEqm g G lk f) (tE g lk ea) (tE g lk eb) σ H Q := fun σ H Q q => by
    obtain ⟨m, C, ls, d, C', hd, sl, e0, k⟩ := q
    obtain ⟨⟨x, C1⟩, e1, e⟩ := R.bind_eq_ok e0
    obtain ⟨⟨y, C2⟩, e2, e⟩ := R.bind_eq_ok e
    refine ⟨m, C, ls, x, C1, hd, sl, e1, fun v m1 H1 s1 d1 r1 => ⟨m1, C1, ls, y, C2, d1, sl.step s1, e2, fun u m2 H2 s2 d2 r2 => ?_⟩⟩
    dsimp only at e
    split at e
    · obtain ⟨⟨c1, fs⟩, e3, n1⟩ := R.bind_eq_ok e
      obtain ⟨⟨c2, gs⟩, e4, n2⟩ := R.bind_eq_ok n1
      obtain ⟨cl, e5, n3⟩ := R.bind_eq_ok n2
      obtain ⟨gi, e6, n4⟩ := R.bind_eq_ok n3
      cases same : Nat.beq c1 c2 with
      | true =>
        rw [if_pos same] at n4
        obtain ⟨⟨z, C3⟩, e7, n5⟩ := R.bind_eq_ok n4
        have same : c1 = c2 := Nat.eq_of_beq_eq_true same
        subst same
        cases z with
        | bl k1 =>
          cases n5
          exact ⟨m2, C2, _, _, c1, fs, gs, cl, gi, _, _, d2, r1.step s2, r2, R.of_eq_ok e3, R.of_eq_ok e4, R.of_eq_ok e5, R.of_eq_ok e6, e7, fun m3 H3 s3 d3 => k _ m3 H3 ((s1.trans s2).trans s3) d3 Rep.bl⟩
        | _ => cases n5
      | false =>
        rw [if_neg (by rw [same]; decide)] at n4
        cases n4
    · cases e
  refine ⟨pe_mono (pe_cmpR (op_eqm W hx) ha.pe hb.pe hm) main, pt_mono (pt_cmpR (op_eqm W hx) ha.pe hb.pe hm) fun σ H Q q => main σ H _ ?_, fun _ _ _ z => nomatch z⟩
  obtain ⟨m, C, ls, k, C', hd, sl, e, k1⟩ := q
  obtain ⟨d, e1, e2⟩ := evT_inv e
  refine ⟨m, C, ls, d, C', hd, sl, e1, fun v m' H' st hd' r => ?_⟩
  have isb : ∃ c, d = .bl c := by
    obtain ⟨x, f1, f⟩ := R.bind_eq_ok e1
    obtain ⟨y, f2, f⟩ := R.bind_eq_ok f
    split at f
    · obtain ⟨_, _, f⟩ := R.bind_eq_ok f
      obtain ⟨_, _, f⟩ := R.bind_eq_ok f
      obtain ⟨_, _, f⟩ := R.bind_eq_ok f
      obtain ⟨_, _, f⟩ := R.bind_eq_ok f
      generalize Nat.beq _ _ = same at f
      cases same with
      | true =>
        obtain ⟨⟨z, _⟩, _, f⟩ := R.bind_eq_ok f
        cases z with
        | bl k1 =>
          cases f
          exact ⟨_, rfl⟩
        | _ => cases f
      | false => cases f
    · cases f
  obtain ⟨c, rfl⟩ := isb
  cases r.bl_
  cases (show some c = some k from e2)
  exact ⟨k, rfl, k1 m' H' st hd'⟩
end
end
end Q

set_option Elab.async false
set_option linter.all false
set_option maxRecDepth 100000
set_option maxHeartbeats 8000000
/-! sorted({e for p in a for q in b}), e an int. -/
namespace Q
noncomputable section
open PySem L2 PySem.Spec PyProof.Rows

/-- the comprehension's node -/
abbrev SC2 (elt t0 i0 t1 i1 : PySem.Expr) (scope : Scope) (pos : Pos) : PySem.Expr := .SetComp elt [⟨t0, i0, [], 0⟩, ⟨t1, i1, [], 0⟩] scope pos
theorem sc2_out (elt t0 i0 t1 i1 : PySem.Expr) (scope : Scope) (pos : Pos) (it acc : Value) (env : Env) : compTurn (SC2 elt t0 i0 t1 i1 scope pos) 0 it acc env = (do
    standAt i0.pos
    match ← pyNext it with
    | none => pure (.done .next)
    | some v =>
      letOwnedTupleGo t0 it v
      assign t0 env v
      let mut good := true
      for c in ([] : List PySem.Expr) do
        if good then good ← isTrue c env (eval c env)
      if good then
        let x ← eval i1 env
        standAt i1.pos
        let x ← foldedSetIterable i1 env x
        let _ ← runOwn (.compStart (SC2 elt t0 i0 t1 i1 scope pos) 1 (← holding [x] (pyIter x)) acc env) env
      again (.compLoop (SC2 elt t0 i0 t1 i1 scope pos) 0 it acc env)) := by rfl
theorem sc2_in (elt t0 i0 t1 i1 : PySem.Expr) (scope : Scope) (pos : Pos) (it acc : Value) (env : Env) : compTurn (SC2 elt t0 i0 t1 i1 scope pos) 1 it acc env = (do
    standAt i1.pos
    match ← pyNext it with
    | none => pure (.done .next)
    | some v =>
      letOwnedTupleGo t1 it v
      assign t1 env v
      let mut good := true
      for c in ([] : List PySem.Expr) do
        if good then good ← isTrue c env (eval c env)
      if good then
        (do let v ← eval elt env; standAt elt.pos; let _ ← call (.builtin "set.add") [acc, v])
      again (.compLoop (SC2 elt t0 i0 t1 i1 scope pos) 1 it acc env)) := by rfl
section
variable {prog : Program} {w : World} {A : Around} {R : Result → Shared → Prop} {s : Shared} {elt t0 i0 t1 i1 : PySem.Expr} {scope : Scope} {pos : Pos} {it acc : Value} {env : Env}
/-- what is wanted where an exception leaves the block -/
abbrev Nb (prog : Program) (w : World) (A : Around) (env : Env) (R : Result → Shared → Prop) : Value → Shared → Prop := notedBy (model prog w) A env fun e t => R (.error e) t
theorem sc2_first (plain : ∀ x, foldedSetIterable i1 env x = pure x) (I : Nat → Shared → Prop)
    (turn : ∀ n s, I n s → wpAny (model prog w) A (pyNext it) (fun r u => match r with
      | none => R (.ok .next) u
      | some v => wpAny (model prog w) A (letOwnedTupleGo t0 it v) (fun _ u1 => wpAny (model prog w) A (assign t0 env v) (fun _ u2 => wpAny (model prog w) A (eval i1 env) (fun x u3 => wpAny (model prog w) A (pyIter x) (fun j u4 =>
          codeAny (model prog w) A (.compStart (SC2 elt t0 i0 t1 i1 scope pos) 1 j acc env) (fun r t => match r with
            | .ok _ => ∃ m, m < n ∧ I m t
            | .error _ => False) u4) (Nb prog w A env R) u3) (Nb prog w A env R) u2) (Nb prog w A env R) u1) (Nb prog w A env R) u) (Nb prog w A env R) s)
    (n : Nat) (h : I n s) : codeAny (model prog w) A (.compLoop (SC2 elt t0 i0 t1 i1 scope pos) 0 it acc env) R s := by
  refine codeAny_loop rfl I (fun n s hI => ?_) n h
  show wpAny _ A ((compTurn (SC2 elt t0 i0 t1 i1 scope pos) 0 it acc env).onRaise (fun x => do noteFrame x env; theTreesLotGoes x)) _ _ s
  refine wpAny_noted ?_
  rw [sc2_out]
  refine wpAny_bind (wpAny_standAt (wpAny_bind (wpAny_mono (turn n s hI) (fun r u hu => ?_) fun _ _ z => z)))
  cases r with
  | none => exact wpAny_pure hu
  | some v =>
    refine wpAny_bind (wpAny_mono hu (fun _ u1 h1 => wpAny_bind (wpAny_mono h1 (fun _ u2 h2 => ?_) fun _ _ z => z)) fun _ _ z => z)
    dsimp only
    rw [List.forIn_nil]
    refine wpAny_bind (wpAny_pure ?_)
    rw [if_pos rfl]
    refine wpAny_bind (wpAny_mono h2 (fun x u3 h3 => ?_) fun _ _ z => z)
    refine wpAny_bind (wpAny_standAt (wpAny_bind (wpAny_of_eq (plain x) (wpAny_bind (wpAny_holding (wpAny_mono h3 (fun j u4 h4 => ?_) fun _ _ z => z))))))
    refine wpAny_bind (wpAny_runOwn ?_)
    rw [Around.mark_none]
    refine codeAny_mono h4 fun r t ht => ?_
    cases r with
    | ok f => first
      | exact wpAny_pure ⟨rfl, ht⟩
      | exact wpAny_bind (wpAny_pure (wpAny_pure ⟨rfl, ht⟩))
    | error e => exact ht.elim
theorem sc2_second (I : Nat → Shared → Prop)
    (turn : ∀ n s, I n s → wpAny (model prog w) A (pyNext it) (fun r u => match r with
      | none => R (.ok .next) u
      | some v => wpAny (model prog w) A (letOwnedTupleGo t1 it v) (fun _ u1 => wpAny (model prog w) A (assign t1 env v) (fun _ u2 => wpAny (model prog w) A (eval elt env) (fun x u3 =>
          wpAny (model prog w) A (call (.builtin "set.add") [acc, x]) (fun _ u4 => ∃ m, m < n ∧ I m u4) (Nb prog w A env R) u3) (Nb prog w A env R) u2) (Nb prog w A env R) u1) (Nb prog w A env R) u) (Nb prog w A env R) s)
    (n : Nat) (h : I n s) : codeAny (model prog w) A (.compLoop (SC2 elt t0 i0 t1 i1 scope pos) 1 it acc env) R s := by
  refine codeAny_loop rfl I (fun n s hI => ?_) n h
  show wpAny _ A ((compTurn (SC2 elt t0 i0 t1 i1 scope pos) 1 it acc env).onRaise (fun x => do noteFrame x env; theTreesLotGoes x)) _ _ s
  refine wpAny_noted ?_
  rw [sc2_in]
  refine wpAny_bind (wpAny_standAt (wpAny_bind (wpAny_mono (turn n s hI) (fun r u hu => ?_) fun _ _ z => z)))
  cases r with
  | none => exact wpAny_pure hu
  | some v =>
    refine wpAny_bind (wpAny_mono hu (fun _ u1 h1 => wpAny_bind (wpAny_mono h1 (fun _ u2 h2 => ?_) fun _ _ z => z)) fun _ _ z => z)
    dsimp only
    rw [List.forIn_nil]
    refine wpAny_bind (wpAny_pure ?_)
    rw [if_pos rfl]
    exact wpAny_bind (wpAny_bind (wpAny_mono h2 (fun x u3 h3 => wpAny_bind (wpAny_standAt (wpAny_bind (wpAny_mono h3 (fun _ u4 h4 => wpAny_pure (wpAny_pure ⟨rfl, h4⟩)) fun _ _ z => z)))) fun _ _ z => z))
theorem sc2_start (h0 : codeAny (model prog w) A (.compLoop (SC2 elt t0 i0 t1 i1 scope pos) 1 it acc env) R s)
    (h : wpAny (model prog w) A (pyIter it) (fun j t => codeAny (model prog w) A (.compLoop (SC2 elt t0 i0 t1 i1 scope pos) 1 j acc env) R t) (Nb prog w A env R) s) :
    codeAny (model prog w) A (.compStart (SC2 elt t0 i0 t1 i1 scope pos) 1 it acc env) R s := by
  refine codeAny_of_tree ?_
  show wpAny _ _ ((compStart (SC2 elt t0 i0 t1 i1 scope pos) 1 it acc env).onRaise (fun x => do noteFrame x env; standAt theWindowsPlace)) _ _ s
  refine wpAny_notedAt ?_
  unfold compStart
  show wpAny _ _ (ask >>= _) _ _ s
  refine wpAny_bind (wpAny_askSetting (wpAny_ite ?_))
  split
  · first
      | exact wpAny_bind (wpAny_pure (wpAny_pure (And.intro rfl h0)))
      | exact wpAny_pure (And.intro rfl h0)
  · first
      | exact wpAny_bind (wpAny_rule (wpAny_bind (wpAny_standAt (wpAny_bind (wpAny_mono h (fun j t ht => wpAny_pure (And.intro rfl ht)) fun _ _ z => z)))))
      | (refine wpAny_bind (wpAny_rule ?_); show wpAny _ _ (standAt i1.pos >>= _) _ _ s; exact wpAny_bind (wpAny_standAt (wpAny_bind (wpAny_mono h (fun j t ht => wpAny_pure (And.intro rfl ht)) fun _ _ z => z))))
end

section
variable {X : Cx}
/-- what is asked of {elt for t0 in i0 for t1 in i1}; D the new set, vs the block's names, vs1 the second target's -/
def tSs (w : World) (wi : TI) (g : TG) (wi1 : TI) (g1 : TG) (te : TE) (vs vs1 : List Nat) : TE := fun σ H Q => wi σ H fun J H1 => ∀ D, H1 D = none → ∃ W : Nat → Nat → L2.Hp → Prop, (∃ m, W 0 m (upd H1 D (SetO w D (fun _ => false) 0))) ∧ ∀ i m H, W i m H →
  (J.stop i H ∧ Q (.ref D) H) ∨ (J.go i H ∧ ∃ Nx : L2.Hp → Prop, (∀ H', Nx H' → ∃ m', m' < m ∧ W (i + 1) m' H') ∧ ∀ x H', J.yld i H x H' → g x (L2.wipe σ vs) H' fun σ2 H2 => L2.wipe σ2 vs = L2.wipe σ vs ∧
    wi1 σ2 H2 fun J1 H3 => ∃ W1 : Nat → Nat → L2.Hp → Prop, (∃ m, W1 0 m H3) ∧ ∀ j k H, W1 j k H →
      (J1.stop j H ∧ Nx H) ∨ (J1.go j H ∧ ∃ Nx1 : L2.Hp → Prop, (∀ H', Nx1 H' → ∃ k', k' < k ∧ W1 (j + 1) k' H') ∧ ∀ x H', J1.yld j H x H' → g1 x (L2.wipe σ2 vs1) H' fun σ3 H4 => L2.wipe σ3 vs1 = L2.wipe σ2 vs1 ∧
        te σ3 H4 fun y H5 => ∃ (c : Int) (S : Int → Bool) (n : Nat), y = .int c ∧ H5 D = some (SetO w D S n) ∧ n + 1 < scanBound ∧ Nx1 (upd H5 D (SetO w D (fun j => S j || decide (j = c)) (if S c = true then n else n + 1)))))
theorem ss_core {pins : List (Addr × Obj)} {s : Shared} {σ : L2.St} {H : L2.Hp} {Q : VK} {elt t0 i0 t1 i1 : PySem.Expr} {scope : Scope} {own : List (Str × Nat)} {vs1 : List Nat} {pos pos' : Pos} {wi wi1 : TI} {g g1 : TG} {te : TE} {use : Option (Value → Sem Unit)} {Qf : Value → Shared → Prop}
    (calm : X.calm = true) (nd : X.N.Nodup) (I : Inv X pins σ H s) (hi : PI X t0 i0 wi) (ok : BlkOk X.N X.env.scope scope own) (hv : ∀ i ∈ vs1, i ∈ own.map (·.2))
    (hg : ∀ s H C cl fp, PG (Bk X scope s H C cl fp) t0 g) (he : ∀ s H C cl fp, PE (Bk X scope s H C cl fp) elt te) (fold : ∀ x, foldedSetIterable i0 X.env x = pure x)
    (hi1 : ∀ s H C cl fp, PI (Bk X scope s H C cl fp) t1 i1 wi1) (hg1 : ∀ s H C cl fp, PG (Bk X scope s H C cl fp) t1 g1) (fold1 : ∀ env x, foldedSetIterable i1 env x = pure x)
    (h : tSs X.w wi g wi1 g1 te (own.map (·.2)) vs1 σ H Q)
    (back : ∀ D C t m H', Inv X pins σ H' t → Q (.ref D) H' → t.heap.Ns C m → FpOk X pins H' C → compPost (model X.prog X.w) X.A X.xe use Qf (.ref D) C (.ok .next) t) :
    wpAny (model X.prog X.w) X.A (comprehension (SC2 elt t0 i0 t1 i1 scope pos) scope X.env pos' (newSet (.type "set")) false (eval i0 X.env) use) Qf X.xe s := by
  have frees : ∀ y ∈ scope.names, y.2 = .free → ∃ c, X.env.cells.lookup y.1 = some c := fun y hy e => (ok.free y hy e).elim (fun k => I.ok.has _ (.inl k)) fun k => I.ok.has _ (.inr k)
  refine wpAny_comprehension_free (use := use) rfl fold (closure_ok frees) ok.kind (fun y hy e => by rw [ok.uniq y hy, e]) (thn (hi.run pins s σ H _ I h) fun xv sa hx => thn hx fun itv sb hb => ?_)
  obtain ⟨it, fp, tn, J, Ha, e, Ia, T, sta, fpa, q⟩ := hb
  subst e
  refine PpSet.newSet_ok (newEnv_comp ?_)
  generalize hD : sb.heap.objs.size = D
  have freshD : Ha D = none := Ia.hok.fresh (Nat.le_of_eq hD)
  obtain ⟨W, ⟨mm, ww⟩, turn⟩ := q D freshD
  generalize hN0 : ({ cls := .type "set", dict := none, data := .set #[] 0 (.fresh 0 0 (!X.w.params.followText "set-order")) } : Obj) = newO
  generalize hsc : ({ sb with heap := sb.heap.push newO } : Shared) = sc
  have heapc : sc.heap = sb.heap.push newO := by rw [← hsc]
  have Ic : Inv X pins σ (upd Ha D (SetO X.w D (fun _ => false) 0)) sc := by
    rw [← hsc]
    refine Ia.laid (t' := sb.toks) (fun b o z => Heap.get?_push_of_some _ z) (Nat.le_of_eq hD) ?_
    rw [← hD, ← hN0]
    exact setO_new (setR_fresh X.w)
  have fpc : ∀ b ∈ fp, FpOk X pins (upd Ha D (SetO X.w D (fun _ => false) 0)) b ∧ b < sc.heap.objs.size := fun b hb => by
    have lt : b < sb.heap.objs.size := let ⟨_, z, _⟩ := T.obj _ _ sta b hb; Heap.lt_size z
    refine ⟨⟨?_, (fpa b hb).2⟩, by rw [heapc, Heap.size_push]; exact Nat.lt_succ_of_lt lt⟩
    rw [upd_ne (by rw [← hD]; exact Nat.ne_of_lt lt)]
    exact (fpa b hb).1
  have stc : tn 0 sc.heap := T.keep _ _ _ sta fun b _ o z => by rw [heapc]; exact Heap.get?_push_of_some _ z
  have Id := block_start Ic ok nd fpc
  have pg := hg sc (upd Ha D (SetO X.w D (fun _ => false) 0)) sc.heap.objs.size (cellsFrom (sc.heap.objs.size + 1) scope.names (cloFrom X.env.cells scope.names [])) fp
  have pe := he sc (upd Ha D (SetO X.w D (fun _ => false) 0)) sc.heap.objs.size (cellsFrom (sc.heap.objs.size + 1) scope.names (cloFrom X.env.cells scope.names [])) fp
  have pi1 := hi1 sc (upd Ha D (SetO X.w D (fun _ => false) 0)) sc.heap.objs.size (cellsFrom (sc.heap.objs.size + 1) scope.names (cloFrom X.env.cells scope.names [])) fp
  have pg1 := hg1 sc (upd Ha D (SetO X.w D (fun _ => false) 0)) sc.heap.objs.size (cellsFrom (sc.heap.objs.size + 1) scope.names (cloFrom X.env.cells scope.names [])) fp
  show codeAny _ _ (.compStart (SC2 elt t0 i0 t1 i1 scope pos) 0 (.ref it) (.ref D) (compEnvC scope (cellsFrom (sc.heap.objs.size + 1) scope.names (cloFrom X.env.cells scope.names [])) sc.heap.objs.size X.env))
    (compPost (model X.prog X.w) X.A X.xe use Qf (.ref D) sc.heap.objs.size) { sc with heap := pushCells (sc.heap.push { cls := .type "dict", data := .dict #[] }) scope.names }
  unfold Bk at pg pe pi1 pg1
  have none0 : ∀ b ∈ fp, (upd Ha D (SetO X.w D (fun _ => false) 0)) b = none := fun b hb => (fpc b hb).1.1
  generalize hen : compEnvC scope (cellsFrom (sc.heap.objs.size + 1) scope.names (cloFrom X.env.cells scope.names [])) sc.heap.objs.size X.env = en at Id pg pe pi1 pg1 ⊢
  have enL : en.locals = sc.heap.objs.size := by subst hen; rfl
  generalize hHc : upd Ha D (SetO X.w D (fun _ => false) 0) = Hc at Ic Id pg pe pi1 pg1 ww none0 fpc
  generalize hsd : ({ sc with heap := pushCells (sc.heap.push { cls := .type "dict", data := .dict #[] }) scope.names } : Shared) = sd at Id ⊢
  have std : tn 0 sd.heap := T.keep _ _ _ stc fun b _ o z => by rw [← hsd]; exact pushCells_keeps _ _ _ _ (Heap.get?_push_of_some _ z)
  have stat : ∀ {σ' : L2.St} {H' : L2.Hp} {t : Shared}, Inv (X.blk sc Hc scope en fp) [] σ' H' t → (∀ b ∈ fp, H' b = none) → ∀ b ∈ fp, FpOk (X.blk sc Hc scope en fp) [] H' b := fun {σ' H' t} J' hn b hb =>
    ⟨hn b hb, (J'.ok.exf b hb).1, J'.ok.exfs b hb, .inl hb, fun x c z => (J'.ok.exf b hb).2 x c z, fun p hp => absurd (show p ∈ ([] : List (Addr × Obj)) ++ [] from hp) (by simp)⟩
  let vs := own.map (·.2)
  have loop : codeAny (model X.prog X.w) X.A (.compLoop (SC2 elt t0 i0 t1 i1 scope pos) 0 (.ref it) (.ref D) en) (compPost (model X.prog X.w) X.A X.xe use Qf (.ref D) sc.heap.objs.size) sd := by
    refine sc2_first (fold1 en) (fun n t => ∃ i H', Inv (X.blk sc Hc scope en fp) [] (L2.wipe σ vs) H' t ∧ tn i t.heap ∧ (∀ b ∈ fp, H' b = none) ∧ W i n H') ?_ mm ⟨0, Hc, Id, std, none0, ww⟩
    rintro n s5 ⟨i, H5, I5, st5, n5, w5⟩
    rcases turn i n H5 w5 with ⟨stop, qq⟩ | ⟨go, Nx, hNx, step⟩
    · refine thnF (T.done (X.blk sc Hc scope en fp) rfl rfl rfl calm i [] s5 _ H5 (fun _ _ => False) I5 (stat I5 n5) st5 stop) fun r s6 ⟨hr, I6⟩ => ?_
      subst hr
      have I7 : Inv X pins σ H5 s6 := Ic.call' (ch := fp) I6.os I6.base I6.hok I6.bare fun b hb => let z := (fpc b hb).1; ⟨z.2.2.2.1, z.2.1, z.2.2.2.2.1, z.2.2.2.2.2⟩
      have nC : H5 sc.heap.objs.size = none := by
        have z : H5 en.locals = none := I6.free
        rw [enL] at z
        exact z
      obtain ⟨m, hn, _⟩ := I6.loc
      have hn : s6.heap.Ns en.locals m := hn
      rw [enL] at hn
      exact back D sc.heap.objs.size s6 m H5 I7 qq hn (Ic.fpOk (Nat.le_refl _) nC)
    · refine thnF (T.item (X.blk sc Hc scope en fp) rfl rfl rfl calm i [] s5 _ H5 (fun _ _ => False) I5 (stat I5 n5) st5 go) fun r s6 ⟨u, hr, h6⟩ => ?_
      subst hr
      refine thnF h6 fun _ s7 ⟨x, H7, I7, r7, y7, st7, n7⟩ => ?_
      have I7' := I7.pinned (stat I7 n7) (T.obj _ _ st7)
      refine thnF (pg.run _ s7 _ H7 x u _ I7' r7 (step x H7 y7)) fun _ s8 ⟨σ8, H8, I8, hw8, q8⟩ => ?_
      -- a turn's end: the block's slots are what they were
      have fin : ∀ {t : Shared} {H' : L2.Hp}, Inv (X.blk sc Hc scope en fp) ([] ++ pinsAt fp s7.heap) (L2.wipe σ8 vs1) H' t → Nx H' →
          ∃ m, m < n ∧ ∃ i H', Inv (X.blk sc Hc scope en fp) [] (L2.wipe σ vs) H' t ∧ tn i t.heap ∧ (∀ b ∈ fp, H' b = none) ∧ W i m H' := fun {t H'} J' nx => by
        obtain ⟨m', hm, w'⟩ := hNx H' nx
        have pin : ∀ b ∈ fp, ∀ o, s7.heap.get? b = some o → t.heap.get? b = some o ∧ H' b = none := fun b hb o z =>
          let y := J'.pin (b, o) (List.mem_append_right _ (List.mem_append_right _ (mem_pinsAt hb z)))
          ⟨y.1, y.2.1⟩
        refine ⟨m', hm, i + 1, H', (J'.unpinned (pins := [])).weak ?_ (fun j v z => ?_), T.keep _ _ _ st7 fun b hb o z => (pin b hb o z).1, fun b hb => ?_, w'⟩
        · rw [show L2.wipe σ vs = L2.wipe σ8 vs from hw8.symm]
          exact (wipe_length σ8 vs).trans (wipe_length σ8 vs1).symm
        · rw [← hw8] at z
          obtain ⟨z1, z2⟩ := wipe_some z
          rw [wipe_out fun y => z2 (hv j y)]
          exact z1
        · obtain ⟨o, z, _⟩ := T.obj _ _ st7 b hb
          exact (pin b hb o z).2
      refine thnF (pi1.run _ s8 σ8 H8 _ I8 q8) fun xv s10 hx => thnF hx fun itv s11 h11 => ?_
      obtain ⟨it1, fp1, tn1, J1, H11, e1, I11, T1, st11, f11, W1, ⟨m1, w1⟩, turn1⟩ := h11
      subst e1
      have stat1 : ∀ {H' : L2.Hp}, (∀ b ∈ fp1, H' b = none) → ∀ b ∈ fp1, FpOk (X.blk sc Hc scope en fp) ([] ++ pinsAt fp s7.heap) H' b := fun hn b hb => ⟨hn b hb, (f11 b hb).2⟩
      have inner : codeAny (model X.prog X.w) X.A (.compLoop (SC2 elt t0 i0 t1 i1 scope pos) 1 (.ref it1) (.ref D) en) (fun r t => match r with
          | .ok _ => ∃ m, m < n ∧ ∃ i H', Inv (X.blk sc Hc scope en fp) [] (L2.wipe σ vs) H' t ∧ tn i t.heap ∧ (∀ b ∈ fp, H' b = none) ∧ W i m H'
          | .error _ => False) s11 := by
        refine sc2_second (fun k t => ∃ j H', Inv (X.blk sc Hc scope en fp) ([] ++ pinsAt fp s7.heap) (L2.wipe σ8 vs1) H' t ∧ tn1 j t.heap ∧ (∀ b ∈ fp1, H' b = none) ∧ W1 j k H') ?_ m1
          ⟨0, H11, I11.weak (wipe_length _ _) (fun j v z => (wipe_some z).1), st11, fun b hb => (f11 b hb).1, w1⟩
        rintro k s12 ⟨j, H12, I12, st12, n12, w12⟩
        rcases turn1 j k H12 w12 with ⟨stop1, nx1⟩ | ⟨go1, Nx1, hNx1, step1⟩
        · refine thnF (T1.done (X.blk sc Hc scope en fp) rfl rfl rfl calm j _ s12 (L2.wipe σ8 vs1) H12 (fun _ _ => False) I12 (stat1 n12) st12 stop1) fun r s13 ⟨hr, I13⟩ => ?_
          subst hr
          exact fin I13 nx1
        · refine thnF (T1.item (X.blk sc Hc scope en fp) rfl rfl rfl calm j _ s12 (L2.wipe σ8 vs1) H12 (fun _ _ => False) I12 (stat1 n12) st12 go1) fun r s13 ⟨u1, hr, h13⟩ => ?_
          subst hr
          refine thnF h13 fun _ s14 ⟨x1, H14, I14, r14, y14, st14, n14⟩ => ?_
          have I14' := I14.pinned (stat1 n14) (T1.obj _ _ st14)
          refine thnF (pg1.run _ s14 (L2.wipe σ8 vs1) H14 x1 u1 _ I14' r14 (step1 x1 H14 y14)) fun _ s15 ⟨σ15, H15, I15, hw15, q15⟩ => ?_
          refine thnF (pe.run _ s15 σ15 H15 _ I15 q15) fun z s17 ⟨yv, H17, I17, r17, cc, S, cn, ey, hD17, hz17, nx⟩ => ?_
          subst ey
          refine thnF (mt_sadd (X := X.blk sc Hc scope en fp) _ s17 σ15 H17 (.ref D) [.int cc] (.ref D) [z] (fun _ H' => Nx1 H') I17 rfl (.cons r17 .nil) ⟨D, cc, S, cn, rfl, rfl, hD17, hz17, nx⟩) fun _ s18 ⟨_, H18, I18, _, nx18⟩ => ?_
          obtain ⟨m', hm, w'⟩ := hNx1 H18 nx18
          have pin : ∀ b ∈ fp1, ∀ o, s14.heap.get? b = some o → s18.heap.get? b = some o ∧ H18 b = none := fun b hb o z =>
            let y := I18.pin (b, o) (List.mem_append_right _ (List.mem_append_right _ (mem_pinsAt hb z)))
            ⟨y.1, y.2.1⟩
          refine ⟨m', hm, j + 1, H18, I18.unpinned.weak (by rw [← hw15, wipe_length]) (fun j v z => by rw [← hw15] at z; exact (wipe_some z).1), T1.keep _ _ _ st14 fun b hb o z => (pin b hb o z).1, fun b hb => ?_, w'⟩
          obtain ⟨o, z, _⟩ := T1.obj _ _ st14 b hb
          exact (pin b hb o z).2
      exact sc2_start inner (T1.self X.A 0 _ _ _ st11 inner)
  exact PpSet.codeAny_compStart_set loop (T.self X.A 0 _ _ _ std loop)
end

/-! ### our reckoning of it -/
theorem Slt.upw {H H' : L2.Hp} {m m' : List Addr} {ls : Sl} {σ : L2.St} (h : Slt H m ls σ) (s : Up m H m' H') : Slt H' m' ls σ := ⟨h.1, fun i d e => let ⟨v, e', r⟩ := h.2 i d e; ⟨v, e', r.upw s⟩⟩
section
variable {g : Stg} {lk : List Nat} {m m2 : List Addr} {C : Hq} {H H2 : L2.Hp} {D : Addr} {o : HO}
/-- a place that was not there at the start may change -/
theorem step_at (s : Step m H m2 H2) (n : H D = none) (out : D ∉ m2) : Step m H m2 (upd H2 D o) := by
  have ne : ∀ {a : Addr} {u : HO}, H a = some u → a ≠ D := fun {a u} e z => by rw [z, n] at e; cases e
  exact ⟨s.pre, fun a vs e => by rw [upd_ne (ne e)]; exact s.tup a vs e, fun a u e h => by rw [upd_ne (ne e)]; exact s.off a u e h, s.new, fun a q u e => by rw [upd_ne (ne e)]; exact s.frz a q u e⟩
theorem upf_at {f : Heap → Prop} {m0 : List Addr} {H0 : L2.Hp} (s : Upf m0 H0 m2 H2) (n : H0 D = some (.ext f)) : Upf m0 H0 m2 (upd H2 D o) :=
  ⟨s.pre, fun a vs e => by rw [upd_ne (fun z : a = D => by rw [z, n] at e; cases e)]; exact s.tup a vs e, fun a q u e => by rw [upd_ne (fun z : a = D => by rw [z, n] at e; cases e)]; exact s.frz a q u e⟩
theorem held_at {f : Heap → Prop} (h : Held g lk m C H) (n : H D = some (.ext f)) (out : D ∉ m) : Held g lk m C (upd H D o) := by
  have up : Up m H m (upd H D o) := (upf_at (Upf.refl m H) n).up
  refine ⟨h.len, h.nd, fun l a hl => ?_, h.non, h.lko⟩
  obtain ⟨c, u, h1, h2, h3⟩ := h.obj l a hl
  exact ⟨c, u, h1, by rw [upd_ne (fun z : a = D => out (z ▸ List.mem_of_getElem? hl))]; exact h2, h3.upw up⟩
end
/-- the set at D is acc -/
def SetIs (w : World) (D : Addr) (acc : List Int) (m : List Addr) (H : L2.Hp) : Prop := D ∉ m ∧ acc.length ≤ 60 ∧ ∃ S, H D = some (SetO w D S acc.length) ∧ ∀ k, S k = true ↔ k ∈ acc
theorem SetIs.step {w : World} {D : Addr} {acc : List Int} {m m' : List Addr} {H H' : L2.Hp} (h : SetIs w D acc m H) (s : Step m H m' H') : SetIs w D acc m' H' := by
  obtain ⟨h1, h2, S, h3, h4⟩ := h
  refine ⟨fun z => ?_, h2, S, s.off D _ h3 h1, h4⟩
  rcases s.new D z with q | q
  · exact h1 q
  · rw [h3] at q
    cases q
theorem addI_is {S : Int → Bool} {acc : List Int} {c : Int} (h : ∀ k, S k = true ↔ k ∈ acc) : (if S c = true then acc.length else acc.length + 1) = (addI acc c).length ∧ ∀ k, (S k || decide (k = c)) = true ↔ k ∈ addI acc c := by
  have e : acc.any (fun j => eqI j c) = S c := by
    cases z : S c with
    | true => exact List.any_eq_true.mpr ⟨c, (h c).mp z, by rw [eqI_iff]; simp⟩
    | false =>
      rw [List.any_eq_false]
      intro j hj q
      rw [eqI_iff, decide_eq_true_eq] at q
      subst q
      rw [(h j).mpr hj] at z
      cases z
  unfold addI
  rw [e]
  cases z : S c with
  | true =>
    refine ⟨rfl, fun k => ?_⟩
    rw [if_pos rfl, Bool.or_eq_true, decide_eq_true_eq, h]
    exact ⟨fun q => q.elim id fun q => q ▸ (h c).mp z, .inl⟩
  | false =>
    refine ⟨by simp, fun k => ?_⟩
    rw [if_neg (by decide), Bool.or_eq_true, decide_eq_true_eq, h]
    simp
section
variable {g : Stg} {fuel : Nat} {p p2 : P} {ei2 : List Nat → Sl → Hq → R (Iter × Hq)} {ee : List Nat → EvE} {w : World}
def inS (p2 : P) (ee : List Nat → EvE) (lk2 : List Nat) (ls' : Sl) : D → Hq × List Int → R (Hq × List Int) := fun x2 s2 => (R.of (putP p2 x2 s2.1 (wipe ls' p2.slots))).bind fun ls2 =>
          (ee lk2 ls2 s2.1).bind fun y => (R.of (asInt y.1)).bind fun i => if decide (s2.2.length < 60) then .ok (y.2, addI s2.2 i) else .no
def outS (fuel : Nat) (vs : List Nat) (p p2 : P) (ei2 : List Nat → Sl → Hq → R (Iter × Hq)) (ee : List Nat → EvE) (ls : Sl) : D → List Nat × Hq × List Int → R (List Nat × Hq × List Int) := fun x s => (R.of (putP p x s.2.1 (wipe ls vs))).bind fun ls' => (ei2 s.1 ls' s.2.1).bind fun J2 =>
        (loopC (fun i s => J2.1.next i s.1) (inS p2 ee (J2.1.lock s.1) ls') fuel 0 (J2.2, s.2.2)).bind fun s' => .ok (J2.1.lock s.1, s')
theorem in_body {J : Iter} {JJ : It} {σ : L2.St} {lk1 : List Nat} {mb m0 : List Addr} {Hb H0 : L2.Hp} {C0 Cf : Hq} {acc0 accf : List Int} {ls : Sl} {D : Addr} {Qd : L2.Hp → Prop} (hb : Hb D = none) (sb : Step mb Hb m0 H0) (d0 : Held g lk1 m0 C0 H0) (sl : Slt H0 m0 ls σ) (s0 : SetIs w D acc0 m0 H0)
    (imp : ∀ i m C H, Upf m0 H0 m H → Held g lk1 m C H → (∀ x, J.next i C = some (some x) → JJ.go i H ∧ ∀ v H', JJ.yld i H v H' → Step m H m H' ∧ Held g lk1 m C H' ∧ Rep H' m x v) ∧ (J.next i C = some none → JJ.stop i H))
    (e : loopC (fun i s => J.next i s.1) (inS p2 ee lk1 ls) fuel 0 (C0, acc0) = .ok (Cf, accf)) (k : ∀ m H, Step mb Hb m H → Held g lk1 m Cf H → SetIs w D accf m H → Qd H) :
    ∃ W : Nat → Nat → L2.Hp → Prop, (∃ m, W 0 m H0) ∧ ∀ i m H, W i m H →
      (JJ.stop i H ∧ Qd H) ∨ (JJ.go i H ∧ ∃ Nx : L2.Hp → Prop, (∀ H', Nx H' → ∃ m', m' < m ∧ W (i + 1) m' H') ∧ ∀ x H', JJ.yld i H x H' → (fun v σ H Q => ∃ lk, tPg g lk p2 v σ H Q : TG) x (L2.wipe σ p2.slots) H' fun σ2 H2 => L2.wipe σ2 p2.slots = L2.wipe σ p2.slots ∧
        (fun σ H Q => ∃ lk, tE g lk (ee lk) σ H Q : TE) σ2 H2 fun y H3 => ∃ (c : Int) (S : Int → Bool) (n : Nat), y = .int c ∧ H3 D = some (SetO w D S n) ∧ n + 1 < scanBound ∧ Nx (upd H3 D (SetO w D (fun j => S j || decide (j = c)) (if S c = true then n else n + 1)))) := by
  refine ⟨fun i n H => ∃ m2 C2 acc, Step mb Hb m2 H ∧ Upf m0 H0 m2 H ∧ Held g lk1 m2 C2 H ∧ SetIs w D acc m2 H ∧ loopC (fun i s => J.next i s.1) (inS p2 ee lk1 ls) n i (C2, acc) = .ok (Cf, accf), ⟨fuel, m0, C0, acc0, sb, Upf.refl _ _, d0, s0, e⟩, ?_⟩
  rintro i n H ⟨m2, C2, acc, b2, u2, d2, t2, e3⟩
  cases n with
  | zero => cases e3
  | succ n =>
    rw [loopC_succ] at e3
    obtain ⟨o, f1, f2⟩ := R.bind_eq_ok e3
    have f1 := R.of_eq_ok f1
    obtain ⟨i1, i2⟩ := imp i m2 C2 H u2 d2
    cases o with
    | none =>
      cases f2
      exact .inl ⟨i2 f1, k m2 H b2 d2 t2⟩
    | some x =>
      obtain ⟨g1, g2⟩ := i1 x f1
      refine .inr ⟨g1, fun H' => ∃ m2 C2 acc, Step mb Hb m2 H' ∧ Upf m0 H0 m2 H' ∧ Held g lk1 m2 C2 H' ∧ SetIs w D acc m2 H' ∧ loopC (fun i s => J.next i s.1) (inS p2 ee lk1 ls) n (i + 1) (C2, acc) = .ok (Cf, accf), fun H' z => ⟨n, Nat.lt_succ_self n, z⟩, fun v H3 y => ?_⟩
      obtain ⟨s3, d3, r3⟩ := g2 v H3 y
      obtain ⟨⟨C4, acc4⟩, e4, e5⟩ := R.bind_eq_ok f2
      obtain ⟨ls5, e6, e7⟩ := R.bind_eq_ok e4
      obtain ⟨⟨y6, C6⟩, e8, e9⟩ := R.bind_eq_ok e7
      obtain ⟨c, ea, eb⟩ := R.bind_eq_ok e9
      split at eb
      · rename_i few
        cases eb
        have few : acc.length < 60 := by simpa using few
        refine ⟨lk1, m2, C2, _, x, ls5, d3, (sl.upw (u2.trans s3.upf).up).wipe p2.slots, r3, R.of_eq_ok e6, fun σ4 o4 sl4 => ⟨by rw [o4.wipe fun _ z => z, wipe_wipe], ?_⟩⟩
        refine ⟨lk1, m2, C2, ls5, y6, C6, d3, sl4, e8, fun v7 m7 H7 s7 d7 r7 => ?_⟩
        have t7 := (t2.step s3).step s7
        obtain ⟨q1, q2, S, q3, q4⟩ := id t7
        obtain ⟨a1, a2⟩ := addI_is (c := c) q4
        refine ⟨c, S, acc.length, asInt_is r7 (R.of_eq_ok ea), q3, by unfold scanBound; omega, m7, C6, addI acc c, step_at ((b2.trans s3).trans s7) hb q1, ?_, held_at d7 q3 q1, ⟨q1, ?_, _, ?_, a2⟩, e5⟩
        · obtain ⟨_, _, S0, z0, _⟩ := s0
          exact upf_at ((u2.trans s3.upf).trans s7.upf) z0
        · rw [← a1]
          split <;> omega
        · rw [upd_same, a1]
      · cases eb
theorem out_body {J : Iter} {JJ : It} {σ : L2.St} {lk1 lkf : List Nat} {m1 : List Addr} {H1 : L2.Hp} {C1 Cf : Hq} {accf : List Int} {ls : Sl} {D : Addr} {Qd : L2.Hp → Prop} {vs : List Nat} (hs : ∀ i ∈ p.slots, i ∈ vs) (d1 : Held g lk1 m1 C1 H1) (sl : Slt H1 m1 ls σ) (hD : H1 D = none)
    (imp : ∀ i m C H lk2, Upf m1 H1 m H → Held g lk2 m C H → (∀ x, J.next i C = some (some x) → JJ.go i H ∧ ∀ v H', JJ.yld i H v H' → Step m H m H' ∧ Held g lk2 m C H' ∧ Rep H' m x v) ∧ (J.next i C = some none → JJ.stop i H))
    (e : loopC (fun i s => J.next i s.2.1) (outS fuel vs p p2 ei2 ee ls) fuel 0 (lk1, C1, []) = .ok (lkf, Cf, accf)) (k : ∀ m H, Step m1 H1 m H → Ext lk1 lkf → Held g lkf m Cf H → SetIs w D accf m H → Qd H) :
    ∃ W : Nat → Nat → L2.Hp → Prop, (∃ m, W 0 m (upd H1 D (SetO w D (fun _ => false) 0))) ∧ ∀ i m H, W i m H →
      (JJ.stop i H ∧ Qd H) ∨ (JJ.go i H ∧ ∃ Nx : L2.Hp → Prop, (∀ H', Nx H' → ∃ m', m' < m ∧ W (i + 1) m' H') ∧ ∀ x H', JJ.yld i H x H' → (fun v σ H Q => ∃ lk, tPg g lk p v σ H Q : TG) x (L2.wipe σ vs) H' fun σ2 H2 => L2.wipe σ2 vs = L2.wipe σ vs ∧
        (fun σ H R => ∃ lk, tIt g lk (ei2 lk) σ H R : TI) σ2 H2 fun J1 H3 => ∃ W1 : Nat → Nat → L2.Hp → Prop, (∃ m, W1 0 m H3) ∧ ∀ j k H, W1 j k H →
          (J1.stop j H ∧ Nx H) ∨ (J1.go j H ∧ ∃ Nx1 : L2.Hp → Prop, (∀ H', Nx1 H' → ∃ k', k' < k ∧ W1 (j + 1) k' H') ∧ ∀ x H', J1.yld j H x H' → (fun v σ H Q => ∃ lk, tPg g lk p2 v σ H Q : TG) x (L2.wipe σ2 p2.slots) H' fun σ3 H4 => L2.wipe σ3 p2.slots = L2.wipe σ2 p2.slots ∧
            (fun σ H Q => ∃ lk, tE g lk (ee lk) σ H Q : TE) σ3 H4 fun y H5 => ∃ (c : Int) (S : Int → Bool) (n : Nat), y = .int c ∧ H5 D = some (SetO w D S n) ∧ n + 1 < scanBound ∧ Nx1 (upd H5 D (SetO w D (fun j => S j || decide (j = c)) (if S c = true then n else n + 1))))) := by
  have outD : D ∉ m1 := fun z => d1.is z hD
  have sD := step_new (o := SetO w D (fun _ => false) 0) d1 hD
  refine ⟨fun i n H => ∃ m2 C2 lk2 acc, Step m1 H1 m2 H ∧ Ext lk1 lk2 ∧ Held g lk2 m2 C2 H ∧ SetIs w D acc m2 H ∧ loopC (fun i s => J.next i s.2.1) (outS fuel vs p p2 ei2 ee ls) n i (lk2, C2, acc) = .ok (lkf, Cf, accf),
    ⟨fuel, m1, C1, lk1, [], sD, .refl, d1.new hD, ⟨outD, Nat.zero_le _, _, upd_same, fun k => by simp⟩, e⟩, ?_⟩
  rintro i n H ⟨m2, C2, lk2, acc, s2, x2, d2, t2, e3⟩
  cases n with
  | zero => cases e3
  | succ n =>
    rw [loopC_succ] at e3
    obtain ⟨o, f1, f2⟩ := R.bind_eq_ok e3
    have f1 := R.of_eq_ok f1
    obtain ⟨i1, i2⟩ := imp i m2 C2 H lk2 s2.upf d2
    cases o with
    | none =>
      cases f2
      exact .inl ⟨i2 f1, k m2 H s2 x2 d2 t2⟩
    | some x =>
      obtain ⟨g1, g2⟩ := i1 x f1
      refine .inr ⟨g1, fun H' => ∃ m2 C2 lk2 acc, Step m1 H1 m2 H' ∧ Ext lk1 lk2 ∧ Held g lk2 m2 C2 H' ∧ SetIs w D acc m2 H' ∧ loopC (fun i s => J.next i s.2.1) (outS fuel vs p p2 ei2 ee ls) n (i + 1) (lk2, C2, acc) = .ok (lkf, Cf, accf), fun H' z => ⟨n, Nat.lt_succ_self n, z⟩, fun v H3 y => ?_⟩
      obtain ⟨s3, d3, r3⟩ := g2 v H3 y
      obtain ⟨⟨lk4, C4, acc4⟩, e4, e5⟩ := R.bind_eq_ok f2
      obtain ⟨ls5, e6, e7⟩ := R.bind_eq_ok e4
      obtain ⟨⟨J2, C6⟩, e8, e9⟩ := R.bind_eq_ok e7
      obtain ⟨⟨C7, acc7⟩, ea, eb⟩ := R.bind_eq_ok e9
      cases eb
      refine ⟨lk2, m2, C2, _, x, ls5, d3, (sl.step (s2.trans s3)).wipe vs, r3, R.of_eq_ok e6, fun σ4 o4 sl4 => ⟨by rw [o4.wipe hs, wipe_wipe], ?_⟩⟩
      show (∃ lk, tIt g lk (ei2 lk) σ4 H3 _)
      refine ⟨lk2, m2, C2, ls5, J2, C6, d3, sl4, e8, fun JJ2 m7 H7 s7 d7 imp2 => ?_⟩
      have st7 := (s2.trans s3).trans s7
      exact in_body (w := w) hD st7 d7 (sl4.step s7) ((t2.step s3).step s7) (fun i m C H st hd => imp2 i m C H _ st hd) ea fun m8 H8 s8 d8 t8 => ⟨m8, _, J2.lock lk2, _, s8, x2.trans (lock_ext J2 lk2), d8, t8, e5⟩
end

/-! ### sorted -/
theorem rises_is : ∀ {l : List Int}, rises l = true → l.Pairwise (· < ·)
  | [], _ => .nil
  | [a], _ => by simp
  | a :: b :: r, h => by
    unfold rises at h
    rw [Bool.and_eq_true] at h
    have h1 : a < b := of_decide_eq_true h.1
    have ih := rises_is h.2
    refine List.pairwise_cons.mpr ⟨fun x hx => ?_, ih⟩
    rcases List.mem_cons.mp hx with rfl | hx
    · exact h1
    · exact Int.lt_trans h1 ((List.pairwise_cons.mp ih).1 x hx)
theorem rise_eq : ∀ {a b : List Int}, a.Pairwise (· < ·) → b.Pairwise (· < ·) → (∀ k, k ∈ a ↔ k ∈ b) → a = b
  | [], [], _, _, _ => rfl
  | [], y :: b, _, _, h => by have := (h y).mpr List.mem_cons_self; cases this
  | x :: a, [], _, _, h => by have := (h x).mp List.mem_cons_self; cases this
  | x :: a, y :: b, ha, hb, h => by
    obtain ⟨a1, a2⟩ := List.pairwise_cons.mp ha
    obtain ⟨b1, b2⟩ := List.pairwise_cons.mp hb
    have e : x = y := by
      rcases List.mem_cons.mp ((h x).mp List.mem_cons_self) with z | z
      · exact z
      · rcases List.mem_cons.mp ((h y).mpr List.mem_cons_self) with z2 | z2
        · exact z2.symm
        · have q1 := b1 x z
          have q2 := a1 y z2
          omega
    subst e
    rw [rise_eq a2 b2 fun k => ⟨fun z => ?_, fun z => ?_⟩]
    · rcases List.mem_cons.mp ((h k).mp (List.mem_cons_of_mem _ z)) with q | q
      · have := a1 k z
        omega
      · exact q
    · rcases List.mem_cons.mp ((h k).mpr (List.mem_cons_of_mem _ z)) with q | q
      · have := b1 k z
        omega
      · exact q
theorem mem_insI {x k : Int} : ∀ {l : List Int}, k ∈ insI x l ↔ k = x ∨ k ∈ l
  | [] => by simp [insI]
  | y :: r => by
    unfold insI
    split
    · simp
    · rw [List.mem_cons, mem_insI, List.mem_cons]
      constructor
      · rintro (h | h | h)
        · exact .inr (.inl h)
        · exact .inl h
        · exact .inr (.inr h)
      · rintro (h | h | h)
        · exact .inr (.inl h)
        · exact .inl h
        · exact .inr (.inr h)
theorem mem_sortI {k : Int} : ∀ {l : List Int}, k ∈ sortI l ↔ k ∈ l
  | [] => by simp [sortI]
  | y :: r => by
    unfold sortI
    rw [mem_insI, mem_sortI, List.mem_cons]
theorem reps_ints {H : L2.Hp} {m : List Addr} : ∀ ns : List Int, Reps H m (ns.map .int) (ns.map V.int)
  | [] => .nil
  | n :: r => .cons Rep.int (reps_ints r)
section
variable {X : Cx} {g : Stg} {lk : List Nat} {N : List Str} {sc ss scope : Scope} {fuel : Nat} {own : List (Str × Nat)} {p p2 : P} {ei : Sl → Hq → R (Iter × Hq)} {ei2 : List Nat → Sl → Hq → R (Iter × Hq)} {ee : List Nat → EvE} {tg it tg2 it2 elt : PySem.Expr} {pos cpos np : Pos}
theorem pe_sc2 {wi wi1 : TI} {gg g1 : TG} {te : TE} {vs1 : List Nat} (calm : X.calm = true) (nd : X.N.Nodup) (hi : PI X tg it wi) (ok : BlkOk X.N X.env.scope scope own) (hv : ∀ i ∈ vs1, i ∈ own.map (·.2))
    (hg : ∀ s H C cl fp, PG (Bk X scope s H C cl fp) tg gg) (he : ∀ s H C cl fp, PE (Bk X scope s H C cl fp) elt te) (fold : ∀ x, foldedSetIterable it X.env x = pure x)
    (hi1 : ∀ s H C cl fp, PI (Bk X scope s H C cl fp) tg2 it2 wi1) (hg1 : ∀ s H C cl fp, PG (Bk X scope s H C cl fp) tg2 g1) (fold1 : ∀ env x, foldedSetIterable it2 env x = pure x) :
    PE X (SC2 elt tg it tg2 it2 scope pos) (tSs X.w wi gg wi1 g1 te (own.map (·.2)) vs1) := by
  refine ⟨fun pins s σ H Q I h => ?_⟩
  rw [PpSet.eval_SetComp]
  refine ss_core calm nd I hi ok hv hg he fold hi1 hg1 fold1 h fun D C t m H' J q hn f => ⟨m, hn, fun h2 sb => ?_⟩
  obtain ⟨f0, f1, f2, f3, f4, f5⟩ := f
  exact ⟨.ref D, H', J.turned (t' := t.toks) (fun b o hb e => (sb.2 b hb).trans e) f0 f1 f3 f4 f5, rfl, q⟩
def evSsc (fuel : Nat) (own : List Nat) (p : P) (ei : Sl → Hq → R (Iter × Hq)) (p2 : P) (ei2 : List Nat → Sl → Hq → R (Iter × Hq)) (ee : List Nat → EvE) (lk : List Nat) : EvE := fun ls C => (ei ls C).bind fun J =>
      (loopC (fun i s => J.1.next i s.2.1) (outS fuel own p p2 ei2 ee ls) fuel 0 (J.1.lock lk, J.2, [])).bind fun s => if rises (sortI s.2.2) then .ok (newL s.2.1 (.lst ((sortI s.2.2).map .int))) else .no
theorem b_ssc (G : Good X N sc ss) (hgl : Gl X "sorted") (hmg : X.mg "sorted" = none) (hi : PI X tg it (tIt g lk ei)) (ok : BlkOk N sc scope own) (hp : ckP N scope p tg = true) (hs : ∀ i ∈ p.slots, i ∈ own.map (·.2)) (hset : noSet it = true)
    (hi2 : ∀ (lk' : List Nat) s H C cl fp, PI (Bk X scope s H C cl fp) tg2 it2 (tIt g lk' (ei2 lk'))) (hp2 : ckP N scope p2 tg2 = true) (hs2 : ∀ i ∈ p2.slots, i ∈ own.map (·.2)) (hset2 : noSet it2 = true)
    (he : ∀ (lk' : List Nat) s H C cl fp, PB (Bk X scope s H C cl fp) g lk' elt (ee lk')) :
    PB X g lk (.Call (.Name "sorted" np) [SC2 elt tg it tg2 it2 scope pos] [] cpos) (evSsc fuel (own.map (·.2)) p ei p2 ei2 ee lk) := by
  have pe := pe_sc2 (pos := pos) G.calm (by rw [G.hN]; exact G.nd) hi (by rw [G.hN, G.hsc]; exact ok) hs2 (fun s H C cl fp => ex_pg fun lk' => g_p (g := g) (lk := lk') (good_blk G s H C cl fp) hp) (fun s H C cl fp => ex_pe fun lk' => (he lk' s H C cl fp).pe) (fold_no hset X.env)
    (fun s H C cl fp => ex_pi fun lk' => hi2 lk' s H C cl fp) (fun s H C cl fp => ex_pg fun lk' => g_p (g := g) (lk := lk') (good_blk G s H C cl fp) hp2) (fun env => fold_no hset2 env)
  refine PB.of ⟨fun pins s σ H Q I q => ?_⟩ (fun _ => rfl) (fun _ _ _ z => nomatch z)
  obtain ⟨m, C, ls, d, C', hd, sl, e0, k⟩ := q
  obtain ⟨⟨J, C1⟩, e1, e2⟩ := R.bind_eq_ok e0
  obtain ⟨⟨lkf, Cf, acc⟩, e3, e4⟩ := R.bind_eq_ok e2
  split at e4
  · rename_i hr
    cases e4
    refine (pe_unl (pe_callB (cr_sortedSet G.calm) hgl hmg (by decide +kernel) (pa_cons pe pa_nil))).run pins s σ H Q I ?_
    refine ⟨m, C, ls, J, C1, hd, sl, e1, fun JJ m1 H1 s1 d1 imp D hD => ?_⟩
    refine out_body (w := X.w) hs d1 (sl.step s1) hD (fun i m C H lk2 st hd => imp i m C H lk2 st hd) e3 fun m3 H3 s3 x3 d3 t3 => ?_
    obtain ⟨q1, q2, S, q3, q4⟩ := t3
    refine ⟨D, S, acc.length, rfl, q3, by omega, fun ns pa hrise hmem hlen hpa => ?_⟩
    have en : ns = sortI acc := rise_eq hrise (rises_is hr) fun k => by rw [hmem, q4, mem_sortI]
    subst en
    have s4 := step_push (o := HO.lst ((sortI acc).map V.int)) d3 hpa
    have d4 := d3.push (o := HO.lst ((sortI acc).map V.int)) (co := .lst ((sortI acc).map .int)) hpa ⟨_, rfl, reps_ints _⟩
    have hat : (m3 ++ [pa])[Cf.n]? = some pa := by
      rw [← d3.len]
      simp
    obtain ⟨H'', u1, u2, u3, u4⟩ := unl_all hd ((lock_ext J lk).trans x3) ((s1.trans s3).trans s4) d4
    exact ⟨H'', u1, k _ _ H'' u2 u3 (Rep.loc hat)⟩
  · cases e4
end
end
end Q

set_option Elab.async false
set_option linter.all false
set_option maxRecDepth 100000
set_option maxHeartbeats 8000000
/-! Expressions of the text are those of Q: what is looked at, and that it is enough. -/
namespace Q
noncomputable section
open PySem L2 PySem.Spec PyProof.Rows

/-- the names of the module -/
structure Inf where
  fnm : List (Str × Nat)
  cnm : List (Str × Nat)
  con : List (Str × D)
  cls : Nat → Option Cl
  fld : List Str
  kw : List (Str × Str)
/-- the built-in names that are looked at -/
def bltN : List Str := ["range", "enumerate", "zip", "isinstance", "len", "all", "any", "int", "str", "abs", "max", "min", "sum", "tuple", "list", "dict", "sorted", "divmod", "set", "bool"]
structure Cok (n : Inf) (g : Stg) (G : Gam) (kk : Nat) (N : List Str) (sc ss : Scope) (X : Cx) : Prop where
  good : Good X N sc ss
  wd : Wd g G kk X
  isf : IsF g G X.K
  cl : G.cls = n.cls
  fl : g.fld = n.fld
  fn : ∀ x f, n.fnm.lookup x = some f → X.mg x = some (.ref (g.fad f)) ∧ PySem.W.keepIn X.K (.ref (g.fad f)) = true
  cn : ∀ x c, n.cnm.lookup x = some c → X.mg x = some (.ref (g.cad c)) ∧ PySem.W.keepIn X.K (.ref (g.cad c)) = true
  con : ∀ x d, n.con.lookup x = some d → ∃ v u, X.mg x = some u ∧ RelV v u ∧ Flat d v
  blt : ∀ x ∈ bltN, X.mg x = none
  kwl : g.kw = n.kw
theorem Cok.blk {n : Inf} {g : Stg} {G : Gam} {kk : Nat} {N : List Str} {sc ss scope : Scope} {X : Cx} (c : Cok n g G kk N sc ss X) (s : Shared) (H : L2.Hp) (C : Addr) (cl : List (Str × Addr)) (fp : List Addr) :
    Cok n g G kk N (relS scope sc) scope (Bk X scope s H C cl fp) :=
  ⟨good_blk c.good s H C cl fp, c.wd.same rfl rfl rfl rfl rfl rfl, c.isf, c.cl, c.fl, c.fn, c.cn, c.con, c.blt, c.kwl⟩

/-! ### what is looked at -/
def isGl (sc : Scope) (x : Str) : Bool := decide (sc.names.lookup x = some .globalImplicit)
def isVis (sc : Scope) (x : Str) : Bool := match sc.names.lookup x with
  | some .local => true
  | some .cell => true
  | some .free => true
  | _ => false
def ckCon (d : D) (c : Const) : Bool := match d, c with
  | .non, .none => true
  | .bl a, .bool b => a == b
  | .int i, .int j => decide (i = j)
  | .str s, .str z => decide (Sx s = z) && decide (s.length ≤ 1000000)
  | _, _ => false
def ckBO : BO → Operator → Bool
  | .add, .Add => true
  | .sub, .Sub => true
  | .mul, .Mult => true
  | .fdiv, .FloorDiv => true
  | .mod, .Mod => true
  | .pow, .Pow => true
  | _, _ => false
def ckKO : KO → CmpOp → Bool
  | .eq, .Eq => true
  | .ne, .NotEq => true
  | .lt, .Lt => true
  | .le, .LtE => true
  | .gt, .Gt => true
  | .ge, .GtE => true
  | .isn, .Is => true
  | .notn, .IsNot => true
  | .isin, .In => true
  | .notin, .NotIn => true
  | _, _ => false
def biN : BI → Option Str
  | .len => some "len"
  | .all => some "all"
  | .any => some "any"
  | .int => some "int"
  | .str => some "str"
  | .abs => some "abs"
  | .max1 => some "max"
  | .max2 => some "max"
  | .min1 => some "min"
  | .min2 => some "min"
  | .sum => some "sum"
  | .tuple => some "tuple"
  | .list => some "list"
  | .divmod => some "divmod"
  | _ => none
def okNm (x : Str) : Bool := !(x == ("__debug__" : Str)) && !(x == ("__classdict__" : Str)) && !decide (x = "__name__")
def ckTy (n : Inf) (sc : Scope) (t : TY) (x : PySem.Expr) : Bool := match x with
  | .Name y _ => isGl sc y && okNm y && (match t with
    | .int => decide (y = "int")
    | .bool => decide (y = "bool")
    | .str => decide (y = "str")
    | .tuple => decide (y = "tuple")
    | .list => decide (y = "list")
    | .cls c => decide (n.cnm.lookup y = some c) && (n.cls c).isSome)
  | _ => false
def ownL (N : List Str) (own : List Nat) : List (Str × Nat) := own.map fun i => (N.getD i "", i)
def isFlat : D → Bool
  | .int _ => true
  | .str _ => true
  | _ => false
mutual
def ckE (n : Inf) (N : List Str) : E → Scope → PySem.Expr → Bool
  | .var i, sc, x => match x with
    | .Name y _ => decide (N[i]? = some y) && isVis sc y && okNm y
    | _ => false
  | .con d, sc, x => match x with
    | .Constant c _ _ => ckCon d c
    | .Name y _ => isGl sc y && okNm y && (match n.con.lookup y with | some e => D.beq e d && isFlat d | none => false)
    | _ => false
  | .bin o a b, sc, x => match x with
    | .BinOp l op r _ => ckBO o op && ckE n N a sc l && ckE n N b sc r
    | _ => false
  | .neg a, sc, x => match x with
    | .UnaryOp .USub y _ => ckE n N a sc y
    | _ => false
  | .cmp o a b, sc, x => match x with
    | .Compare l [op] [r] _ => ckKO o op && !behindInMarks op r && ckE n N a sc l && ckE n N b sc r
    | _ => false
  | .chn o p a b c, sc, x => match x with
    | .Compare l [op, op'] [r, t] _ => ckKO o op && ckKO p op' && !lastMarks [op, op'] [r, t] && ckE n N a sc l && ckE n N b sc r && ckE n N c sc t
    | _ => false
  | .and a b, sc, x => match x with
    | .BoolOp .And (y :: z :: []) _ => ckE n N a sc y && ckE n N b sc z
    | .BoolOp .And (y :: z :: w :: r) p => ckE n N a sc y && ckE n N b sc (.BoolOp .And (z :: w :: r) p)
    | _ => false
  | .or a b, sc, x => match x with
    | .BoolOp .Or (y :: z :: []) _ => ckE n N a sc y && ckE n N b sc z
    | .BoolOp .Or (y :: z :: w :: r) p => ckE n N a sc y && ckE n N b sc (.BoolOp .Or (z :: w :: r) p)
    | _ => false
  | .not a, sc, x => match x with
    | .UnaryOp .Not y _ => ckE n N a sc y
    | _ => false
  | .ife c a b, sc, x => match x with
    | .IfExp t y z _ => ckE n N c sc t && ckE n N a sc y && ckE n N b sc z
    | _ => false
  | .tup as, sc, x => match x with
    | .Tuple ys _ _ => ckA n N as sc ys && decide (as.length ≤ 1000)
    | _ => false
  | .lst as, sc, x => match x with
    | .List ys _ => ckA n N as sc ys && decide (as.length ≤ 1000)
    | _ => false
  | .tst a as, sc, x => match x with
    | .Tuple (.Starred y _ :: ys) _ _ => ckE n N a sc y && ckA n N as sc ys
    | _ => false
  | .dic ks vs, sc, x => match ks, vs, x with
    | [], [], .Dict [] [] _ => true
    | ks, vs, .Dict [some y] [z] _ => ckA n N ks sc [y] && ckA n N vs sc [z]
    | _, _, _ => false
  | .idx a i, sc, x => match x with
    | .Subscript y z _ => noSlice z && ckE n N a sc y && ckE n N i sc z
    | _ => false
  | .slo a b, sc, x => match x with
    | .Subscript y (.Slice (some z) none none _) _ => ckE n N a sc y && ckE n N b sc z
    | _ => false
  | .shi a b, sc, x => match x with
    | .Subscript y (.Slice none (some z) none _) _ => ckE n N a sc y && ckE n N b sc z
    | _ => false
  | .slh a b c, sc, x => match x with
    | .Subscript y (.Slice (some z) (some w) none _) _ => ckE n N a sc y && ckE n N b sc z && ckE n N c sc w
    | _ => false
  | .rev a, sc, x => match x with
    | .Subscript y (.Slice none none (some (.UnaryOp .USub (.Constant (.int 1) _ _) _)) _) _ => ckE n N a sc y
    | _ => false
  | .fld a f, sc, x => match x with
    | .Attribute y m _ => decide (n.fld[f]? = some m) && okBase y && ckE n N a sc y
    | _ => false
  | .call f as, sc, x => match x with
    | .Call (.Name y _) ys [] _ => isGl sc y && okNm y && decide (n.fnm.lookup y = some f) && ckA n N as sc ys
    | _ => false
  | .calk _ _ _, _, _ => false
  | .make c as, sc, x => match x with
    | .Call (.Name y _) ys [] _ => isGl sc y && okNm y && decide (n.cnm.lookup y = some c) && ckA n N as sc ys
    | _ => false
  | .maks c a, sc, x => match x with
    | .Call (.Name y _) [.Starred z _] [] _ => isGl sc y && okNm y && decide (n.cnm.lookup y = some c) && ckE n N a sc z
    | _ => false
  | .meth a m as, sc, x => match x with
    | .Call (.Attribute y nm apos) ys [] pos => decide (n.fld[m]? = some nm) && okBase y && decide (ys.length < 29) && (apos.endLine == pos.line) && ckE n N a sc y && ckA n N as sc ys
    | .Call (.Attribute y nm apos) [] [⟨some k, z, _⟩] pos => decide (n.fld[m]? = some nm) && okBase y && (apos.endLine == pos.line) && n.kw.contains (nm, k) && ckE n N a sc y && ckA n N as sc [z]
    | _ => false
  | .cmet c m as, sc, x => match x with
    | .Call (.Attribute (.Name y p) nm apos) ys [] pos => decide (n.fld[m]? = some nm) && isGl sc y && okNm y && decide (n.cnm.lookup y = some c) && okBase (.Name y p) && decide (ys.length < 29) && (apos.endLine == pos.line) && !ys.isEmpty && ckA n N as sc ys
    | _ => false
  | .eqm f a b, sc, x => match x with
    | .Compare l [.Eq] [r] _ => decide (n.fld[f]? = some ("__eq__" : Str)) && !behindInMarks .Eq r && ckE n N a sc l && ckE n N b sc r
    | _ => false
  | .bi b as, sc, x => match x with
    | .Call (.Name y _) ys [] _ => (match b with
      | .lenset => (match ys with
        | [.Call (.Name z _) [w] [] _] => decide (y = "len") && decide (z = "set") && isGl sc y && isGl sc z && noStar w && ckA n N as sc [w]
        | _ => false)
      | _ => isGl sc y && decide (biN b = some y) && !ys.isEmpty && ckA n N as sc ys)
    | _ => false
  | .bm m a as, sc, x => match x with
    | .Call (.Attribute y nm apos) ys [] pos => decide ((bmT m).2.1 = nm) && okBase y && decide (ys.length < 29) && (apos.endLine == pos.line) && ckE n N a sc y && ckA n N as sc ys
    | _ => false
  | .isi a t, sc, x => match x with
    | .Call (.Name y _) [z, w] [] _ => decide (y = "isinstance") && isGl sc y && noStar z && ckTy n sc t w && ckE n N a sc z
    | _ => false
  | .fst as, sc, x => match x with
    | .JoinedStr (v1 :: v2 :: vs) _ => ckF n N as sc (v1 :: v2 :: vs)
    | _ => false
  | .itr _, _, _ => false
  | .rg1 _, _, _ => false
  | .rg2 _ _, _, _ => false
  | .enm _, _, _ => false
  | .zip _ _, _, _ => false
  | .lc own p it cs elt, sc, x => match x with
    | .ListComp z [⟨tg, y, ifs, 0⟩] scope _ => ckI n N it sc tg y && noSet y && blkC N sc scope (ownL N own) && ckP N scope p tg && p.slots.all (fun i => own.contains i) && ckC n N cs (relS scope sc) ifs && ckE n N elt (relS scope sc) z
    | _ => false
  | .lc2 own p it p2 it2 cs elt, sc, x => match x with
    | .ListComp z [⟨tg, y, [], 0⟩, ⟨tg2, y2, ifs, 0⟩] scope _ => ckI n N it sc tg y && noSet y && blkC N sc scope (ownL N own) && ckP N scope p tg && p.slots.all (fun i => own.contains i) && ckI n N it2 (relS scope sc) tg2 y2 && noSet y2 && ckP N scope p2 tg2 &&
      p2.slots.all (fun i => own.contains i) && ckC n N cs (relS scope sc) ifs && ckE n N elt (relS scope sc) z
    | _ => false
  | .dc own p it cs k v, sc, x => match x with
    | .DictComp kx vx [⟨tg, y, ifs, 0⟩] scope _ => ckI n N it sc tg y && noSet y && blkC N sc scope (ownL N own) && ckP N scope p tg && p.slots.all (fun i => own.contains i) && ckC n N cs (relS scope sc) ifs && ckE n N k (relS scope sc) kx && ckE n N v (relS scope sc) vx
    | _ => false
  | .ssc own p it p2 it2 elt, sc, x => match x with
    | .Call (.Name f _) [.SetComp z [⟨tg, y, [], 0⟩, ⟨tg2, y2, [], 0⟩] scope _] [] _ => decide (f = "sorted") && isGl sc f && ckI n N it sc tg y && noSet y && blkC N sc scope (ownL N own) && ckP N scope p tg && p.slots.all (fun i => own.contains i) && ckI n N it2 (relS scope sc) tg2 y2 && noSet y2 &&
      ckP N scope p2 tg2 && p2.slots.all (fun i => own.contains i) && ckE n N elt (relS scope sc) z
    | _ => false
termination_by structural e => e
def ckA (n : Inf) (N : List Str) : List E → Scope → List PySem.Expr → Bool
  | [], _, ys => match ys with
    | [] => true
    | _ => false
  | a :: as, sc, ys => match ys with
    | y :: ys => noStar y && ckE n N a sc y && ckA n N as sc ys
    | _ => false
termination_by structural e => e
def ckC (n : Inf) (N : List Str) : List E → Scope → List PySem.Expr → Bool
  | [], _, ys => match ys with
    | [] => true
    | _ => false
  | a :: as, sc, ys => match as, ys with
    | [], [y] => ckE n N a sc y
    | _, _ => false
termination_by structural e => e
/-- the parts of a f-string -/
def ckF (n : Inf) (N : List Str) : List E → Scope → List PySem.Expr → Bool
  | [], _, ys => match ys with
    | [] => true
    | _ => false
  | a :: as, sc, ys => match ys with
    | .FormattedValue e c none _ :: ys => decide (c = -1) && ckE n N a sc e && ckF n N as sc ys
    | .Constant (.str s) _ _ :: ys => (match a with
      | .con (.str t) => decide (Sx t = s) && decide (t.length ≤ 1000000)
      | _ => false) && ckF n N as sc ys
    | _ => false
termination_by structural e => e
/-- what is walked, to a target -/
def ckI (n : Inf) (N : List Str) : E → Scope → PySem.Expr → PySem.Expr → Bool
  | .itr a, sc, _, x => ckE n N a sc x
  | .rg1 a, sc, _, x => match x with
    | .Call (.Name y _) [z] [] _ => decide (y = "range") && isGl sc y && noStar z && ckE n N a sc z
    | _ => false
  | .rg2 a b, sc, _, x => match x with
    | .Call (.Name y _) [z, w] [] _ => decide (y = "range") && isGl sc y && noStar z && noStar w && ckE n N a sc z && ckE n N b sc w
    | _ => false
  | .enm a, sc, tg, x => match tg, x with
    | .Tuple _ _ _, .Call (.Name y _) [z] [] _ => decide (y = "enumerate") && isGl sc y && noStar z && ckE n N a sc z
    | _, _ => false
  | .zip a b, sc, tg, x => match tg, x with
    | .Tuple _ _ _, .Call (.Name y _) [z, w] [] _ => decide (y = "zip") && isGl sc y && noStar z && noStar w && ckE n N a sc z && ckE n N b sc w
    | _, _ => false
  | _, _, _, _ => false
termination_by structural e => e
end
end
end Q

set_option Elab.async false
set_option linter.all false
set_option maxRecDepth 100000
set_option maxHeartbeats 8000000
/-! What is looked at is enough. -/
namespace Q
noncomputable section
open PySem L2 PySem.Spec PyProof.Rows

section
variable {n : Inf} {g : Stg} {G : Gam} {kk : Nat} {N : List Str} {sc ss : Scope} {X : Cx} {lk : List Nat}
theorem Cok.hu (c : Cok n g G kk N sc ss X) : X.A.units + 65 < cLine := by
  have := c.wd.room.un
  omega
theorem Cok.gl (c : Cok n g G kk N sc ss X) {x : Str} (h : isGl sc x = true) : Gl X x := by
  unfold isGl at h
  rw [decide_eq_true_eq] at h
  show X.env.scope.names.lookup x = _
  rw [c.good.hsc]
  exact h
theorem Cok.vis (c : Cok n g G kk N sc ss X) {x : Str} (h : isVis sc x = true) : Vis X.env.scope x := by
  rw [c.good.hsc]
  unfold isVis at h
  split at h
  · rename_i e; exact .inl e
  · rename_i e; exact .inr (.inl e)
  · rename_i e; exact .inr (.inr e)
  · cases h
theorem okNm_is {x : Str} (h : okNm x = true) : (x == ("__debug__" : Str)) = false ∧ (x == ("__classdict__" : Str)) = false ∧ x ≠ "__name__" := by
  unfold okNm at h
  simp only [Bool.and_eq_true, Bool.not_eq_true', decide_eq_false_iff_not] at h
  exact ⟨h.1.1, h.1.2, h.2⟩
theorem ok_bo {o : BO} {op : Operator} (h : ckBO o op = true) : OpR X (binaryOp op) (t2 g lk (binD o lk)) := by
  cases o with
  | add => cases op <;> first | (exfalso; cases h; done) | exact or_add
  | sub => cases op <;> first | (exfalso; cases h; done) | exact or_sub
  | mul => cases op <;> first | (exfalso; cases h; done) | exact or_mul
  | fdiv => cases op <;> first | (exfalso; cases h; done) | exact or_fdiv
  | mod => cases op <;> first | (exfalso; cases h; done) | exact or_mod
  | pow => cases op <;> first | (exfalso; cases h; done) | exact or_pow
theorem ok_ko (hu : X.A.units + 65 < cLine) {o : KO} {op : CmpOp} (h : ckKO o op = true) : OpR X (compareOp op) (t2b g lk (cmpD o lk)) := by
  have hu' : X.A.units + 64 < cLine := by omega
  cases o with
  | eq => cases op <;> first | (exfalso; cases h; done) | exact t2_of_tk (or_eq hu')
  | ne => cases op <;> first | (exfalso; cases h; done) | exact t2_of_tk (or_ne hu')
  | lt => cases op <;> first | (exfalso; cases h; done) | exact t2_of_tk or_lt
  | le => cases op <;> first | (exfalso; cases h; done) | exact t2_of_tk or_le
  | gt => cases op <;> first | (exfalso; cases h; done) | exact t2_of_tk or_gt
  | ge => cases op <;> first | (exfalso; cases h; done) | exact t2_of_tk or_ge
  | isn => cases op <;> first | (exfalso; cases h; done) | exact t2_of_tk or_is
  | notn => cases op <;> first | (exfalso; cases h; done) | exact t2_of_tk or_isnot
  | isin => cases op <;> first | (exfalso; cases h; done) | exact or_in hu
  | notin => cases op <;> first | (exfalso; cases h; done) | exact or_notin hu
theorem ok_con {d : D} {c : Const} {j : Nat} {pos : Pos} (h : ckCon d c = true) : PB X g lk (.Constant c j pos) (fun ls C => .ok (d, C)) := by
  have he : ∀ whole, isTrue (.Constant c j pos) X.env whole = (do let v ← whole; standAt (PySem.Expr.Constant c j pos).pos; holding [v] (truthy v)) := fun _ => rfl
  have hb : ∀ op vs p, (PySem.Expr.Constant c j pos) ≠ .BoolOp op vs p := fun _ _ _ z => nomatch z
  unfold ckCon at h
  split at h
  · exact b_val pe_non (fun _ _ => Rep.non) he hb
  · rename_i a b
    have : a = b := by simpa using h
    subst this
    exact b_val pe_bl (fun _ _ => Rep.bl) he hb
  · rename_i a b
    have : a = b := by simpa using h
    subst this
    exact b_val pe_int (fun _ _ => Rep.int) he hb
  · rename_i s z
    rw [Bool.and_eq_true, decide_eq_true_eq, decide_eq_true_eq] at h
    obtain ⟨h1, h2⟩ := h
    subst h1
    exact b_val pe_str (fun _ _ => Rep.str h2) he hb
  · cases h
theorem beq_flat {d e : D} (h : D.beq e d = true) (hf : isFlat d = true) : e = d := by
  cases d with
  | int i =>
    cases e with
    | int j =>
      have h : eqI j i = true := h
      rw [eqI_iff, decide_eq_true_eq] at h
      rw [h]
    | _ => cases h
  | str s =>
    cases e with
    | str t =>
      have h : eqS t s = true := h
      rw [eqS_iff, decide_eq_true_eq] at h
      rw [h]
    | _ => cases h
  | _ => cases hf
theorem ok_nc (c : Cok n g G kk N sc ss X) {x : Str} {d : D} {pos : Pos} (hg : isGl sc x = true) (ho : okNm x = true) (h : n.con.lookup x = some d) : PB X g lk (.Name x pos) (fun ls C => .ok (d, C)) := by
  obtain ⟨v, u, h1, h2, h3⟩ := c.con x d h
  obtain ⟨n1, _, _⟩ := okNm_is ho
  exact b_val (pe_glob (c.gl hg) h1 h2 n1) h3 (fun _ => rfl) (fun _ _ _ z => nomatch z)
theorem ok_bi (c : Cok n g G kk N sc ss X) {b : BI} {y : Str} {e : PySem.Expr} {es : List PySem.Expr} {evs : Sl → Hq → R (List D × Hq)} {p pos : Pos} (hb : biN b = some y) (hg : isGl sc y = true) (ha : PA X (e :: es) (tAs g lk evs)) (hs : (e :: es).all noStar = true) :
    PB X g lk (.Call (.Name y p) (e :: es) [] pos) (evBi b evs) := by
  have hc := c.good.calm
  have hm : ∀ z ∈ bltN, X.mg z = none := c.blt
  cases b <;> cases hb
  · exact b_biB (or_len hc) (c.gl hg) (hm _ (by decide)) boot_len ha (by decide) (by decide) hs
  · exact b_biB (or_all hc) (c.gl hg) (hm _ (by decide)) (by decide +kernel) ha (by decide) (by decide) hs
  · exact b_biB (or_any hc) (c.gl hg) (hm _ (by decide)) (by decide +kernel) ha (by decide) (by decide) hs
  · exact b_biT or_int (c.gl hg) (hm _ (by decide)) (by decide +kernel) ha (by decide) (by decide) hs
  · exact b_biT or_str (c.gl hg) (hm _ (by decide)) (by decide +kernel) ha (by decide) (by decide) hs
  · exact b_biB or_abs (c.gl hg) (hm _ (by decide)) (by decide +kernel) ha (by decide) (by decide) hs
  · exact b_biB (or_max1 hc) (c.gl hg) (hm _ (by decide)) (by decide +kernel) ha (by decide) (by decide) hs
  · exact b_biB (or_max2 hc) (c.gl hg) (hm _ (by decide)) (by decide +kernel) ha (by decide) (by decide) hs
  · exact b_biB (or_min1 hc) (c.gl hg) (hm _ (by decide)) (by decide +kernel) ha (by decide) (by decide) hs
  · exact b_biB (or_min2 hc) (c.gl hg) (hm _ (by decide)) (by decide +kernel) ha (by decide) (by decide) hs
  · exact b_biB (or_sum hc) (c.gl hg) (hm _ (by decide)) (by decide +kernel) ha (by decide) (by decide) hs
  · exact b_biT or_tuple (c.gl hg) (hm _ (by decide)) (by decide +kernel) ha (by decide) (by decide) hs
  · exact b_biT (cr_list hc) (c.gl hg) (hm _ (by decide)) (by decide +kernel) ha (by decide) (by decide) hs
  · exact b_biB or_divmod (c.gl hg) (hm _ (by decide)) (by decide +kernel) ha (by decide) (by decide) hs
theorem ok_bm (c : Cok n g G kk N sc ss X) (b : BM) : BmF X g b := by
  have hu := c.hu
  cases b with
  | append => exact bmF_append
  | extend => exact bmF_extend
  | pop0 => exact bmF_pop0
  | pop1 => exact bmF_pop1
  | index => exact bmF_index
  | count => exact bmF_count
  | get1 => exact bmF_get1 hu
  | get2 => exact bmF_get2 hu
  | setd => exact bmF_setd hu
  | update => exact bmF_update
  | split => exact bmF_split
  | join => exact bmF_join c.good.calm
theorem ok_ty (c : Cok n g G kk N sc ss X) {t : TY} {x : PySem.Expr} (h : ckTy n sc t x = true) : ∃ v u, TyA g G t v u ∧ PE X x (tC v) ∧ noStar x = true := by
  unfold ckTy at h
  split at h
  · rename_i y p
    rw [Bool.and_eq_true, Bool.and_eq_true] at h
    obtain ⟨⟨hg, ho⟩, h⟩ := h
    have hm : ∀ z ∈ bltN, X.mg z = none := c.blt
    cases t with
    | int => rw [decide_eq_true_eq] at h; subst h; exact ⟨_, _, ⟨"int", rfl, rfl, rfl⟩, pe_bltn (c.gl hg) (hm _ (by decide)) (by decide +kernel) rfl (by decide) (by decide), rfl⟩
    | bool => rw [decide_eq_true_eq] at h; subst h; exact ⟨_, _, ⟨"bool", rfl, rfl, rfl⟩, pe_bltn (c.gl hg) (hm _ (by decide)) (by decide +kernel) rfl (by decide) (by decide), rfl⟩
    | str => rw [decide_eq_true_eq] at h; subst h; exact ⟨_, _, ⟨"str", rfl, rfl, rfl⟩, pe_bltn (c.gl hg) (hm _ (by decide)) (by decide +kernel) rfl (by decide) (by decide), rfl⟩
    | tuple => rw [decide_eq_true_eq] at h; subst h; exact ⟨_, _, ⟨"tuple", rfl, rfl, rfl⟩, pe_bltn (c.gl hg) (hm _ (by decide)) (by decide +kernel) rfl (by decide) (by decide), rfl⟩
    | list => rw [decide_eq_true_eq] at h; subst h; exact ⟨_, _, ⟨"list", rfl, rfl, rfl⟩, pe_bltn (c.gl hg) (hm _ (by decide)) (by decide +kernel) rfl (by decide) (by decide), rfl⟩
    | cls k =>
      rw [Bool.and_eq_true, decide_eq_true_eq] at h
      obtain ⟨h1, h2⟩ := h
      obtain ⟨cl, hcl⟩ := Option.isSome_iff_exists.mp h2
      obtain ⟨m1, _⟩ := c.cn y k h1
      exact ⟨.ref (g.cad k), .ref (g.cad k), ⟨⟨cl, by rw [c.cl]; exact hcl⟩, rfl, rfl⟩, pe_glob (c.gl hg) m1 rfl (okNm_is ho).1, rfl⟩
  · cases h
theorem plain_ix {z : PySem.Expr} (h : noSlice z = true) : PlainIx z := by
  intro o i
  cases z <;> first | rfl | cases h
theorem evA_len (G : Gam) (lk : List Nat) : ∀ (es : List E) (ls : Sl) (C : Hq) (ds : List D) (C' : Hq), evA G es lk ls C = .ok (ds, C') → ds.length = es.length
  | [], ls, C, ds, C', e => by cases e; rfl
  | a :: as, ls, C, ds, C', e => by
    obtain ⟨x, e1, e2⟩ := R.bind_eq_ok (show ((evE G a lk ls C).bind fun x => (evA G as lk ls x.2).bind fun y => .ok (x.1 :: y.1, y.2)) = .ok (ds, C') from e)
    obtain ⟨⟨y, C2⟩, e3, e4⟩ := R.bind_eq_ok e2
    cases e4
    rw [List.length_cons, List.length_cons, evA_len G lk as ls _ _ _ e3]
theorem all_star {n : Inf} {N : List Str} : ∀ {es : List E} {sc : Scope} {ys : List PySem.Expr}, ckA n N es sc ys = true → ys.all noStar = true ∧ ys.length = es.length
  | [], sc, [], _ => ⟨rfl, rfl⟩
  | [], sc, _ :: _, h => by unfold ckA at h; cases h
  | a :: as, sc, [], h => by unfold ckA at h; cases h
  | a :: as, sc, y :: ys, h => by
    unfold ckA at h
    rw [Bool.and_eq_true, Bool.and_eq_true] at h
    obtain ⟨h1, h2⟩ := all_star h.2
    rw [List.all_cons, h.1.1, h1]
    exact ⟨rfl, by rw [List.length_cons, List.length_cons, h2]⟩
theorem own_map (N : List Str) : ∀ own : List Nat, (ownL N own).map (·.2) = own
  | [] => rfl
  | i :: own => by
    show i :: (ownL N own).map (·.2) = _
    rw [own_map N own]
theorem own_in {N : List Str} {own : List Nat} {is : List Nat} (h : is.all (fun i => own.contains i) = true) : ∀ i ∈ is, i ∈ (ownL N own).map (·.2) := by
  intro i hi
  rw [own_map]
  have := List.all_eq_true.mp h i hi
  simpa using this
end

theorem one_of {α β : Type} {r : α → β → Prop} {y : β} {es : List α} (h : Paired r es [y]) : ∃ e, es = [e] ∧ r e y := by
  cases h with
  | cons h t =>
    cases t
    exact ⟨_, rfl, h⟩
variable {n : Inf} {g : Stg} {G : Gam} {kk : Nat} {N : List Str}
mutual
theorem okE (e : E) {sc ss : Scope} {X : Cx} {lk : List Nat} {x : PySem.Expr} (c : Cok n g G kk N sc ss X) (h : ckE n N e sc x = true) : PB X g lk x (fun ls C => evE G e lk ls C) := by
  cases e with
  | var i =>
    unfold ckE at h
    split at h
    · rename_i y p
      rw [Bool.and_eq_true, Bool.and_eq_true, decide_eq_true_eq] at h
      obtain ⟨⟨h1, h2⟩, h3⟩ := h
      obtain ⟨n1, n2, _⟩ := okNm_is h3
      exact b_var (N := N) (sc := sc) (by rw [c.good.hN]; exact h1) (c.vis h2) n1 n2
    · cases h
  | con d =>
    unfold ckE at h
    split at h
    · exact ok_con h
    · rename_i y p
      rw [Bool.and_eq_true, Bool.and_eq_true] at h
      obtain ⟨⟨h1, h2⟩, h3⟩ := h
      split at h3
      · rename_i e he
        rw [Bool.and_eq_true] at h3
        have := beq_flat h3.1 h3.2
        subst this
        exact ok_nc c h1 h2 he
      · cases h3
    · cases h
  | bin o a b =>
    unfold ckE at h
    split at h
    · rw [Bool.and_eq_true, Bool.and_eq_true] at h
      exact b_bin (ok_bo h.1.1) (okE a c h.1.2) (okE b c h.2)
    · cases h
  | neg a =>
    unfold ckE at h
    split at h
    · exact b_neg or_neg (okE a c h)
    · cases h
  | cmp o a b =>
    unfold ckE at h
    split at h
    · rw [Bool.and_eq_true, Bool.and_eq_true, Bool.and_eq_true, Bool.not_eq_true'] at h
      exact b_cmp (ok_ko c.hu h.1.1.1) h.1.1.2 (okE a c h.1.2) (okE b c h.2)
    · cases h
  | chn o p a b c' =>
    unfold ckE at h
    split at h
    · simp only [Bool.and_eq_true, Bool.not_eq_true'] at h
      exact b_chn (ok_ko c.hu h.1.1.1.1.1) (ok_ko c.hu h.1.1.1.1.2) h.1.1.1.2 (okE a c h.1.1.2) (okE b c h.1.2) (okE c' c h.2)
    · cases h
  | and a b =>
    unfold ckE at h
    split at h
    · rw [Bool.and_eq_true] at h
      have hb := okE b (lk := lk) c h.2
      exact b_and (okE a c h.1) (pe_one hb.pe) (pw_and1 hb.pt)
    · rw [Bool.and_eq_true] at h
      have hb := okE b (lk := lk) c h.2
      exact b_and (okE a c h.1) hb.pe (hb.pw _ _ _ rfl)
    · cases h
  | or a b =>
    unfold ckE at h
    split at h
    · rw [Bool.and_eq_true] at h
      have hb := okE b (lk := lk) c h.2
      exact b_or (okE a c h.1) (pe_one hb.pe) (pw_or1 hb.pt)
    · rw [Bool.and_eq_true] at h
      have hb := okE b (lk := lk) c h.2
      exact b_or (okE a c h.1) hb.pe (hb.pw _ _ _ rfl)
    · cases h
  | not a =>
    unfold ckE at h
    split at h
    · exact b_not (okE a c h)
    · cases h
  | ife t a b =>
    unfold ckE at h
    split at h
    · rw [Bool.and_eq_true, Bool.and_eq_true] at h
      exact b_ife (okE t c h.1.1) (okE a c h.1.2) (okE b c h.2)
    · cases h
  | tup as =>
    unfold ckE at h
    split at h
    · rw [Bool.and_eq_true, decide_eq_true_eq] at h
      exact b_tup (okA as c h.1) fun ls C ds C' e => by rw [evA_len G lk as ls C ds C' e]; exact h.2
    · cases h
  | lst as =>
    unfold ckE at h
    split at h
    · rw [Bool.and_eq_true, decide_eq_true_eq] at h
      exact b_lst (okA as c h.1) fun ls C ds C' e => by rw [evA_len G lk as ls C ds C' e]; exact h.2
    · cases h
  | tst a as =>
    unfold ckE at h
    split at h
    · rw [Bool.and_eq_true] at h
      exact b_tst (okE a c h.1) (okA as c h.2)
    · cases h
  | dic ks vs =>
    unfold ckE at h
    split at h
    · exact b_dic0
    · rw [Bool.and_eq_true] at h
      obtain ⟨k, rfl, hk⟩ := one_of (okL ks (lk := lk) c h.1)
      obtain ⟨v, rfl, hv⟩ := one_of (okL vs (lk := lk) c h.2)
      exact b_dic1 (by have := c.hu; omega) hk hv
    · cases h
  | idx a i =>
    unfold ckE at h
    split at h
    · rw [Bool.and_eq_true, Bool.and_eq_true] at h
      have := b_idx (p := ‹Pos›) (or_idx (g := g) (lk := lk) c.hu) (plain_ix h.1.1) (okE a c h.1.2) (okE i c h.2)
      rw [show (fun ls C => evE G (.idx a i) lk ls C) = (fun ls C => (evE G a lk ls C).bind fun x => (evE G i lk ls x.2).bind fun y => R.of ((idxD lk x.1 y.1 y.2).map fun d => (d, y.2))) from by
        funext ls C
        show ((evE G a lk ls C).bind fun x => (evE G i lk ls x.2).bind fun y => (R.of (idxD lk x.1 y.1 y.2)).bind fun d => .ok (d, y.2)) = _
        congr 1
        funext x
        congr 1
        funext y
        cases idxD lk x.1 y.1 y.2 <;> rfl]
      exact this
    · cases h
  | slo a b =>
    unfold ckE at h
    split at h
    · rw [Bool.and_eq_true] at h
      exact b_slo (okE a c h.1) (okE b c h.2)
    · cases h
  | shi a b =>
    unfold ckE at h
    split at h
    · rw [Bool.and_eq_true] at h
      exact b_shi (okE a c h.1) (okE b c h.2)
    · cases h
  | slh a b d =>
    unfold ckE at h
    split at h
    · rw [Bool.and_eq_true, Bool.and_eq_true] at h
      exact b_slh (okE a c h.1.1) (okE b c h.1.2) (okE d c h.2)
    · cases h
  | rev a =>
    unfold ckE at h
    split at h
    · exact b_rev (okE a c h)
    · cases h
  | fld a f =>
    unfold ckE at h
    split at h
    · rw [Bool.and_eq_true, Bool.and_eq_true, decide_eq_true_eq] at h
      exact b_fld c.wd (by rw [c.fl]; exact h.1.1) (okE a c h.2) h.1.2
    · cases h
  | call f as =>
    unfold ckE at h
    split at h
    · rename_i y p ys pos
      simp only [Bool.and_eq_true, decide_eq_true_eq] at h
      obtain ⟨⟨⟨h1, h2⟩, h3⟩, h4⟩ := h
      obtain ⟨m1, m2⟩ := c.fn y f h3
      have ha := okA as (lk := lk) c h4
      obtain ⟨s1, s2⟩ := all_star h4
      cases ys with
      | nil =>
        cases as with
        | nil => exact b_call0 c.wd (c.gl h1) m1 m2 (okNm_is h2).1
        | cons a as => cases s2
      | cons z ys => exact b_call c.wd (c.gl h1) m1 m2 (okNm_is h2).1 ha s1
    · cases h
  | calk f as ix => unfold ckE at h; cases h
  | make k as =>
    unfold ckE at h
    split at h
    · rename_i y p ys pos
      simp only [Bool.and_eq_true, decide_eq_true_eq] at h
      obtain ⟨⟨⟨h1, h2⟩, h3⟩, h4⟩ := h
      obtain ⟨m1, m2⟩ := c.cn y k h3
      have ha := okA as (lk := lk) c h4
      obtain ⟨s1, s2⟩ := all_star h4
      cases ys with
      | nil =>
        cases as with
        | nil => exact b_make0 c.wd (c.gl h1) m1 (okNm_is h2).1 m2
        | cons a as => cases s2
      | cons z ys => exact b_make c.wd (c.gl h1) m1 (okNm_is h2).1 m2 ha s1
    · cases h
  | maks k a =>
    unfold ckE at h
    split at h
    · rename_i y p z q pos
      simp only [Bool.and_eq_true, decide_eq_true_eq] at h
      obtain ⟨⟨⟨h1, h2⟩, h3⟩, h4⟩ := h
      obtain ⟨m1, m2⟩ := c.cn y k h3
      exact b_maks c.wd (c.gl h1) m1 (okNm_is h2).1 m2 (okE a c h4)
    · cases h
  | meth a m as =>
    unfold ckE at h
    split at h
    · rename_i y nm apos ys pos
      simp only [Bool.and_eq_true, decide_eq_true_eq] at h
      obtain ⟨⟨⟨⟨⟨h1, h2⟩, h3⟩, h4⟩, h5⟩, h6⟩ := h
      have hx : g.fld[m]? = some nm := by rw [c.fl]; exact h1
      have ha := okA as (lk := lk) c h6
      obtain ⟨s1, s2⟩ := all_star h6
      cases ys with
      | nil =>
        cases as with
        | nil => exact b_meth0 c.wd hx (okE a c h5) h2 h4
        | cons a as => cases s2
      | cons z ys => exact b_meth c.wd hx (okE a c h5) h2 h3 h4 ha s1
    · rename_i y nm apos k z kpos pos
      simp only [Bool.and_eq_true, decide_eq_true_eq] at h
      obtain ⟨⟨⟨⟨⟨h1, h2⟩, h3⟩, h4⟩, h5⟩, h6⟩ := h
      have hx : g.fld[m]? = some nm := by rw [c.fl]; exact h1
      have hk : (nm, k) ∈ n.kw := List.elem_iff.mp h4
      rw [← c.kwl] at hk
      obtain ⟨a1, rfl, ha⟩ := one_of (okL as (lk := lk) c h6)
      have := b_methk (pos := pos) (kpos := kpos) c.wd hx hk (okE a (lk := lk) c h5) h2 h3 ha
      exact this
    · cases h
  | cmet k m as =>
    unfold ckE at h
    split at h
    · rename_i y p nm apos ys pos
      simp only [Bool.and_eq_true, decide_eq_true_eq, Bool.not_eq_true'] at h
      obtain ⟨⟨⟨⟨⟨⟨⟨⟨h1, h2⟩, h3⟩, h4⟩, h5⟩, h6⟩, h7⟩, h8⟩, h9⟩ := h
      have hx : g.fld[m]? = some nm := by rw [c.fl]; exact h1
      obtain ⟨m1, m2⟩ := c.cn y k h4
      have ha := okA as (lk := lk) c h9
      obtain ⟨s1, s2⟩ := all_star h9
      cases ys with
      | nil => cases h8
      | cons z ys => exact b_cmet c.wd hx (c.gl h2) m1 (okNm_is h3).1 h5 h6 h7 ha s1
    · cases h
  | eqm f a b =>
    unfold ckE at h
    split at h
    · simp only [Bool.and_eq_true, decide_eq_true_eq, Bool.not_eq_true'] at h
      exact b_eqm c.wd (by rw [c.fl]; exact h.1.1.1) h.1.1.2 (okE a c h.1.2) (okE b c h.2)
    · cases h
  | bi b as =>
    unfold ckE at h
    split at h
    · rename_i y p ys pos
      split at h
      · split at h
        · simp only [Bool.and_eq_true, decide_eq_true_eq] at h
          obtain ⟨⟨⟨⟨⟨h1, h2⟩, h3⟩, h4⟩, h5⟩, h6⟩ := h
          subst h1
          subst h2
          exact b_lenset c.good.calm (c.gl h3) (c.blt _ (by decide)) (c.gl h4) (c.blt _ (by decide)) (okA as c h6) h5
        · cases h
      · simp only [Bool.and_eq_true, decide_eq_true_eq] at h
        obtain ⟨⟨⟨h1, h2⟩, h3⟩, h4⟩ := h
        have ha := okA as (lk := lk) c h4
        obtain ⟨s1, s2⟩ := all_star h4
        cases ys with
        | nil => cases h3
        | cons z ys => exact ok_bi c h2 h1 ha s1
    · cases h
  | bm m a as =>
    unfold ckE at h
    split at h
    · rename_i y nm apos ys pos
      simp only [Bool.and_eq_true, decide_eq_true_eq] at h
      obtain ⟨⟨⟨⟨⟨h0, h2⟩, h3⟩, h4⟩, h5⟩, h6⟩ := h
      subst h0
      have ha := okA as (lk := lk) c h6
      obtain ⟨s1, s2⟩ := all_star h6
      cases ys with
      | nil =>
        cases as with
        | nil => exact b_bm0 (ok_bm c m) (okE a c h5) h2 h4
        | cons a as => cases s2
      | cons z ys => exact b_bm (ok_bm c m) (okE a c h5) ha h2 s1 h3 h4
    · cases h
  | isi a t =>
    unfold ckE at h
    split at h
    · rename_i y p z w pos
      simp only [Bool.and_eq_true, decide_eq_true_eq] at h
      obtain ⟨⟨⟨⟨h1, h2⟩, h3⟩, h4⟩, h5⟩ := h
      subst h1
      obtain ⟨v, u, t1, t2, t3⟩ := ok_ty c h4
      exact b_isi c.wd c.isf t1 (c.gl h2) (c.blt _ (by decide)) (okE a c h5) t2 h3 t3
    · cases h
  | fst as =>
    unfold ckE at h
    split at h
    · exact b_fst (okF as c h)
    · cases h
  | itr a => unfold ckE at h; cases h
  | rg1 a => unfold ckE at h; cases h
  | rg2 a b => unfold ckE at h; cases h
  | enm a => unfold ckE at h; cases h
  | zip a b => unfold ckE at h; cases h
  | lc own p it cs elt =>
    unfold ckE at h
    split at h
    · simp only [Bool.and_eq_true] at h
      obtain ⟨⟨⟨⟨⟨⟨h1, h2⟩, h3⟩, h4⟩, h5⟩, h6⟩, h7⟩ := h
      have := b_lc (pos := ‹Pos›) (fuel := G.fuel) c.good (okI it (lk := lk) c h1) (blkOk_by h3) h4 (own_in h5) h2 (fun lk' s H C cl fp => okC cs (lk := lk') (c.blk s H C cl fp) h6) (fun lk' s H C cl fp => okE elt (lk := lk') (c.blk s H C cl fp) h7)
      rw [own_map] at this
      exact this
    · cases h
  | lc2 own p it p2 it2 cs elt =>
    unfold ckE at h
    split at h
    · simp only [Bool.and_eq_true] at h
      obtain ⟨⟨⟨⟨⟨⟨⟨⟨⟨⟨h1, h2⟩, h3⟩, h4⟩, h5⟩, a1⟩, a2⟩, a3⟩, a4⟩, h6⟩, h7⟩ := h
      have := b_lc2 (pos := ‹Pos›) (fuel := G.fuel) c.good (okI it (lk := lk) c h1) (blkOk_by h3) h4 (own_in h5) h2 (fun lk' s H C cl fp => okI it2 (lk := lk') (c.blk s H C cl fp) a1) a3 (own_in a4) a2
        (fun lk' s H C cl fp => okC cs (lk := lk') (c.blk s H C cl fp) h6) (fun lk' s H C cl fp => okE elt (lk := lk') (c.blk s H C cl fp) h7)
      rw [own_map] at this
      exact this
    · cases h
  | dc own p it cs k v =>
    unfold ckE at h
    split at h
    · simp only [Bool.and_eq_true] at h
      obtain ⟨⟨⟨⟨⟨⟨⟨h1, h2⟩, h3⟩, h4⟩, h5⟩, h6⟩, h7⟩, h8⟩ := h
      have := b_dc (pos := ‹Pos›) (fuel := G.fuel) c.good (okI it (lk := lk) c h1) (blkOk_by h3) h4 (own_in h5) h2 (fun lk' s H C cl fp => okC cs (lk := lk') (c.blk s H C cl fp) h6) (fun lk' s H C cl fp => okE k (lk := lk') (c.blk s H C cl fp) h7) (fun lk' s H C cl fp => okE v (lk := lk') (c.blk s H C cl fp) h8)
      rw [own_map] at this
      exact this
    · cases h
  | ssc own p it p2 it2 elt =>
    unfold ckE at h
    split at h
    · rename_i f np z tg y tg2 y2 scope pos cpos
      simp only [Bool.and_eq_true, decide_eq_true_eq] at h
      obtain ⟨⟨⟨⟨⟨⟨⟨⟨⟨⟨⟨h0, h00⟩, h1⟩, h2⟩, h3⟩, h4⟩, h5⟩, a1⟩, a2⟩, a3⟩, a4⟩, h7⟩ := h
      subst h0
      have := b_ssc (pos := pos) (cpos := cpos) (np := np) (fuel := G.fuel) c.good (c.gl h00) (c.blt _ (by decide)) (okI it (lk := lk) c h1) (blkOk_by h3) h4 (own_in h5) h2 (fun lk' s H C cl fp => okI it2 (lk := lk') (c.blk s H C cl fp) a1) a3 (own_in a4) a2
        (fun lk' s H C cl fp => okE elt (lk := lk') (c.blk s H C cl fp) h7)
      rw [own_map] at this
      exact this
    · cases h
termination_by structural e
theorem okA (es : List E) {sc ss : Scope} {X : Cx} {lk : List Nat} {ys : List PySem.Expr} (c : Cok n g G kk N sc ss X) (h : ckA n N es sc ys = true) : PA X ys (tAs g lk (fun ls C => evA G es lk ls C)) := by
  cases es with
  | nil =>
    unfold ckA at h
    split at h
    · exact as_nil
    · cases h
  | cons a as =>
    unfold ckA at h
    split at h
    · rw [Bool.and_eq_true, Bool.and_eq_true] at h
      exact as_cons (okE a c h.1.2) (okA as c h.2) (starEach_no h.1.1)
    · cases h
termination_by structural es
theorem okC (es : List E) {sc ss : Scope} {X : Cx} {lk : List Nat} {ys : List PySem.Expr} (c : Cok n g G kk N sc ss X) (h : ckC n N es sc ys = true) : PTs X ys (tT g lk (fun ls C => evC G es lk ls C)) := by
  cases es with
  | nil =>
    unfold ckC at h
    split at h
    · exact ts_nil
    · cases h
  | cons a as =>
    unfold ckC at h
    split at h
    · have := ts_one (okE a (lk := lk) c h)
      rw [show (fun ls C => evC G [a] lk ls C) = evT (fun ls C => evE G a lk ls C) from by
        funext ls C
        show ((evE G a lk ls C).bind fun x => (R.of (tru x.2 x.1)).bind fun k => if k then R.ok (true, x.2) else R.ok (false, x.2)) = _
        unfold evT
        congr 1
        funext x
        congr 1
        funext k
        cases k <;> rfl]
      exact this
    · cases h
termination_by structural es
theorem okL (es : List E) {sc ss : Scope} {X : Cx} {lk : List Nat} {ys : List PySem.Expr} (c : Cok n g G kk N sc ss X) (h : ckA n N es sc ys = true) : Paired (fun e y => PB X g lk y (fun ls C => evE G e lk ls C)) es ys := by
  cases es with
  | nil =>
    unfold ckA at h
    split at h
    · exact .nil
    · cases h
  | cons a as =>
    unfold ckA at h
    split at h
    · rw [Bool.and_eq_true, Bool.and_eq_true] at h
      exact .cons (okE a c h.1.2) (okL as c h.2)
    · cases h
termination_by structural es
theorem okF (es : List E) {sc ss : Scope} {X : Cx} {lk : List Nat} {ys : List PySem.Expr} (c : Cok n g G kk N sc ss X) (h : ckF n N es sc ys = true) : FP X g lk ys (fun ls C => evA G es lk ls C) := by
  cases es with
  | nil =>
    unfold ckF at h
    split at h
    · exact .nil
    · cases h
  | cons a as =>
    unfold ckF at h
    split at h
    · simp only [Bool.and_eq_true, decide_eq_true_eq] at h
      obtain ⟨⟨h1, h2⟩, h3⟩ := h
      subst h1
      exact .fmt (okE a c h2) (okF as c h3)
    · rw [Bool.and_eq_true] at h
      obtain ⟨h1, h2⟩ := h
      split at h1
      · rw [Bool.and_eq_true, decide_eq_true_eq, decide_eq_true_eq] at h1
        obtain ⟨h3, h4⟩ := h1
        subst h3
        exact .con h4 (okF as c h2)
      · cases h1
    · cases h
termination_by structural es
theorem okI (e : E) {sc ss : Scope} {X : Cx} {lk : List Nat} {tg x : PySem.Expr} (c : Cok n g G kk N sc ss X) (h : ckI n N e sc tg x = true) : PI X tg x (tIt g lk (fun ls C => evI G e lk ls C)) := by
  cases e with
  | itr a =>
    unfold ckI at h
    exact i_itr (okE a c h)
  | rg1 a =>
    unfold ckI at h
    split at h
    · simp only [Bool.and_eq_true, decide_eq_true_eq] at h
      obtain ⟨⟨⟨h1, h2⟩, h3⟩, h4⟩ := h
      subst h1
      exact i_rg1 (c.gl h2) (c.blt _ (by decide)) (okE a c h4) h3
    · cases h
  | rg2 a b =>
    unfold ckI at h
    split at h
    · simp only [Bool.and_eq_true, decide_eq_true_eq] at h
      obtain ⟨⟨⟨⟨⟨h1, h2⟩, h3⟩, h4⟩, h5⟩, h6⟩ := h
      subst h1
      exact i_rg2 (c.gl h2) (c.blt _ (by decide)) (okE a c h5) (okE b c h6) h3 h4
    · cases h
  | enm a =>
    unfold ckI at h
    split at h
    · simp only [Bool.and_eq_true, decide_eq_true_eq] at h
      obtain ⟨⟨⟨h1, h2⟩, h3⟩, h4⟩ := h
      subst h1
      exact i_enm (c.gl h2) (c.blt _ (by decide)) (okE a c h4) h3
    · cases h
  | zip a b =>
    unfold ckI at h
    split at h
    · simp only [Bool.and_eq_true, decide_eq_true_eq] at h
      obtain ⟨⟨⟨⟨⟨h1, h2⟩, h3⟩, h4⟩, h5⟩, h6⟩ := h
      subst h1
      exact i_zip (c.gl h2) (c.blt _ (by decide)) (okE a c h5) (okE b c h6) h3 h4
    · cases h
  | _ => unfold ckI at h; cases h
termination_by structural e
end
end
end Q

set_option Elab.async false
set_option linter.all false
set_option maxRecDepth 100000
set_option maxHeartbeats 8000000
/-! Statements of the text are those of Q. -/
namespace Q
noncomputable section
open PySem L2 PySem.Spec PyProof.Rows

/-! ### stores that are exchanged -/
def noComp : PySem.Expr → Bool
  | .ListComp _ _ _ _ => false
  | .SetComp _ _ _ _ => false
  | .DictComp _ _ _ _ _ => false
  | _ => true
theorem sw_no {v : PySem.Expr} {t : Option PySem.Expr} {l : Nat} {env : Env} (h : noComp v = true) : swapsWith v t l env = pure false := by
  cases v <;> first | rfl | cases h
theorem sw_sole {v t : PySem.Expr} {l : Nat} {env : Env} (h : noComp v = true) : swapsWithSole [t] v l env = pure false := sw_no h
def isNm : PySem.Expr → Bool
  | .Name _ _ => true
  | _ => false
theorem sw_other {v t : PySem.Expr} {l : Nat} {env : Env} (h : isNm t = false) : swapsWithSole [t] v l env = pure false := by
  show swapsWith v (some t) l env = pure false
  cases v <;> first | rfl | (cases t <;> first | rfl | cases h)
def isTp : PySem.Expr → Bool
  | .Tuple _ _ _ => true
  | _ => false
def isLs : PySem.Expr → Bool
  | .List _ _ => true
  | _ => false
theorem st_other {v t : PySem.Expr} {env : Env} (h : isTp t = false) (h2 : isLs t = false) : swappedStores [t] v env = pure none := by
  cases t <;> first | rfl | (exfalso; cases h; done) | (exfalso; cases h2; done)
theorem st_val {v : PySem.Expr} {ts : List PySem.Expr} {k : Nat} {p : Pos} {env : Env} (h : isTp v = false) : swappedStores [.Tuple ts k p] v env = pure none := by
  cases v <;> first | rfl | cases h
/-- a target that is a local name -/
def isLoc (sc : Scope) : PySem.Expr → Bool
  | .Name y _ => decide (sc.names.lookup y = some .local)
  | _ => false
theorem names_lt (q : PySem.Expr → Bool) (f : PySem.Expr → Option Str) (hf : ∀ e, q e = false → f e = none) : ∀ ts : List PySem.Expr, ts.any (fun t => !q t) = true → (ts.filterMap f).length < ts.length
  | [], h => by cases h
  | t :: ts, h => by
    rw [List.any_cons, Bool.or_eq_true] at h
    cases e : f t with
    | none =>
      rw [List.filterMap_cons_none e, List.length_cons]
      exact Nat.lt_succ_of_le (List.length_filterMap_le f ts)
    | some y =>
      rw [List.filterMap_cons_some e, List.length_cons, List.length_cons]
      refine Nat.succ_lt_succ (names_lt q f hf ts ?_)
      rcases h with h | h
      · have := hf t (by simpa using h)
        rw [this] at e
        cases e
      · exact h
theorem st_mixed {vs ts : List PySem.Expr} {k k2 : Nat} {p p2 : Pos} {env : Env} {sc : Scope} (hsc : env.scope = sc) (h : ts.any (fun t => !isLoc sc t) = true) : swappedStores [.Tuple ts k p] (.Tuple vs k2 p2) env = pure none := by
  unfold swappedStores
  show (if _ then pure none else _) = _
  split
  · rfl
  · show (if _ then pure none else _) = _
    split
    · rfl
    · show (if _ then pure none else _) = _
      rw [if_pos]
      rw [Bool.or_eq_true]
      left
      rw [bne_iff_ne]
      refine Nat.ne_of_lt (names_lt (isLoc sc) _ (fun e he => ?_) ts h)
      cases e <;> first | rfl | skip
      rename_i y py
      have hk : env.kindOf y ≠ some .local := by
        show env.scope.names.lookup y ≠ _
        rw [hsc]
        exact of_decide_eq_false he
      show (if _ then _ else none) = none
      rw [if_neg]
      rw [Bool.and_eq_true, beq_iff_eq]
      exact fun z => hk z.1
theorem any_star {vs : List PySem.Expr} {f : PySem.Expr → Bool} (h : vs.all noStar = true) (hf : ∀ e, noStar e = true → f e = false) : ¬ vs.any f = true := fun hh => by
  rw [List.any_eq_true] at hh
  obtain ⟨e, he, q⟩ := hh
  have hn := List.all_eq_true.mp h e he
  rw [hf e hn] at q
  cases q
theorem dups2 {x y : Str} (h : x ≠ y) : ([x, y].eraseDups).length = 2 := by
  have hyx : ¬ y = x := fun z => h z.symm
  rw [List.eraseDups_cons]
  simp [hyx, List.eraseDups_cons]
theorem dups3 {x y z : Str} (h : x ≠ y) (h1 : x ≠ z) (h2 : y ≠ z) : ([x, y, z].eraseDups).length = 3 := by
  have hyx : ¬ y = x := fun z => h z.symm
  have hzx : ¬ z = x := fun z => h1 z.symm
  have hzy : ¬ z = y := fun z => h2 z.symm
  rw [List.eraseDups_cons]
  simp [hyx, hzx, List.eraseDups_cons, hzy]
theorem st_two {a b : PySem.Expr} {x y : Str} {k k2 : Nat} {px py p p2 : Pos} {env : Env} (hb : env.blockKind = .function) (hx : env.kindOf x = some .local) (hy : env.kindOf y = some .local) (hl : (py.line == px.line) = true) (hxy : x ≠ y) (ha : [a, b].all noStar = true)
    (hf : ([a, b].all (foldedForSure 8)) = false) (hc : ([a, b].all (constantsAlone 8)) = false) : swappedStores [.Tuple [.Name x px, .Name y py] k p] (.Tuple [a, b] k2 p2) env = pure (some [x, y]) := by
  have hl' : py.line = px.line := by simpa using hl
  have hd := dups2 hxy
  unfold swappedStores
  show (if _ then pure none else _) = _
  rw [if_neg (by rw [hb]; simp)]
  show (if _ then pure none else _) = _
  rw [if_neg (any_star ha fun e he => by cases e <;> first | rfl | cases he)]
  simp [hx, hy, hl', Expr.pos, hd, -List.all_cons, -List.all_nil]
  rw [if_neg (fun q => by simp [q.1, q.2] at hf), if_neg (fun q => by simp [q.1, q.2] at hc)]
theorem st_three {a b c : PySem.Expr} {x y z : Str} {k k2 : Nat} {px py pz p p2 : Pos} {env : Env} (hb : env.blockKind = .function) (hx : env.kindOf x = some .local) (hy : env.kindOf y = some .local) (hz : env.kindOf z = some .local) (hl : (py.line == px.line) = true) (hl2 : (pz.line == px.line) = true) (hxy : x ≠ y) (hxz : x ≠ z) (hyz : y ≠ z) (ha : [a, b, c].all noStar = true)
    (hf : ([a, b, c].all (foldedForSure 8)) = false) (hc : ([a, b, c].all (constantsAlone 8)) = false) : swappedStores [.Tuple [.Name x px, .Name y py, .Name z pz] k p] (.Tuple [a, b, c] k2 p2) env = pure (some [x, y, z]) := by
  have hl' : py.line = px.line := by simpa using hl
  have hl2' : pz.line = px.line := by simpa using hl2
  have hd := dups3 hxy hxz hyz
  unfold swappedStores
  show (if _ then pure none else _) = _
  rw [if_neg (by rw [hb]; simp)]
  show (if _ then pure none else _) = _
  rw [if_neg (any_star ha fun e he => by cases e <;> first | rfl | cases he)]
  simp [hx, hy, hz, hl', hl2', Expr.pos, hd, -List.all_cons, -List.all_nil]
  rw [if_neg (fun q => by simp [q.1, q.2.1, q.2.2] at hf), if_neg (fun q => by simp [q.1, q.2.1, q.2.2] at hc)]

/-! ### what is looked at -/
def ckT (n : Inf) (N : List Str) (sc : Scope) (t : T1) (x : PySem.Expr) : Bool := match t with
  | .one i => ckName N sc i x
  | .fld a f => match x with
    | .Attribute y m _ => decide (n.fld[f]? = some m) && ckE n N a sc y
    | _ => false
  | .sub a i => match x with
    | .Subscript y z _ => noSlice z && ckE n N a sc y && ckE n N i sc z
    | _ => false
def ckTs (n : Inf) (N : List Str) (sc : Scope) : List T1 → List PySem.Expr → Bool
  | [], [] => true
  | t :: ts, x :: xs => noStar x && ckT n N sc t x && ckTs n N sc ts xs
  | _, _ => false
def isFun (sc : Scope) : Bool := match sc.kind with
  | .function => true
  | _ => false
/-- name = a comprehension, the store within -/
def swB (sc : Scope) (y : Str) (py : Pos) (scope : Scope) (pos : Pos) : Bool := isFun sc && (py.line == pos.line) && !(scope.names.any fun (n, k) => n == y && (k == .local || k == .cell))
def ckLc (n : Inf) (N : List Str) (sc : Scope) (i : Nat) (e : E) (y : Str) (py : Pos) (v : PySem.Expr) : Bool := decide (N[i]? = some y) && decide (sc.names.lookup y = some .local) && (match e, v with
  | .lc _ _ _ _ _, .ListComp _ _ scope pos => swB sc y py scope pos && ckE n N e sc v
  | .lc2 _ _ _ _ _ _ _, .ListComp _ _ scope pos => swB sc y py scope pos && ckE n N e sc v
  | _, _ => false)
def ck2 (n : Inf) (N : List Str) (sc : Scope) (ts : List T1) (e : E) (tg v : PySem.Expr) : Bool := match ts, e, tg, v with
  | [.one i, .one j], .tup as, .Tuple [.Name x px, .Name y py] _ _, .Tuple [a, b] _ _ => isFun sc && decide (N[i]? = some x) && decide (N[j]? = some y) && decide (i ≠ j) && decide (sc.names.lookup x = some .local) && decide (sc.names.lookup y = some .local) && (py.line == px.line) && decide (x ≠ y) &&
      [a, b].all noStar && !([a, b].all (foldedForSure 8)) && !([a, b].all (constantsAlone 8)) && ckA n N as sc [a, b]
  | [.one i, .one j, .one l], .tup as, .Tuple [.Name x px, .Name y py, .Name z pz] _ _, .Tuple [a, b, c] _ _ => isFun sc && decide (N[i]? = some x) && decide (N[j]? = some y) && decide (N[l]? = some z) && decide (i ≠ j) && decide (i ≠ l) && decide (j ≠ l) &&
      decide (sc.names.lookup x = some .local) && decide (sc.names.lookup y = some .local) && decide (sc.names.lookup z = some .local) && (py.line == px.line) && (pz.line == px.line) && decide (x ≠ y) && decide (x ≠ z) && decide (y ≠ z) &&
      [a, b, c].all noStar && !([a, b, c].all (foldedForSure 8)) && !([a, b, c].all (constantsAlone 8)) && ckA n N as sc [a, b, c]
  | _, _, _, _ => false
/-- a body that is never come to -/
def onlyRse (s : S) (r : List S) : Bool := match s, r with
  | .rse, [] => true
  | _, _ => false
mutual
def ckS (n : Inf) (N : List Str) (sc : Scope) : S → Stmt → Bool
  | .asg t e, st => match st with
    | .Assign [.Name y py] v _ => (noComp v && ckT n N sc t (.Name y py) && ckE n N e sc v) || (match t with | .one i => ckLc n N sc i e y py v | _ => false)
    | .Assign [tg] v _ => !isNm tg && !isTp tg && !isLs tg && noStar tg && ckT n N sc t tg && ckE n N e sc v
    | _ => false
  | .asm ts e, st => match st with
    | .Assign [tg] v _ => ck2 n N sc ts e tg v || (match tg with | .Tuple tgs _ _ => (!isTp v || tgs.any (fun t => !isLoc sc t)) && ckTs n N sc ts tgs && ckE n N e sc v | _ => false)
    | _ => false
  | .exp e, st => match st with
    | .Expr v _ => noComp v && ckE n N e sc v
    | _ => false
  | .ret e, st => match st with
    | .Return (some v) _ => ckE n N e sc v
    | _ => false
  | .rtn, st => match st with
    | .Return none _ => true
    | _ => false
  | .ifs c a b, st => match st with
    | .If t x y _ => ckE n N c sc t && ckSs n N sc a x && ckSs n N sc b y
    | _ => false
  | .whl c b, st => match st with
    | .While t x [] _ => ckE n N c sc t && ckSs n N sc b x
    | _ => false
  | .fro p it b, st => match st with
    | .For tg y x [] _ => ckI n N it sc tg y && noSet y && ckP N sc p tg && ckSs n N sc b x
    | _ => false
  | .pas, st => match st with
    | .Pass _ => true
    | _ => false
  | .brk, st => match st with
    | .Break _ => true
    | _ => false
  | .cnt, st => match st with
    | .Continue _ => true
    | _ => false
  | .rse, _ => true
termination_by structural s => s
def ckSs (n : Inf) (N : List Str) (sc : Scope) : List S → List Stmt → Bool
  | [], st => match st with
    | [] => true
    | _ => false
  | s :: r, st => match st with
    | x :: y => onlyRse s r || (ckS n N sc s x && ckSs n N sc r y)
    | _ => false
termination_by structural s => s
end
end
end Q

set_option Elab.async false
set_option linter.all false
set_option maxRecDepth 100000
set_option maxHeartbeats 8000000
/-! What is looked at is enough: statements. -/
namespace Q
noncomputable section
open PySem L2 PySem.Spec PyProof.Rows

variable {n : Inf} {g : Stg} {G : Gam} {kk : Nat} {N : List Str} {sc : Scope} {X : Cx} {lk : List Nat}
theorem okT (c : Cok n g G kk N sc sc X) {t : T1} {x : PySem.Expr} (h : ckT n N sc t x = true) : PG X x (tTg g lk fun d ls C => putT G t d lk ls C) := by
  cases t with
  | one i => exact g_one c.good h
  | fld a f =>
    unfold ckT at h
    dsimp only at h
    split at h
    · rw [Bool.and_eq_true, decide_eq_true_eq] at h
      exact g_fld c.wd (by rw [c.fl]; exact h.1) (okE a c h.2)
    · cases h
  | sub a i =>
    unfold ckT at h
    dsimp only at h
    split at h
    · rw [Bool.and_eq_true, Bool.and_eq_true] at h
      exact g_sub c.hu (okE a c h.1.2) (okE i c h.2) h.1.1
    · cases h
def tvs (G : Gam) (lk : List Nat) (ts : List T1) : List EvT := ts.map fun t => fun d ls C => putT G t d lk ls C
theorem putTs_is (G : Gam) (lk : List Nat) : ∀ (ts : List T1) (ds : List D) (ls : Sl) (C : Hq), putTs G ts ds lk ls C = evTs (tvs G lk ts) ds ls C
  | [], [], _, _ => rfl
  | [], _ :: _, _, _ => rfl
  | _ :: _, [], _, _ => rfl
  | t :: ts, d :: ds, ls, C => by
    show ((putT G t d lk ls C).bind fun r => putTs G ts ds lk r.1 r.2) = ((putT G t d lk ls C).bind fun r => evTs (tvs G lk ts) ds r.1 r.2)
    congr 1
    funext r
    exact putTs_is G lk ts ds r.1 r.2
theorem okTs (c : Cok n g G kk N sc sc X) : ∀ {ts : List T1} {xs : List PySem.Expr}, ckTs n N sc ts xs = true → PGs X xs (tTgs g lk (tvs G lk ts)) ∧ xs.length = (tvs G lk ts).length ∧ xs.all noStar = true
  | [], [], _ => ⟨gs_nil, rfl, rfl⟩
  | [], _ :: _, h => by cases h
  | _ :: _, [], h => by cases h
  | t :: ts, x :: xs, h => by
    have h : (noStar x && ckT n N sc t x && ckTs n N sc ts xs) = true := h
    rw [Bool.and_eq_true, Bool.and_eq_true] at h
    obtain ⟨h1, h2, h3⟩ := okTs c h.2
    refine ⟨gs_cons (okT c h.1.2) h1 h.1.1, ?_, by rw [List.all_cons, h.1.1, h3]; rfl⟩
    show xs.length + 1 = (tvs G lk ts).length + 1
    rw [h2]
theorem asm_is (G : Gam) (lk : List Nat) (ts : List T1) (e : E) : (fun ls C => evS G (.asm ts e) lk ls C) = evAsm (tvs G lk ts) (fun ls C => evE G e lk ls C) := by
  funext ls C
  show ((evE G e lk ls C).bind fun x => match x.1 with | .tup ds => (putTs G ts ds lk ls x.2).bind fun r => R.ok (Fl.nx, r.1, r.2) | _ => R.no) = _
  unfold evAsm
  congr 1
  funext x
  obtain ⟨d, C1⟩ := x
  cases d with
  | tup ds =>
    show (putTs G ts ds lk ls C1).bind _ = (evTs (tvs G lk ts) ds ls C1).bind _
    rw [putTs_is]
  | _ => rfl
theorem ok2 (c : Cok n g G kk N sc sc X) {ts : List T1} {e : E} {tg v : PySem.Expr} {pos : Pos} (h : ck2 n N sc ts e tg v = true) : PS X (.Assign [tg] v pos) (tS g lk (fun ls C => evS G (.asm ts e) lk ls C)) := by
  have hbk : isFun sc = true → X.env.blockKind = .function := fun h => by
    unfold isFun at h
    split at h
    · rename_i q
      unfold Env.blockKind
      rw [c.good.hsc, q]
      rfl
    · cases h
  have hk : ∀ y, sc.names.lookup y = some .local → X.env.kindOf y = some .local := fun y hy => by
    show X.env.scope.names.lookup y = _
    rw [c.good.hsc]
    exact hy
  rw [asm_is]
  unfold ck2 at h
  split at h
  · simp only [Bool.and_eq_true, decide_eq_true_eq, Bool.not_eq_true'] at h
    obtain ⟨⟨⟨⟨⟨⟨⟨⟨⟨⟨⟨h0, h1⟩, h2⟩, h3⟩, h4⟩, h5⟩, h6⟩, h7⟩, h8⟩, h9⟩, h10⟩, h11⟩ := h
    exact s_par2 c.good h1 h2 h3 h4 h5 (okA _ c h11) (st_two (hbk h0) (hk _ h4) (hk _ h5) h6 h7 h8 h9 h10)
  · simp only [Bool.and_eq_true, decide_eq_true_eq, Bool.not_eq_true'] at h
    obtain ⟨⟨⟨⟨⟨⟨⟨⟨⟨⟨⟨⟨⟨⟨⟨⟨⟨⟨h0, h1⟩, h2⟩, h3⟩, h4⟩, h5⟩, h6⟩, h7⟩, h8⟩, h9⟩, h10⟩, h11⟩, h12⟩, h13⟩, h14⟩, h15⟩, h16⟩, h17⟩, h18⟩ := h
    exact s_par3 c.good h1 h2 h3 h4 h5 h6 h7 h8 h9 (okA _ c h18) (st_three (hbk h0) (hk _ h7) (hk _ h8) (hk _ h9) h10 h11 h12 h13 h14 h15 h16 h17)
  · cases h
theorem okLc (c : Cok n g G kk N sc sc X) {i : Nat} {e : E} {y : Str} {py : Pos} {v : PySem.Expr} {pos : Pos} (h : ckLc n N sc i e y py v = true) : PS X (.Assign [.Name y py] v pos) (tS g lk (fun ls C => evS G (.asg (.one i) e) lk ls C)) := by
  unfold ckLc at h
  rw [Bool.and_eq_true, Bool.and_eq_true, decide_eq_true_eq, decide_eq_true_eq] at h
  obtain ⟨⟨h1, h2⟩, h3⟩ := h
  have hsw : ∀ {elt : PySem.Expr} {gs : List Comprehension} {scope : Scope} {p : Pos}, swB sc y py scope p = true → swapsWith (.ListComp elt gs scope p) (some (.Name y py)) pos.line X.env = pure true := fun {elt gs scope p} q => by
    unfold swB isFun at q
    simp only [Bool.and_eq_true, Bool.not_eq_true'] at q
    obtain ⟨⟨q1, q2⟩, q3⟩ := q
    refine sw_true ?_ (by rw [c.good.hsc]; exact h2) q2 q3
    split at q1
    · rename_i z
      rw [c.good.hsc]
      exact z
    · cases q1
  split at h3
  · rename_i own p it cs elt z gs scope p2
    rw [Bool.and_eq_true] at h3
    obtain ⟨hs, h⟩ := h3
    unfold ckE at h
    split at h
    · rename_i hz
      cases hz
      simp only [Bool.and_eq_true] at h
      obtain ⟨⟨⟨⟨⟨⟨k1, k2⟩, k3⟩, k4⟩, k5⟩, k6⟩, k7⟩ := h
      have := s_lc (spos := pos) (py := py) (fuel := G.fuel) c.good (okI it (lk := lk) c k1) (blkOk_by k3) k4 (own_in k5) k2 (fun lk' s H C cl fp => okC cs (lk := lk') (c.blk s H C cl fp) k6) (fun lk' s H C cl fp => okE elt (lk := lk') (c.blk s H C cl fp) k7) h1 h2 (hsw hs)
      rw [own_map] at this
      exact this
    · cases h
  · rename_i own p it pp it2 cs elt z gs scope p2
    rw [Bool.and_eq_true] at h3
    obtain ⟨hs, h⟩ := h3
    unfold ckE at h
    split at h
    · rename_i hz
      cases hz
      simp only [Bool.and_eq_true] at h
      obtain ⟨⟨⟨⟨⟨⟨⟨⟨⟨⟨k1, k2⟩, k3⟩, k4⟩, k5⟩, a1⟩, a2⟩, a3⟩, a4⟩, k6⟩, k7⟩ := h
      have := s_lc2 (spos := pos) (py := py) (fuel := G.fuel) c.good (okI it (lk := lk) c k1) (blkOk_by k3) k4 (own_in k5) k2 (fun lk' s H C cl fp => okI it2 (lk := lk') (c.blk s H C cl fp) a1) a3 (own_in a4) a2
        (fun lk' s H C cl fp => okC cs (lk := lk') (c.blk s H C cl fp) k6) (fun lk' s H C cl fp => okE elt (lk := lk') (c.blk s H C cl fp) k7) h1 h2 (hsw hs)
      rw [own_map] at this
      exact this
    · cases h
  · cases h3
mutual
theorem okS (s : S) {lk : List Nat} {st : Stmt} (hx : PassesOwn (model X.prog X.w) X.A X.env X.xe) (c : Cok n g G kk N sc sc X) (h : ckS n N sc s st = true) : PS X st (tS g lk (fun ls C => evS G s lk ls C)) := by
  cases s with
  | asg t e =>
    unfold ckS at h
    split at h
    · rw [Bool.or_eq_true] at h
      rcases h with h | h
      · rw [Bool.and_eq_true, Bool.and_eq_true] at h
        exact s_asg (okE e c h.2) (okT c h.1.2) (sw_sole h.1.1) rfl rfl
      · split at h
        · exact okLc c h
        · cases h
    · simp only [Bool.and_eq_true, Bool.not_eq_true'] at h
      obtain ⟨⟨⟨⟨⟨h1, h2⟩, h3⟩, h4⟩, h5⟩, h6⟩ := h
      exact s_asg (okE e c h6) (okT c h5) (sw_other h1) (st_other h2 h3) h4
    · cases h
  | asm ts e =>
    unfold ckS at h
    split at h
    · rename_i tg v pos
      rw [Bool.or_eq_true] at h
      rcases h with h | h
      · exact ok2 c h
      · split at h
        · rename_i tgs k p
          rw [Bool.and_eq_true, Bool.and_eq_true, Bool.or_eq_true, Bool.not_eq_true'] at h
          obtain ⟨⟨h1, h2⟩, h3⟩ := h
          obtain ⟨g1, g2, g3⟩ := okTs (lk := lk) c h2
          rw [asm_is]
          refine s_asm c.good (okE e c h3) g1 g2 (sw_other rfl) ?_ g3
          cases hv : isTp v with
          | false => exact st_val hv
          | true =>
            rcases h1 with h1 | h1
            · rw [hv] at h1
              cases h1
            · cases v <;> first | (exfalso; cases hv; done) | exact st_mixed c.good.hsc h1
        · cases h
    · cases h
  | exp e =>
    unfold ckS at h
    split at h
    · rw [Bool.and_eq_true] at h
      exact s_exp (okE e c h.2) (sw_no h.1)
    · cases h
  | ret e =>
    unfold ckS at h
    split at h
    · exact s_ret (okE e c h)
    · cases h
  | rtn =>
    unfold ckS at h
    split at h
    · exact s_rtn
    · cases h
  | ifs t a b =>
    unfold ckS at h
    split at h
    · rw [Bool.and_eq_true, Bool.and_eq_true] at h
      exact s_ifs (okE t c h.1.1) (okSs a hx c h.1.2) (okSs b hx c h.2)
    · cases h
  | whl t b =>
    unfold ckS at h
    split at h
    · rw [Bool.and_eq_true] at h
      exact s_whl hx (okE t c h.1) (okSs b hx c h.2)
    · cases h
  | fro p it b =>
    unfold ckS at h
    split at h
    · rw [Bool.and_eq_true, Bool.and_eq_true, Bool.and_eq_true] at h
      exact s_for (fuel := G.fuel) (body := fun lk' ls C => evSs G b lk' ls C) c.good hx (okI it (lk := lk) c h.1.1.1) h.1.2 (fun lk' => okSs b (lk := lk') hx c h.2) (fold_no h.1.1.2 X.env)
    · cases h
  | pas =>
    unfold ckS at h
    split at h
    · exact s_pas
    · cases h
  | brk =>
    unfold ckS at h
    split at h
    · exact s_brk
    · cases h
  | cnt =>
    unfold ckS at h
    split at h
    · exact s_cnt
    · cases h
  | rse => exact s_no
termination_by structural s
theorem okSs (ss : List S) {lk : List Nat} {st : List Stmt} (hx : PassesOwn (model X.prog X.w) X.A X.env X.xe) (c : Cok n g G kk N sc sc X) (h : ckSs n N sc ss st = true) : PSs X st (tS g lk (fun ls C => evSs G ss lk ls C)) := by
  cases ss with
  | nil =>
    unfold ckSs at h
    split at h
    · exact s_nil
    · cases h
  | cons s r =>
    have key : ∀ {x : Stmt} {y : List Stmt}, ckS n N sc s x = true → ckSs n N sc r y = true → PSs X (x :: y) (tS g lk (fun ls C => evSs G (s :: r) lk ls C)) := fun h1 h2 => s_cons (okS s hx c h1) (okSs r hx c h2)
    unfold ckSs at h
    split at h
    · rw [Bool.or_eq_true, Bool.and_eq_true] at h
      rcases h with h | h
      · cases s <;> first | (exfalso; cases h; done) | skip
        cases r with
        | cons a b => cases h
        | nil =>
          exact ⟨fun pins s σ H D' I q => by
            obtain ⟨m, C, ls, fl, ls', C', hd, sl, e0, k⟩ := q
            cases (show (R.no : R (Fl × Sl × Hq)) = .ok (fl, ls', C') from e0)⟩
      · exact key h.1 h.2
    · cases h
termination_by structural ss
end
end
end Q

set_option Elab.async false
set_option linter.all false
set_option maxRecDepth 100000
set_option maxHeartbeats 4000000
/-! Defs: each keeps what the reckoning says of it, level by level. -/
namespace Q
noncomputable section
open PySem L2 PySem.Spec PyProof.Rows

/-- what is known of the module behind its top -/
structure Wk (n : Inf) (g : Stg) (P : Prog) (K : PySem.W.Frag) (mg : Str → Option Value) (ks : Nat → List Str) : Prop where
  cls : ∀ c cl, P.cls.get c = some cl → Cls K (g.cad c)
  make_ : ∀ c cl fn, P.cls.get c = some cl → P.fns.get cl.init = some fn → Mk K (g.cad c) (g.fad cl.init)
  no : ∀ c cl f x, P.cls.get c = some cl → g.fld[f]? = some x → noAt cl f = true → NoAttr K (g.cad c) x
  meth : ∀ c cl m x f fn, P.cls.get c = some cl → g.fld[m]? = some x → getN cl.meths m = some f → P.fns.get f = some fn → Meth K (g.cad c) x (g.fad f)
  prop : ∀ c cl m x f, P.cls.get c = some cl → g.fld[m]? = some x → getN cl.props m = some f → ∃ p, PropOf K (g.cad c) x p (g.fad f)
  nd : g.fld.Nodup
  isf : ∀ G : Gam, (∀ c, G.cls c = P.cls.get c) → IsF g G K
  cl : n.cls = fun c => P.cls.get c
  fl : g.fld = n.fld
  fn : ∀ x f, n.fnm.lookup x = some f → mg x = some (.ref (g.fad f)) ∧ PySem.W.keepIn K (.ref (g.fad f)) = true
  cn : ∀ x c, n.cnm.lookup x = some c → mg x = some (.ref (g.cad c)) ∧ PySem.W.keepIn K (.ref (g.cad c)) = true
  con : ∀ x d, n.con.lookup x = some d → ∃ v u, mg x = some u ∧ RelV v u ∧ Flat d v
  blt : ∀ x ∈ bltN, mg x = none
  kwl : g.kw = n.kw
  cm : ∀ c cl m x f fn, P.cls.get c = some cl → g.fld[m]? = some x → getN cl.cmets m = some f → P.cms.get f = some fn → CmOk K (g.cad c) (g.fad f) x
  kws : ∀ c cl m x f k, P.cls.get c = some cl → g.fld[m]? = some x → getN cl.meths m = some f → (x, k) ∈ g.kw → k ∈ ks f

inductive Flats : List D → List V → Prop where
  | nil : Flats [] []
  | cons {d : D} {v : V} {ds : List D} {vs : List V} (h : Flat d v) (r : Flats ds vs) : Flats (d :: ds) (v :: vs)
theorem Flats.reps {H : L2.Hp} {m : List Addr} : ∀ {ds : List D} {vs : List V}, Flats ds vs → Reps H m ds vs
  | _, _, .nil => .nil
  | _, _, .cons h r => .cons (h H m) r.reps
/-- how its arguments are bound -/
structure BindF (K : PySem.W.Frag) (fd : FuncData) (ps : List Str) (fn : Fn) : Prop where
  np : ps.length = fn.np
  b0 : Binds K fd ps []
  b1 : ∃ ds dvs, Vals dvs ds ∧ Binds K fd ps ds ∧ Flats fn.dfl dvs
/-- def f(a, .., *v) -/
structure BindS (fn : Fn) (ps : List Str) (pv : Str) (fd : FuncData) : Prop where
  np : ps.length = fn.np
  b : ∀ us rest : List Value, us.length = ps.length → bindArgs fd ⟨us ++ rest, []⟩ = (newTuple rest >>= fun t => pure (ps.zip us ++ [(pv, t)]))
/-- .. called by self and the name k -/
def BindK (K : PySem.W.Frag) (fd : FuncData) (ps : List Str) (k : Str) : Prop := ps.length = 2 ∧ ∀ (s : Shared) (u u2 : Value), K.In s.heap → BindsTo s fd ⟨[u], [(k, u2)]⟩ (ps.zip [u, u2])
/-- a classmethod of the module -/
def DefOkC (n : Inf) (K : PySem.W.Frag) (f : Addr) (fn : Fn) : Prop := ∃ (x qual : Str) (params : Arguments) (body : List Stmt) (scope : Scope) (dvs : List V) (fd : FuncData) (N ps : List Str),
  FunD K x qual params body scope dvs [] f fd ∧ FnScope N ps scope ∧ N.length = fn.ns ∧ ckSs n N scope fn.body body = true ∧ ps.length = fn.np + 1 ∧ Binds K fd ps []
/-- a def of the module -/
def DefOk (n : Inf) (K : PySem.W.Frag) (f : Addr) (fn : Fn) (ks : List Str) : Prop := ∃ (x qual : Str) (params : Arguments) (body : List Stmt) (scope : Scope) (dvs : List V) (fd : FuncData) (N ps : List Str),
  FunD K x qual params body scope dvs [] f fd ∧ FnScope N ps scope ∧ N.length = fn.ns ∧ ckSs n N scope fn.body body = true ∧
  ((fn.va = false ∧ BindF K fd ps fn ∧ ∀ k ∈ ks, BindK K fd ps k) ∨ (fn.va = true ∧ ks = [] ∧ ∃ ps' pv, ps = ps' ++ [pv] ∧ BindS fn ps' pv fd))

section
variable {n : Inf} {g : Stg} {P : Prog} {fuel : Nat} {Pg : Program} {w : World} {K : PySem.W.Frag} {mg : Str → Option Value} {base : Heap} {ks : Nat → List Str}
/-- the promise by bound values -/
def spB (g : Stg) (G : Gam) (fn : Fn) (np : Nat) : Sp := fun vs H Q _ => ∃ lk m C bs d C', Held g lk m C H ∧ Reps H m bs vs ∧ vs.length = np ∧ ends (evSs G fn.body lk (bs.map some ++ List.replicate (fn.ns - bs.length) none) C) = .ok (d, C') ∧
  ∀ v m' H', Step m H m' H' → Held g lk m' C' H' → Rep H' m' d v → Q v H'
theorem slt_start {H : L2.Hp} {m : List Addr} {bs : List D} {vs : List V} {N : List Str} (r : Reps H m bs vs) : Slt H m (bs.map some ++ List.replicate (N.length - bs.length) none) (L2.start N vs) := by
  have hl := r.length
  unfold L2.start
  refine ⟨by simp [hl], fun i d e => ?_⟩
  by_cases hi : i < bs.length
  · rw [List.getElem?_append_left (by simpa using hi), List.getElem?_map] at e
    cases q : bs[i]? with
    | none => rw [q] at e; cases e
    | some d' =>
      rw [q] at e
      cases e
      obtain ⟨v, h1, h2⟩ := r.get q
      refine ⟨v, ?_, h2⟩
      rw [List.getElem?_append_left (by simpa [← hl] using hi), List.getElem?_map, h1]
      rfl
  · rw [List.getElem?_append_right (by simpa using hi), List.getElem?_replicate] at e
    split at e <;> cases e
theorem ends_ok {r : R (Fl × Sl × Hq)} {d : D} {C : Hq} (h : ends r = .ok (d, C)) : ∃ ls, (r = .ok (.nx, ls, C) ∧ d = .non) ∨ r = .ok (.rt d, ls, C) := by
  cases r with
  | no => cases h
  | ex c fs C' => cases h
  | ok x =>
    obtain ⟨fl, ls, C'⟩ := x
    cases fl with
    | nx => cases h; exact ⟨ls, .inl ⟨rfl, rfl⟩⟩
    | rt e => cases h; exact ⟨ls, .inr rfl⟩
    | bk => cases h
    | ct => cases h
theorem wd_of (W : Wk n g P K mg ks) {lv kk : Nat} {X : Cx} (hK : X.K = K) (hm : X.mg = mg) (hr : Room (kk + 1) X.A) (F : ∀ i, FnR X.prog X.w X.K X.mg X.base CX0 kk (g.fad i) (spF g ((run P fuel lv).fn i)))
    (FC : ∀ i, FnR X.prog X.w X.K X.mg X.base CX0 kk (g.fad i) (spC g ((run P fuel lv).cfn i))) (FK : ∀ i, ∀ k ∈ ks i, KwR X.prog X.w X.K X.mg X.base kk (g.fad i) k (spF g ((run P fuel lv).fn i))) : Wd g (run P fuel lv) kk X := by
  have hcls : ∀ c, (run P fuel lv).cls c = P.cls.get c := fun c => by cases lv <;> rfl
  have hfn : ∀ {f : Nat}, (∃ lk as C r, (run P fuel lv).fn f lk as C = .ok r) → ∃ fn, P.fns.get f = some fn := by
    rintro f ⟨lk, as, C, r, e⟩
    cases lv with
    | zero => cases e
    | succ lv =>
      obtain ⟨fn, e1, _⟩ := R.bind_eq_ok (show (R.of (P.fns.get f)).bind _ = .ok r from e)
      exact ⟨fn, R.of_eq_ok e1⟩
  have hcf : ∀ {f : Nat}, (∃ lk as C r, (run P fuel lv).cfn f lk as C = .ok r) → ∃ fn, P.cms.get f = some fn := by
    rintro f ⟨lk, as, C, r, e⟩
    cases lv with
    | zero => cases e
    | succ lv =>
      obtain ⟨fn, e1, _⟩ := R.bind_eq_ok (show (R.of (P.cms.get f)).bind _ = .ok r from e)
      exact ⟨fn, R.of_eq_ok e1⟩
  subst hK
  refine ⟨hr, F, ?_, ?_, ?_, ?_, ?_, W.nd, FC, ?_, ?_⟩
  · intro c cl h
    rw [hcls] at h
    exact W.cls c cl h
  · intro c cl h h2
    rw [hcls] at h
    obtain ⟨fn, h3⟩ := hfn h2
    exact W.make_ c cl fn h h3
  · intro c cl f x h
    rw [hcls] at h
    exact W.no c cl f x h
  · intro c cl m x f h h1 h2 h3
    rw [hcls] at h
    obtain ⟨fn, h3⟩ := hfn h3
    exact W.meth c cl m x f fn h h1 h2 h3
  · intro c cl m x f h
    rw [hcls] at h
    exact W.prop c cl m x f h
  · intro c cl m x f h h1 h2 h3
    rw [hcls] at h
    obtain ⟨fn, h4⟩ := hcf h3
    exact W.cm c cl m x f fn h h1 h2 h4
  · intro c cl m x f k h h1 h2 h3
    rw [hcls] at h
    exact FK f k (W.kws c cl m x f k h h1 h2 h3)
theorem cok_of (W : Wk n g P K mg ks) {lv kk : Nat} {X : Cx} {N : List Str} {sc : Scope} (hK : X.K = K) (hm : X.mg = mg) (gd : Good X N sc sc) (wd : Wd g (run P fuel lv) kk X) : Cok n g (run P fuel lv) kk N sc sc X := by
  have hcls : ∀ c, (run P fuel lv).cls c = P.cls.get c := fun c => by cases lv <;> rfl
  subst hK hm
  exact ⟨gd, wd, W.isf _ hcls, by rw [W.cl]; exact funext hcls, W.fl, W.fn, W.cn, W.con, W.blt, W.kwl⟩
/-- what a level keeps -/
structure Lv (g : Stg) (P : Prog) (fuel : Nat) (Pg : Program) (w : World) (K : PySem.W.Frag) (mg : Str → Option Value) (base : Heap) (ks : Nat → List Str) (kk lv : Nat) : Prop where
  f : ∀ i, FnR Pg w K mg base CX0 kk (g.fad i) (spF g ((run P fuel lv).fn i))
  c : ∀ i, FnR Pg w K mg base CX0 kk (g.fad i) (spC g ((run P fuel lv).cfn i))
  k : ∀ i, ∀ k ∈ ks i, KwR Pg w K mg base kk (g.fad i) k (spF g ((run P fuel lv).fn i))
/-- one def's body -/
theorem body_okL (W : Wk n g P K mg ks) {lv kk : Nat} (L : Lv g P fuel Pg w K mg base ks kk lv) {qual : Str} {body : List Stmt} {scope : Scope} {f : Addr} {fn : Fn} {N ps : List Str}
    (S : FnScope N ps scope) (hck : ckSs n N scope fn.body body = true) (cdv : Value) (A : Around) (outer : List Env) (s : Shared) (H : L2.Hp) (vs : List V) (Q : VK) (E : XK)
    (hr : Room (kk + 1) (A.deeper (envOfC qual scope s.heap.objs.size f cdv))) (h : ∃ lk m C sls d C', Held g lk m C H ∧ Slt H m sls (L2.start N vs) ∧ ends (evSs (run P fuel lv) fn.body lk sls C) = .ok (d, C') ∧ ∀ v m' H', Step m H m' H' → Held g lk m' C' H' → Rep H' m' d v → Q v H') :
    ∃ t, PSs (cxOf CX0 Pg w K mg base N qual scope f cdv A outer s H E) body t ∧ t { nx := fun _ H' => Q .non H', rt := Q } (L2.start N vs) H := by
  obtain ⟨lk, m, C, sls, d, C', hd, sl, e, k⟩ := h
  have gd : Good (cxOf CX0 Pg w K mg base N qual scope f cdv A outer s H E) N scope scope := ⟨rfl, S.nd, rfl, rfl, fun x h => ⟨h, .inl rfl⟩⟩
  have c := cok_of (X := cxOf CX0 Pg w K mg base N qual scope f cdv A outer s H E) W rfl rfl gd (wd_of W rfl rfl hr L.f L.c L.k)
  refine ⟨tS g lk (fun ls C => evSs (run P fuel lv) fn.body lk ls C), okSs fn.body (passes_of rfl) c hck, ?_⟩
  obtain ⟨ls', e2⟩ := ends_ok e
  rcases e2 with ⟨e2, rfl⟩ | e2
  · exact ⟨m, C, _, _, ls', C', hd, sl, e2, fun m' H' σ' s1 d1 l1 => k _ m' H' s1 d1 Rep.non⟩
  · exact ⟨m, C, _, _, ls', C', hd, sl, e2, fun m' H' σ' s1 d1 l1 v r1 => k v m' H' s1 d1 r1⟩
theorem body_ok (W : Wk n g P K mg ks) {lv kk : Nat} (L : Lv g P fuel Pg w K mg base ks kk lv) {qual : Str} {body : List Stmt} {scope : Scope} {f : Addr} {fn : Fn} {N ps : List Str}
    (S : FnScope N ps scope) (hN : N.length = fn.ns) (hck : ckSs n N scope fn.body body = true) {np : Nat} (cdv : Value) (A : Around) (outer : List Env) (s : Shared) (H : L2.Hp) (vs : List V) (Q : VK) (E : XK)
    (hr : Room (kk + 1) (A.deeper (envOfC qual scope s.heap.objs.size f cdv))) (h : spB g (run P fuel lv) fn np vs H Q E) :
    ∃ t, PSs (cxOf CX0 Pg w K mg base N qual scope f cdv A outer s H E) body t ∧ t { nx := fun _ H' => Q .non H', rt := Q } (L2.start N vs) H := by
  obtain ⟨lk, m, C, bs, d, C', hd, r, hl, e, k⟩ := h
  rw [← hN] at e
  exact body_okL W L S hck cdv A outer s H vs Q E hr ⟨lk, m, C, _, d, C', hd, slt_start r, e, k⟩
theorem slt_cls {H : L2.Hp} {m : List Addr} {bs : List D} {x : V} {vs : List V} {N : List Str} (r : Reps H m bs vs) : Slt H m (none :: bs.map some ++ List.replicate (N.length - (bs.length + 1)) none) (L2.start N (x :: vs)) := by
  have h := slt_start (N := N.drop 1) r
  have hl := r.length
  have e : L2.start N (x :: vs) = some x :: L2.start (N.drop 1) vs := by
    unfold L2.start
    rw [List.map_cons, List.cons_append, List.length_cons, List.length_drop]
    congr 2
    congr 1
    omega
  rw [e, show N.length - (bs.length + 1) = (N.drop 1).length - bs.length by rw [List.length_drop]; omega]
  refine ⟨?_, fun i d q => ?_⟩
  · rw [List.cons_append, List.length_cons, List.length_cons, h.1]
  · cases i with
    | zero => cases q
    | succ i => exact h.2 i d q
/-- .. of a classmethod -/
def spBC (g : Stg) (G : Gam) (fn : Fn) (np : Nat) : Sp := fun vs H Q _ => ∃ x r lk m C bs d C', vs = x :: r ∧ Held g lk m C H ∧ Reps H m bs r ∧ vs.length = np ∧ ends (evSs G fn.body lk (none :: bs.map some ++ List.replicate (fn.ns - (bs.length + 1)) none) C) = .ok (d, C') ∧
  ∀ v m' H', Step m H m' H' → Held g lk m' C' H' → Rep H' m' d v → Q v H'
theorem cfn_lv (W : Wk n g P K mg ks) {lv kk : Nat} (L : Lv g P fuel Pg w K mg base ks kk lv) {i : Nat} {fn : Fn} (hi : P.cms.get i = some fn) (D : DefOkC n K (g.fad i) fn) : FnR Pg w K mg base CX0 (kk + 2) (g.fad i) (spC g ((run P fuel (lv + 1)).cfn i)) := by
  obtain ⟨x, qual, params, body, scope, dvs, fd, N, ps, FD, S, hN, hck, hnp, hb⟩ := D
  have OK : FnOk Pg w K mg base CX0 (kk + 2) (g.fad i) fd ps (spBC g (run P fuel lv) fn ps.length) := FD.ok S (fun vs H Q E h => by
    obtain ⟨_, _, _, _, _, _, _, _, _, _, _, hl, _⟩ := h
    exact hl) fun cdv A outer s H vs Q E hr h => by
      obtain ⟨x, r, lk, m, C, bs, d, C', rfl, hd, rr, hl, e, k⟩ := h
      rw [← hN] at e
      exact body_okL W L S hck cdv A outer s H _ Q E hr ⟨lk, m, C, _, d, C', hd, slt_cls rr, e, k⟩
  have F0 := OK.raw hb .nil
  intro A outer s H us vs Q E hr env rv h
  obtain ⟨x, r, rfl, lk, m, C, as, d, C', hd, ra, e, k⟩ := h
  have e : (R.of (P.cms.get i)).bind (fun fn => callC (run P fuel lv) fn lk as C) = .ok (d, C') := e
  rw [hi] at e
  have e : (if decide (as.length = fn.np) then ends (evSs (run P fuel lv) fn.body lk (none :: as.map some ++ List.replicate (fn.ns - (as.length + 1)) none) C) else .no) = .ok (d, C') := e
  split at e
  · rename_i hl
    rw [decide_eq_true_eq] at hl
    refine F0 A outer s H us (x :: r) Q E hr env rv ⟨x, r, lk, m, C, as, d, C', List.append_nil _, hd, ra, ?_, e, k⟩
    rw [List.append_nil, List.length_cons, ← ra.length, hl, hnp]
  · cases e
theorem reps_split {H : L2.Hp} {m : List Addr} : ∀ (k : Nat) {as : List D} {vs : List V}, Reps H m as vs → Reps H m (as.take k) (vs.take k) ∧ Reps H m (as.drop k) (vs.drop k) := fun k _ _ h => ⟨h.take k, h.drop k⟩
/-- a def's promise -/
theorem fn_lv (W : Wk n g P K mg ks) {lv kk : Nat} (L : Lv g P fuel Pg w K mg base ks kk lv) {i : Nat} {fn : Fn} (hi : P.fns.get i = some fn) (D : DefOk n K (g.fad i) fn (ks i)) : FnR Pg w K mg base CX0 (kk + 2) (g.fad i) (spF g ((run P fuel (lv + 1)).fn i)) := by
  obtain ⟨x, qual, params, body, scope, dvs, fd, N, ps, FD, S, hN, hck, hb⟩ := D
  have e0 : ∀ {lk : List Nat} {as : List D} {C : Hq} {r : D × Hq}, (run P fuel (lv + 1)).fn i lk as C = .ok r → ∃ bs, bindA fn as = some bs ∧ ends (evSs (run P fuel lv) fn.body lk (bs.map some ++ List.replicate (fn.ns - bs.length) none) C) = .ok r := fun {lk as C r} e => by
    have e : (R.of (P.fns.get i)).bind (fun fn => callF (run P fuel lv) fn lk as C) = .ok r := e
    rw [hi] at e
    obtain ⟨bs, e1, e2⟩ := R.bind_eq_ok (show (R.of (bindA fn as)).bind _ = .ok r from e)
    exact ⟨bs, R.of_eq_ok e1, e2⟩
  rcases hb with ⟨hv, B, _⟩ | ⟨hv, _, ps', pv, rfl, B⟩
  · have OK : FnOk Pg w K mg base CX0 (kk + 2) (g.fad i) fd ps (spB g (run P fuel lv) fn ps.length) := FD.ok S (fun vs H Q E h => by
      obtain ⟨_, _, _, _, _, _, _, _, hl, _⟩ := h
      exact hl) fun cdv A outer s H vs Q E hr h => body_ok W L S hN hck cdv A outer s H vs Q E hr h
    obtain ⟨ds, dvs', rd, bd, fl⟩ := B.b1
    have F0 := OK.raw B.b0 .nil
    have F1 := OK.raw bd rd
    intro A outer s H us vs Q E hr env r h
    obtain ⟨lk, m, C, as, d, C', hd, ra, e, k⟩ := h
    obtain ⟨bs, e1, e2⟩ := e0 e
    unfold bindA at e1
    rw [hv, if_neg (by decide)] at e1
    split at e1
    · rename_i hl
      cases e1
      refine F0 A outer s H us vs Q E hr env r ⟨lk, m, C, as, d, C', hd, by rw [List.append_nil]; exact ra, ?_, e2, k⟩
      rw [List.append_nil, ← ra.length, hl, B.np]
    · split at e1
      · rename_i hl
        cases e1
        refine F1 A outer s H us vs Q E hr env r ⟨lk, m, C, as ++ fn.dfl, d, C', hd, ra.app fl.reps, ?_, e2, k⟩
        rw [List.length_append, ← ra.length, ← fl.reps (H := H) (m := m) |>.length, hl, B.np]
      · cases e1
  · obtain ⟨oc, od, dV, kV, doc, pm, an, cdv, ct, osl, rfl, lk0, hcd, _, _⟩ := FD.ex
    have ST := StX.fn_star (P := Pg) (w := w) (mg := mg) (base := base) (k := kk + 1) (sp := spB g (run P fuel lv) fn (ps' ++ [pv]).length) lk0 hcd S StX.cxUp_none B.b fun A outer s H vs Q E hr h => body_ok W L S hN hck cdv A outer s H vs Q E hr h
    intro A outer s H us vs Q E hr env r h
    obtain ⟨lk, m, C, as, d, C', hd, ra, e, k⟩ := h
    obtain ⟨bs, e1, e2⟩ := e0 e
    unfold bindA at e1
    rw [hv, if_pos rfl] at e1
    split at e1
    · rename_i hl
      cases e1
      have hz1 : (vs.drop ps'.length).length ≤ 1000000 := by
        rw [List.length_drop, ← ra.length]
        omega
      have hz : (vs.drop ps'.length).length ≤ sizeLine := Nat.le_trans hz1 (by decide)
      refine ST A outer s H us vs Q E hr env r ⟨vs.take ps'.length, vs.drop ps'.length, (List.take_append_drop _ _).symm, ?_, hz, fun p hp => ?_⟩
      · rw [List.length_take, ← ra.length, B.np]
        omega
      · have st := step_new (o := HO.tup (vs.drop ps'.length)) hd hp
        have d2 := hd.new (o := HO.tup (vs.drop ps'.length)) hp
        have ra2 := ra.step st
        rw [B.np] at *
        refine ⟨lk, m, C, _, d, C', d2, (ra2.take fn.np).app (.cons (Rep.tup upd_same hz1 (ra2.drop fn.np)) .nil), ?_, e2, fun v m' H' s1 d1 r1 => k v m' H' (st.trans s1) d1 r1⟩
        rw [List.length_append, List.length_append, List.length_take, ← ra.length, B.np]
        simp
        omega
    · cases e1
theorem kfn_lv (W : Wk n g P K mg ks) {lv kk : Nat} (L : Lv g P fuel Pg w K mg base ks kk lv) {i : Nat} {fn : Fn} (hi : P.fns.get i = some fn) (D : DefOk n K (g.fad i) fn (ks i)) : ∀ k ∈ ks i, KwR Pg w K mg base (kk + 2) (g.fad i) k (spF g ((run P fuel (lv + 1)).fn i)) := by
  intro kn hk
  obtain ⟨x, qual, params, body, scope, dvs, fd, N, ps, FD, S, hN, hck, hb⟩ := D
  rcases hb with ⟨hv, B, BK⟩ | ⟨hv, h0, _⟩
  · obtain ⟨h2, hbk⟩ := BK kn hk
    have OK : FnOk Pg w K mg base CX0 (kk + 2) (g.fad i) fd ps (spB g (run P fuel lv) fn ps.length) := FD.ok S (fun vs H Q E h => by
      obtain ⟨_, _, _, _, _, _, _, _, hl, _⟩ := h
      exact hl) fun cdv A outer s H vs Q E hr h => body_ok W L S hN hck cdv A outer s H vs Q E hr h
    intro A outer s H u u2 vs Q E hr env r h
    obtain ⟨lk, m, C, as, d, C', hd, ra, e, k⟩ := h
    have e : (R.of (P.fns.get i)).bind (fun fn => callF (run P fuel lv) fn lk as C) = .ok (d, C') := e
    rw [hi] at e
    obtain ⟨bs, e1, e2⟩ := R.bind_eq_ok (show (R.of (bindA fn as)).bind _ = .ok (d, C') from e)
    have e1 := R.of_eq_ok e1
    have hl : as.length = fn.np := by
      rw [ra.length, r.length, ← B.np, h2]
      rfl
    unfold bindA at e1
    rw [hv, if_neg (by decide), if_pos hl] at e1
    cases e1
    refine OK.run A outer s H ⟨[u], [(kn, u2)]⟩ [u, u2] vs Q E hr env (hbk s u u2 (env.mod.kin.keeps fun b o e => (env.bs b o e).1)) r ⟨lk, m, C, as, d, C', hd, ra, ?_, e2, k⟩
    rw [r.length, h2]
    rfl
  · rw [h0] at hk
    cases hk
/-- every level -/
theorem all_lv (W : Wk n g P K mg ks) (D : ∀ i fn, P.fns.get i = some fn → DefOk n K (g.fad i) fn (ks i)) (DC : ∀ i fn, P.cms.get i = some fn → DefOkC n K (g.fad i) fn) : ∀ lv, Lv g P fuel Pg w K mg base ks (2 * lv) lv
  | 0 => by
    refine ⟨fun i A outer s H us vs Q E hr env r h => ?_, fun i A outer s H us vs Q E hr env r h => ?_, fun i k hk A outer s H u u2 vs Q E hr env r h => ?_⟩
    · obtain ⟨lk, m, C, as, d, C', hd, ra, e, k⟩ := h
      cases e
    · obtain ⟨_, _, _, lk, m, C, as, d, C', hd, ra, e, k⟩ := h
      cases e
    · obtain ⟨lk, m, C, as, d, C', hd, ra, e, k⟩ := h
      cases e
  | lv + 1 => by
    have L := all_lv W D DC lv
    refine ⟨fun i => ?_, fun i => ?_, fun i => ?_⟩
    · cases hi : P.fns.get i with
      | none =>
        intro A outer s H us vs Q E hr env r h
        obtain ⟨lk, m, C, as, d, C', hd, ra, e, k⟩ := h
        have e : (R.of (P.fns.get i)).bind (fun fn => callF (run P fuel lv) fn lk as C) = .ok (d, C') := e
        rw [hi] at e
        cases e
      | some fn => exact fn_lv W L hi (D i fn hi)
    · cases hi : P.cms.get i with
      | none =>
        intro A outer s H us vs Q E hr env r h
        obtain ⟨_, _, _, lk, m, C, as, d, C', hd, ra, e, k⟩ := h
        have e : (R.of (P.cms.get i)).bind (fun fn => callC (run P fuel lv) fn lk as C) = .ok (d, C') := e
        rw [hi] at e
        cases e
      | some fn => exact cfn_lv W L hi (DC i fn hi)
    · cases hi : P.fns.get i with
      | none =>
        intro k hk A outer s H u u2 vs Q E hr env r h
        obtain ⟨lk, m, C, as, d, C', hd, ra, e, k⟩ := h
        have e : (R.of (P.fns.get i)).bind (fun fn => callF (run P fuel lv) fn lk as C) = .ok (d, C') := e
        rw [hi] at e
        cases e
      | some fn => exact kfn_lv W L hi (D i fn hi)
end
end
end Q

set_option Elab.async false
set_option linter.all false
set_option maxRecDepth 100000
set_option maxHeartbeats 4000000
/-! Bodies in parts: between the parts all that is known may be told anew. -/
namespace Q
noncomputable section
open PySem L2 PySem.Spec PyProof.Rows

section
variable {n : Inf} {g : Stg} {G : Gam} {kk : Nat} {N : List Str} {sc : Scope} {X : Cx}
theorem cut_gen (hx : PassesOwn (model X.prog X.w) X.A X.env X.xe) (c : Cok n g G kk N sc sc X) (rest : List S) (T : TS) (hT : ∀ st, ckSs n N sc rest st = true → PSs X st T) :
    ∀ (xs : List S) (st : List Stmt), ckSs n N sc (xs ++ rest) st = true → PSs X st (fun D' σ H => tS g [] (fun ls C => evSs G xs [] ls C) { D' with nx := T D' } σ H)
  | [], st, h => pss_mono (hT st h) fun D' σ H q => by
    obtain ⟨m, C, ls, fl, ls', C', hd, sl, e, k⟩ := q
    cases e
    exact k m H σ (Step.refl _ _) hd sl
  | s :: xs, st, h => by
    have h : ckSs n N sc (s :: (xs ++ rest)) st = true := h
    have key : ∀ {x : Stmt} {y : List Stmt}, ckS n N sc s x = true → ckSs n N sc (xs ++ rest) y = true → PSs X (x :: y) (fun D' σ H => tS g [] (fun ls C => evSs G (s :: xs) [] ls C) { D' with nx := T D' } σ H) := fun {x y} h1 h2 =>
      pss_mono (pss_cons (okS (lk := []) s hx c h1) (cut_gen hx c rest T hT xs y h2)) fun D' σ H q => by
        obtain ⟨m, C, ls, fl, ls', C', hd, sl, e, k⟩ := q
        obtain ⟨⟨f1, ls1, C1⟩, e1, e2⟩ := R.bind_eq_ok e
        refine ⟨m, C, ls, f1, ls1, C1, hd, sl, e1, fun m1 H1 σ1 s1 d1 sl1 => ?_⟩
        cases f1 with
        | nx => exact ⟨m1, C1, ls1, fl, ls', C', d1, sl1, e2, fun m2 H2 σ2 s2 d2 sl2 => k m2 H2 σ2 (s1.trans s2) d2 sl2⟩
        | rt d => cases e2; exact k m1 H1 σ1 s1 d1 sl1
        | bk => cases e2; exact k m1 H1 σ1 s1 d1 sl1
        | ct => cases e2; exact k m1 H1 σ1 s1 d1 sl1
    unfold ckSs at h
    split at h
    · rw [Bool.or_eq_true, Bool.and_eq_true] at h
      rcases h with h | h
      · cases s <;> first | (exfalso; cases h; done) | skip
        exact ⟨fun pins t σ H D' I q => by
          obtain ⟨m, C, ls, fl, ls', C', hd, sl, e0, k⟩ := q
          cases (show (R.no : R (Fl × Sl × Hq)) = .ok (fl, ls', C') from e0)⟩
      · exact key h.1 h.2
    · cases h
/-- part by part -/
def cutsT (g : Stg) (G : Gam) : List (List S) → TS
  | [] => fun D' σ H => D'.nx σ H
  | p :: ps => fun D' σ H => tS g [] (fun ls C => evSs G p [] ls C) { D' with nx := cutsT g G ps D' } σ H
theorem cuts (hx : PassesOwn (model X.prog X.w) X.A X.env X.xe) (c : Cok n g G kk N sc sc X) : ∀ (ps : List (List S)) (st : List Stmt), ckSs n N sc ps.flatten st = true → PSs X st (cutsT g G ps)
  | [], st, h => by
    have h : ckSs n N sc [] st = true := h
    unfold ckSs at h
    split at h
    · exact pss_mono pss_nil fun _ _ _ q => q
    · cases h
  | p :: ps, st, h => cut_gen hx c ps.flatten (cutsT g G ps) (fun st h => cuts hx c ps st h) p st h
end

/-! ### any reckoning that the module keeps -/
section
variable {n : Inf} {g : Stg} {P : Prog} {G : Gam} {Pg : Program} {w : World} {K : PySem.W.Frag} {mg : Str → Option Value} {base : Heap} {ks : Nat → List Str}
/-- what is promised of G -/
structure Kept (g : Stg) (P : Prog) (G : Gam) (Pg : Program) (w : World) (K : PySem.W.Frag) (mg : Str → Option Value) (base : Heap) (ks : Nat → List Str) (kk : Nat) : Prop where
  cls : ∀ c, G.cls c = P.cls.get c
  isf : ∀ {f : Nat}, (∃ lk as C r, G.fn f lk as C = .ok r) → ∃ fn, P.fns.get f = some fn
  isc : ∀ {f : Nat}, (∃ lk as C r, G.cfn f lk as C = .ok r) → ∃ fn, P.cms.get f = some fn
  f : ∀ i, FnR Pg w K mg base CX0 kk (g.fad i) (spF g (G.fn i))
  c : ∀ i, FnR Pg w K mg base CX0 kk (g.fad i) (spC g (G.cfn i))
  k : ∀ i, ∀ k ∈ ks i, KwR Pg w K mg base kk (g.fad i) k (spF g (G.fn i))
theorem Kept.wd {kk : Nat} (W : Wk n g P K mg ks) (L : Kept g P G Pg w K mg base ks kk) {X : Cx} (h1 : X.prog = Pg) (h2 : X.w = w) (h3 : X.K = K) (h4 : X.mg = mg) (h5 : X.base = base) (hr : Room (kk + 1) X.A) : Wd g G kk X := by
  subst h1 h2 h3 h4 h5
  refine ⟨hr, L.f, ?_, ?_, ?_, ?_, ?_, W.nd, L.c, ?_, ?_⟩
  · intro c cl h
    rw [L.cls] at h
    exact W.cls c cl h
  · intro c cl h h2
    rw [L.cls] at h
    obtain ⟨fn, h3⟩ := L.isf h2
    exact W.make_ c cl fn h h3
  · intro c cl f x h
    rw [L.cls] at h
    exact W.no c cl f x h
  · intro c cl m x f h h1 h2 h3
    rw [L.cls] at h
    obtain ⟨fn, h3⟩ := L.isf h3
    exact W.meth c cl m x f fn h h1 h2 h3
  · intro c cl m x f h
    rw [L.cls] at h
    exact W.prop c cl m x f h
  · intro c cl m x f h h1 h2 h3
    rw [L.cls] at h
    obtain ⟨fn, h4⟩ := L.isc h3
    exact W.cm c cl m x f fn h h1 h2 h4
  · intro c cl m x f k h h1 h2 h3
    rw [L.cls] at h
    exact L.k f k (W.kws c cl m x f k h h1 h2 h3)
theorem Kept.cok {kk : Nat} (W : Wk n g P K mg ks) (L : Kept g P G Pg w K mg base ks kk) {X : Cx} {N : List Str} {sc : Scope} (h3 : X.K = K) (h4 : X.mg = mg) (gd : Good X N sc sc) (wd : Wd g G kk X) : Cok n g G kk N sc sc X := by
  subst h3 h4
  exact ⟨gd, wd, W.isf _ L.cls, by rw [W.cl]; exact funext L.cls, W.fl, W.fn, W.cn, W.con, W.blt, W.kwl⟩
/-- a def's body by parts -/
theorem Kept.body {kk : Nat} (W : Wk n g P K mg ks) (L : Kept g P G Pg w K mg base ks kk) {qual : Str} {body : List Stmt} {scope : Scope} {f : Addr} {N ps : List Str} {parts : List (List S)}
    (S : FnScope N ps scope) (hck : ckSs n N scope parts.flatten body = true) (cdv : Value) (A : Around) (outer : List Env) (s : Shared) (H : L2.Hp) (vs : List V) (Q : VK) (E : XK)
    (hr : Room (kk + 1) (A.deeper (envOfC qual scope s.heap.objs.size f cdv))) (h : cutsT g G parts { nx := fun _ H' => Q .non H', rt := Q } (L2.start N vs) H) :
    ∃ t, PSs (cxOf CX0 Pg w K mg base N qual scope f cdv A outer s H E) body t ∧ t { nx := fun _ H' => Q .non H', rt := Q } (L2.start N vs) H := by
  have gd : Good (cxOf CX0 Pg w K mg base N qual scope f cdv A outer s H E) N scope scope := ⟨rfl, S.nd, rfl, rfl, fun x h => ⟨h, .inl rfl⟩⟩
  have c := L.cok (X := cxOf CX0 Pg w K mg base N qual scope f cdv A outer s H E) W rfl rfl gd (L.wd W rfl rfl rfl rfl rfl hr)
  exact ⟨_, cuts (passes_of rfl) c parts body hck, h⟩
theorem Lv.kept {fuel kk lv : Nat} (L : Lv g P fuel Pg w K mg base ks kk lv) : Kept g P (run P fuel lv) Pg w K mg base ks kk := by
  refine ⟨fun c => by cases lv <;> rfl, ?_, ?_, L.f, L.c, L.k⟩
  · rintro f ⟨lk, as, C, r, e⟩
    cases lv with
    | zero => cases e
    | succ lv =>
      obtain ⟨fn, e1, _⟩ := R.bind_eq_ok (show (R.of (P.fns.get f)).bind _ = .ok r from e)
      exact ⟨fn, R.of_eq_ok e1⟩
  · rintro f ⟨lk, as, C, r, e⟩
    cases lv with
    | zero => cases e
    | succ lv =>
      obtain ⟨fn, e1, _⟩ := R.bind_eq_ok (show (R.of (P.cms.get f)).bind _ = .ok r from e)
      exact ⟨fn, R.of_eq_ok e1⟩
end

/-! ### stages told anew -/
section
variable {g : Stg}
def nil0 : Hq := ⟨0, .nil⟩
theorem held_nil (H : L2.Hp) : Held g [] [] nil0 H := ⟨rfl, .nil, fun l a h => by simp at h, fun l _ => by cases l <;> rfl, fun k h => by simp at h⟩
def one0 (o : CO) : Hq := nil0.push o
theorem one0_get (o : CO) (l : Nat) : (one0 o).get l = if l = 0 then some o else none := by
  show (nil0.push o).get l = _
  rw [Hq.get_push]
  show (if l = 0 then some o else nil0.get l) = _
  split
  · rfl
  · cases l <;> rfl
theorem held_one {H : L2.Hp} {a : Addr} {xs : List D} {vs : List V} (h : H a = some (.lst vs)) (r : ∀ m, Reps H m xs vs) : Held g [] [a] (one0 (.lst xs)) H := by
  refine ⟨rfl, by simp, fun l b hl => ?_, fun l hl => ?_, fun k h => by simp at h⟩
  · cases l with
    | zero =>
      simp at hl
      subst hl
      exact ⟨.lst xs, .lst vs, by rw [one0_get, if_pos rfl], h, vs, rfl, r _⟩
    | succ l => simp at hl
  · rw [one0_get, if_neg (by
      have : 1 ≤ l := hl
      omega)]
theorem slt_none {H : L2.Hp} {m : List Addr} {σ : L2.St} {k : Nat} (h : σ.length = k) : Slt H m (List.replicate k none) σ := by
  refine ⟨by simp [h], fun i d e => ?_⟩
  rw [List.getElem?_replicate] at e
  split at e <;> cases e
/-- what was there stays there -/
theorem step_keep {H H' : L2.Hp} {m' : List Addr} (s : Step [] H m' H') : ∀ a o, H a = some o → H' a = some o := fun a o e => s.off a o e (by simp)
end
end
end Q

set_option Elab.async false
set_option linter.all false
set_option maxRecDepth 100000
/-! The reckoning as plain functions, one for each form: for evaluation by the kernel. -/
namespace Q
noncomputable section
abbrev XE := List Nat → Sl → Hq → R (D × Hq)
abbrev XA := List Nat → Sl → Hq → R (List D × Hq)
abbrev XC := List Nat → Sl → Hq → R (Bool × Hq)
abbrev XI := List Nat → Sl → Hq → R (Iter × Hq)
abbrev XS := List Nat → Sl → Hq → R (Fl × Sl × Hq)
abbrev XT := D → List Nat → Sl → Hq → R (Sl × Hq)
abbrev XTs := List D → List Nat → Sl → Hq → R (Sl × Hq)
def xvar (i : Nat) : XE := fun _ ls C => (R.of (getV ls i)).bind fun d => .ok (d, C)
def xcon (d : D) : XE := fun _ _ C => .ok (d, C)
def xbin (o : BO) (a b : XE) : XE := fun lk ls C => (a lk ls C).bind fun x => (b lk ls x.2).bind fun y => R.of (binD o lk x.1 y.1 y.2)
def xneg (a : XE) : XE := fun lk ls C => (a lk ls C).bind fun x => (R.of (negD x.1)).bind fun d => .ok (d, x.2)
def xcmp (o : KO) (a b : XE) : XE := fun lk ls C => (a lk ls C).bind fun x => (b lk ls x.2).bind fun y => (R.of (cmpD o lk x.1 y.1 y.2)).bind fun k => .ok (.bl k, y.2)
def xchn (o p : KO) (a b c : XE) : XE := fun lk ls C => (a lk ls C).bind fun x => (b lk ls x.2).bind fun y => (R.of (cmpD o lk x.1 y.1 y.2)).bind fun k =>
      if k then (c lk ls y.2).bind fun z => (R.of (cmpD p lk y.1 z.1 z.2)).bind fun m => .ok (.bl m, z.2) else .ok (.bl false, y.2)
def xand (a b : XE) : XE := fun lk ls C => (a lk ls C).bind fun x => (R.of (tru x.2 x.1)).bind fun k => if k then b lk ls x.2 else .ok x
def xor_ (a b : XE) : XE := fun lk ls C => (a lk ls C).bind fun x => (R.of (tru x.2 x.1)).bind fun k => if k then .ok x else b lk ls x.2
def xnot (a : XE) : XE := fun lk ls C => (a lk ls C).bind fun x => (R.of (tru x.2 x.1)).bind fun k => .ok (.bl (!k), x.2)
def xife (c a b : XE) : XE := fun lk ls C => (c lk ls C).bind fun x => (R.of (tru x.2 x.1)).bind fun k => if k then a lk ls x.2 else b lk ls x.2
def xtup (as : XA) : XE := fun lk ls C => (as lk ls C).bind fun x => .ok (.tup x.1, x.2)
def xlst (as : XA) : XE := fun lk ls C => (as lk ls C).bind fun x => .ok (newL x.2 (.lst x.1))
def xtst (a : XE) (as : XA) : XE := fun lk ls C => (a lk ls C).bind fun x => (as lk ls x.2).bind fun y => (R.of (seqOf x.2 x.1)).bind fun xs => if decide (xs.length + y.1.length ≤ 1000000) then .ok (.tup (xs ++ y.1), y.2) else .no
def xdic0 : XE := fun _ _ C => .ok (newL C (.dic []))
def xdic1 (k v : XE) : XE := fun lk ls C => (k lk ls (C.push (.dic []))).bind fun x => (v lk ls x.2).bind fun y => (R.of (asDic y.2 C.n)).bind fun kvs =>
        if kfit lk C.n kvs x.1 && roomy kvs then .ok (.loc C.n, y.2.set C.n (.dic (dput kvs x.1 y.1))) else .no
def xidx (a i : XE) : XE := fun lk ls C => (a lk ls C).bind fun x => (i lk ls x.2).bind fun y => (R.of (idxD lk x.1 y.1 y.2)).bind fun d => .ok (d, y.2)
def xslo (a b : XE) : XE := fun lk ls C => (a lk ls C).bind fun x => (b lk ls x.2).bind fun y => (R.of (asInt y.1)).bind fun i => R.of (slcD x.1 (some i) none y.2)
def xshi (a b : XE) : XE := fun lk ls C => (a lk ls C).bind fun x => (b lk ls x.2).bind fun y => (R.of (asInt y.1)).bind fun i => R.of (slcD x.1 none (some i) y.2)
def xslh (a b c : XE) : XE := fun lk ls C => (a lk ls C).bind fun x => (b lk ls x.2).bind fun y => (R.of (asInt y.1)).bind fun i =>
      (c lk ls y.2).bind fun z => (R.of (asInt z.1)).bind fun j => R.of (slcD x.1 (some i) (some j) z.2)
def xrev (a : XE) : XE := fun lk ls C => (a lk ls C).bind fun x => R.of (revD x.1 x.2)
def xfld (G : Gam) (a : XE) (f : Nat) : XE := fun lk ls C => (a lk ls C).bind fun x => match x.1 with
    | .loc l => (R.of (asIns x.2 l)).bind fun p => (R.of (G.cls p.1)).bind fun cl => match getN cl.props f with
      | some g => G.fn g lk [x.1] x.2
      | none => if noAt cl f then (R.of (getF p.2 f)).bind fun d => .ok (d, x.2) else .no
    | _ => .no
def xcall (G : Gam) (f : Nat) (as : XA) : XE := fun lk ls C => (as lk ls C).bind fun x => G.fn f lk x.1 x.2
def xmake (G : Gam) (c : Nat) (as : XA) : XE := fun lk ls C => (as lk ls C).bind fun x => (R.of (G.cls c)).bind fun cl =>
      (G.fn cl.init lk (.loc x.2.n :: x.1) (x.2.push (.ins c []))).bind fun y => match y.1 with
        | .non => .ok (.loc x.2.n, y.2)
        | _ => .no
def xmaks (G : Gam) (c : Nat) (a : XE) : XE := fun lk ls C => (a lk ls C).bind fun x => (R.of (seqOf x.2 x.1)).bind fun xs => (R.of (G.cls c)).bind fun cl =>
      (G.fn cl.init lk (.loc x.2.n :: xs) (x.2.push (.ins c []))).bind fun y => match y.1 with
        | .non => .ok (.loc x.2.n, y.2)
        | _ => .no
def xmeth (G : Gam) (a : XE) (m : Nat) (as : XA) : XE := fun lk ls C => (a lk ls C).bind fun x => match x.1 with
    | .loc l => (R.of (asIns x.2 l)).bind fun p => (R.of (G.cls p.1)).bind fun cl => (R.of (getN cl.meths m)).bind fun g =>
        if (getF p.2 m).isNone then (as lk ls x.2).bind fun y => G.fn g lk (x.1 :: y.1) y.2 else .no
    | _ => .no
def xcmet (G : Gam) (c m : Nat) (as : XA) : XE := fun lk ls C => (as lk ls C).bind fun x => (R.of (G.cls c)).bind fun cl => (R.of (getN cl.cmets m)).bind fun f => G.cfn f lk x.1 x.2
def xeqm (G : Gam) (f : Nat) (a b : XE) : XE := fun lk ls C => (a lk ls C).bind fun x => (b lk ls x.2).bind fun y => match x.1, y.1 with
    | .loc l, .loc j => (R.of (asIns y.2 l)).bind fun p => (R.of (asIns y.2 j)).bind fun q => (R.of (G.cls p.1)).bind fun cl => (R.of (getN cl.meths f)).bind fun g =>
        if Nat.beq p.1 q.1 then (G.fn g lk [x.1, y.1] y.2).bind fun z => match z.1 with
          | .bl k => .ok (.bl k, z.2)
          | _ => .no
        else .no
    | _, _ => .no
def xbi (b : BI) (as : XA) : XE := fun lk ls C => (as lk ls C).bind fun x => R.of (biD b x.1 x.2)
def xbm (m : BM) (a : XE) (as : XA) : XE := fun lk ls C => (a lk ls C).bind fun x => if bmK m x.1 x.2 then (as lk ls x.2).bind fun y => R.of (bmD m lk x.1 y.1 y.2) else .no
def xisi (G : Gam) (a : XE) (t : TY) : XE := fun lk ls C => (a lk ls C).bind fun x => if insOk G.cls x.1 x.2 then (R.of (isiD t x.1 x.2)).bind fun k => .ok (.bl k, x.2) else .no
def xfst (as : XA) : XE := fun lk ls C => (as lk ls C).bind fun x => (R.of (fmtOf x.1)).bind fun ws => if decide (ws.flatten.length ≤ 1000000) then .ok (.str ws.flatten, x.2) else .no
def xlc (G : Gam) (own : List Nat) (p : P) (it : XI) (cs : XC) (elt : XE) : XE := fun lk ls C => (it lk ls C).bind fun J =>
      (loopC J.1.next (fun x C' => (R.of (putP p x C' (wipe ls own))).bind fun ls' => (cs (J.1.lock lk) ls' C').bind fun t => if t.1 then
          (elt (J.1.lock lk) ls' t.2).bind fun y => (R.of (asLst y.2 J.2.n)).bind fun xs => if roomy xs then .ok (y.2.set J.2.n (.lst (xs ++ [y.1]))) else .no else .ok t.2) G.fuel 0 (J.2.push (.lst []))).bind fun C' => .ok (.loc J.2.n, C')
def xlc2 (G : Gam) (own : List Nat) (p : P) (it : XI) (p2 : P) (it2 : XI) (cs : XC) (elt : XE) : XE := fun lk ls C => (it lk ls C).bind fun J =>
      (loopC (fun i s => J.1.next i s.2) (fun x s => (R.of (putP p x s.2 (wipe ls own))).bind fun ls' => (it2 s.1 ls' s.2).bind fun J2 => if isLk (J2.1.lock s.1) J.2.n then .no else
        (loopC J2.1.next (fun x2 C2 => (R.of (putP p2 x2 C2 (wipe ls' p2.slots))).bind fun ls2 => (cs (J2.1.lock s.1) ls2 C2).bind fun t => if t.1 then
          (elt (J2.1.lock s.1) ls2 t.2).bind fun y => (R.of (asLst y.2 J.2.n)).bind fun xs => if roomy xs then .ok (y.2.set J.2.n (.lst (xs ++ [y.1]))) else .no else .ok t.2) G.fuel 0 J2.2).bind fun C' => .ok (J2.1.lock s.1, C')) G.fuel 0 (J.1.lock lk, J.2.push (.lst []))).bind fun s => .ok (.loc J.2.n, s.2)
def xdc (G : Gam) (own : List Nat) (p : P) (it : XI) (cs : XC) (k v : XE) : XE := fun lk ls C => (it lk ls C).bind fun J =>
      (loopC J.1.next (fun x C' => (R.of (putP p x C' (wipe ls own))).bind fun ls' => (cs (J.1.lock lk) ls' C').bind fun t => if t.1 then
          (k (J.1.lock lk) ls' t.2).bind fun y => (v (J.1.lock lk) ls' y.2).bind fun z => (R.of (asDic z.2 J.2.n)).bind fun kvs =>
            if isKey1 y.1 && keyFits kvs y.1 && roomy kvs then .ok (z.2.set J.2.n (.dic (dput kvs y.1 z.1))) else .no else .ok t.2) G.fuel 0 (J.2.push (.dic []))).bind fun C' => .ok (.loc J.2.n, C')
def xssc (G : Gam) (own : List Nat) (p : P) (it : XI) (p2 : P) (it2 : XI) (elt : XE) : XE := fun lk ls C => (it lk ls C).bind fun J =>
      (loopC (fun i s => J.1.next i s.2.1) (fun x s => (R.of (putP p x s.2.1 (wipe ls own))).bind fun ls' => (it2 s.1 ls' s.2.1).bind fun J2 =>
        (loopC (fun i s => J2.1.next i s.1) (fun x2 s2 => (R.of (putP p2 x2 s2.1 (wipe ls' p2.slots))).bind fun ls2 =>
          (elt (J2.1.lock s.1) ls2 s2.1).bind fun y => (R.of (asInt y.1)).bind fun i => if decide (s2.2.length < 60) then .ok (y.2, addI s2.2 i) else .no) G.fuel 0 (J2.2, s.2.2)).bind fun s' => .ok (J2.1.lock s.1, s')) G.fuel 0 (J.1.lock lk, J.2, [])).bind fun s => if rises (sortI s.2.2) then .ok (newL s.2.1 (.lst ((sortI s.2.2).map .int))) else .no
def xnil : XA := fun _ _ C => .ok ([], C)
def xcons (a : XE) (as : XA) : XA := fun lk ls C => (a lk ls C).bind fun x => (as lk ls x.2).bind fun y => .ok (x.1 :: y.1, y.2)
def xyes : XC := fun _ _ C => .ok (true, C)
def xtest (a : XE) (as : XC) : XC := fun lk ls C => (a lk ls C).bind fun x => (R.of (tru x.2 x.1)).bind fun k => if k then as lk ls x.2 else .ok (false, x.2)
def xitr (e : XE) : XI := fun lk ls C => (e lk ls C).bind fun x => (R.of (iterD x.2 x.1)).bind fun J => .ok (J, x.2)
def xrg1 (a : XE) : XI := fun lk ls C => (a lk ls C).bind fun x => (R.of (asInt x.1)).bind fun j => if decide (-(2 ^ 60) < j) && decide (j < 2 ^ 60) then .ok (.items (rngL 0 j.toNat), x.2) else .no
def xrg2 (a b : XE) : XI := fun lk ls C => (a lk ls C).bind fun x => (b lk ls x.2).bind fun y => (R.of (asInt x.1)).bind fun i => (R.of (asInt y.1)).bind fun j =>
      if decide (-(2 ^ 60) < i) && decide (i < 2 ^ 60) && decide (-(2 ^ 60) < j) && decide (j < 2 ^ 60) then .ok (.items (rngL i (j - i).toNat), y.2) else .no
def xenm (a : XE) : XI := fun lk ls C => (a lk ls C).bind fun x => match x.1 with
    | .tup xs => .ok (.enu xs, x.2)
    | .loc l => (R.of (asLst x.2 l)).bind fun _ => .ok (.enl l, x.2)
    | _ => .no
def xzip (a b : XE) : XI := fun lk ls C => (a lk ls C).bind fun x => (b lk ls x.2).bind fun y => match x.1, y.1 with
    | .loc l, .loc m => (R.of (asLst y.2 l)).bind fun _ => (R.of (asLst y.2 m)).bind fun _ => .ok (.zil l m, y.2)
    | _, _ => .no
def xtone (i : Nat) : XT := fun d _ ls C => .ok (setV ls i d, C)
def xtfld (G : Gam) (a : XE) (f : Nat) : XT := fun d lk ls C => (a lk ls C).bind fun x => match x.1 with
    | .loc l => (R.of (asIns x.2 l)).bind fun p => (R.of (G.cls p.1)).bind fun cl => if noAt cl f && decide (p.2.length < 1000) then .ok (ls, x.2.set l (.ins p.1 (putF p.2 f d))) else .no
    | _ => .no
def xtsub (a i : XE) : XT := fun d lk ls C => (a lk ls C).bind fun x => (i lk ls x.2).bind fun y => (R.of (setSub lk x.1 y.1 d y.2)).bind fun C' => .ok (ls, C')
def xtnil : XTs := fun ds _ ls C => match ds with
  | [] => .ok (ls, C)
  | _ => .no
def xtcons (t : XT) (ts : XTs) : XTs := fun ds lk ls C => match ds with
  | d :: ds => (t d lk ls C).bind fun r => ts ds lk r.1 r.2
  | _ => .no
def xasg (t : XT) (e : XE) : XS := fun lk ls C => (e lk ls C).bind fun x => (t x.1 lk ls x.2).bind fun r => .ok (.nx, r.1, r.2)
def xasm (ts : XTs) (e : XE) : XS := fun lk ls C => (e lk ls C).bind fun x => match x.1 with
    | .tup ds => (ts ds lk ls x.2).bind fun r => .ok (.nx, r.1, r.2)
    | _ => .no
def xexp (e : XE) : XS := fun lk ls C => (e lk ls C).bind fun x => .ok (.nx, ls, x.2)
def xret (e : XE) : XS := fun lk ls C => (e lk ls C).bind fun x => .ok (.rt x.1, ls, x.2)
def xrtn : XS := fun _ ls C => .ok (.rt .non, ls, C)
def xifs (c : XE) (a b : XS) : XS := fun lk ls C => (c lk ls C).bind fun x => (R.of (tru x.2 x.1)).bind fun k => if k then a lk ls x.2 else b lk ls x.2
def xwhl (G : Gam) (c : XE) (b : XS) : XS := fun lk ls C => loopW (fun ls C => (c lk ls C).bind fun x => (R.of (tru x.2 x.1)).bind fun k => .ok (k, x.2)) (fun ls C => b lk ls C) G.fuel ls C
def xfro (G : Gam) (p : P) (it : XI) (b : XS) : XS := fun lk ls C => (it lk ls C).bind fun J => loopF J.1.next (fun x ls C => (R.of (putP p x C ls)).bind fun ls' => b (J.1.lock lk) ls' C) G.fuel 0 ls J.2
def xpas : XS := fun _ ls C => .ok (.nx, ls, C)
def xbrk : XS := fun _ ls C => .ok (.bk, ls, C)
def xcnt : XS := fun _ ls C => .ok (.ct, ls, C)
def xrse : XS := fun _ _ _ => .no
def xsnil : XS := fun _ ls C => .ok (.nx, ls, C)
def xscons (s r : XS) : XS := fun lk ls C => (s lk ls C).bind fun x => match x with
    | (.nx, ls', C') => r lk ls' C'
    | (.rt d, ls', C') => .ok (.rt d, ls', C')
    | (.bk, ls', C') => .ok (.bk, ls', C')
    | (.ct, ls', C') => .ok (.ct, ls', C')

/-- a def, with its body as such a function -/
structure Fx where
  np : Nat
  va : Bool
  dfl : List D
  ns : Nat
  body : Gam → XS
def Fx.bindA (fn : Fx) (as : List D) : Option (List D) :=
  if fn.va then (if fn.np ≤ as.length ∧ as.length ≤ 1000000 then some (as.take fn.np ++ [.tup (as.drop fn.np)]) else none)
  else if as.length = fn.np then some as
  else if as.length + fn.dfl.length = fn.np then some (as ++ fn.dfl) else none
def callX (G : Gam) (fn : Fx) (lk : List Nat) (as : List D) (C : Hq) : R (D × Hq) :=
  (R.of (fn.bindA as)).bind fun bs => ends (fn.body G lk (bs.map some ++ List.replicate (fn.ns - bs.length) none) C)
def callXC (G : Gam) (fn : Fx) (lk : List Nat) (as : List D) (C : Hq) : R (D × Hq) :=
  if decide (as.length = fn.np) then ends (fn.body G lk (none :: as.map some ++ List.replicate (fn.ns - (as.length + 1)) none) C) else .no
structure ProgX where
  fns : Tr Fx
  cls : Tr Cl
  cms : Tr Fx
def runX (P : ProgX) (fuel : Nat) : Nat → Gam
  | 0 => ⟨fun _ _ _ _ => .no, fun c => P.cls.get c, fuel, fun _ _ _ _ => .no⟩
  | n + 1 => ⟨fun f lk as C => (R.of (P.fns.get f)).bind fun fn => callX (runX P fuel n) fn lk as C, fun c => P.cls.get c, fuel, fun f lk as C => (R.of (P.cms.get f)).bind fun fn => callXC (runX P fuel n) fn lk as C⟩
/-- the one is the other -/
def Fn.x (fn : Fn) : Fx := ⟨fn.np, fn.va, fn.dfl, fn.ns, fun G lk ls C => evSs G fn.body lk ls C⟩
def Tr.map {α β : Type} (f : α → β) : Tr α → Tr β
  | .nil => .nil
  | .node o l r => .node (o.map f) (Tr.map f l) (Tr.map f r)
theorem Tr.get_map {α β : Type} (f : α → β) : ∀ (t : Tr α) (k : Nat), (Tr.map f t).get k = (t.get k).map f
  | .nil, k => by cases k <;> rfl
  | .node o l r, 0 => rfl
  | .node o l r, k + 1 => by
    show cond _ ((Tr.map f l).get _) ((Tr.map f r).get _) = (cond _ (l.get _) (r.get _)).map f
    rw [Tr.get_map f l, Tr.get_map f r]
    cases Nat.beq (k % 2) 0 <;> rfl
theorem R.of_map {α β γ : Type} (o : Option α) (f : α → β) (k : β → R γ) : (R.of (o.map f)).bind k = (R.of o).bind fun a => k (f a) := by cases o <;> rfl
theorem runX_is (P : Prog) (PX : ProgX) (fuel : Nat) (h1 : PX.fns = P.fns.map Fn.x) (h2 : PX.cls = P.cls) (h3 : PX.cms = P.cms.map Fn.x) : ∀ n, runX PX fuel n = run P fuel n
  | 0 => by
    show Gam.mk _ _ _ _ = Gam.mk _ _ _ _
    rw [h2]
  | n + 1 => by
    show Gam.mk _ _ _ _ = Gam.mk _ _ _ _
    rw [runX_is P PX fuel h1 h2 h3 n, h1, h2, h3]
    congr 1
    · funext f lk as C
      rw [Tr.get_map, R.of_map]
      rfl
    · funext f lk as C
      rw [Tr.get_map, R.of_map]
      rfl
/-! ### .. form by form -/
def yE (G : Gam) (e : E) : XE := fun lk ls C => evE G e lk ls C
def yA (G : Gam) (e : List E) : XA := fun lk ls C => evA G e lk ls C
def yC (G : Gam) (e : List E) : XC := fun lk ls C => evC G e lk ls C
def yI (G : Gam) (e : E) : XI := fun lk ls C => evI G e lk ls C
def yS (G : Gam) (s : S) : XS := fun lk ls C => evS G s lk ls C
def yB (G : Gam) (s : List S) : XS := fun lk ls C => evSs G s lk ls C
def yT (G : Gam) (t : T1) : XT := fun d lk ls C => putT G t d lk ls C
def yU (G : Gam) (t : List T1) : XTs := fun ds lk ls C => putTs G t ds lk ls C
section
variable {G : Gam}
theorem hxvar {r0 : Nat}  : yE G (.var r0) = xvar r0 := rfl
theorem hxcon {r0 : D}  : yE G (.con r0) = xcon r0 := rfl
theorem hxbin {r0 : BO} {a0 : E} {A0 : XE} {a1 : E} {A1 : XE} (h0 : yE G a0 = A0) (h1 : yE G a1 = A1) : yE G (.bin r0 a0 a1) = xbin r0 A0 A1 := by subst h0; subst h1; rfl
theorem hxneg {a0 : E} {A0 : XE} (h0 : yE G a0 = A0) : yE G (.neg a0) = xneg A0 := by subst h0; rfl
theorem hxcmp {r0 : KO} {a0 : E} {A0 : XE} {a1 : E} {A1 : XE} (h0 : yE G a0 = A0) (h1 : yE G a1 = A1) : yE G (.cmp r0 a0 a1) = xcmp r0 A0 A1 := by subst h0; subst h1; rfl
theorem hxchn {r0 : KO} {r1 : KO} {a0 : E} {A0 : XE} {a1 : E} {A1 : XE} {a2 : E} {A2 : XE} (h0 : yE G a0 = A0) (h1 : yE G a1 = A1) (h2 : yE G a2 = A2) : yE G (.chn r0 r1 a0 a1 a2) = xchn r0 r1 A0 A1 A2 := by subst h0; subst h1; subst h2; rfl
theorem hxand {a0 : E} {A0 : XE} {a1 : E} {A1 : XE} (h0 : yE G a0 = A0) (h1 : yE G a1 = A1) : yE G (.and a0 a1) = xand A0 A1 := by subst h0; subst h1; rfl
theorem hxor {a0 : E} {A0 : XE} {a1 : E} {A1 : XE} (h0 : yE G a0 = A0) (h1 : yE G a1 = A1) : yE G (.or a0 a1) = xor_ A0 A1 := by subst h0; subst h1; rfl
theorem hxnot {a0 : E} {A0 : XE} (h0 : yE G a0 = A0) : yE G (.not a0) = xnot A0 := by subst h0; rfl
theorem hxife {a0 : E} {A0 : XE} {a1 : E} {A1 : XE} {a2 : E} {A2 : XE} (h0 : yE G a0 = A0) (h1 : yE G a1 = A1) (h2 : yE G a2 = A2) : yE G (.ife a0 a1 a2) = xife A0 A1 A2 := by subst h0; subst h1; subst h2; rfl
theorem hxtup {a0 : List E} {A0 : XA} (h0 : yA G a0 = A0) : yE G (.tup a0) = xtup A0 := by subst h0; rfl
theorem hxlst {a0 : List E} {A0 : XA} (h0 : yA G a0 = A0) : yE G (.lst a0) = xlst A0 := by subst h0; rfl
theorem hxtst {a0 : E} {A0 : XE} {a1 : List E} {A1 : XA} (h0 : yE G a0 = A0) (h1 : yA G a1 = A1) : yE G (.tst a0 a1) = xtst A0 A1 := by subst h0; subst h1; rfl
theorem hxidx {a0 : E} {A0 : XE} {a1 : E} {A1 : XE} (h0 : yE G a0 = A0) (h1 : yE G a1 = A1) : yE G (.idx a0 a1) = xidx A0 A1 := by subst h0; subst h1; rfl
theorem hxslo {a0 : E} {A0 : XE} {a1 : E} {A1 : XE} (h0 : yE G a0 = A0) (h1 : yE G a1 = A1) : yE G (.slo a0 a1) = xslo A0 A1 := by subst h0; subst h1; rfl
theorem hxshi {a0 : E} {A0 : XE} {a1 : E} {A1 : XE} (h0 : yE G a0 = A0) (h1 : yE G a1 = A1) : yE G (.shi a0 a1) = xshi A0 A1 := by subst h0; subst h1; rfl
theorem hxslh {a0 : E} {A0 : XE} {a1 : E} {A1 : XE} {a2 : E} {A2 : XE} (h0 : yE G a0 = A0) (h1 : yE G a1 = A1) (h2 : yE G a2 = A2) : yE G (.slh a0 a1 a2) = xslh A0 A1 A2 := by subst h0; subst h1; subst h2; rfl
theorem hxrev {a0 : E} {A0 : XE} (h0 : yE G a0 = A0) : yE G (.rev a0) = xrev A0 := by subst h0; rfl
theorem hxfld {a0 : E} {A0 : XE} {r0 : Nat} (h0 : yE G a0 = A0) : yE G (.fld a0 r0) = xfld G A0 r0 := by subst h0; rfl
theorem hxcall {r0 : Nat} {a0 : List E} {A0 : XA} (h0 : yA G a0 = A0) : yE G (.call r0 a0) = xcall G r0 A0 := by subst h0; rfl
theorem hxmake {r0 : Nat} {a0 : List E} {A0 : XA} (h0 : yA G a0 = A0) : yE G (.make r0 a0) = xmake G r0 A0 := by subst h0; rfl
theorem hxmaks {r0 : Nat} {a0 : E} {A0 : XE} (h0 : yE G a0 = A0) : yE G (.maks r0 a0) = xmaks G r0 A0 := by subst h0; rfl
theorem hxmeth {a0 : E} {A0 : XE} {r0 : Nat} {a1 : List E} {A1 : XA} (h0 : yE G a0 = A0) (h1 : yA G a1 = A1) : yE G (.meth a0 r0 a1) = xmeth G A0 r0 A1 := by subst h0; subst h1; rfl
theorem hxcmet {r0 : Nat} {r1 : Nat} {a0 : List E} {A0 : XA} (h0 : yA G a0 = A0) : yE G (.cmet r0 r1 a0) = xcmet G r0 r1 A0 := by subst h0; rfl
theorem hxeqm {r0 : Nat} {a0 : E} {A0 : XE} {a1 : E} {A1 : XE} (h0 : yE G a0 = A0) (h1 : yE G a1 = A1) : yE G (.eqm r0 a0 a1) = xeqm G r0 A0 A1 := by subst h0; subst h1; rfl
theorem hxbi {r0 : BI} {a0 : List E} {A0 : XA} (h0 : yA G a0 = A0) : yE G (.bi r0 a0) = xbi r0 A0 := by subst h0; rfl
theorem hxbm {r0 : BM} {a0 : E} {A0 : XE} {a1 : List E} {A1 : XA} (h0 : yE G a0 = A0) (h1 : yA G a1 = A1) : yE G (.bm r0 a0 a1) = xbm r0 A0 A1 := by subst h0; subst h1; rfl
theorem hxisi {a0 : E} {A0 : XE} {r0 : TY} (h0 : yE G a0 = A0) : yE G (.isi a0 r0) = xisi G A0 r0 := by subst h0; rfl
theorem hxfst {a0 : List E} {A0 : XA} (h0 : yA G a0 = A0) : yE G (.fst a0) = xfst A0 := by subst h0; rfl
theorem hxlc {r0 : List Nat} {r1 : P} {a0 : E} {A0 : XI} {a1 : List E} {A1 : XC} {a2 : E} {A2 : XE} (h0 : yI G a0 = A0) (h1 : yC G a1 = A1) (h2 : yE G a2 = A2) : yE G (.lc r0 r1 a0 a1 a2) = xlc G r0 r1 A0 A1 A2 := by subst h0; subst h1; subst h2; rfl
theorem hxlc2 {r0 : List Nat} {r1 : P} {a0 : E} {A0 : XI} {r2 : P} {a1 : E} {A1 : XI} {a2 : List E} {A2 : XC} {a3 : E} {A3 : XE} (h0 : yI G a0 = A0) (h1 : yI G a1 = A1) (h2 : yC G a2 = A2) (h3 : yE G a3 = A3) : yE G (.lc2 r0 r1 a0 r2 a1 a2 a3) = xlc2 G r0 r1 A0 r2 A1 A2 A3 := by subst h0; subst h1; subst h2; subst h3; rfl
theorem hxdc {r0 : List Nat} {r1 : P} {a0 : E} {A0 : XI} {a1 : List E} {A1 : XC} {a2 : E} {A2 : XE} {a3 : E} {A3 : XE} (h0 : yI G a0 = A0) (h1 : yC G a1 = A1) (h2 : yE G a2 = A2) (h3 : yE G a3 = A3) : yE G (.dc r0 r1 a0 a1 a2 a3) = xdc G r0 r1 A0 A1 A2 A3 := by subst h0; subst h1; subst h2; subst h3; rfl
theorem hxssc {r0 : List Nat} {r1 : P} {a0 : E} {A0 : XI} {r2 : P} {a1 : E} {A1 : XI} {a2 : E} {A2 : XE} (h0 : yI G a0 = A0) (h1 : yI G a1 = A1) (h2 : yE G a2 = A2) : yE G (.ssc r0 r1 a0 r2 a1 a2) = xssc G r0 r1 A0 r2 A1 A2 := by subst h0; subst h1; subst h2; rfl
theorem hxitr {a0 : E} {A0 : XE} (h0 : yE G a0 = A0) : yI G (.itr a0) = xitr A0 := by subst h0; rfl
theorem hxrg1 {a0 : E} {A0 : XE} (h0 : yE G a0 = A0) : yI G (.rg1 a0) = xrg1 A0 := by subst h0; rfl
theorem hxrg2 {a0 : E} {A0 : XE} {a1 : E} {A1 : XE} (h0 : yE G a0 = A0) (h1 : yE G a1 = A1) : yI G (.rg2 a0 a1) = xrg2 A0 A1 := by subst h0; subst h1; rfl
theorem hxenm {a0 : E} {A0 : XE} (h0 : yE G a0 = A0) : yI G (.enm a0) = xenm A0 := by subst h0; rfl
theorem hxzip {a0 : E} {A0 : XE} {a1 : E} {A1 : XE} (h0 : yE G a0 = A0) (h1 : yE G a1 = A1) : yI G (.zip a0 a1) = xzip A0 A1 := by subst h0; subst h1; rfl
theorem hxasg {a0 : T1} {A0 : XT} {a1 : E} {A1 : XE} (h0 : yT G a0 = A0) (h1 : yE G a1 = A1) : yS G (.asg a0 a1) = xasg A0 A1 := by subst h0; subst h1; rfl
theorem hxasm {a0 : List T1} {A0 : XTs} {a1 : E} {A1 : XE} (h0 : yU G a0 = A0) (h1 : yE G a1 = A1) : yS G (.asm a0 a1) = xasm A0 A1 := by subst h0; subst h1; rfl
theorem hxexp {a0 : E} {A0 : XE} (h0 : yE G a0 = A0) : yS G (.exp a0) = xexp A0 := by subst h0; rfl
theorem hxret {a0 : E} {A0 : XE} (h0 : yE G a0 = A0) : yS G (.ret a0) = xret A0 := by subst h0; rfl
theorem hxrtn   : yS G .rtn = xrtn := rfl
theorem hxifs {a0 : E} {A0 : XE} {a1 : List S} {A1 : XS} {a2 : List S} {A2 : XS} (h0 : yE G a0 = A0) (h1 : yB G a1 = A1) (h2 : yB G a2 = A2) : yS G (.ifs a0 a1 a2) = xifs A0 A1 A2 := by subst h0; subst h1; subst h2; rfl
theorem hxwhl {a0 : E} {A0 : XE} {a1 : List S} {A1 : XS} (h0 : yE G a0 = A0) (h1 : yB G a1 = A1) : yS G (.whl a0 a1) = xwhl G A0 A1 := by subst h0; subst h1; rfl
theorem hxfro {r0 : P} {a0 : E} {A0 : XI} {a1 : List S} {A1 : XS} (h0 : yI G a0 = A0) (h1 : yB G a1 = A1) : yS G (.fro r0 a0 a1) = xfro G r0 A0 A1 := by subst h0; subst h1; rfl
theorem hxpas   : yS G .pas = xpas := rfl
theorem hxbrk   : yS G .brk = xbrk := rfl
theorem hxcnt   : yS G .cnt = xcnt := rfl
theorem hxrse   : yS G .rse = xrse := rfl
theorem hxtone {r0 : Nat}  : yT G (.one r0) = xtone r0 := rfl
theorem hxtfld {a0 : E} {A0 : XE} {r0 : Nat} (h0 : yE G a0 = A0) : yT G (.fld a0 r0) = xtfld G A0 r0 := by subst h0; rfl
theorem hxtsub {a0 : E} {A0 : XE} {a1 : E} {A1 : XE} (h0 : yE G a0 = A0) (h1 : yE G a1 = A1) : yT G (.sub a0 a1) = xtsub A0 A1 := by subst h0; subst h1; rfl
theorem hxdic0 : yE G (.dic [] []) = xdic0 := rfl
theorem hxdic1 {k v : E} {A B : XE} (h1 : yE G k = A) (h2 : yE G v = B) : yE G (.dic [k] [v]) = xdic1 A B := by subst h1; subst h2; rfl
theorem hxnil : yA G [] = xnil := rfl
theorem hxcons {a : E} {as : List E} {A : XE} {B : XA} (h1 : yE G a = A) (h2 : yA G as = B) : yA G (a :: as) = xcons A B := by subst h1; subst h2; rfl
theorem hxyes : yC G [] = xyes := rfl
theorem hxtest {a : E} {as : List E} {A : XE} {B : XC} (h1 : yE G a = A) (h2 : yC G as = B) : yC G (a :: as) = xtest A B := by subst h1; subst h2; rfl
theorem hxsnil : yB G [] = xsnil := rfl
theorem hxscons {a : S} {as : List S} {A B : XS} (h1 : yS G a = A) (h2 : yB G as = B) : yB G (a :: as) = xscons A B := by subst h1; subst h2; rfl
theorem hxtnil : yU G [] = xtnil := by
  funext ds lk ls C
  cases ds <;> rfl
theorem hxtcons {a : T1} {as : List T1} {A : XT} {B : XTs} (h1 : yT G a = A) (h2 : yU G as = B) : yU G (a :: as) = xtcons A B := by
  subst h1; subst h2
  funext ds lk ls C
  cases ds <;> rfl
end
theorem fn_x {fn : Fn} {b : Gam → XS} (h : ∀ G, yB G fn.body = b G) : fn.x = ⟨fn.np, fn.va, fn.dfl, fn.ns, b⟩ := by
  unfold Fn.x
  congr 1
  funext G
  exact h G
end
end Q

set_option Elab.async false
set_option linter.all false
set_option maxRecDepth 1000000
set_option maxHeartbeats 0
namespace K64
noncomputable section
open Q
/-- _wall -/
def f0 : Fn := ⟨1, false, [], 1, [(.whl (.con (.bl true)) [.pas])]⟩
/-- Side.__init__ -/
def f1 : Fn := ⟨3, false, [.non], 5, [(.asg (.fld (.var 0) 22) (.fld (.var 1) 22)), (.asg (.fld (.var 0) 40) (.fld (.var 1) 40)), (.asg (.fld (.var 0) 11) (.fld (.var 1) 11)), (.asg (.fld (.var 0) 36) (.fld (.var 1) 36)), (.ifs (.cmp .notn (.var 2) (.con .non)) [(.asg (.fld (.var 0) 36) (.dc [4] (.one 4) (.itr (.fld (.var 1) 36)) [] (.var 4) (.bm .join (.con (.str [])) [(.lc [3] (.one 3) (.itr (.var 2)) [] (.idx (.idx (.fld (.var 1) 36) (.var 4)) (.var 3)))])))] [])]⟩
/-- steps_from -/
def f2 : Fn := ⟨3, false, [], 10, [(.asm [(.one 3), (.one 4)] (.var 2)), (.asg (.one 5) (.lst [])), (.fro (.many [6, 7]) (.itr (.idx (.fld (.var 0) 22) (.var 3))) [(.ifs (.cmp .eq (.idx (.fld (.var 0) 36) (.var 6)) (.idx (.fld (.var 0) 36) (.var 3))) [(.exp (.bm .append (.var 5) [(.tup [(.tup [(.var 6), (.var 4)]), (.var 7)])]))] [(.fro (.many [8, 9]) (.itr (.idx (.fld (.var 1) 22) (.var 4))) [(.ifs (.cmp .eq (.idx (.fld (.var 1) 36) (.var 8)) (.idx (.fld (.var 0) 36) (.var 6))) [(.exp (.bm .append (.var 5) [(.tup [(.tup [(.var 6), (.var 8)]), (.bin .sub (.var 7) (.var 9))])]))] [])])])]), (.fro (.many [8, 9]) (.itr (.idx (.fld (.var 1) 22) (.var 4))) [(.ifs (.cmp .eq (.idx (.fld (.var 1) 36) (.var 8)) (.idx (.fld (.var 1) 36) (.var 4))) [(.exp (.bm .append (.var 5) [(.tup [(.tup [(.var 3), (.var 8)]), (.neg (.var 9))])]))] [])]), (.ret (.var 5))]⟩
/-- begin_pairs -/
def f3 : Fn := ⟨2, false, [], 5, [(.asg (.one 2) (.lc2 [3, 4] (.one 3) (.itr (.fld (.var 0) 40)) (.one 4) (.itr (.fld (.var 1) 40)) [] (.tup [(.var 3), (.var 4)]))), (.ret (.lc [3, 4] (.many [3, 4]) (.itr (.var 2)) [(.cmp .eq (.idx (.fld (.var 0) 36) (.var 3)) (.idx (.fld (.var 1) 36) (.var 4)))] (.tup [(.var 3), (.var 4)])))]⟩
/-- Part.__init__ -/
def f4 : Fn := ⟨4, false, [], 8, [(.asg (.fld (.var 0) 16) (.dic [(.var 3)] [(.con (.int 0))])), (.asg (.fld (.var 0) 23) (.dic [(.var 3)] [(.con .non)])), (.asg (.fld (.var 0) 10) (.con .non)), (.asg (.one 4) (.lst [(.var 3)])), (.whl (.var 4) [(.asg (.one 5) (.bm .pop1 (.var 4) [(.con (.int 0))])), (.fro (.many [6, 7]) (.itr (.call 2 [(.var 1), (.var 2), (.var 5)])) [(.ifs (.cmp .notin (.var 6) (.fld (.var 0) 16)) [(.asg (.sub (.fld (.var 0) 16) (.var 6)) (.bin .add (.idx (.fld (.var 0) 16) (.var 5)) (.var 7))), (.asg (.sub (.fld (.var 0) 23) (.var 6)) (.var 5)), (.exp (.bm .append (.var 4) [(.var 6)]))] [(.ifs (.and (.cmp .ne (.idx (.fld (.var 0) 16) (.var 6)) (.bin .add (.idx (.fld (.var 0) 16) (.var 5)) (.var 7))) (.cmp .isn (.fld (.var 0) 10) (.con .non))) [(.asg (.fld (.var 0) 10) (.tup [(.var 5), (.var 6)]))] [])])])]), (.asg (.fld (.var 0) 30) (.lc [5] (.one 5) (.itr (.call 3 [(.var 1), (.var 2)])) [(.cmp .isin (.var 5) (.fld (.var 0) 16))] (.var 5))), (.asg (.fld (.var 0) 11) (.lc [5] (.one 5) (.itr (.fld (.var 0) 16)) [(.and (.cmp .isin (.idx (.var 5) (.con (.int 0))) (.fld (.var 1) 11)) (.cmp .isin (.idx (.var 5) (.con (.int 1))) (.fld (.var 2) 11)))] (.var 5)))]⟩
/-- Part.path_to -/
def f5 : Fn := ⟨2, false, [], 3, [(.asg (.one 2) (.lst [(.var 1)])), (.whl (.cmp .notn (.idx (.fld (.var 0) 23) (.idx (.var 2) (.neg (.con (.int 1))))) (.con .non)) [(.exp (.bm .append (.var 2) [(.idx (.fld (.var 0) 23) (.idx (.var 2) (.neg (.con (.int 1)))))]))]), (.ret (.rev (.var 2)))]⟩
/-- parts_of -/
def f6 : Fn := ⟨2, false, [], 5, [(.asg (.one 2) (.lst [])), (.fro (.one 3) (.itr (.call 3 [(.var 0), (.var 1)])) [(.ifs (.not (.bi .any [(.lc [4] (.one 4) (.itr (.var 2)) [] (.cmp .isin (.var 3) (.fld (.var 4) 16)))])) [(.exp (.bm .append (.var 2) [(.make 1 [(.var 0), (.var 1), (.var 3)])]))] [])]), (.ret (.var 2))]⟩
/-- live_parts -/
def f7 : Fn := ⟨2, false, [], 3, [(.ret (.lc [2] (.one 2) (.itr (.call 6 [(.var 0), (.var 1)])) [(.fld (.var 2) 11)] (.var 2)))]⟩
/-- walk_in -/
def f8 : Fn := ⟨2, false, [], 4, [(.asg (.one 2) (.idx (.idx (.var 0) (.con (.int 0))) (.var 1))), (.fro (.one 3) (.itr (.slo (.var 0) (.con (.int 1)))) [(.asg (.one 2) (.ife (.cmp .eq (.idx (.var 3) (.var 1)) (.idx (.var 2) (.neg (.con (.int 1))))) (.var 2) (.bin .add (.var 2) (.idx (.var 3) (.var 1)))))]), (.ret (.var 2))]⟩
/-- walks_in -/
def f9 : Fn := ⟨1, false, [], 1, [(.ret (.tup [(.call 8 [(.var 0), (.con (.int 0))]), (.call 8 [(.var 0), (.con (.int 1))])]))]⟩
/-- unlike_in -/
def f10 : Fn := ⟨1, false, [], 6, [(.fro (.one 1) (.itr (.fld (.var 0) 11)) [(.ifs (.cmp .ne (.idx (.fld (.var 0) 16) (.var 1)) (.con (.int 0))) [(.ret (.meth (.var 0) 24 [(.var 1)]))] [])]), (.ifs (.not (.fld (.var 0) 11)) [(.ret (.con .non))] []), (.asg (.one 2) (.slo (.meth (.var 0) 24 [(.idx (.fld (.var 0) 11) (.con (.int 0)))]) (.con (.int 1)))), (.fro (.one 3) (.itr (.fld (.var 0) 30)) [(.ifs (.cmp .ne (.idx (.fld (.var 0) 16) (.var 3)) (.con (.int 0))) [(.ret (.bin .add (.rev (.meth (.var 0) 24 [(.var 3)])) (.var 2)))] [])]), (.ifs (.cmp .notn (.fld (.var 0) 10) (.con .non)) [(.asm [(.one 4), (.one 5)] (.fld (.var 0) 10)), (.ret (.bin .add (.bin .add (.meth (.var 0) 24 [(.var 4)]) (.rev (.meth (.var 0) 24 [(.var 5)]))) (.var 2)))] []), (.ret (.con .non))]⟩
/-- error_in -/
def f11 : Fn := ⟨1, false, [], 4, [(.ifs (.cmp .notn (.fld (.var 0) 10) (.con .non)) [(.ret (.con .non))] []), (.asg (.one 1) (.bi .min1 [(.lc [2] (.one 2) (.itr (.fld (.var 0) 30)) [] (.idx (.fld (.var 0) 16) (.var 2)))])), (.ret (.bin .sub (.bi .max1 [(.lc [3] (.one 3) (.itr (.fld (.var 0) 11)) [] (.idx (.fld (.var 0) 16) (.var 3)))]) (.var 1)))]⟩
/-- error_of -/
def f12 : Fn := ⟨2, false, [], 5, [(.asg (.one 2) (.con (.int 0))), (.fro (.one 3) (.itr (.call 7 [(.var 0), (.var 1)])) [(.asg (.one 4) (.call 11 [(.var 3)])), (.ifs (.cmp .isn (.var 4) (.con .non)) [(.ret (.con .non))] []), (.asg (.one 2) (.bi .max2 [(.var 2), (.var 4)]))]), (.ret (.var 2))]⟩
/-- is_integer -/
def f16 : Fn := ⟨1, false, [], 1, [(.ret (.and (.isi (.var 0) .int) (.not (.isi (.var 0) .bool))))]⟩
/-- is_between -/
def f17 : Fn := ⟨3, false, [], 3, [(.ret (.and (.call 16 [(.var 0)]) (.chn .le .le (.var 1) (.var 0) (.var 2))))]⟩
/-- number_in -/
def f18 : Fn := ⟨1, false, [], 2, [(.ifs (.or (.cmp .eq (.var 0) (.con (.str []))) (.not (.bi .all [(.lc [1] (.one 1) (.itr (.var 0)) [] (.cmp .isin (.var 1) (.con (.str [48, 49, 50, 51, 52, 53, 54, 55, 56, 57]))))]))) [(.ret (.con .non))] []), (.ret (.ife (.or (.cmp .ne (.idx (.var 0) (.con (.int 0))) (.con (.str [48]))) (.cmp .eq (.var 0) (.con (.str [48])))) (.bi .int [(.var 0)]) (.con .non)))]⟩
/-- signed_in -/
def f19 : Fn := ⟨1, false, [], 2, [(.ifs (.cmp .ne (.shi (.var 0) (.con (.int 1))) (.con (.str [45]))) [(.ret (.call 18 [(.var 0)]))] []), (.asg (.one 1) (.call 18 [(.slo (.var 0) (.con (.int 1)))])), (.ret (.ife (.or (.cmp .isn (.var 1) (.con .non)) (.cmp .eq (.var 1) (.con (.int 0)))) (.con .non) (.neg (.var 1))))]⟩
/-- is_reading -/
def f20 : Fn := ⟨2, false, [], 3, [(.ret (.and (.isi (.var 0) .str) (.and (.cmp .eq (.bi .len [(.var 0)]) (.var 1)) (.bi .all [(.lc [2] (.one 2) (.itr (.var 0)) [] (.cmp .isin (.var 2) (.con (.str [48, 49]))))]))))]⟩
/-- Reading.__init__ -/
def f21 : Fn := ⟨1, false, [], 1, [(.asg (.fld (.var 0) 39) (.con (.int 0))), (.asg (.fld (.var 0) 54) (.con (.int 0))), (.asg (.fld (.var 0) 36) (.dic [] [])), (.asg (.fld (.var 0) 48) (.lst [])), (.asg (.fld (.var 0) 13) (.con (.str []))), (.asg (.fld (.var 0) 20) (.con (.str [])))]⟩
/-- Reading.take -/
def f22 : Fn := ⟨2, false, [], 3, [(.asg (.one 2) (.ife (.isi (.var 1) .str) (.bm .split (.var 1) [(.con (.str [32]))]) (.lst [(.con (.str []))]))), (.ifs (.cmp .eq (.fld (.var 0) 39) (.con (.int 0))) [(.ret (.meth (.var 0) 44 [(.var 2)]))] []), (.ifs (.cmp .eq (.idx (.var 2) (.con (.int 0))) (.con (.str [112, 108, 97, 99, 101]))) [(.ret (.meth (.var 0) 42 [(.var 2)]))] []), (.ifs (.or (.cmp .eq (.fld (.var 0) 39) (.con (.int 4))) (.cmp .lt (.bi .len [(.fld (.var 0) 36)]) (.con (.int 2)))) [(.ret (.con (.bl false)))] []), (.ifs (.cmp .eq (.idx (.var 2) (.con (.int 0))) (.con (.str [119, 97, 121]))) [(.ret (.meth (.var 0) 45 [(.var 2)]))] []), (.ret (.meth (.var 0) 43 [(.var 2)]))]⟩
/-- Reading.take_sensors -/
def f23 : Fn := ⟨2, false, [], 3, [(.asg (.one 2) (.ife (.and (.cmp .eq (.bi .len [(.var 1)]) (.con (.int 2))) (.cmp .eq (.idx (.var 1) (.con (.int 0))) (.con (.str [115, 101, 110, 115, 111, 114, 115])))) (.call 18 [(.idx (.var 1) (.con (.int 1)))]) (.con .non))), (.ifs (.not (.call 17 [(.var 2), (.con (.int 1)), (.con (.int 3))])) [(.ret (.con (.bl false)))] []), (.asm [(.fld (.var 0) 54), (.fld (.var 0) 39)] (.tup [(.var 2), (.con (.int 1))])), (.ret (.con (.bl true)))]⟩
/-- Reading.take_place -/
def f24 : Fn := ⟨2, false, [], 2, [(.ifs (.or (.cmp .ne (.fld (.var 0) 39) (.con (.int 1))) (.or (.cmp .ne (.bi .len [(.var 1)]) (.con (.int 3))) (.cmp .eq (.bi .len [(.fld (.var 0) 36)]) (.con (.int 16))))) [(.ret (.con (.bl false)))] []), (.ifs (.or (.cmp .ne (.bi .len [(.idx (.var 1) (.con (.int 1)))]) (.con (.int 1))) (.or (.cmp .notin (.idx (.var 1) (.con (.int 1))) (.con (.str [97, 98, 99, 100, 101, 102, 103, 104, 105, 106, 107, 108, 109, 110, 111, 112]))) (.cmp .isin (.idx (.var 1) (.con (.int 1))) (.fld (.var 0) 36)))) [(.ret (.con (.bl false)))] []), (.ifs (.not (.call 20 [(.idx (.var 1) (.con (.int 2))), (.fld (.var 0) 54)])) [(.ret (.con (.bl false)))] []), (.asg (.sub (.fld (.var 0) 36) (.idx (.var 1) (.con (.int 1)))) (.idx (.var 1) (.con (.int 2)))), (.ret (.con (.bl true)))]⟩
/-- Reading.take_way -/
def f25 : Fn := ⟨2, false, [], 8, [(.ifs (.or (.cmp .notin (.fld (.var 0) 39) (.tup [(.con (.int 1)), (.con (.int 2))])) (.or (.cmp .ne (.bi .len [(.var 1)]) (.con (.int 4))) (.cmp .eq (.bi .len [(.fld (.var 0) 48)]) (.con (.int 30))))) [(.ret (.con (.bl false)))] []), (.asm [(.one 2), (.one 3), (.one 4)] (.tup [(.idx (.var 1) (.con (.int 1))), (.idx (.var 1) (.con (.int 2))), (.call 19 [(.idx (.var 1) (.con (.int 3)))])])), (.ifs (.or (.cmp .notin (.var 2) (.fld (.var 0) 36)) (.or (.cmp .notin (.var 3) (.fld (.var 0) 36)) (.cmp .eq (.var 2) (.var 3)))) [(.ret (.con (.bl false)))] []), (.ifs (.not (.call 17 [(.var 4), (.neg (.con (.int 9))), (.con (.int 9))])) [(.ret (.con (.bl false)))] []), (.ifs (.bi .any [(.lc [5, 6, 7] (.many [5, 6, 7]) (.itr (.fld (.var 0) 48)) [] (.cmp .isin (.tup [(.var 5), (.var 6)]) (.tup [(.tup [(.var 2), (.var 3)]), (.tup [(.var 3), (.var 2)])])))]) [(.ret (.con (.bl false)))] []), (.exp (.bm .append (.fld (.var 0) 48) [(.tup [(.var 2), (.var 3), (.var 4)])])), (.asg (.fld (.var 0) 39) (.con (.int 2))), (.ret (.con (.bl true)))]⟩
/-- Reading.take_places -/
def f26 : Fn := ⟨2, false, [], 5, [(.asg (.one 2) (.ife (.cmp .eq (.fld (.var 0) 39) (.con (.int 3))) (.con (.str [106, 117, 100, 103, 101])) (.con (.str [98, 101, 103, 105, 110])))), (.asg (.one 3) (.slo (.var 1) (.con (.int 1)))), (.ifs (.or (.cmp .ne (.idx (.var 1) (.con (.int 0))) (.var 2)) (.or (.cmp .eq (.var 3) (.lst [])) (.not (.bi .all [(.lc [4] (.one 4) (.itr (.var 3)) [] (.cmp .isin (.var 4) (.fld (.var 0) 36)))])))) [(.ret (.con (.bl false)))] []), (.ifs (.cmp .lt (.bi .lenset [(.var 3)]) (.bi .len [(.var 3)])) [(.ret (.con (.bl false)))] []), (.ifs (.cmp .eq (.var 2) (.con (.str [98, 101, 103, 105, 110]))) [(.asm [(.fld (.var 0) 13), (.fld (.var 0) 39)] (.tup [(.bm .join (.con (.str [])) [(.var 3)]), (.con (.int 3))]))] [(.asm [(.fld (.var 0) 20), (.fld (.var 0) 39)] (.tup [(.bm .join (.con (.str [])) [(.var 3)]), (.con (.int 4))]))]), (.ret (.con (.bl true)))]⟩
/-- read_rows -/
def f27 : Fn := ⟨1, false, [], 4, [(.asg (.one 1) (.make 6 [])), (.fro (.many [2, 3]) (.enm (.var 0)) [(.ifs (.not (.meth (.var 1) 41 [(.var 3)])) [(.ret (.tup [(.var 1), (.var 2)]))] [])]), (.ret (.tup [(.var 1), (.ife (.cmp .eq (.fld (.var 1) 39) (.con (.int 4))) (.con .non) (.bi .len [(.var 0)]))]))]⟩
/-- Web.__init__ -/
def f28 : Fn := ⟨1, true, [], 5, [(.asm [(.one 2), (.one 3)] (.call 27 [(.var 1)])), (.ifs (.cmp .notn (.var 3) (.con .non)) [.rse] []), (.asg (.fld (.var 0) 47) (.var 1)), (.asg (.fld (.var 0) 37) (.fld (.var 2) 54)), (.asg (.fld (.var 0) 36) (.fld (.var 2) 36)), (.asg (.fld (.var 0) 21) (.bm .join (.con (.str [])) [(.fld (.var 2) 36)])), (.asg (.fld (.var 0) 49) (.bi .tuple [(.fld (.var 2) 48)])), (.asg (.fld (.var 0) 40) (.fld (.var 2) 13)), (.asg (.fld (.var 0) 11) (.fld (.var 2) 20)), (.asg (.fld (.var 0) 22) (.dc [4] (.one 4) (.itr (.fld (.var 2) 36)) [] (.var 4) (.call 44 [(.var 4), (.fld (.var 2) 48)])))]⟩
/-- Web.read -/
def f29 : Fn := ⟨1, false, [], 3, [(.asg (.one 2) (.ife (.isi (.var 1) .str) (.bm .split (.var 1) [(.con (.str [10]))]) (.lst []))), (.ifs (.cmp .notn (.idx (.call 27 [(.var 2)]) (.con (.int 1))) (.con .non)) [.rse] []), (.ret (.maks 7 (.var 2)))]⟩
/-- Web.rows -/
def f30 : Fn := ⟨1, false, [], 1, [(.ret (.fld (.var 0) 47))]⟩
/-- Web.text -/
def f31 : Fn := ⟨1, false, [], 1, [(.ret (.bm .join (.con (.str [10])) [(.fld (.var 0) 47)]))]⟩
/-- Web.sensors -/
def f32 : Fn := ⟨1, false, [], 1, [(.ret (.fld (.var 0) 37))]⟩
/-- Web.places -/
def f33 : Fn := ⟨1, false, [], 1, [(.ret (.fld (.var 0) 21))]⟩
/-- Web.readings -/
def f34 : Fn := ⟨1, false, [], 2, [(.ret (.bi .tuple [(.lc [1] (.one 1) (.itr (.fld (.var 0) 21)) [] (.idx (.fld (.var 0) 36) (.var 1)))]))]⟩
/-- Web.ways -/
def f35 : Fn := ⟨1, false, [], 1, [(.ret (.fld (.var 0) 49))]⟩
/-- Web.begins -/
def f36 : Fn := ⟨1, false, [], 1, [(.exp (.call 0 [(.con (.int 0))]))]⟩
/-- Web.judged -/
def f37 : Fn := ⟨1, false, [], 1, [(.ret (.fld (.var 0) 11))]⟩
/-- Web.with_row -/
def f38 : Fn := ⟨3, false, [], 3, [(.exp (.call 0 [(.con (.int 1))]))]⟩
/-- Web.__len__ -/
def f39 : Fn := ⟨1, false, [], 1, [(.ret (.bi .len [(.fld (.var 0) 21)]))]⟩
/-- Web.__bool__ -/
def f40 : Fn := ⟨1, false, [], 1, [(.ret (.con (.bl true)))]⟩
/-- Web.__eq__ -/
def f41 : Fn := ⟨2, false, [], 2, [(.ret (.and (.isi (.var 1) (.cls 7)) (.cmp .eq (.fld (.var 0) 47) (.fld (.var 1) 31))))]⟩
/-- Web.__str__ -/
def f42 : Fn := ⟨1, false, [], 1, [(.ret (.bm .join (.con (.str [10])) [(.fld (.var 0) 47)]))]⟩
/-- Web.__repr__ -/
def f43 : Fn := ⟨1, false, [], 1, [(.ret (.fst [(.con (.str [87, 101, 98, 32, 111, 102, 32])), (.bi .len [(.fld (.var 0) 21)]), (.con (.str [32, 112, 108, 97, 99, 101, 115]))]))]⟩
/-- near_of -/
def f44 : Fn := ⟨2, false, [], 6, [(.asg (.one 2) (.lst [])), (.fro (.many [3, 4, 5]) (.itr (.var 1)) [(.ifs (.cmp .eq (.var 3) (.var 0)) [(.exp (.bm .append (.var 2) [(.tup [(.var 4), (.var 5)])]))] []), (.ifs (.cmp .eq (.var 4) (.var 0)) [(.exp (.bm .append (.var 2) [(.tup [(.var 3), (.neg (.var 5))])]))] [])]), (.ret (.bi .tuple [(.var 2)]))]⟩
/-- check_web -/
def f45 : Fn := ⟨1, false, [], 1, [(.ifs (.not (.isi (.var 0) (.cls 7))) [.rse] [])]⟩
/-- is_right_of -/
def f46 : Fn := ⟨1, false, [], 1, [(.ret (.cmp .isn (.call 47 [(.var 0), (.var 0)]) (.con .non)))]⟩
/-- unlike_of -/
def f47 : Fn := ⟨2, false, [], 4, [(.ifs (.cmp .ne (.fld (.var 0) 37) (.fld (.var 1) 37)) [(.ret (.con (.str [115, 101, 110, 115, 111, 114, 115])))] []), (.fro (.one 2) (.itr (.call 7 [(.make 0 [(.var 0)]), (.make 0 [(.var 1)])])) [(.asg (.one 3) (.call 10 [(.var 2)])), (.ifs (.cmp .notn (.var 3) (.con .non)) [(.ret (.call 9 [(.var 3)]))] [])]), (.ret (.con .non))]⟩
/-- onward -/
def f48 : Fn := ⟨1, false, [], 6, [(.asm [(.one 1), (.one 2)] (.tup [(.dc [3] (.one 3) (.itr (.fld (.var 0) 11)) [] (.var 3) (.con (.bl true))), (.bi .list [(.fld (.var 0) 11)])])), (.whl (.var 2) [(.fro (.many [4, 5]) (.itr (.idx (.fld (.var 0) 22) (.bm .pop0 (.var 2) []))) [(.ifs (.cmp .notin (.var 4) (.var 1)) [(.asg (.sub (.var 1) (.var 4)) (.con (.bl true))), (.exp (.bm .append (.var 2) [(.var 4)]))] [])])]), (.ret (.var 1))]⟩
/-- drift_part -/
def f49 : Fn := ⟨1, false, [], 5, [(.asg (.one 1) (.call 48 [(.var 0)])), (.fro (.one 2) (.itr (.call 6 [(.make 0 [(.var 0)]), (.make 0 [(.var 0)])])) [(.asm [(.one 3), (.one 4)] (.idx (.fld (.var 2) 30) (.con (.int 0)))), (.ifs (.and (.cmp .notn (.fld (.var 2) 10) (.con .non)) (.and (.cmp .isin (.var 3) (.var 1)) (.cmp .isin (.var 4) (.var 1)))) [(.ret (.var 2))] [])]), (.ret (.con .non))]⟩
/-- error_with -/
def f50 : Fn := ⟨2, false, [], 3, [(.asg (.one 2) (.make 0 [(.var 0), (.var 1)])), (.ret (.call 12 [(.var 2), (.var 2)]))]⟩
/-- all_lots -/
def f51 : Fn := ⟨1, false, [], 6, [(.asm [(.one 1), (.one 2)] (.tup [(.lst [(.tup [])]), (.lst [(.tup [])])])), (.fro (.one 3) (.rg1 (.var 0)) [(.asg (.one 2) (.lc2 [4, 5] (.one 4) (.itr (.var 2)) (.one 5) (.rg1 (.var 0)) [(.or (.cmp .eq (.var 4) (.tup [])) (.cmp .gt (.var 5) (.idx (.var 4) (.neg (.con (.int 1))))))] (.tst (.var 4) [(.var 5)]))), (.exp (.bm .extend (.var 1) [(.var 2)]))]), (.ret (.var 1))]⟩
/-- least_of -/
def f52 : Fn := ⟨1, false, [], 5, [(.asg (.one 1) (.lst [])), (.fro (.one 2) (.itr (.call 51 [(.fld (.var 0) 37)])) [(.ifs (.and (.not (.bi .any [(.lc [4] (.one 4) (.itr (.var 1)) [] (.bi .all [(.lc [3] (.one 3) (.itr (.var 4)) [] (.cmp .isin (.var 3) (.var 2)))]))])) (.cmp .eq (.call 50 [(.var 0), (.var 2)]) (.con (.int 0)))) [(.exp (.bm .append (.var 1) [(.var 2)]))] [])]), (.ret (.bi .tuple [(.var 1)]))]⟩
/-- goes -/
def f53 : Fn := ⟨2, false, [], 4, [(.ifs (.or (.not (.isi (.var 1) .str)) (.or (.cmp .eq (.var 1) (.con (.str []))) (.not (.bi .all [(.lc [2] (.one 2) (.itr (.var 1)) [] (.cmp .isin (.var 2) (.fld (.var 0) 36)))])))) [(.ret (.con (.bl false)))] []), (.ifs (.cmp .notin (.idx (.var 1) (.con (.int 0))) (.fld (.var 0) 40)) [(.ret (.con (.bl false)))] []), (.ret (.bi .all [(.lc [3] (.one 3) (.rg1 (.bin .sub (.bi .len [(.var 1)]) (.con (.int 1)))) [] (.cmp .notn (.call 54 [(.var 0), (.idx (.var 1) (.var 3)), (.idx (.var 1) (.bin .add (.var 3) (.con (.int 1))))]) (.con .non)))]))]⟩
/-- counted -/
def f54 : Fn := ⟨3, false, [], 5, [(.fro (.many [3, 4]) (.itr (.idx (.fld (.var 0) 22) (.var 1))) [(.ifs (.cmp .eq (.var 3) (.var 2)) [(.ret (.var 4))] [])]), (.ret (.con .non))]⟩
/-- count_of -/
def f55 : Fn := ⟨2, false, [], 3, [(.ret (.bi .sum [(.lc [2] (.one 2) (.rg1 (.bin .sub (.bi .len [(.var 1)]) (.con (.int 1)))) [] (.call 54 [(.var 0), (.idx (.var 1) (.var 2)), (.idx (.var 1) (.bin .add (.var 2) (.con (.int 1))))]))]))]⟩
/-- silent_from -/
def f56 : Fn := ⟨2, false, [], 8, [(.asm [(.one 2), (.one 3), (.one 4)] (.tup [(.dic [(.var 1)] [(.con (.int 0))]), (.lst [(.var 1)]), (.con (.bl true))])), (.whl (.var 3) [(.asg (.one 5) (.bm .pop0 (.var 3) [])), (.fro (.many [6, 7]) (.itr (.idx (.fld (.var 0) 22) (.var 5))) [(.ifs (.cmp .eq (.idx (.fld (.var 0) 36) (.var 6)) (.idx (.fld (.var 0) 36) (.var 1))) [(.ifs (.cmp .notin (.var 6) (.var 2)) [(.asg (.sub (.var 2) (.var 6)) (.bin .add (.idx (.var 2) (.var 5)) (.var 7))), (.exp (.bm .append (.var 3) [(.var 6)]))] [(.ifs (.cmp .ne (.idx (.var 2) (.var 6)) (.bin .add (.idx (.var 2) (.var 5)) (.var 7))) [(.asg (.one 4) (.con (.bl false)))] [])])] [])])]), (.ret (.tup [(.var 2), (.var 4)]))]⟩
/-- put_in -/
def f57 : Fn := ⟨3, false, [], 4, [(.ifs (.or (.cmp .isn (.var 2) (.con .non)) (.cmp .isn (.bm .get2 (.var 0) [(.var 1), (.tup [])]) (.con .non))) [(.asg (.sub (.var 0) (.var 1)) (.con .non))] [(.exp (.bm .update (.bm .setd (.var 0) [(.var 1), (.dic [] [])]) [(.dc [3] (.one 3) (.itr (.var 2)) [] (.var 3) (.con (.bl true)))]))])]⟩
/-- settled -/
def f58 : Fn := ⟨2, false, [], 8, [(.asg (.one 2) (.dic [] [])), (.fro (.one 3) (.itr (.var 1)) [(.asm [(.one 4), (.one 5)] (.call 56 [(.var 0), (.var 3)])), (.fro (.one 6) (.itr (.var 4)) [(.ifs (.or (.cmp .isn (.idx (.var 1) (.var 3)) (.con .non)) (.not (.var 5))) [(.exp (.call 57 [(.var 2), (.var 6), (.con .non)]))] [(.exp (.call 57 [(.var 2), (.var 6), (.lc [7] (.one 7) (.itr (.idx (.var 1) (.var 3))) [] (.bin .add (.var 7) (.idx (.var 4) (.var 6))))]))])])]), (.ret (.var 2))]⟩
/-- first_counts -/
def f59 : Fn := ⟨2, false, [], 3, [(.ret (.call 58 [(.var 0), (.dc [2] (.one 2) (.itr (.fld (.var 0) 40)) [(.cmp .eq (.idx (.fld (.var 0) 36) (.var 2)) (.var 1))] (.var 2) (.dic [(.con (.int 0))] [(.con (.bl true))]))]))]⟩
/-- next_counts -/
def f60 : Fn := ⟨3, false, [], 8, [(.asg (.one 3) (.dic [] [])), (.fro (.one 4) (.itr (.var 1)) [(.fro (.many [5, 6]) (.itr (.idx (.fld (.var 0) 22) (.var 4))) [(.ifs (.cmp .eq (.idx (.fld (.var 0) 36) (.var 5)) (.var 2)) [(.exp (.call 57 [(.var 3), (.var 5), (.ife (.cmp .isn (.idx (.var 1) (.var 4)) (.con .non)) (.con .non) (.lc [7] (.one 7) (.itr (.idx (.var 1) (.var 4))) [] (.bin .add (.var 7) (.var 6))))]))] [])])]), (.ret (.call 58 [(.var 0), (.var 3)]))]⟩
/-- counts_by_place -/
def f61 : Fn := ⟨2, false, [], 4, [(.asg (.one 2) (.call 59 [(.var 0), (.idx (.var 1) (.con (.int 0)))])), (.fro (.one 3) (.itr (.slo (.var 1) (.con (.int 1)))) [(.asg (.one 2) (.call 60 [(.var 0), (.var 2), (.var 3)]))]), (.ret (.var 2))]⟩
/-- counts_of -/
def f62 : Fn := ⟨2, false, [], 6, [(.asg (.one 2) (.lc [3] (.one 3) (.itr (.var 1)) [(.cmp .isin (.var 3) (.fld (.var 0) 11))] (.idx (.var 1) (.var 3)))), (.ifs (.cmp .isin (.con .non) (.var 2)) [(.ret (.con .non))] []), (.ret (.bi .tuple [(.ssc [4, 5] (.one 4) (.itr (.var 2)) (.one 5) (.itr (.var 4)) (.var 5))]))]⟩
/-- lot_said -/
def f63 : Fn := ⟨1, false, [], 2, [(.ret (.ife (.var 0) (.bm .join (.con (.str [])) [(.lc [1] (.one 1) (.itr (.var 0)) [] (.bi .str [(.var 1)]))]) (.con (.str [45]))))]⟩
/-- Console.__init__ -/
def f64 : Fn := ⟨2, false, [], 2, [(.exp (.call 45 [(.var 1)])), (.asg (.fld (.var 0) 8) (.var 1))]⟩
/-- Console.web -/
def f65 : Fn := ⟨1, false, [], 1, [(.ret (.fld (.var 0) 8))]⟩
/-- Console.say -/
def f66 : Fn := ⟨2, false, [], 4, [(.asg (.one 2) (.ife (.isi (.var 1) .str) (.bm .split (.var 1) [(.con (.str [32]))]) (.lst [(.con (.str []))]))), (.asg (.one 3) (.ife (.cmp .eq (.bi .len [(.var 2)]) (.con (.int 1))) (.meth (.var 0) 26 [(.idx (.var 2) (.con (.int 0)))]) (.meth (.var 0) 6 [(.idx (.var 2) (.con (.int 0))), (.slo (.var 2) (.con (.int 1)))]))), (.ifs (.cmp .isn (.var 3) (.con .non)) [.rse] []), (.ret (.var 3))]⟩
/-- Console.plain -/
def f67 : Fn := ⟨2, false, [], 5, [(.ifs (.cmp .eq (.var 1) (.con (.str [114, 105, 103, 104, 116]))) [(.ret (.ife (.call 46 [(.fld (.var 0) 8)]) (.con (.str [121, 101, 115])) (.con (.str [110, 111]))))] []), (.ifs (.cmp .eq (.var 1) (.con (.str [101, 114, 114, 111, 114]))) [(.asg (.one 2) (.call 12 [(.make 0 [(.fld (.var 0) 8)]), (.make 0 [(.fld (.var 0) 8)])])), (.ret (.ife (.cmp .isn (.var 2) (.con .non)) (.con (.str [110, 111, 32, 101, 110, 100])) (.bi .str [(.var 2)])))] []), (.ifs (.cmp .eq (.var 1) (.con (.str [99, 111, 117, 110, 116, 101, 114]))) [(.ifs (.not (.call 46 [(.fld (.var 0) 8)])) [(.ret (.con (.str [119, 114, 111, 110, 103])))] []), (.ret (.ife (.cmp .isn (.call 49 [(.fld (.var 0) 8)]) (.con .non)) (.con (.str [121, 101, 115])) (.con (.str [100, 114, 105, 102, 116]))))] []), (.ifs (.cmp .eq (.var 1) (.con (.str [108, 111, 116, 115]))) [(.asg (.one 3) (.call 52 [(.fld (.var 0) 8)])), (.ret (.ife (.var 3) (.bm .join (.con (.str [32])) [(.lc [4] (.one 4) (.itr (.var 3)) [] (.call 63 [(.var 4)]))]) (.con (.str [110, 111, 110, 101]))))] []), (.ret (.con .non))]⟩
/-- Console.answer -/
def f68 : Fn := ⟨3, false, [], 6, [(.ifs (.and (.cmp .eq (.var 1) (.con (.str [114, 111, 119]))) (.cmp .eq (.bi .len [(.var 2)]) (.con (.int 1)))) [(.asg (.one 3) (.call 18 [(.idx (.var 2) (.con (.int 0)))])), (.ret (.ife (.and (.cmp .notn (.var 3) (.con .non)) (.cmp .lt (.var 3) (.bi .len [(.fld (.fld (.var 0) 8) 47)]))) (.idx (.fld (.fld (.var 0) 8) 47) (.var 3)) (.con .non)))] []), (.ifs (.and (.cmp .eq (.var 1) (.con (.str [119, 97, 108, 107]))) (.and (.cmp .eq (.bi .len [(.var 2)]) (.con (.int 1))) (.and (.cmp .ne (.idx (.var 2) (.con (.int 0))) (.con (.str []))) (.bi .all [(.lc [4] (.one 4) (.itr (.idx (.var 2) (.con (.int 0)))) [] (.cmp .isin (.var 4) (.con (.str [97, 98, 99, 100, 101, 102, 103, 104, 105, 106, 107, 108, 109, 110, 111, 112]))))])))) [(.ret (.meth (.var 0) 51 [(.idx (.var 2) (.con (.int 0)))]))] []), (.ifs (.and (.cmp .eq (.var 1) (.con (.str [114, 101, 97, 100]))) (.bi .all [(.lc [5] (.one 5) (.itr (.var 2)) [] (.call 20 [(.var 5), (.fld (.fld (.var 0) 8) 37)]))])) [(.ret (.meth (.var 0) 33 [(.bi .tuple [(.var 2)])]))] []), (.ret (.con .non))]⟩
/-- Console.walked -/
def f69 : Fn := ⟨2, false, [], 2, [(.ifs (.not (.call 53 [(.fld (.var 0) 8), (.var 1)])) [(.ret (.con (.str [110, 111, 32, 119, 97, 108, 107])))] []), (.ret (.fst [(.call 55 [(.fld (.var 0) 8), (.var 1)]), (.con (.str [32])), (.ife (.cmp .isin (.idx (.var 1) (.neg (.con (.int 1)))) (.fld (.fld (.var 0) 8) 11)) (.con (.str [106, 117, 100, 103, 101, 100])) (.con (.str [111, 112, 101, 110])))]))]⟩
/-- Console.seen_so -/
def f70 : Fn := ⟨2, false, [], 5, [(.ifs (.bi .any [(.lc [2] (.one 2) (.rg1 (.bin .sub (.bi .len [(.var 1)]) (.con (.int 1)))) [] (.cmp .eq (.idx (.var 1) (.var 2)) (.idx (.var 1) (.bin .add (.var 2) (.con (.int 1))))))]) [(.ret (.con .non))] []), (.asg (.one 3) (.call 62 [(.fld (.var 0) 8), (.call 61 [(.fld (.var 0) 8), (.var 1)])])), (.ifs (.cmp .isn (.var 3) (.con .non)) [(.ret (.con (.str [101, 110, 100, 108, 101, 115, 115])))] []), (.ret (.ife (.var 3) (.bm .join (.con (.str [32])) [(.lc [4] (.one 4) (.itr (.var 3)) [] (.bi .str [(.var 4)]))]) (.con (.str [110, 111, 110, 101]))))]⟩
/-- _law_spring -/
def f71 : Fn := ⟨2, false, [], 5, [(.asg (.one 2) (.ife (.cmp .lt (.var 1) (.bi .len [(.var 0)])) (.idx (.var 0) (.var 1)) (.bin .add (.bin .mul (.con (.int 7)) (.var 1)) (.con (.int 2))))), (.asg (.one 3) (.bin .add (.con (.int 90001)) (.bin .mul (.con (.int 7919)) (.var 1)))), (.fro (.one 4) (.itr (.bin .add (.shi (.var 0) (.con (.int 8))) (.lst [(.var 2)]))) [(.asg (.one 3) (.bin .mod (.bi .int [(.bin .add (.bin .add (.bin .mul (.var 3) (.con (.int 48271))) (.bi .int [(.var 4)])) (.bin .mul (.con (.int 11)) (.var 1)))]) (.con (.int 2147483647))))]), (.ret (.lst [(.ife (.or (.cmp .lt (.var 2) (.con (.int 0))) (.cmp .ge (.var 2) (.bin .pow (.con (.int 10)) (.con (.int 18))))) (.bi .abs [(.var 2)]) (.con (.int 0))), (.var 3), (.con (.int 0))]))]⟩
/-- _law_draw -/
def f72 : Fn := ⟨2, false, [], 5, [(.asg (.sub (.var 0) (.con (.int 2))) (.bin .add (.idx (.var 0) (.con (.int 2))) (.con (.int 1)))), (.asg (.sub (.var 0) (.con (.int 1))) (.bin .mod (.bi .int [(.bin .add (.bin .add (.bin .mul (.idx (.var 0) (.con (.int 1))) (.con (.int 69621))) (.bin .mul (.con (.int 40503)) (.idx (.var 0) (.con (.int 2))))) (.con (.int 1)))]) (.con (.int 2147483647)))), (.ifs (.cmp .gt (.idx (.var 0) (.con (.int 0))) (.con (.int 0))) [(.asm [(.sub (.var 0) (.con (.int 0))), (.one 2)] (.bi .divmod [(.idx (.var 0) (.con (.int 0))), (.var 1)])), (.ret (.var 2))] []), (.asg (.one 3) (.bin .add (.idx (.var 0) (.con (.int 1))) (.con (.int 12345)))), (.asg (.one 4) (.bin .mod (.bi .int [(.bin .add (.bin .mul (.var 3) (.idx (.var 0) (.con (.int 1)))) (.idx (.var 0) (.con (.int 2))))]) (.con (.int 2147483629)))), (.ret (.bin .mod (.bi .int [(.bin .fdiv (.var 4) (.con (.int 256)))]) (.var 1)))]⟩
/-- _law_of -/
def f73 : Fn := ⟨2, false, [], 2, [(.ret (.idx (.var 1) (.call 72 [(.var 0), (.bi .len [(.var 1)])])))]⟩
/-- _law_made -/
def f74 : Fn := ⟨1, false, [], 1, [(.ret (.cmet 7 28 [(.bm .join (.con (.str [10])) [(.var 0)])]))]⟩
/-- _law_gate_rows -/
def f75 : Fn := ⟨0, false, [], 1, [(.asg (.one 0) (.lst [(.con (.str [115, 101, 110, 115, 111, 114, 115, 32, 50])), (.con (.str [112, 108, 97, 99, 101, 32, 111, 32, 48, 48])), (.con (.str [112, 108, 97, 99, 101, 32, 98, 32, 49, 48])), (.con (.str [112, 108, 97, 99, 101, 32, 99, 32, 49, 49])), (.con (.str [112, 108, 97, 99, 101, 32, 100, 32, 48, 49])), (.con (.str [119, 97, 121, 32, 111, 32, 98, 32, 48])), (.con (.str [119, 97, 121, 32, 98, 32, 99, 32, 48]))])), (.ret (.bin .add (.var 0) (.lst [(.con (.str [119, 97, 121, 32, 99, 32, 100, 32, 49])), (.con (.str [119, 97, 121, 32, 100, 32, 111, 32, 48])), (.con (.str [98, 101, 103, 105, 110, 32, 111])), (.con (.str [106, 117, 100, 103, 101, 32, 111]))])))]⟩
/-- _law_short_rows -/
def f76 : Fn := ⟨0, false, [], 1, [(.asg (.one 0) (.call 75 [])), (.ret (.bin .add (.bin .add (.shi (.var 0) (.con (.int 3))) (.lst [(.con (.str [112, 108, 97, 99, 101, 32, 99, 32, 48, 48]))])) (.slo (.var 0) (.con (.int 4)))))]⟩
/-- _law_twins_rows -/
def f77 : Fn := ⟨0, false, [], 1, [(.asg (.one 0) (.lst [(.con (.str [115, 101, 110, 115, 111, 114, 115, 32, 50])), (.con (.str [112, 108, 97, 99, 101, 32, 97, 32, 48, 48])), (.con (.str [112, 108, 97, 99, 101, 32, 98, 32, 48, 49])), (.con (.str [112, 108, 97, 99, 101, 32, 99, 32, 49, 48])), (.con (.str [112, 108, 97, 99, 101, 32, 100, 32, 48, 48])), (.con (.str [112, 108, 97, 99, 101, 32, 101, 32, 48, 49])), (.con (.str [112, 108, 97, 99, 101, 32, 102, 32, 49, 48]))])), (.asg (.one 0) (.bin .add (.var 0) (.lst [(.con (.str [112, 108, 97, 99, 101, 32, 103, 32, 49, 49])), (.con (.str [112, 108, 97, 99, 101, 32, 104, 32, 49, 48])), (.con (.str [112, 108, 97, 99, 101, 32, 105, 32, 49, 49])), (.con (.str [119, 97, 121, 32, 97, 32, 98, 32, 48])), (.con (.str [119, 97, 121, 32, 98, 32, 99, 32, 48])), (.con (.str [119, 97, 121, 32, 99, 32, 97, 32, 49])), (.con (.str [119, 97, 121, 32, 100, 32, 101, 32, 48]))]))), (.asg (.one 0) (.bin .add (.var 0) (.lst [(.con (.str [119, 97, 121, 32, 101, 32, 102, 32, 48])), (.con (.str [119, 97, 121, 32, 102, 32, 100, 32, 48])), (.con (.str [119, 97, 121, 32, 97, 32, 103, 32, 48])), (.con (.str [119, 97, 121, 32, 100, 32, 104, 32, 48])), (.con (.str [119, 97, 121, 32, 104, 32, 105, 32, 48])), (.con (.str [98, 101, 103, 105, 110, 32, 97, 32, 100])), (.con (.str [106, 117, 100, 103, 101, 32, 103, 32, 105]))]))), (.ret (.var 0))]⟩
/-- _law_all_so -/
def f78 : Fn := ⟨2, false, [], 5, [(.asg (.one 2) (.make 8 [(.var 0)])), (.asg (.one 3) (.lc [4] (.one 4) (.itr (.var 1)) [] (.lst [(.meth (.var 2) 32 [(.idx (.var 4) (.con (.int 0)))]), (.meth (.var 2) 32 [(.idx (.var 4) (.con (.int 0)))])]))), (.ret (.and (.cmp .eq (.var 3) (.lc [4] (.one 4) (.itr (.var 1)) [] (.lst [(.idx (.var 4) (.con (.int 1))), (.idx (.var 4) (.con (.int 1)))]))) (.eqm 1 (.fld (.var 2) 53) (.var 0))))]⟩
/-- _law_known_ones -/
def f79 : Fn := ⟨0, false, [], 3, [(.asg (.one 0) (.lst [(.tup [(.con (.str [114, 111, 119, 32, 48])), (.con (.str [115, 101, 110, 115, 111, 114, 115, 32, 50]))]), (.tup [(.con (.str [114, 111, 119, 32, 51])), (.con (.str [112, 108, 97, 99, 101, 32, 99, 32, 49, 49]))]), (.tup [(.con (.str [114, 111, 119, 32, 49, 48])), (.con (.str [106, 117, 100, 103, 101, 32, 111]))]), (.tup [(.con (.str [114, 105, 103, 104, 116])), (.con (.str [121, 101, 115]))]), (.tup [(.con (.str [101, 114, 114, 111, 114])), (.con (.str [48]))])])), (.asg (.one 0) (.bin .add (.var 0) (.lst [(.tup [(.con (.str [99, 111, 117, 110, 116, 101, 114])), (.con (.str [121, 101, 115]))]), (.tup [(.con (.str [108, 111, 116, 115])), (.con (.str [48, 49]))]), (.tup [(.con (.str [119, 97, 108, 107, 32, 111, 98, 99, 100, 111])), (.con (.str [49, 32, 106, 117, 100, 103, 101, 100]))]), (.tup [(.con (.str [119, 97, 108, 107, 32, 111, 100, 99, 98, 111])), (.con (.str [45, 49, 32, 106, 117, 100, 103, 101, 100]))])]))), (.asg (.one 0) (.bin .add (.var 0) (.lst [(.tup [(.con (.str [119, 97, 108, 107, 32, 111, 98])), (.con (.str [48, 32, 111, 112, 101, 110]))]), (.tup [(.con (.str [119, 97, 108, 107, 32, 111, 99])), (.con (.str [110, 111, 32, 119, 97, 108, 107]))]), (.tup [(.con (.str [119, 97, 108, 107, 32, 98])), (.con (.str [110, 111, 32, 119, 97, 108, 107]))]), (.tup [(.con (.str [119, 97, 108, 107, 32, 112, 112, 112, 112])), (.con (.str [110, 111, 32, 119, 97, 108, 107]))])]))), (.asg (.one 0) (.bin .add (.var 0) (.lst [(.tup [(.con (.str [114, 101, 97, 100, 32, 48, 48])), (.con (.str [48]))]), (.tup [(.con (.str [114, 101, 97, 100, 32, 48, 48, 32, 49, 48, 32, 49, 49, 32, 48, 49, 32, 48, 48])), (.con (.str [49]))]), (.tup [(.con (.str [114, 101, 97, 100, 32, 48, 48, 32, 48, 49])), (.con (.str [110, 111, 110, 101]))]), (.tup [(.con (.str [114, 101, 97, 100, 32, 49, 49])), (.con (.str [110, 111, 110, 101]))])]))), (.ifs (.not (.call 78 [(.call 74 [(.call 75 [])]), (.var 0)])) [(.ret (.con (.bl false)))] []), (.asg (.one 1) (.lst [(.tup [(.con (.str [114, 111, 119, 32, 51])), (.con (.str [112, 108, 97, 99, 101, 32, 99, 32, 48, 48]))]), (.tup [(.con (.str [114, 105, 103, 104, 116])), (.con (.str [110, 111]))]), (.tup [(.con (.str [101, 114, 114, 111, 114])), (.con (.str [110, 111, 32, 101, 110, 100]))]), (.tup [(.con (.str [99, 111, 117, 110, 116, 101, 114])), (.con (.str [119, 114, 111, 110, 103]))]), (.tup [(.con (.str [108, 111, 116, 115])), (.con (.str [110, 111, 110, 101]))])])), (.asg (.one 1) (.bin .add (.var 1) (.lst [(.tup [(.con (.str [119, 97, 108, 107, 32, 111, 98, 99, 100, 111])), (.con (.str [49, 32, 106, 117, 100, 103, 101, 100]))]), (.tup [(.con (.str [114, 101, 97, 100, 32, 48, 48, 32, 49, 48, 32, 48, 48, 32, 48, 49, 32, 48, 48])), (.con (.str [48, 32, 49]))]), (.tup [(.con (.str [114, 101, 97, 100, 32, 48, 48, 32, 49, 48, 32, 48, 48])), (.con (.str [48]))])]))), (.exp (.bm .append (.var 1) [(.tup [(.con (.str [119, 97, 108, 107, 32, 111])), (.con (.str [48, 32, 106, 117, 100, 103, 101, 100]))])])), (.ifs (.not (.call 78 [(.call 74 [(.call 76 [])]), (.var 1)])) [(.ret (.con (.bl false)))] []), (.asg (.one 2) (.lst [(.tup [(.con (.str [114, 105, 103, 104, 116])), (.con (.str [121, 101, 115]))]), (.tup [(.con (.str [101, 114, 114, 111, 114])), (.con (.str [48]))]), (.tup [(.con (.str [99, 111, 117, 110, 116, 101, 114])), (.con (.str [100, 114, 105, 102, 116]))]), (.tup [(.con (.str [119, 97, 108, 107, 32, 97, 98, 99, 97, 103])), (.con (.str [49, 32, 106, 117, 100, 103, 101, 100]))]), (.tup [(.con (.str [119, 97, 108, 107, 32, 100, 104, 105])), (.con (.str [48, 32, 106, 117, 100, 103, 101, 100]))])])), (.asg (.one 2) (.bin .add (.var 2) (.lst [(.tup [(.con (.str [114, 101, 97, 100, 32, 48, 48, 32, 49, 48, 32, 49, 49])), (.con (.str [48]))]), (.tup [(.con (.str [114, 101, 97, 100, 32, 48, 48, 32, 48, 49, 32, 49, 48, 32, 48, 48, 32, 49, 49])), (.con (.str [49]))]), (.tup [(.con (.str [114, 111, 119, 32, 50, 48])), (.con (.str [106, 117, 100, 103, 101, 32, 103, 32, 105]))]), (.tup [(.con (.str [119, 97, 108, 107, 32, 97, 100])), (.con (.str [110, 111, 32, 119, 97, 108, 107]))])]))), (.ret (.call 78 [(.call 74 [(.call 77 [])]), (.var 2)]))]⟩
/-- _law_right -/
def f80 : Fn := ⟨1, false, [], 6, [(.asg (.one 1) (.call 72 [(.var 0), (.con (.int 10))])), (.asg (.one 2) (.lst [(.con (.str [115, 101, 110, 115, 111, 114, 115, 32, 49])), (.con (.str [112, 108, 97, 99, 101, 32, 97, 32, 48])), (.bin .add (.con (.str [112, 108, 97, 99, 101, 32, 98, 32])) (.call 73 [(.var 0), (.lst [(.con (.str [48])), (.con (.str [49]))])])), (.bin .add (.con (.str [119, 97, 121, 32, 97, 32, 98, 32])) (.bi .str [(.var 1)]))])), (.asg (.one 2) (.bin .add (.var 2) (.lst [(.con (.str [98, 101, 103, 105, 110, 32, 97])), (.con (.str [106, 117, 100, 103, 101, 32, 98]))]))), (.asg (.one 3) (.lst [(.tup [(.con (.str [119, 97, 108, 107, 32, 97, 98])), (.bin .add (.bi .str [(.var 1)]) (.con (.str [32, 106, 117, 100, 103, 101, 100])))]), (.tup [(.con (.str [119, 97, 108, 107, 32, 97])), (.con (.str [48, 32, 111, 112, 101, 110]))]), (.tup [(.con (.str [119, 97, 108, 107, 32, 97, 98, 97, 98])), (.bin .add (.bi .str [(.var 1)]) (.con (.str [32, 106, 117, 100, 103, 101, 100])))])])), (.asg (.one 3) (.bin .add (.var 3) (.lst [(.tup [(.con (.str [114, 105, 103, 104, 116])), (.con (.str [121, 101, 115]))]), (.tup [(.con (.str [101, 114, 114, 111, 114])), (.con (.str [48]))]), (.tup [(.con (.str [99, 111, 117, 110, 116, 101, 114])), (.con (.str [121, 101, 115]))]), (.tup [(.con (.str [108, 111, 116, 115])), (.con (.str [45]))])]))), (.exp (.bm .append (.var 3) [(.tup [(.con (.str [114, 111, 119, 32, 51])), (.bin .add (.con (.str [119, 97, 121, 32, 97, 32, 98, 32])) (.bi .str [(.var 1)]))])])), (.asg (.one 4) (.bin .add (.shi (.var 2) (.con (.int 4))) (.lst [(.con (.str [119, 97, 121, 32, 98, 32, 99, 32, 49])), (.con (.str [119, 97, 121, 32, 99, 32, 97, 32, 49])), (.con (.str [98, 101, 103, 105, 110, 32, 97])), (.con (.str [106, 117, 100, 103, 101, 32, 97]))]))), (.asg (.one 4) (.bin .add (.bin .add (.shi (.var 4) (.con (.int 3))) (.lst [(.con (.str [112, 108, 97, 99, 101, 32, 99, 32, 48]))])) (.slo (.var 4) (.con (.int 3))))), (.asg (.sub (.var 4) (.con (.int 2))) (.con (.str [112, 108, 97, 99, 101, 32, 98, 32, 48]))), (.asg (.one 5) (.lst [(.tup [(.con (.str [114, 101, 97, 100, 32, 48])), (.con (.str [101, 110, 100, 108, 101, 115, 115]))]), (.tup [(.con (.str [114, 105, 103, 104, 116])), (.con (.str [110, 111]))]), (.tup [(.con (.str [101, 114, 114, 111, 114])), (.con (.str [110, 111, 32, 101, 110, 100]))]), (.tup [(.con (.str [99, 111, 117, 110, 116, 101, 114])), (.con (.str [119, 114, 111, 110, 103]))]), (.tup [(.con (.str [108, 111, 116, 115])), (.con (.str [110, 111, 110, 101]))])])), (.exp (.bm .append (.var 5) [(.tup [(.con (.str [114, 101, 97, 100, 32, 49])), (.con (.str [110, 111, 110, 101]))])])), (.ret (.and (.call 78 [(.call 74 [(.var 2)]), (.var 3)]) (.call 78 [(.call 74 [(.var 4)]), (.var 5)])))]⟩
/-- law -/
def f81 : Fn := ⟨1, false, [], 2, [(.ifs (.not (.call 79 [])) [(.ret (.con (.bl false)))] []), (.ret (.bi .all [(.lc [1] (.one 1) (.rg1 (.bi .max2 [(.con (.int 2)), (.bi .min2 [(.bi .len [(.var 0)]), (.con (.int 4))])])) [] (.call 80 [(.call 71 [(.var 0), (.var 1)])]))]))]⟩
def prog : Prog := ⟨(.node (some f0) (.node (some f1) (.node (some f3) (.node (some f7) (.node none (.node (some f31) (.node (some f63) .nil .nil) .nil) (.node (some f47) (.node (some f79) .nil .nil) .nil)) (.node (some f23) (.node (some f39) (.node (some f71) .nil .nil) .nil) (.node (some f55) .nil .nil))) (.node (some f11) (.node (some f19) (.node (some f35) (.node (some f67) .nil .nil) .nil) (.node (some f51) .nil .nil)) (.node (some f27) (.node (some f43) (.node (some f75) .nil .nil) .nil) (.node (some f59) .nil .nil)))) (.node (some f5) (.node (some f9) (.node (some f17) (.node (some f33) (.node (some f65) .nil .nil) .nil) (.node (some f49) (.node (some f81) .nil .nil) .nil)) (.node (some f25) (.node (some f41) (.node (some f73) .nil .nil) .nil) (.node (some f57) .nil .nil))) (.node none (.node (some f21) (.node (some f37) (.node (some f69) .nil .nil) .nil) (.node (some f53) .nil .nil)) (.node none (.node (some f45) (.node (some f77) .nil .nil) .nil) (.node (some f61) .nil .nil))))) (.node (some f2) (.node (some f4) (.node (some f8) (.node (some f16) (.node (some f32) (.node (some f64) .nil .nil) .nil) (.node (some f48) (.node (some f80) .nil .nil) .nil)) (.node (some f24) (.node (some f40) (.node (some f72) .nil .nil) .nil) (.node (some f56) .nil .nil))) (.node (some f12) (.node (some f20) (.node (some f36) (.node (some f68) .nil .nil) .nil) (.node (some f52) .nil .nil)) (.node (some f28) (.node (some f44) (.node (some f76) .nil .nil) .nil) (.node (some f60) .nil .nil)))) (.node (some f6) (.node (some f10) (.node (some f18) (.node (some f34) (.node (some f66) .nil .nil) .nil) (.node (some f50) .nil .nil)) (.node (some f26) (.node (some f42) (.node (some f74) .nil .nil) .nil) (.node (some f58) .nil .nil))) (.node none (.node (some f22) (.node (some f38) (.node (some f70) .nil .nil) .nil) (.node (some f54) .nil .nil)) (.node (some f30) (.node (some f46) (.node (some f78) .nil .nil) .nil) (.node (some f62) .nil .nil)))))),
  (.node (some ⟨1, [(2, 9999), (0, 9999), (1, 9999), (3, 9999), (4, 9999), (5, 9999)], [], []⟩) (.node (some ⟨4, [(2, 9999), (24, 5), (0, 9999), (1, 9999), (3, 9999), (4, 9999), (5, 9999)], [], []⟩) (.node none (.node (some ⟨28, [(2, 9999), (28, 9999), (55, 38), (3, 39), (0, 40), (1, 41), (5, 42), (4, 43)], [(31, 30), (46, 31), (34, 32), (25, 33), (29, 34), (52, 35), (9, 36), (19, 37)], [(28, 29)]⟩) .nil .nil) .nil) .nil) (.node none (.node none (.node (some ⟨64, [(2, 9999), (32, 66), (26, 67), (6, 68), (51, 69), (33, 70), (0, 9999), (1, 9999), (3, 9999), (4, 9999), (5, 9999)], [(53, 65)], []⟩) .nil .nil) .nil) (.node (some ⟨21, [(2, 9999), (41, 22), (44, 23), (42, 24), (45, 25), (43, 26), (0, 9999), (1, 9999), (3, 9999), (4, 9999), (5, 9999)], [], []⟩) .nil .nil))),
  (.node none (.node none .nil (.node none .nil (.node none .nil (.node (some f29) .nil .nil)))) .nil)⟩
end
end K64
namespace K64
noncomputable section
open Q PySem L2
def top (i : Nat) : Stmt := PySem.Challenge.pw_loopquads_k64_consoles_by_hand.main.body.getD i (.Pass ⟨0, 0, 0, 0⟩)
def s0 : Stmt := top 0
def N0 : List Str := ["k"]
def s1 : Stmt := inClass (top 2) 0
def N1 : List Str := ["self", "web", "lot", "at", "place"]
def s2 : Stmt := top 3
def N2 : List Str := ["one", "other", "pair", "first", "second", "found", "place", "size", "mate", "far"]
def s3 : Stmt := top 4
def N3 : List Str := ["one", "other", "some", "first", "second"]
def s4 : Stmt := inClass (top 5) 0
def N4 : List Str := ["self", "one", "other", "begin", "waiting", "pair", "behind", "size"]
def s5 : Stmt := inClass (top 5) 1
def N5 : List Str := ["self", "pair", "found"]
def s6 : Stmt := top 6
def N6 : List Str := ["one", "other", "found", "begin", "part"]
def s7 : Stmt := top 7
def N7 : List Str := ["one", "other", "part"]
def s8 : Stmt := top 8
def N8 : List Str := ["path", "at", "found", "pair"]
def s9 : Stmt := top 9
def N9 : List Str := ["path"]
def s10 : Stmt := top 10
def N10 : List Str := ["part", "end", "ahead", "begin", "here", "there"]
def s11 : Stmt := top 11
def N11 : List Str := ["part", "low", "begin", "end"]
def s12 : Stmt := top 12
def N12 : List Str := ["one", "other", "found", "part", "here"]
def s16 : Stmt := top 30
def N16 : List Str := ["value"]
def s17 : Stmt := top 31
def N17 : List Str := ["value", "least", "most"]
def s18 : Stmt := top 32
def N18 : List Str := ["word", "sign"]
def s19 : Stmt := top 33
def N19 : List Str := ["word", "size"]
def s20 : Stmt := top 34
def N20 : List Str := ["value", "sensors", "sign"]
def s21 : Stmt := inClass (top 35) 0
def N21 : List Str := ["self"]
def s22 : Stmt := inClass (top 35) 1
def N22 : List Str := ["self", "row", "words"]
def s23 : Stmt := inClass (top 35) 2
def N23 : List Str := ["self", "words", "count"]
def s24 : Stmt := inClass (top 35) 3
def N24 : List Str := ["self", "words"]
def s25 : Stmt := inClass (top 35) 4
def N25 : List Str := ["self", "words", "first", "second", "size", "one", "other", "old"]
def s26 : Stmt := inClass (top 35) 5
def N26 : List Str := ["self", "words", "word", "some", "each"]
def s27 : Stmt := top 36
def N27 : List Str := ["rows", "found", "index", "row"]
def s28 : Stmt := inClass (top 37) 0
def N28 : List Str := ["self", "rows", "found", "wrong", "place"]
def s29 : Stmt := inClass (top 37) 1
def N29 : List Str := ["cls", "text", "rows"]
def s30 : Stmt := inClass (top 37) 2
def N30 : List Str := ["self"]
def s31 : Stmt := inClass (top 37) 3
def N31 : List Str := ["self"]
def s32 : Stmt := inClass (top 37) 4
def N32 : List Str := ["self"]
def s33 : Stmt := inClass (top 37) 5
def N33 : List Str := ["self"]
def s34 : Stmt := inClass (top 37) 6
def N34 : List Str := ["self", "place"]
def s35 : Stmt := inClass (top 37) 7
def N35 : List Str := ["self"]
def s36 : Stmt := inClass (top 37) 8
def N36 : List Str := ["self"]
def s37 : Stmt := inClass (top 37) 9
def N37 : List Str := ["self"]
def s38 : Stmt := inClass (top 37) 10
def N38 : List Str := ["self", "index", "row"]
def s39 : Stmt := inClass (top 37) 11
def N39 : List Str := ["self"]
def s40 : Stmt := inClass (top 37) 12
def N40 : List Str := ["self"]
def s41 : Stmt := inClass (top 37) 13
def N41 : List Str := ["self", "other"]
def s42 : Stmt := inClass (top 37) 14
def N42 : List Str := ["self"]
def s43 : Stmt := inClass (top 37) 15
def N43 : List Str := ["self"]
def s44 : Stmt := top 38
def N44 : List Str := ["place", "trails", "found", "first", "second", "size"]
def s45 : Stmt := top 39
def N45 : List Str := ["value"]
def s46 : Stmt := top 41
def N46 : List Str := ["web"]
def s47 : Stmt := top 42
def N47 : List Str := ["one", "other", "part", "path"]
def s48 : Stmt := top 43
def N48 : List Str := ["web", "found", "waiting", "place", "other", "size"]
def s49 : Stmt := top 44
def N49 : List Str := ["web", "some", "part", "first", "second"]
def s50 : Stmt := top 46
def N50 : List Str := ["web", "lot", "side"]
def s51 : Stmt := top 47
def N51 : List Str := ["many", "found", "last", "turn", "lot", "at"]
def s52 : Stmt := top 48
def N52 : List Str := ["web", "found", "lot", "sensor", "known"]
def s53 : Stmt := top 50
def N53 : List Str := ["web", "value", "sign", "at"]
def s54 : Stmt := top 51
def N54 : List Str := ["web", "first", "second", "place", "size"]
def s55 : Stmt := top 52
def N55 : List Str := ["web", "walk", "at"]
def s56 : Stmt := top 53
def N56 : List Str := ["web", "place", "levels", "waiting", "is_flat", "here", "other", "size"]
def s57 : Stmt := top 54
def N57 : List Str := ["found", "place", "values", "value"]
def s58 : Stmt := top 55
def N58 : List Str := ["web", "some", "found", "place", "levels", "is_flat", "other", "value"]
def s59 : Stmt := top 56
def N59 : List Str := ["web", "reading", "place"]
def s60 : Stmt := top 57
def N60 : List Str := ["web", "some", "reading", "found", "place", "other", "size", "value"]
def s61 : Stmt := top 58
def N61 : List Str := ["web", "readings", "found", "reading"]
def s62 : Stmt := top 59
def N62 : List Str := ["web", "some", "held", "place", "each", "value"]
def s63 : Stmt := top 62
def N63 : List Str := ["lot", "sensor"]
def s64 : Stmt := inClass (top 63) 0
def N64 : List Str := ["self", "web"]
def s65 : Stmt := inClass (top 63) 1
def N65 : List Str := ["self"]
def s66 : Stmt := inClass (top 63) 2
def N66 : List Str := ["self", "line", "words", "found"]
def s67 : Stmt := inClass (top 63) 3
def N67 : List Str := ["self", "word", "found", "some", "lot"]
def s68 : Stmt := inClass (top 63) 4
def N68 : List Str := ["self", "word", "rest", "index", "sign", "each"]
def s69 : Stmt := inClass (top 63) 5
def N69 : List Str := ["self", "walk"]
def s70 : Stmt := inClass (top 63) 6
def N70 : List Str := ["self", "readings", "at", "found", "value"]
def s71 : Stmt := top 65
def N71 : List Str := ["_law_cells", "_law_k", "_law_cell", "_law_mixed", "_law_number"]
def s72 : Stmt := top 66
def N72 : List Str := ["_law_spring_here", "_law_size", "_law_digit", "_law_far", "_law_mixed"]
def s73 : Stmt := top 67
def N73 : List Str := ["_law_spring_here", "_law_menu"]
def s74 : Stmt := top 68
def N74 : List Str := ["_law_rows_now"]
def s75 : Stmt := top 69
def N75 : List Str := ["_law_found"]
def s76 : Stmt := top 70
def N76 : List Str := ["_law_found"]
def s77 : Stmt := top 71
def N77 : List Str := ["_law_found"]
def s78 : Stmt := top 72
def N78 : List Str := ["_law_here", "_law_pairs", "_law_mine", "_law_got", "_law_pair"]
def s79 : Stmt := top 73
def N79 : List Str := ["_law_fine", "_law_wrong", "_law_far"]
def s80 : Stmt := top 74
def N80 : List Str := ["_law_spring_here", "_law_size", "_law_rows_now", "_law_pairs", "_law_fresh", "_law_far"]
def s81 : Stmt := top 75
def N81 : List Str := ["_law_cells", "_law_k"]
def fnmL : List (Str × Nat) := ([("_wall", 0), ("steps_from", 2), ("begin_pairs", 3), ("parts_of", 6), ("live_parts", 7), ("walk_in", 8), ("walks_in", 9), ("unlike_in", 10), ("error_in", 11), ("error_of", 12), ("is_integer", 16), ("is_between", 17), ("number_in", 18), ("signed_in", 19), ("is_reading", 20), ("read_rows", 27), ("near_of", 44), ("check_web", 45), ("is_right_of", 46), ("unlike_of", 47), ("onward", 48), ("drift_part", 49), ("error_with", 50), ("all_lots", 51), ("least_of", 52), ("goes", 53), ("counted", 54), ("count_of", 55), ("silent_from", 56), ("put_in", 57)] : List (Str × Nat)) ++ ([("settled", 58), ("first_counts", 59), ("next_counts", 60), ("counts_by_place", 61), ("counts_of", 62), ("lot_said", 63), ("_law_spring", 71), ("_law_draw", 72), ("_law_of", 73), ("_law_made", 74), ("_law_gate_rows", 75), ("_law_short_rows", 76), ("_law_twins_rows", 77), ("_law_all_so", 78), ("_law_known_ones", 79), ("_law_right", 80), ("law", 81)] : List (Str × Nat))
def cnmL : List (Str × Nat) := [("Side", 0), ("Part", 1), ("WrongValue", 2), ("InvalidText", 3), ("NotAWeb", 4), ("InvalidRows", 5), ("Reading", 6), ("Web", 7), ("Console", 8)]
def conL : List (Str × D) := [("MOST_SENSORS", (.int 3)), ("MOST_PLACES", (.int 16)), ("MOST_WAYS", (.int 30)), ("MOST_COUNTED", (.int 9)), ("FIGURES", (.str [48, 49, 50, 51, 52, 53, 54, 55, 56, 57])), ("LETTERS", (.str [97, 98, 99, 100, 101, 102, 103, 104, 105, 106, 107, 108, 109, 110, 111, 112])), ("SENSORS", (.int 0)), ("PLACES", (.int 1)), ("WAYS", (.int 2)), ("BEGUN", (.int 3)), ("DONE", (.int 4)), ("NONE", (.str [110, 111, 110, 101]))]
def fldL : List Str := (["__bool__", "__eq__", "__init__", "__len__", "__repr__", "__str__", "answer", "append", "base", "begins", "clash", "ends", "extend", "first_places", "get", "given", "heights", "index", "join", "judged", "last_places", "letters", "near", "parents", "path_to", "places", "plain", "pop", "read", "readings"] : List Str) ++ (["roots", "rows", "say", "seen_so", "sensors", "setdefault", "shown", "size", "split", "stage", "starts", "take", "take_place", "take_places", "take_sensors", "take_way", "text", "told", "told_ways", "trails", "update", "walked", "ways", "web", "width", "with_row"] : List Str)
def kwL : List (Str × Str) := [("say", "line")]
def inf : Inf := ⟨fnmL, cnmL, conL, fun c => prog.cls.get c, fldL, kwL⟩
end
end K64
namespace K64
noncomputable section
open Q
def b0 (G : Gam) : XS := (xscons (xwhl G (xcon (.bl true)) (xscons xpas xsnil)) xsnil)
def x0 : Fx := ⟨1, false, [], 1, b0⟩
theorem p0 (G : Gam) : yB G f0.body = b0 G := (hxscons (hxwhl hxcon (hxscons hxpas hxsnil)) hxsnil)
theorem e0 : f0.x = x0 := fn_x p0
def b1 (G : Gam) : XS := (xscons (xasg (xtfld G (xvar 0) 22) (xfld G (xvar 1) 22)) (xscons (xasg (xtfld G (xvar 0) 40) (xfld G (xvar 1) 40)) (xscons (xasg (xtfld G (xvar 0) 11) (xfld G (xvar 1) 11)) (xscons (xasg (xtfld G (xvar 0) 36) (xfld G (xvar 1) 36)) (xscons (xifs (xcmp .notn (xvar 2) (xcon .non)) (xscons (xasg (xtfld G (xvar 0) 36) (xdc G [4] (.one 4) (xitr (xfld G (xvar 1) 36)) xyes (xvar 4) (xbm .join (xcon (.str [])) (xcons (xlc G [3] (.one 3) (xitr (xvar 2)) xyes (xidx (xidx (xfld G (xvar 1) 36) (xvar 4)) (xvar 3))) xnil)))) xsnil) xsnil) xsnil)))))
def x1 : Fx := ⟨3, false, [.non], 5, b1⟩
theorem p1 (G : Gam) : yB G f1.body = b1 G := (hxscons (hxasg (hxtfld hxvar) (hxfld hxvar)) (hxscons (hxasg (hxtfld hxvar) (hxfld hxvar)) (hxscons (hxasg (hxtfld hxvar) (hxfld hxvar)) (hxscons (hxasg (hxtfld hxvar) (hxfld hxvar)) (hxscons (hxifs (hxcmp hxvar hxcon) (hxscons (hxasg (hxtfld hxvar) (hxdc (hxitr (hxfld hxvar)) hxyes hxvar (hxbm hxcon (hxcons (hxlc (hxitr hxvar) hxyes (hxidx (hxidx (hxfld hxvar) hxvar) hxvar)) hxnil)))) hxsnil) hxsnil) hxsnil)))))
theorem e1 : f1.x = x1 := fn_x p1
def b2 (G : Gam) : XS := (xscons (xasm (xtcons (xtone 3) (xtcons (xtone 4) xtnil)) (xvar 2)) (xscons (xasg (xtone 5) (xlst xnil)) (xscons (xfro G (.many [6, 7]) (xitr (xidx (xfld G (xvar 0) 22) (xvar 3))) (xscons (xifs (xcmp .eq (xidx (xfld G (xvar 0) 36) (xvar 6)) (xidx (xfld G (xvar 0) 36) (xvar 3))) (xscons (xexp (xbm .append (xvar 5) (xcons (xtup (xcons (xtup (xcons (xvar 6) (xcons (xvar 4) xnil))) (xcons (xvar 7) xnil))) xnil))) xsnil) (xscons (xfro G (.many [8, 9]) (xitr (xidx (xfld G (xvar 1) 22) (xvar 4))) (xscons (xifs (xcmp .eq (xidx (xfld G (xvar 1) 36) (xvar 8)) (xidx (xfld G (xvar 0) 36) (xvar 6))) (xscons (xexp (xbm .append (xvar 5) (xcons (xtup (xcons (xtup (xcons (xvar 6) (xcons (xvar 8) xnil))) (xcons (xbin .sub (xvar 7) (xvar 9)) xnil))) xnil))) xsnil) xsnil) xsnil)) xsnil)) xsnil)) (xscons (xfro G (.many [8, 9]) (xitr (xidx (xfld G (xvar 1) 22) (xvar 4))) (xscons (xifs (xcmp .eq (xidx (xfld G (xvar 1) 36) (xvar 8)) (xidx (xfld G (xvar 1) 36) (xvar 4))) (xscons (xexp (xbm .append (xvar 5) (xcons (xtup (xcons (xtup (xcons (xvar 3) (xcons (xvar 8) xnil))) (xcons (xneg (xvar 9)) xnil))) xnil))) xsnil) xsnil) xsnil)) (xscons (xret (xvar 5)) xsnil)))))
def x2 : Fx := ⟨3, false, [], 10, b2⟩
theorem p2 (G : Gam) : yB G f2.body = b2 G := (hxscons (hxasm (hxtcons hxtone (hxtcons hxtone hxtnil)) hxvar) (hxscons (hxasg hxtone (hxlst hxnil)) (hxscons (hxfro (hxitr (hxidx (hxfld hxvar) hxvar)) (hxscons (hxifs (hxcmp (hxidx (hxfld hxvar) hxvar) (hxidx (hxfld hxvar) hxvar)) (hxscons (hxexp (hxbm hxvar (hxcons (hxtup (hxcons (hxtup (hxcons hxvar (hxcons hxvar hxnil))) (hxcons hxvar hxnil))) hxnil))) hxsnil) (hxscons (hxfro (hxitr (hxidx (hxfld hxvar) hxvar)) (hxscons (hxifs (hxcmp (hxidx (hxfld hxvar) hxvar) (hxidx (hxfld hxvar) hxvar)) (hxscons (hxexp (hxbm hxvar (hxcons (hxtup (hxcons (hxtup (hxcons hxvar (hxcons hxvar hxnil))) (hxcons (hxbin hxvar hxvar) hxnil))) hxnil))) hxsnil) hxsnil) hxsnil)) hxsnil)) hxsnil)) (hxscons (hxfro (hxitr (hxidx (hxfld hxvar) hxvar)) (hxscons (hxifs (hxcmp (hxidx (hxfld hxvar) hxvar) (hxidx (hxfld hxvar) hxvar)) (hxscons (hxexp (hxbm hxvar (hxcons (hxtup (hxcons (hxtup (hxcons hxvar (hxcons hxvar hxnil))) (hxcons (hxneg hxvar) hxnil))) hxnil))) hxsnil) hxsnil) hxsnil)) (hxscons (hxret hxvar) hxsnil)))))
theorem e2 : f2.x = x2 := fn_x p2
def b3 (G : Gam) : XS := (xscons (xasg (xtone 2) (xlc2 G [3, 4] (.one 3) (xitr (xfld G (xvar 0) 40)) (.one 4) (xitr (xfld G (xvar 1) 40)) xyes (xtup (xcons (xvar 3) (xcons (xvar 4) xnil))))) (xscons (xret (xlc G [3, 4] (.many [3, 4]) (xitr (xvar 2)) (xtest (xcmp .eq (xidx (xfld G (xvar 0) 36) (xvar 3)) (xidx (xfld G (xvar 1) 36) (xvar 4))) xyes) (xtup (xcons (xvar 3) (xcons (xvar 4) xnil))))) xsnil))
def x3 : Fx := ⟨2, false, [], 5, b3⟩
theorem p3 (G : Gam) : yB G f3.body = b3 G := (hxscons (hxasg hxtone (hxlc2 (hxitr (hxfld hxvar)) (hxitr (hxfld hxvar)) hxyes (hxtup (hxcons hxvar (hxcons hxvar hxnil))))) (hxscons (hxret (hxlc (hxitr hxvar) (hxtest (hxcmp (hxidx (hxfld hxvar) hxvar) (hxidx (hxfld hxvar) hxvar)) hxyes) (hxtup (hxcons hxvar (hxcons hxvar hxnil))))) hxsnil))
theorem e3 : f3.x = x3 := fn_x p3
def b4 (G : Gam) : XS := (xscons (xasg (xtfld G (xvar 0) 16) (xdic1 (xvar 3) (xcon (.int 0)))) (xscons (xasg (xtfld G (xvar 0) 23) (xdic1 (xvar 3) (xcon .non))) (xscons (xasg (xtfld G (xvar 0) 10) (xcon .non)) (xscons (xasg (xtone 4) (xlst (xcons (xvar 3) xnil))) (xscons (xwhl G (xvar 4) (xscons (xasg (xtone 5) (xbm .pop1 (xvar 4) (xcons (xcon (.int 0)) xnil))) (xscons (xfro G (.many [6, 7]) (xitr (xcall G 2 (xcons (xvar 1) (xcons (xvar 2) (xcons (xvar 5) xnil))))) (xscons (xifs (xcmp .notin (xvar 6) (xfld G (xvar 0) 16)) (xscons (xasg (xtsub (xfld G (xvar 0) 16) (xvar 6)) (xbin .add (xidx (xfld G (xvar 0) 16) (xvar 5)) (xvar 7))) (xscons (xasg (xtsub (xfld G (xvar 0) 23) (xvar 6)) (xvar 5)) (xscons (xexp (xbm .append (xvar 4) (xcons (xvar 6) xnil))) xsnil))) (xscons (xifs (xand (xcmp .ne (xidx (xfld G (xvar 0) 16) (xvar 6)) (xbin .add (xidx (xfld G (xvar 0) 16) (xvar 5)) (xvar 7))) (xcmp .isn (xfld G (xvar 0) 10) (xcon .non))) (xscons (xasg (xtfld G (xvar 0) 10) (xtup (xcons (xvar 5) (xcons (xvar 6) xnil)))) xsnil) xsnil) xsnil)) xsnil)) xsnil))) (xscons (xasg (xtfld G (xvar 0) 30) (xlc G [5] (.one 5) (xitr (xcall G 3 (xcons (xvar 1) (xcons (xvar 2) xnil)))) (xtest (xcmp .isin (xvar 5) (xfld G (xvar 0) 16)) xyes) (xvar 5))) (xscons (xasg (xtfld G (xvar 0) 11) (xlc G [5] (.one 5) (xitr (xfld G (xvar 0) 16)) (xtest (xand (xcmp .isin (xidx (xvar 5) (xcon (.int 0))) (xfld G (xvar 1) 11)) (xcmp .isin (xidx (xvar 5) (xcon (.int 1))) (xfld G (xvar 2) 11))) xyes) (xvar 5))) xsnil)))))))
def x4 : Fx := ⟨4, false, [], 8, b4⟩
theorem p4 (G : Gam) : yB G f4.body = b4 G := (hxscons (hxasg (hxtfld hxvar) (hxdic1 hxvar hxcon)) (hxscons (hxasg (hxtfld hxvar) (hxdic1 hxvar hxcon)) (hxscons (hxasg (hxtfld hxvar) hxcon) (hxscons (hxasg hxtone (hxlst (hxcons hxvar hxnil))) (hxscons (hxwhl hxvar (hxscons (hxasg hxtone (hxbm hxvar (hxcons hxcon hxnil))) (hxscons (hxfro (hxitr (hxcall (hxcons hxvar (hxcons hxvar (hxcons hxvar hxnil))))) (hxscons (hxifs (hxcmp hxvar (hxfld hxvar)) (hxscons (hxasg (hxtsub (hxfld hxvar) hxvar) (hxbin (hxidx (hxfld hxvar) hxvar) hxvar)) (hxscons (hxasg (hxtsub (hxfld hxvar) hxvar) hxvar) (hxscons (hxexp (hxbm hxvar (hxcons hxvar hxnil))) hxsnil))) (hxscons (hxifs (hxand (hxcmp (hxidx (hxfld hxvar) hxvar) (hxbin (hxidx (hxfld hxvar) hxvar) hxvar)) (hxcmp (hxfld hxvar) hxcon)) (hxscons (hxasg (hxtfld hxvar) (hxtup (hxcons hxvar (hxcons hxvar hxnil)))) hxsnil) hxsnil) hxsnil)) hxsnil)) hxsnil))) (hxscons (hxasg (hxtfld hxvar) (hxlc (hxitr (hxcall (hxcons hxvar (hxcons hxvar hxnil)))) (hxtest (hxcmp hxvar (hxfld hxvar)) hxyes) hxvar)) (hxscons (hxasg (hxtfld hxvar) (hxlc (hxitr (hxfld hxvar)) (hxtest (hxand (hxcmp (hxidx hxvar hxcon) (hxfld hxvar)) (hxcmp (hxidx hxvar hxcon) (hxfld hxvar))) hxyes) hxvar)) hxsnil)))))))
theorem e4 : f4.x = x4 := fn_x p4
def b5 (G : Gam) : XS := (xscons (xasg (xtone 2) (xlst (xcons (xvar 1) xnil))) (xscons (xwhl G (xcmp .notn (xidx (xfld G (xvar 0) 23) (xidx (xvar 2) (xneg (xcon (.int 1))))) (xcon .non)) (xscons (xexp (xbm .append (xvar 2) (xcons (xidx (xfld G (xvar 0) 23) (xidx (xvar 2) (xneg (xcon (.int 1))))) xnil))) xsnil)) (xscons (xret (xrev (xvar 2))) xsnil)))
def x5 : Fx := ⟨2, false, [], 3, b5⟩
theorem p5 (G : Gam) : yB G f5.body = b5 G := (hxscons (hxasg hxtone (hxlst (hxcons hxvar hxnil))) (hxscons (hxwhl (hxcmp (hxidx (hxfld hxvar) (hxidx hxvar (hxneg hxcon))) hxcon) (hxscons (hxexp (hxbm hxvar (hxcons (hxidx (hxfld hxvar) (hxidx hxvar (hxneg hxcon))) hxnil))) hxsnil)) (hxscons (hxret (hxrev hxvar)) hxsnil)))
theorem e5 : f5.x = x5 := fn_x p5
def b6 (G : Gam) : XS := (xscons (xasg (xtone 2) (xlst xnil)) (xscons (xfro G (.one 3) (xitr (xcall G 3 (xcons (xvar 0) (xcons (xvar 1) xnil)))) (xscons (xifs (xnot (xbi .any (xcons (xlc G [4] (.one 4) (xitr (xvar 2)) xyes (xcmp .isin (xvar 3) (xfld G (xvar 4) 16))) xnil))) (xscons (xexp (xbm .append (xvar 2) (xcons (xmake G 1 (xcons (xvar 0) (xcons (xvar 1) (xcons (xvar 3) xnil)))) xnil))) xsnil) xsnil) xsnil)) (xscons (xret (xvar 2)) xsnil)))
def x6 : Fx := ⟨2, false, [], 5, b6⟩
theorem p6 (G : Gam) : yB G f6.body = b6 G := (hxscons (hxasg hxtone (hxlst hxnil)) (hxscons (hxfro (hxitr (hxcall (hxcons hxvar (hxcons hxvar hxnil)))) (hxscons (hxifs (hxnot (hxbi (hxcons (hxlc (hxitr hxvar) hxyes (hxcmp hxvar (hxfld hxvar))) hxnil))) (hxscons (hxexp (hxbm hxvar (hxcons (hxmake (hxcons hxvar (hxcons hxvar (hxcons hxvar hxnil)))) hxnil))) hxsnil) hxsnil) hxsnil)) (hxscons (hxret hxvar) hxsnil)))
theorem e6 : f6.x = x6 := fn_x p6
def b7 (G : Gam) : XS := (xscons (xret (xlc G [2] (.one 2) (xitr (xcall G 6 (xcons (xvar 0) (xcons (xvar 1) xnil)))) (xtest (xfld G (xvar 2) 11) xyes) (xvar 2))) xsnil)
def x7 : Fx := ⟨2, false, [], 3, b7⟩
theorem p7 (G : Gam) : yB G f7.body = b7 G := (hxscons (hxret (hxlc (hxitr (hxcall (hxcons hxvar (hxcons hxvar hxnil)))) (hxtest (hxfld hxvar) hxyes) hxvar)) hxsnil)
theorem e7 : f7.x = x7 := fn_x p7
def b8 (G : Gam) : XS := (xscons (xasg (xtone 2) (xidx (xidx (xvar 0) (xcon (.int 0))) (xvar 1))) (xscons (xfro G (.one 3) (xitr (xslo (xvar 0) (xcon (.int 1)))) (xscons (xasg (xtone 2) (xife (xcmp .eq (xidx (xvar 3) (xvar 1)) (xidx (xvar 2) (xneg (xcon (.int 1))))) (xvar 2) (xbin .add (xvar 2) (xidx (xvar 3) (xvar 1))))) xsnil)) (xscons (xret (xvar 2)) xsnil)))
def x8 : Fx := ⟨2, false, [], 4, b8⟩
theorem p8 (G : Gam) : yB G f8.body = b8 G := (hxscons (hxasg hxtone (hxidx (hxidx hxvar hxcon) hxvar)) (hxscons (hxfro (hxitr (hxslo hxvar hxcon)) (hxscons (hxasg hxtone (hxife (hxcmp (hxidx hxvar hxvar) (hxidx hxvar (hxneg hxcon))) hxvar (hxbin hxvar (hxidx hxvar hxvar)))) hxsnil)) (hxscons (hxret hxvar) hxsnil)))
theorem e8 : f8.x = x8 := fn_x p8
def b9 (G : Gam) : XS := (xscons (xret (xtup (xcons (xcall G 8 (xcons (xvar 0) (xcons (xcon (.int 0)) xnil))) (xcons (xcall G 8 (xcons (xvar 0) (xcons (xcon (.int 1)) xnil))) xnil)))) xsnil)
def x9 : Fx := ⟨1, false, [], 1, b9⟩
theorem p9 (G : Gam) : yB G f9.body = b9 G := (hxscons (hxret (hxtup (hxcons (hxcall (hxcons hxvar (hxcons hxcon hxnil))) (hxcons (hxcall (hxcons hxvar (hxcons hxcon hxnil))) hxnil)))) hxsnil)
theorem e9 : f9.x = x9 := fn_x p9
def b10 (G : Gam) : XS := (xscons (xfro G (.one 1) (xitr (xfld G (xvar 0) 11)) (xscons (xifs (xcmp .ne (xidx (xfld G (xvar 0) 16) (xvar 1)) (xcon (.int 0))) (xscons (xret (xmeth G (xvar 0) 24 (xcons (xvar 1) xnil))) xsnil) xsnil) xsnil)) (xscons (xifs (xnot (xfld G (xvar 0) 11)) (xscons (xret (xcon .non)) xsnil) xsnil) (xscons (xasg (xtone 2) (xslo (xmeth G (xvar 0) 24 (xcons (xidx (xfld G (xvar 0) 11) (xcon (.int 0))) xnil)) (xcon (.int 1)))) (xscons (xfro G (.one 3) (xitr (xfld G (xvar 0) 30)) (xscons (xifs (xcmp .ne (xidx (xfld G (xvar 0) 16) (xvar 3)) (xcon (.int 0))) (xscons (xret (xbin .add (xrev (xmeth G (xvar 0) 24 (xcons (xvar 3) xnil))) (xvar 2))) xsnil) xsnil) xsnil)) (xscons (xifs (xcmp .notn (xfld G (xvar 0) 10) (xcon .non)) (xscons (xasm (xtcons (xtone 4) (xtcons (xtone 5) xtnil)) (xfld G (xvar 0) 10)) (xscons (xret (xbin .add (xbin .add (xmeth G (xvar 0) 24 (xcons (xvar 4) xnil)) (xrev (xmeth G (xvar 0) 24 (xcons (xvar 5) xnil)))) (xvar 2))) xsnil)) xsnil) (xscons (xret (xcon .non)) xsnil))))))
def x10 : Fx := ⟨1, false, [], 6, b10⟩
theorem p10 (G : Gam) : yB G f10.body = b10 G := (hxscons (hxfro (hxitr (hxfld hxvar)) (hxscons (hxifs (hxcmp (hxidx (hxfld hxvar) hxvar) hxcon) (hxscons (hxret (hxmeth hxvar (hxcons hxvar hxnil))) hxsnil) hxsnil) hxsnil)) (hxscons (hxifs (hxnot (hxfld hxvar)) (hxscons (hxret hxcon) hxsnil) hxsnil) (hxscons (hxasg hxtone (hxslo (hxmeth hxvar (hxcons (hxidx (hxfld hxvar) hxcon) hxnil)) hxcon)) (hxscons (hxfro (hxitr (hxfld hxvar)) (hxscons (hxifs (hxcmp (hxidx (hxfld hxvar) hxvar) hxcon) (hxscons (hxret (hxbin (hxrev (hxmeth hxvar (hxcons hxvar hxnil))) hxvar)) hxsnil) hxsnil) hxsnil)) (hxscons (hxifs (hxcmp (hxfld hxvar) hxcon) (hxscons (hxasm (hxtcons hxtone (hxtcons hxtone hxtnil)) (hxfld hxvar)) (hxscons (hxret (hxbin (hxbin (hxmeth hxvar (hxcons hxvar hxnil)) (hxrev (hxmeth hxvar (hxcons hxvar hxnil)))) hxvar)) hxsnil)) hxsnil) (hxscons (hxret hxcon) hxsnil))))))
theorem e10 : f10.x = x10 := fn_x p10
def b11 (G : Gam) : XS := (xscons (xifs (xcmp .notn (xfld G (xvar 0) 10) (xcon .non)) (xscons (xret (xcon .non)) xsnil) xsnil) (xscons (xasg (xtone 1) (xbi .min1 (xcons (xlc G [2] (.one 2) (xitr (xfld G (xvar 0) 30)) xyes (xidx (xfld G (xvar 0) 16) (xvar 2))) xnil))) (xscons (xret (xbin .sub (xbi .max1 (xcons (xlc G [3] (.one 3) (xitr (xfld G (xvar 0) 11)) xyes (xidx (xfld G (xvar 0) 16) (xvar 3))) xnil)) (xvar 1))) xsnil)))
def x11 : Fx := ⟨1, false, [], 4, b11⟩
theorem p11 (G : Gam) : yB G f11.body = b11 G := (hxscons (hxifs (hxcmp (hxfld hxvar) hxcon) (hxscons (hxret hxcon) hxsnil) hxsnil) (hxscons (hxasg hxtone (hxbi (hxcons (hxlc (hxitr (hxfld hxvar)) hxyes (hxidx (hxfld hxvar) hxvar)) hxnil))) (hxscons (hxret (hxbin (hxbi (hxcons (hxlc (hxitr (hxfld hxvar)) hxyes (hxidx (hxfld hxvar) hxvar)) hxnil)) hxvar)) hxsnil)))
theorem e11 : f11.x = x11 := fn_x p11
def b12 (G : Gam) : XS := (xscons (xasg (xtone 2) (xcon (.int 0))) (xscons (xfro G (.one 3) (xitr (xcall G 7 (xcons (xvar 0) (xcons (xvar 1) xnil)))) (xscons (xasg (xtone 4) (xcall G 11 (xcons (xvar 3) xnil))) (xscons (xifs (xcmp .isn (xvar 4) (xcon .non)) (xscons (xret (xcon .non)) xsnil) xsnil) (xscons (xasg (xtone 2) (xbi .max2 (xcons (xvar 2) (xcons (xvar 4) xnil)))) xsnil)))) (xscons (xret (xvar 2)) xsnil)))
def x12 : Fx := ⟨2, false, [], 5, b12⟩
theorem p12 (G : Gam) : yB G f12.body = b12 G := (hxscons (hxasg hxtone hxcon) (hxscons (hxfro (hxitr (hxcall (hxcons hxvar (hxcons hxvar hxnil)))) (hxscons (hxasg hxtone (hxcall (hxcons hxvar hxnil))) (hxscons (hxifs (hxcmp hxvar hxcon) (hxscons (hxret hxcon) hxsnil) hxsnil) (hxscons (hxasg hxtone (hxbi (hxcons hxvar (hxcons hxvar hxnil)))) hxsnil)))) (hxscons (hxret hxvar) hxsnil)))
theorem e12 : f12.x = x12 := fn_x p12
def b16 (G : Gam) : XS := (xscons (xret (xand (xisi G (xvar 0) .int) (xnot (xisi G (xvar 0) .bool)))) xsnil)
def x16 : Fx := ⟨1, false, [], 1, b16⟩
theorem p16 (G : Gam) : yB G f16.body = b16 G := (hxscons (hxret (hxand (hxisi hxvar) (hxnot (hxisi hxvar)))) hxsnil)
theorem e16 : f16.x = x16 := fn_x p16
def b17 (G : Gam) : XS := (xscons (xret (xand (xcall G 16 (xcons (xvar 0) xnil)) (xchn .le .le (xvar 1) (xvar 0) (xvar 2)))) xsnil)
def x17 : Fx := ⟨3, false, [], 3, b17⟩
theorem p17 (G : Gam) : yB G f17.body = b17 G := (hxscons (hxret (hxand (hxcall (hxcons hxvar hxnil)) (hxchn hxvar hxvar hxvar))) hxsnil)
theorem e17 : f17.x = x17 := fn_x p17
def b18 (G : Gam) : XS := (xscons (xifs (xor_ (xcmp .eq (xvar 0) (xcon (.str []))) (xnot (xbi .all (xcons (xlc G [1] (.one 1) (xitr (xvar 0)) xyes (xcmp .isin (xvar 1) (xcon (.str [48, 49, 50, 51, 52, 53, 54, 55, 56, 57])))) xnil)))) (xscons (xret (xcon .non)) xsnil) xsnil) (xscons (xret (xife (xor_ (xcmp .ne (xidx (xvar 0) (xcon (.int 0))) (xcon (.str [48]))) (xcmp .eq (xvar 0) (xcon (.str [48])))) (xbi .int (xcons (xvar 0) xnil)) (xcon .non))) xsnil))
def x18 : Fx := ⟨1, false, [], 2, b18⟩
theorem p18 (G : Gam) : yB G f18.body = b18 G := (hxscons (hxifs (hxor (hxcmp hxvar hxcon) (hxnot (hxbi (hxcons (hxlc (hxitr hxvar) hxyes (hxcmp hxvar hxcon)) hxnil)))) (hxscons (hxret hxcon) hxsnil) hxsnil) (hxscons (hxret (hxife (hxor (hxcmp (hxidx hxvar hxcon) hxcon) (hxcmp hxvar hxcon)) (hxbi (hxcons hxvar hxnil)) hxcon)) hxsnil))
theorem e18 : f18.x = x18 := fn_x p18
def b19 (G : Gam) : XS := (xscons (xifs (xcmp .ne (xshi (xvar 0) (xcon (.int 1))) (xcon (.str [45]))) (xscons (xret (xcall G 18 (xcons (xvar 0) xnil))) xsnil) xsnil) (xscons (xasg (xtone 1) (xcall G 18 (xcons (xslo (xvar 0) (xcon (.int 1))) xnil))) (xscons (xret (xife (xor_ (xcmp .isn (xvar 1) (xcon .non)) (xcmp .eq (xvar 1) (xcon (.int 0)))) (xcon .non) (xneg (xvar 1)))) xsnil)))
def x19 : Fx := ⟨1, false, [], 2, b19⟩
theorem p19 (G : Gam) : yB G f19.body = b19 G := (hxscons (hxifs (hxcmp (hxshi hxvar hxcon) hxcon) (hxscons (hxret (hxcall (hxcons hxvar hxnil))) hxsnil) hxsnil) (hxscons (hxasg hxtone (hxcall (hxcons (hxslo hxvar hxcon) hxnil))) (hxscons (hxret (hxife (hxor (hxcmp hxvar hxcon) (hxcmp hxvar hxcon)) hxcon (hxneg hxvar))) hxsnil)))
theorem e19 : f19.x = x19 := fn_x p19
def b20 (G : Gam) : XS := (xscons (xret (xand (xisi G (xvar 0) .str) (xand (xcmp .eq (xbi .len (xcons (xvar 0) xnil)) (xvar 1)) (xbi .all (xcons (xlc G [2] (.one 2) (xitr (xvar 0)) xyes (xcmp .isin (xvar 2) (xcon (.str [48, 49])))) xnil))))) xsnil)
def x20 : Fx := ⟨2, false, [], 3, b20⟩
theorem p20 (G : Gam) : yB G f20.body = b20 G := (hxscons (hxret (hxand (hxisi hxvar) (hxand (hxcmp (hxbi (hxcons hxvar hxnil)) hxvar) (hxbi (hxcons (hxlc (hxitr hxvar) hxyes (hxcmp hxvar hxcon)) hxnil))))) hxsnil)
theorem e20 : f20.x = x20 := fn_x p20
def b21 (G : Gam) : XS := (xscons (xasg (xtfld G (xvar 0) 39) (xcon (.int 0))) (xscons (xasg (xtfld G (xvar 0) 54) (xcon (.int 0))) (xscons (xasg (xtfld G (xvar 0) 36) xdic0) (xscons (xasg (xtfld G (xvar 0) 48) (xlst xnil)) (xscons (xasg (xtfld G (xvar 0) 13) (xcon (.str []))) (xscons (xasg (xtfld G (xvar 0) 20) (xcon (.str []))) xsnil))))))
def x21 : Fx := ⟨1, false, [], 1, b21⟩
theorem p21 (G : Gam) : yB G f21.body = b21 G := (hxscons (hxasg (hxtfld hxvar) hxcon) (hxscons (hxasg (hxtfld hxvar) hxcon) (hxscons (hxasg (hxtfld hxvar) hxdic0) (hxscons (hxasg (hxtfld hxvar) (hxlst hxnil)) (hxscons (hxasg (hxtfld hxvar) hxcon) (hxscons (hxasg (hxtfld hxvar) hxcon) hxsnil))))))
theorem e21 : f21.x = x21 := fn_x p21
def b22 (G : Gam) : XS := (xscons (xasg (xtone 2) (xife (xisi G (xvar 1) .str) (xbm .split (xvar 1) (xcons (xcon (.str [32])) xnil)) (xlst (xcons (xcon (.str [])) xnil)))) (xscons (xifs (xcmp .eq (xfld G (xvar 0) 39) (xcon (.int 0))) (xscons (xret (xmeth G (xvar 0) 44 (xcons (xvar 2) xnil))) xsnil) xsnil) (xscons (xifs (xcmp .eq (xidx (xvar 2) (xcon (.int 0))) (xcon (.str [112, 108, 97, 99, 101]))) (xscons (xret (xmeth G (xvar 0) 42 (xcons (xvar 2) xnil))) xsnil) xsnil) (xscons (xifs (xor_ (xcmp .eq (xfld G (xvar 0) 39) (xcon (.int 4))) (xcmp .lt (xbi .len (xcons (xfld G (xvar 0) 36) xnil)) (xcon (.int 2)))) (xscons (xret (xcon (.bl false))) xsnil) xsnil) (xscons (xifs (xcmp .eq (xidx (xvar 2) (xcon (.int 0))) (xcon (.str [119, 97, 121]))) (xscons (xret (xmeth G (xvar 0) 45 (xcons (xvar 2) xnil))) xsnil) xsnil) (xscons (xret (xmeth G (xvar 0) 43 (xcons (xvar 2) xnil))) xsnil))))))
def x22 : Fx := ⟨2, false, [], 3, b22⟩
theorem p22 (G : Gam) : yB G f22.body = b22 G := (hxscons (hxasg hxtone (hxife (hxisi hxvar) (hxbm hxvar (hxcons hxcon hxnil)) (hxlst (hxcons hxcon hxnil)))) (hxscons (hxifs (hxcmp (hxfld hxvar) hxcon) (hxscons (hxret (hxmeth hxvar (hxcons hxvar hxnil))) hxsnil) hxsnil) (hxscons (hxifs (hxcmp (hxidx hxvar hxcon) hxcon) (hxscons (hxret (hxmeth hxvar (hxcons hxvar hxnil))) hxsnil) hxsnil) (hxscons (hxifs (hxor (hxcmp (hxfld hxvar) hxcon) (hxcmp (hxbi (hxcons (hxfld hxvar) hxnil)) hxcon)) (hxscons (hxret hxcon) hxsnil) hxsnil) (hxscons (hxifs (hxcmp (hxidx hxvar hxcon) hxcon) (hxscons (hxret (hxmeth hxvar (hxcons hxvar hxnil))) hxsnil) hxsnil) (hxscons (hxret (hxmeth hxvar (hxcons hxvar hxnil))) hxsnil))))))
theorem e22 : f22.x = x22 := fn_x p22
def b23 (G : Gam) : XS := (xscons (xasg (xtone 2) (xife (xand (xcmp .eq (xbi .len (xcons (xvar 1) xnil)) (xcon (.int 2))) (xcmp .eq (xidx (xvar 1) (xcon (.int 0))) (xcon (.str [115, 101, 110, 115, 111, 114, 115])))) (xcall G 18 (xcons (xidx (xvar 1) (xcon (.int 1))) xnil)) (xcon .non))) (xscons (xifs (xnot (xcall G 17 (xcons (xvar 2) (xcons (xcon (.int 1)) (xcons (xcon (.int 3)) xnil))))) (xscons (xret (xcon (.bl false))) xsnil) xsnil) (xscons (xasm (xtcons (xtfld G (xvar 0) 54) (xtcons (xtfld G (xvar 0) 39) xtnil)) (xtup (xcons (xvar 2) (xcons (xcon (.int 1)) xnil)))) (xscons (xret (xcon (.bl true))) xsnil))))
def x23 : Fx := ⟨2, false, [], 3, b23⟩
theorem p23 (G : Gam) : yB G f23.body = b23 G := (hxscons (hxasg hxtone (hxife (hxand (hxcmp (hxbi (hxcons hxvar hxnil)) hxcon) (hxcmp (hxidx hxvar hxcon) hxcon)) (hxcall (hxcons (hxidx hxvar hxcon) hxnil)) hxcon)) (hxscons (hxifs (hxnot (hxcall (hxcons hxvar (hxcons hxcon (hxcons hxcon hxnil))))) (hxscons (hxret hxcon) hxsnil) hxsnil) (hxscons (hxasm (hxtcons (hxtfld hxvar) (hxtcons (hxtfld hxvar) hxtnil)) (hxtup (hxcons hxvar (hxcons hxcon hxnil)))) (hxscons (hxret hxcon) hxsnil))))
theorem e23 : f23.x = x23 := fn_x p23
def b24 (G : Gam) : XS := (xscons (xifs (xor_ (xcmp .ne (xfld G (xvar 0) 39) (xcon (.int 1))) (xor_ (xcmp .ne (xbi .len (xcons (xvar 1) xnil)) (xcon (.int 3))) (xcmp .eq (xbi .len (xcons (xfld G (xvar 0) 36) xnil)) (xcon (.int 16))))) (xscons (xret (xcon (.bl false))) xsnil) xsnil) (xscons (xifs (xor_ (xcmp .ne (xbi .len (xcons (xidx (xvar 1) (xcon (.int 1))) xnil)) (xcon (.int 1))) (xor_ (xcmp .notin (xidx (xvar 1) (xcon (.int 1))) (xcon (.str [97, 98, 99, 100, 101, 102, 103, 104, 105, 106, 107, 108, 109, 110, 111, 112]))) (xcmp .isin (xidx (xvar 1) (xcon (.int 1))) (xfld G (xvar 0) 36)))) (xscons (xret (xcon (.bl false))) xsnil) xsnil) (xscons (xifs (xnot (xcall G 20 (xcons (xidx (xvar 1) (xcon (.int 2))) (xcons (xfld G (xvar 0) 54) xnil)))) (xscons (xret (xcon (.bl false))) xsnil) xsnil) (xscons (xasg (xtsub (xfld G (xvar 0) 36) (xidx (xvar 1) (xcon (.int 1)))) (xidx (xvar 1) (xcon (.int 2)))) (xscons (xret (xcon (.bl true))) xsnil)))))
def x24 : Fx := ⟨2, false, [], 2, b24⟩
theorem p24 (G : Gam) : yB G f24.body = b24 G := (hxscons (hxifs (hxor (hxcmp (hxfld hxvar) hxcon) (hxor (hxcmp (hxbi (hxcons hxvar hxnil)) hxcon) (hxcmp (hxbi (hxcons (hxfld hxvar) hxnil)) hxcon))) (hxscons (hxret hxcon) hxsnil) hxsnil) (hxscons (hxifs (hxor (hxcmp (hxbi (hxcons (hxidx hxvar hxcon) hxnil)) hxcon) (hxor (hxcmp (hxidx hxvar hxcon) hxcon) (hxcmp (hxidx hxvar hxcon) (hxfld hxvar)))) (hxscons (hxret hxcon) hxsnil) hxsnil) (hxscons (hxifs (hxnot (hxcall (hxcons (hxidx hxvar hxcon) (hxcons (hxfld hxvar) hxnil)))) (hxscons (hxret hxcon) hxsnil) hxsnil) (hxscons (hxasg (hxtsub (hxfld hxvar) (hxidx hxvar hxcon)) (hxidx hxvar hxcon)) (hxscons (hxret hxcon) hxsnil)))))
theorem e24 : f24.x = x24 := fn_x p24
def b25 (G : Gam) : XS := (xscons (xifs (xor_ (xcmp .notin (xfld G (xvar 0) 39) (xtup (xcons (xcon (.int 1)) (xcons (xcon (.int 2)) xnil)))) (xor_ (xcmp .ne (xbi .len (xcons (xvar 1) xnil)) (xcon (.int 4))) (xcmp .eq (xbi .len (xcons (xfld G (xvar 0) 48) xnil)) (xcon (.int 30))))) (xscons (xret (xcon (.bl false))) xsnil) xsnil) (xscons (xasm (xtcons (xtone 2) (xtcons (xtone 3) (xtcons (xtone 4) xtnil))) (xtup (xcons (xidx (xvar 1) (xcon (.int 1))) (xcons (xidx (xvar 1) (xcon (.int 2))) (xcons (xcall G 19 (xcons (xidx (xvar 1) (xcon (.int 3))) xnil)) xnil))))) (xscons (xifs (xor_ (xcmp .notin (xvar 2) (xfld G (xvar 0) 36)) (xor_ (xcmp .notin (xvar 3) (xfld G (xvar 0) 36)) (xcmp .eq (xvar 2) (xvar 3)))) (xscons (xret (xcon (.bl false))) xsnil) xsnil) (xscons (xifs (xnot (xcall G 17 (xcons (xvar 4) (xcons (xneg (xcon (.int 9))) (xcons (xcon (.int 9)) xnil))))) (xscons (xret (xcon (.bl false))) xsnil) xsnil) (xscons (xifs (xbi .any (xcons (xlc G [5, 6, 7] (.many [5, 6, 7]) (xitr (xfld G (xvar 0) 48)) xyes (xcmp .isin (xtup (xcons (xvar 5) (xcons (xvar 6) xnil))) (xtup (xcons (xtup (xcons (xvar 2) (xcons (xvar 3) xnil))) (xcons (xtup (xcons (xvar 3) (xcons (xvar 2) xnil))) xnil))))) xnil)) (xscons (xret (xcon (.bl false))) xsnil) xsnil) (xscons (xexp (xbm .append (xfld G (xvar 0) 48) (xcons (xtup (xcons (xvar 2) (xcons (xvar 3) (xcons (xvar 4) xnil)))) xnil))) (xscons (xasg (xtfld G (xvar 0) 39) (xcon (.int 2))) (xscons (xret (xcon (.bl true))) xsnil))))))))
def x25 : Fx := ⟨2, false, [], 8, b25⟩
theorem p25 (G : Gam) : yB G f25.body = b25 G := (hxscons (hxifs (hxor (hxcmp (hxfld hxvar) (hxtup (hxcons hxcon (hxcons hxcon hxnil)))) (hxor (hxcmp (hxbi (hxcons hxvar hxnil)) hxcon) (hxcmp (hxbi (hxcons (hxfld hxvar) hxnil)) hxcon))) (hxscons (hxret hxcon) hxsnil) hxsnil) (hxscons (hxasm (hxtcons hxtone (hxtcons hxtone (hxtcons hxtone hxtnil))) (hxtup (hxcons (hxidx hxvar hxcon) (hxcons (hxidx hxvar hxcon) (hxcons (hxcall (hxcons (hxidx hxvar hxcon) hxnil)) hxnil))))) (hxscons (hxifs (hxor (hxcmp hxvar (hxfld hxvar)) (hxor (hxcmp hxvar (hxfld hxvar)) (hxcmp hxvar hxvar))) (hxscons (hxret hxcon) hxsnil) hxsnil) (hxscons (hxifs (hxnot (hxcall (hxcons hxvar (hxcons (hxneg hxcon) (hxcons hxcon hxnil))))) (hxscons (hxret hxcon) hxsnil) hxsnil) (hxscons (hxifs (hxbi (hxcons (hxlc (hxitr (hxfld hxvar)) hxyes (hxcmp (hxtup (hxcons hxvar (hxcons hxvar hxnil))) (hxtup (hxcons (hxtup (hxcons hxvar (hxcons hxvar hxnil))) (hxcons (hxtup (hxcons hxvar (hxcons hxvar hxnil))) hxnil))))) hxnil)) (hxscons (hxret hxcon) hxsnil) hxsnil) (hxscons (hxexp (hxbm (hxfld hxvar) (hxcons (hxtup (hxcons hxvar (hxcons hxvar (hxcons hxvar hxnil)))) hxnil))) (hxscons (hxasg (hxtfld hxvar) hxcon) (hxscons (hxret hxcon) hxsnil))))))))
theorem e25 : f25.x = x25 := fn_x p25
def b26 (G : Gam) : XS := (xscons (xasg (xtone 2) (xife (xcmp .eq (xfld G (xvar 0) 39) (xcon (.int 3))) (xcon (.str [106, 117, 100, 103, 101])) (xcon (.str [98, 101, 103, 105, 110])))) (xscons (xasg (xtone 3) (xslo (xvar 1) (xcon (.int 1)))) (xscons (xifs (xor_ (xcmp .ne (xidx (xvar 1) (xcon (.int 0))) (xvar 2)) (xor_ (xcmp .eq (xvar 3) (xlst xnil)) (xnot (xbi .all (xcons (xlc G [4] (.one 4) (xitr (xvar 3)) xyes (xcmp .isin (xvar 4) (xfld G (xvar 0) 36))) xnil))))) (xscons (xret (xcon (.bl false))) xsnil) xsnil) (xscons (xifs (xcmp .lt (xbi .lenset (xcons (xvar 3) xnil)) (xbi .len (xcons (xvar 3) xnil))) (xscons (xret (xcon (.bl false))) xsnil) xsnil) (xscons (xifs (xcmp .eq (xvar 2) (xcon (.str [98, 101, 103, 105, 110]))) (xscons (xasm (xtcons (xtfld G (xvar 0) 13) (xtcons (xtfld G (xvar 0) 39) xtnil)) (xtup (xcons (xbm .join (xcon (.str [])) (xcons (xvar 3) xnil)) (xcons (xcon (.int 3)) xnil)))) xsnil) (xscons (xasm (xtcons (xtfld G (xvar 0) 20) (xtcons (xtfld G (xvar 0) 39) xtnil)) (xtup (xcons (xbm .join (xcon (.str [])) (xcons (xvar 3) xnil)) (xcons (xcon (.int 4)) xnil)))) xsnil)) (xscons (xret (xcon (.bl true))) xsnil))))))
def x26 : Fx := ⟨2, false, [], 5, b26⟩
theorem p26 (G : Gam) : yB G f26.body = b26 G := (hxscons (hxasg hxtone (hxife (hxcmp (hxfld hxvar) hxcon) hxcon hxcon)) (hxscons (hxasg hxtone (hxslo hxvar hxcon)) (hxscons (hxifs (hxor (hxcmp (hxidx hxvar hxcon) hxvar) (hxor (hxcmp hxvar (hxlst hxnil)) (hxnot (hxbi (hxcons (hxlc (hxitr hxvar) hxyes (hxcmp hxvar (hxfld hxvar))) hxnil))))) (hxscons (hxret hxcon) hxsnil) hxsnil) (hxscons (hxifs (hxcmp (hxbi (hxcons hxvar hxnil)) (hxbi (hxcons hxvar hxnil))) (hxscons (hxret hxcon) hxsnil) hxsnil) (hxscons (hxifs (hxcmp hxvar hxcon) (hxscons (hxasm (hxtcons (hxtfld hxvar) (hxtcons (hxtfld hxvar) hxtnil)) (hxtup (hxcons (hxbm hxcon (hxcons hxvar hxnil)) (hxcons hxcon hxnil)))) hxsnil) (hxscons (hxasm (hxtcons (hxtfld hxvar) (hxtcons (hxtfld hxvar) hxtnil)) (hxtup (hxcons (hxbm hxcon (hxcons hxvar hxnil)) (hxcons hxcon hxnil)))) hxsnil)) (hxscons (hxret hxcon) hxsnil))))))
theorem e26 : f26.x = x26 := fn_x p26
def b27 (G : Gam) : XS := (xscons (xasg (xtone 1) (xmake G 6 xnil)) (xscons (xfro G (.many [2, 3]) (xenm (xvar 0)) (xscons (xifs (xnot (xmeth G (xvar 1) 41 (xcons (xvar 3) xnil))) (xscons (xret (xtup (xcons (xvar 1) (xcons (xvar 2) xnil)))) xsnil) xsnil) xsnil)) (xscons (xret (xtup (xcons (xvar 1) (xcons (xife (xcmp .eq (xfld G (xvar 1) 39) (xcon (.int 4))) (xcon .non) (xbi .len (xcons (xvar 0) xnil))) xnil)))) xsnil)))
def x27 : Fx := ⟨1, false, [], 4, b27⟩
theorem p27 (G : Gam) : yB G f27.body = b27 G := (hxscons (hxasg hxtone (hxmake hxnil)) (hxscons (hxfro (hxenm hxvar) (hxscons (hxifs (hxnot (hxmeth hxvar (hxcons hxvar hxnil))) (hxscons (hxret (hxtup (hxcons hxvar (hxcons hxvar hxnil)))) hxsnil) hxsnil) hxsnil)) (hxscons (hxret (hxtup (hxcons hxvar (hxcons (hxife (hxcmp (hxfld hxvar) hxcon) hxcon (hxbi (hxcons hxvar hxnil))) hxnil)))) hxsnil)))
theorem e27 : f27.x = x27 := fn_x p27
def b28 (G : Gam) : XS := (xscons (xasm (xtcons (xtone 2) (xtcons (xtone 3) xtnil)) (xcall G 27 (xcons (xvar 1) xnil))) (xscons (xifs (xcmp .notn (xvar 3) (xcon .non)) (xscons xrse xsnil) xsnil) (xscons (xasg (xtfld G (xvar 0) 47) (xvar 1)) (xscons (xasg (xtfld G (xvar 0) 37) (xfld G (xvar 2) 54)) (xscons (xasg (xtfld G (xvar 0) 36) (xfld G (xvar 2) 36)) (xscons (xasg (xtfld G (xvar 0) 21) (xbm .join (xcon (.str [])) (xcons (xfld G (xvar 2) 36) xnil))) (xscons (xasg (xtfld G (xvar 0) 49) (xbi .tuple (xcons (xfld G (xvar 2) 48) xnil))) (xscons (xasg (xtfld G (xvar 0) 40) (xfld G (xvar 2) 13)) (xscons (xasg (xtfld G (xvar 0) 11) (xfld G (xvar 2) 20)) (xscons (xasg (xtfld G (xvar 0) 22) (xdc G [4] (.one 4) (xitr (xfld G (xvar 2) 36)) xyes (xvar 4) (xcall G 44 (xcons (xvar 4) (xcons (xfld G (xvar 2) 48) xnil))))) xsnil))))))))))
def x28 : Fx := ⟨1, true, [], 5, b28⟩
theorem p28 (G : Gam) : yB G f28.body = b28 G := (hxscons (hxasm (hxtcons hxtone (hxtcons hxtone hxtnil)) (hxcall (hxcons hxvar hxnil))) (hxscons (hxifs (hxcmp hxvar hxcon) (hxscons hxrse hxsnil) hxsnil) (hxscons (hxasg (hxtfld hxvar) hxvar) (hxscons (hxasg (hxtfld hxvar) (hxfld hxvar)) (hxscons (hxasg (hxtfld hxvar) (hxfld hxvar)) (hxscons (hxasg (hxtfld hxvar) (hxbm hxcon (hxcons (hxfld hxvar) hxnil))) (hxscons (hxasg (hxtfld hxvar) (hxbi (hxcons (hxfld hxvar) hxnil))) (hxscons (hxasg (hxtfld hxvar) (hxfld hxvar)) (hxscons (hxasg (hxtfld hxvar) (hxfld hxvar)) (hxscons (hxasg (hxtfld hxvar) (hxdc (hxitr (hxfld hxvar)) hxyes hxvar (hxcall (hxcons hxvar (hxcons (hxfld hxvar) hxnil))))) hxsnil))))))))))
theorem e28 : f28.x = x28 := fn_x p28
def b29 (G : Gam) : XS := (xscons (xasg (xtone 2) (xife (xisi G (xvar 1) .str) (xbm .split (xvar 1) (xcons (xcon (.str [10])) xnil)) (xlst xnil))) (xscons (xifs (xcmp .notn (xidx (xcall G 27 (xcons (xvar 2) xnil)) (xcon (.int 1))) (xcon .non)) (xscons xrse xsnil) xsnil) (xscons (xret (xmaks G 7 (xvar 2))) xsnil)))
def x29 : Fx := ⟨1, false, [], 3, b29⟩
theorem p29 (G : Gam) : yB G f29.body = b29 G := (hxscons (hxasg hxtone (hxife (hxisi hxvar) (hxbm hxvar (hxcons hxcon hxnil)) (hxlst hxnil))) (hxscons (hxifs (hxcmp (hxidx (hxcall (hxcons hxvar hxnil)) hxcon) hxcon) (hxscons hxrse hxsnil) hxsnil) (hxscons (hxret (hxmaks hxvar)) hxsnil)))
theorem e29 : f29.x = x29 := fn_x p29
def b30 (G : Gam) : XS := (xscons (xret (xfld G (xvar 0) 47)) xsnil)
def x30 : Fx := ⟨1, false, [], 1, b30⟩
theorem p30 (G : Gam) : yB G f30.body = b30 G := (hxscons (hxret (hxfld hxvar)) hxsnil)
theorem e30 : f30.x = x30 := fn_x p30
def b31 (G : Gam) : XS := (xscons (xret (xbm .join (xcon (.str [10])) (xcons (xfld G (xvar 0) 47) xnil))) xsnil)
def x31 : Fx := ⟨1, false, [], 1, b31⟩
theorem p31 (G : Gam) : yB G f31.body = b31 G := (hxscons (hxret (hxbm hxcon (hxcons (hxfld hxvar) hxnil))) hxsnil)
theorem e31 : f31.x = x31 := fn_x p31
def b32 (G : Gam) : XS := (xscons (xret (xfld G (xvar 0) 37)) xsnil)
def x32 : Fx := ⟨1, false, [], 1, b32⟩
theorem p32 (G : Gam) : yB G f32.body = b32 G := (hxscons (hxret (hxfld hxvar)) hxsnil)
theorem e32 : f32.x = x32 := fn_x p32
def b33 (G : Gam) : XS := (xscons (xret (xfld G (xvar 0) 21)) xsnil)
def x33 : Fx := ⟨1, false, [], 1, b33⟩
theorem p33 (G : Gam) : yB G f33.body = b33 G := (hxscons (hxret (hxfld hxvar)) hxsnil)
theorem e33 : f33.x = x33 := fn_x p33
def b34 (G : Gam) : XS := (xscons (xret (xbi .tuple (xcons (xlc G [1] (.one 1) (xitr (xfld G (xvar 0) 21)) xyes (xidx (xfld G (xvar 0) 36) (xvar 1))) xnil))) xsnil)
def x34 : Fx := ⟨1, false, [], 2, b34⟩
theorem p34 (G : Gam) : yB G f34.body = b34 G := (hxscons (hxret (hxbi (hxcons (hxlc (hxitr (hxfld hxvar)) hxyes (hxidx (hxfld hxvar) hxvar)) hxnil))) hxsnil)
theorem e34 : f34.x = x34 := fn_x p34
def b35 (G : Gam) : XS := (xscons (xret (xfld G (xvar 0) 49)) xsnil)
def x35 : Fx := ⟨1, false, [], 1, b35⟩
theorem p35 (G : Gam) : yB G f35.body = b35 G := (hxscons (hxret (hxfld hxvar)) hxsnil)
theorem e35 : f35.x = x35 := fn_x p35
def b36 (G : Gam) : XS := (xscons (xexp (xcall G 0 (xcons (xcon (.int 0)) xnil))) xsnil)
def x36 : Fx := ⟨1, false, [], 1, b36⟩
theorem p36 (G : Gam) : yB G f36.body = b36 G := (hxscons (hxexp (hxcall (hxcons hxcon hxnil))) hxsnil)
theorem e36 : f36.x = x36 := fn_x p36
def b37 (G : Gam) : XS := (xscons (xret (xfld G (xvar 0) 11)) xsnil)
def x37 : Fx := ⟨1, false, [], 1, b37⟩
theorem p37 (G : Gam) : yB G f37.body = b37 G := (hxscons (hxret (hxfld hxvar)) hxsnil)
theorem e37 : f37.x = x37 := fn_x p37
def b38 (G : Gam) : XS := (xscons (xexp (xcall G 0 (xcons (xcon (.int 1)) xnil))) xsnil)
def x38 : Fx := ⟨3, false, [], 3, b38⟩
theorem p38 (G : Gam) : yB G f38.body = b38 G := (hxscons (hxexp (hxcall (hxcons hxcon hxnil))) hxsnil)
theorem e38 : f38.x = x38 := fn_x p38
def b39 (G : Gam) : XS := (xscons (xret (xbi .len (xcons (xfld G (xvar 0) 21) xnil))) xsnil)
def x39 : Fx := ⟨1, false, [], 1, b39⟩
theorem p39 (G : Gam) : yB G f39.body = b39 G := (hxscons (hxret (hxbi (hxcons (hxfld hxvar) hxnil))) hxsnil)
theorem e39 : f39.x = x39 := fn_x p39
def b40 (G : Gam) : XS := (xscons (xret (xcon (.bl true))) xsnil)
def x40 : Fx := ⟨1, false, [], 1, b40⟩
theorem p40 (G : Gam) : yB G f40.body = b40 G := (hxscons (hxret hxcon) hxsnil)
theorem e40 : f40.x = x40 := fn_x p40
def b41 (G : Gam) : XS := (xscons (xret (xand (xisi G (xvar 1) (.cls 7)) (xcmp .eq (xfld G (xvar 0) 47) (xfld G (xvar 1) 31)))) xsnil)
def x41 : Fx := ⟨2, false, [], 2, b41⟩
theorem p41 (G : Gam) : yB G f41.body = b41 G := (hxscons (hxret (hxand (hxisi hxvar) (hxcmp (hxfld hxvar) (hxfld hxvar)))) hxsnil)
theorem e41 : f41.x = x41 := fn_x p41
def b42 (G : Gam) : XS := (xscons (xret (xbm .join (xcon (.str [10])) (xcons (xfld G (xvar 0) 47) xnil))) xsnil)
def x42 : Fx := ⟨1, false, [], 1, b42⟩
theorem p42 (G : Gam) : yB G f42.body = b42 G := (hxscons (hxret (hxbm hxcon (hxcons (hxfld hxvar) hxnil))) hxsnil)
theorem e42 : f42.x = x42 := fn_x p42
def b43 (G : Gam) : XS := (xscons (xret (xfst (xcons (xcon (.str [87, 101, 98, 32, 111, 102, 32])) (xcons (xbi .len (xcons (xfld G (xvar 0) 21) xnil)) (xcons (xcon (.str [32, 112, 108, 97, 99, 101, 115])) xnil))))) xsnil)
def x43 : Fx := ⟨1, false, [], 1, b43⟩
theorem p43 (G : Gam) : yB G f43.body = b43 G := (hxscons (hxret (hxfst (hxcons hxcon (hxcons (hxbi (hxcons (hxfld hxvar) hxnil)) (hxcons hxcon hxnil))))) hxsnil)
theorem e43 : f43.x = x43 := fn_x p43
def b44 (G : Gam) : XS := (xscons (xasg (xtone 2) (xlst xnil)) (xscons (xfro G (.many [3, 4, 5]) (xitr (xvar 1)) (xscons (xifs (xcmp .eq (xvar 3) (xvar 0)) (xscons (xexp (xbm .append (xvar 2) (xcons (xtup (xcons (xvar 4) (xcons (xvar 5) xnil))) xnil))) xsnil) xsnil) (xscons (xifs (xcmp .eq (xvar 4) (xvar 0)) (xscons (xexp (xbm .append (xvar 2) (xcons (xtup (xcons (xvar 3) (xcons (xneg (xvar 5)) xnil))) xnil))) xsnil) xsnil) xsnil))) (xscons (xret (xbi .tuple (xcons (xvar 2) xnil))) xsnil)))
def x44 : Fx := ⟨2, false, [], 6, b44⟩
theorem p44 (G : Gam) : yB G f44.body = b44 G := (hxscons (hxasg hxtone (hxlst hxnil)) (hxscons (hxfro (hxitr hxvar) (hxscons (hxifs (hxcmp hxvar hxvar) (hxscons (hxexp (hxbm hxvar (hxcons (hxtup (hxcons hxvar (hxcons hxvar hxnil))) hxnil))) hxsnil) hxsnil) (hxscons (hxifs (hxcmp hxvar hxvar) (hxscons (hxexp (hxbm hxvar (hxcons (hxtup (hxcons hxvar (hxcons (hxneg hxvar) hxnil))) hxnil))) hxsnil) hxsnil) hxsnil))) (hxscons (hxret (hxbi (hxcons hxvar hxnil))) hxsnil)))
theorem e44 : f44.x = x44 := fn_x p44
def b45 (G : Gam) : XS := (xscons (xifs (xnot (xisi G (xvar 0) (.cls 7))) (xscons xrse xsnil) xsnil) xsnil)
def x45 : Fx := ⟨1, false, [], 1, b45⟩
theorem p45 (G : Gam) : yB G f45.body = b45 G := (hxscons (hxifs (hxnot (hxisi hxvar)) (hxscons hxrse hxsnil) hxsnil) hxsnil)
theorem e45 : f45.x = x45 := fn_x p45
def b46 (G : Gam) : XS := (xscons (xret (xcmp .isn (xcall G 47 (xcons (xvar 0) (xcons (xvar 0) xnil))) (xcon .non))) xsnil)
def x46 : Fx := ⟨1, false, [], 1, b46⟩
theorem p46 (G : Gam) : yB G f46.body = b46 G := (hxscons (hxret (hxcmp (hxcall (hxcons hxvar (hxcons hxvar hxnil))) hxcon)) hxsnil)
theorem e46 : f46.x = x46 := fn_x p46
def b47 (G : Gam) : XS := (xscons (xifs (xcmp .ne (xfld G (xvar 0) 37) (xfld G (xvar 1) 37)) (xscons (xret (xcon (.str [115, 101, 110, 115, 111, 114, 115]))) xsnil) xsnil) (xscons (xfro G (.one 2) (xitr (xcall G 7 (xcons (xmake G 0 (xcons (xvar 0) xnil)) (xcons (xmake G 0 (xcons (xvar 1) xnil)) xnil)))) (xscons (xasg (xtone 3) (xcall G 10 (xcons (xvar 2) xnil))) (xscons (xifs (xcmp .notn (xvar 3) (xcon .non)) (xscons (xret (xcall G 9 (xcons (xvar 3) xnil))) xsnil) xsnil) xsnil))) (xscons (xret (xcon .non)) xsnil)))
def x47 : Fx := ⟨2, false, [], 4, b47⟩
theorem p47 (G : Gam) : yB G f47.body = b47 G := (hxscons (hxifs (hxcmp (hxfld hxvar) (hxfld hxvar)) (hxscons (hxret hxcon) hxsnil) hxsnil) (hxscons (hxfro (hxitr (hxcall (hxcons (hxmake (hxcons hxvar hxnil)) (hxcons (hxmake (hxcons hxvar hxnil)) hxnil)))) (hxscons (hxasg hxtone (hxcall (hxcons hxvar hxnil))) (hxscons (hxifs (hxcmp hxvar hxcon) (hxscons (hxret (hxcall (hxcons hxvar hxnil))) hxsnil) hxsnil) hxsnil))) (hxscons (hxret hxcon) hxsnil)))
theorem e47 : f47.x = x47 := fn_x p47
def b48 (G : Gam) : XS := (xscons (xasm (xtcons (xtone 1) (xtcons (xtone 2) xtnil)) (xtup (xcons (xdc G [3] (.one 3) (xitr (xfld G (xvar 0) 11)) xyes (xvar 3) (xcon (.bl true))) (xcons (xbi .list (xcons (xfld G (xvar 0) 11) xnil)) xnil)))) (xscons (xwhl G (xvar 2) (xscons (xfro G (.many [4, 5]) (xitr (xidx (xfld G (xvar 0) 22) (xbm .pop0 (xvar 2) xnil))) (xscons (xifs (xcmp .notin (xvar 4) (xvar 1)) (xscons (xasg (xtsub (xvar 1) (xvar 4)) (xcon (.bl true))) (xscons (xexp (xbm .append (xvar 2) (xcons (xvar 4) xnil))) xsnil)) xsnil) xsnil)) xsnil)) (xscons (xret (xvar 1)) xsnil)))
def x48 : Fx := ⟨1, false, [], 6, b48⟩
theorem p48 (G : Gam) : yB G f48.body = b48 G := (hxscons (hxasm (hxtcons hxtone (hxtcons hxtone hxtnil)) (hxtup (hxcons (hxdc (hxitr (hxfld hxvar)) hxyes hxvar hxcon) (hxcons (hxbi (hxcons (hxfld hxvar) hxnil)) hxnil)))) (hxscons (hxwhl hxvar (hxscons (hxfro (hxitr (hxidx (hxfld hxvar) (hxbm hxvar hxnil))) (hxscons (hxifs (hxcmp hxvar hxvar) (hxscons (hxasg (hxtsub hxvar hxvar) hxcon) (hxscons (hxexp (hxbm hxvar (hxcons hxvar hxnil))) hxsnil)) hxsnil) hxsnil)) hxsnil)) (hxscons (hxret hxvar) hxsnil)))
theorem e48 : f48.x = x48 := fn_x p48
def b49 (G : Gam) : XS := (xscons (xasg (xtone 1) (xcall G 48 (xcons (xvar 0) xnil))) (xscons (xfro G (.one 2) (xitr (xcall G 6 (xcons (xmake G 0 (xcons (xvar 0) xnil)) (xcons (xmake G 0 (xcons (xvar 0) xnil)) xnil)))) (xscons (xasm (xtcons (xtone 3) (xtcons (xtone 4) xtnil)) (xidx (xfld G (xvar 2) 30) (xcon (.int 0)))) (xscons (xifs (xand (xcmp .notn (xfld G (xvar 2) 10) (xcon .non)) (xand (xcmp .isin (xvar 3) (xvar 1)) (xcmp .isin (xvar 4) (xvar 1)))) (xscons (xret (xvar 2)) xsnil) xsnil) xsnil))) (xscons (xret (xcon .non)) xsnil)))
def x49 : Fx := ⟨1, false, [], 5, b49⟩
theorem p49 (G : Gam) : yB G f49.body = b49 G := (hxscons (hxasg hxtone (hxcall (hxcons hxvar hxnil))) (hxscons (hxfro (hxitr (hxcall (hxcons (hxmake (hxcons hxvar hxnil)) (hxcons (hxmake (hxcons hxvar hxnil)) hxnil)))) (hxscons (hxasm (hxtcons hxtone (hxtcons hxtone hxtnil)) (hxidx (hxfld hxvar) hxcon)) (hxscons (hxifs (hxand (hxcmp (hxfld hxvar) hxcon) (hxand (hxcmp hxvar hxvar) (hxcmp hxvar hxvar))) (hxscons (hxret hxvar) hxsnil) hxsnil) hxsnil))) (hxscons (hxret hxcon) hxsnil)))
theorem e49 : f49.x = x49 := fn_x p49
def b50 (G : Gam) : XS := (xscons (xasg (xtone 2) (xmake G 0 (xcons (xvar 0) (xcons (xvar 1) xnil)))) (xscons (xret (xcall G 12 (xcons (xvar 2) (xcons (xvar 2) xnil)))) xsnil))
def x50 : Fx := ⟨2, false, [], 3, b50⟩
theorem p50 (G : Gam) : yB G f50.body = b50 G := (hxscons (hxasg hxtone (hxmake (hxcons hxvar (hxcons hxvar hxnil)))) (hxscons (hxret (hxcall (hxcons hxvar (hxcons hxvar hxnil)))) hxsnil))
theorem e50 : f50.x = x50 := fn_x p50
def b51 (G : Gam) : XS := (xscons (xasm (xtcons (xtone 1) (xtcons (xtone 2) xtnil)) (xtup (xcons (xlst (xcons (xtup xnil) xnil)) (xcons (xlst (xcons (xtup xnil) xnil)) xnil)))) (xscons (xfro G (.one 3) (xrg1 (xvar 0)) (xscons (xasg (xtone 2) (xlc2 G [4, 5] (.one 4) (xitr (xvar 2)) (.one 5) (xrg1 (xvar 0)) (xtest (xor_ (xcmp .eq (xvar 4) (xtup xnil)) (xcmp .gt (xvar 5) (xidx (xvar 4) (xneg (xcon (.int 1)))))) xyes) (xtst (xvar 4) (xcons (xvar 5) xnil)))) (xscons (xexp (xbm .extend (xvar 1) (xcons (xvar 2) xnil))) xsnil))) (xscons (xret (xvar 1)) xsnil)))
def x51 : Fx := ⟨1, false, [], 6, b51⟩
theorem p51 (G : Gam) : yB G f51.body = b51 G := (hxscons (hxasm (hxtcons hxtone (hxtcons hxtone hxtnil)) (hxtup (hxcons (hxlst (hxcons (hxtup hxnil) hxnil)) (hxcons (hxlst (hxcons (hxtup hxnil) hxnil)) hxnil)))) (hxscons (hxfro (hxrg1 hxvar) (hxscons (hxasg hxtone (hxlc2 (hxitr hxvar) (hxrg1 hxvar) (hxtest (hxor (hxcmp hxvar (hxtup hxnil)) (hxcmp hxvar (hxidx hxvar (hxneg hxcon)))) hxyes) (hxtst hxvar (hxcons hxvar hxnil)))) (hxscons (hxexp (hxbm hxvar (hxcons hxvar hxnil))) hxsnil))) (hxscons (hxret hxvar) hxsnil)))
theorem e51 : f51.x = x51 := fn_x p51
def b52 (G : Gam) : XS := (xscons (xasg (xtone 1) (xlst xnil)) (xscons (xfro G (.one 2) (xitr (xcall G 51 (xcons (xfld G (xvar 0) 37) xnil))) (xscons (xifs (xand (xnot (xbi .any (xcons (xlc G [4] (.one 4) (xitr (xvar 1)) xyes (xbi .all (xcons (xlc G [3] (.one 3) (xitr (xvar 4)) xyes (xcmp .isin (xvar 3) (xvar 2))) xnil))) xnil))) (xcmp .eq (xcall G 50 (xcons (xvar 0) (xcons (xvar 2) xnil))) (xcon (.int 0)))) (xscons (xexp (xbm .append (xvar 1) (xcons (xvar 2) xnil))) xsnil) xsnil) xsnil)) (xscons (xret (xbi .tuple (xcons (xvar 1) xnil))) xsnil)))
def x52 : Fx := ⟨1, false, [], 5, b52⟩
theorem p52 (G : Gam) : yB G f52.body = b52 G := (hxscons (hxasg hxtone (hxlst hxnil)) (hxscons (hxfro (hxitr (hxcall (hxcons (hxfld hxvar) hxnil))) (hxscons (hxifs (hxand (hxnot (hxbi (hxcons (hxlc (hxitr hxvar) hxyes (hxbi (hxcons (hxlc (hxitr hxvar) hxyes (hxcmp hxvar hxvar)) hxnil))) hxnil))) (hxcmp (hxcall (hxcons hxvar (hxcons hxvar hxnil))) hxcon)) (hxscons (hxexp (hxbm hxvar (hxcons hxvar hxnil))) hxsnil) hxsnil) hxsnil)) (hxscons (hxret (hxbi (hxcons hxvar hxnil))) hxsnil)))
theorem e52 : f52.x = x52 := fn_x p52
def b53 (G : Gam) : XS := (xscons (xifs (xor_ (xnot (xisi G (xvar 1) .str)) (xor_ (xcmp .eq (xvar 1) (xcon (.str []))) (xnot (xbi .all (xcons (xlc G [2] (.one 2) (xitr (xvar 1)) xyes (xcmp .isin (xvar 2) (xfld G (xvar 0) 36))) xnil))))) (xscons (xret (xcon (.bl false))) xsnil) xsnil) (xscons (xifs (xcmp .notin (xidx (xvar 1) (xcon (.int 0))) (xfld G (xvar 0) 40)) (xscons (xret (xcon (.bl false))) xsnil) xsnil) (xscons (xret (xbi .all (xcons (xlc G [3] (.one 3) (xrg1 (xbin .sub (xbi .len (xcons (xvar 1) xnil)) (xcon (.int 1)))) xyes (xcmp .notn (xcall G 54 (xcons (xvar 0) (xcons (xidx (xvar 1) (xvar 3)) (xcons (xidx (xvar 1) (xbin .add (xvar 3) (xcon (.int 1)))) xnil)))) (xcon .non))) xnil))) xsnil)))
def x53 : Fx := ⟨2, false, [], 4, b53⟩
theorem p53 (G : Gam) : yB G f53.body = b53 G := (hxscons (hxifs (hxor (hxnot (hxisi hxvar)) (hxor (hxcmp hxvar hxcon) (hxnot (hxbi (hxcons (hxlc (hxitr hxvar) hxyes (hxcmp hxvar (hxfld hxvar))) hxnil))))) (hxscons (hxret hxcon) hxsnil) hxsnil) (hxscons (hxifs (hxcmp (hxidx hxvar hxcon) (hxfld hxvar)) (hxscons (hxret hxcon) hxsnil) hxsnil) (hxscons (hxret (hxbi (hxcons (hxlc (hxrg1 (hxbin (hxbi (hxcons hxvar hxnil)) hxcon)) hxyes (hxcmp (hxcall (hxcons hxvar (hxcons (hxidx hxvar hxvar) (hxcons (hxidx hxvar (hxbin hxvar hxcon)) hxnil)))) hxcon)) hxnil))) hxsnil)))
theorem e53 : f53.x = x53 := fn_x p53
def b54 (G : Gam) : XS := (xscons (xfro G (.many [3, 4]) (xitr (xidx (xfld G (xvar 0) 22) (xvar 1))) (xscons (xifs (xcmp .eq (xvar 3) (xvar 2)) (xscons (xret (xvar 4)) xsnil) xsnil) xsnil)) (xscons (xret (xcon .non)) xsnil))
def x54 : Fx := ⟨3, false, [], 5, b54⟩
theorem p54 (G : Gam) : yB G f54.body = b54 G := (hxscons (hxfro (hxitr (hxidx (hxfld hxvar) hxvar)) (hxscons (hxifs (hxcmp hxvar hxvar) (hxscons (hxret hxvar) hxsnil) hxsnil) hxsnil)) (hxscons (hxret hxcon) hxsnil))
theorem e54 : f54.x = x54 := fn_x p54
def b55 (G : Gam) : XS := (xscons (xret (xbi .sum (xcons (xlc G [2] (.one 2) (xrg1 (xbin .sub (xbi .len (xcons (xvar 1) xnil)) (xcon (.int 1)))) xyes (xcall G 54 (xcons (xvar 0) (xcons (xidx (xvar 1) (xvar 2)) (xcons (xidx (xvar 1) (xbin .add (xvar 2) (xcon (.int 1)))) xnil))))) xnil))) xsnil)
def x55 : Fx := ⟨2, false, [], 3, b55⟩
theorem p55 (G : Gam) : yB G f55.body = b55 G := (hxscons (hxret (hxbi (hxcons (hxlc (hxrg1 (hxbin (hxbi (hxcons hxvar hxnil)) hxcon)) hxyes (hxcall (hxcons hxvar (hxcons (hxidx hxvar hxvar) (hxcons (hxidx hxvar (hxbin hxvar hxcon)) hxnil))))) hxnil))) hxsnil)
theorem e55 : f55.x = x55 := fn_x p55
def b56 (G : Gam) : XS := (xscons (xasm (xtcons (xtone 2) (xtcons (xtone 3) (xtcons (xtone 4) xtnil))) (xtup (xcons (xdic1 (xvar 1) (xcon (.int 0))) (xcons (xlst (xcons (xvar 1) xnil)) (xcons (xcon (.bl true)) xnil))))) (xscons (xwhl G (xvar 3) (xscons (xasg (xtone 5) (xbm .pop0 (xvar 3) xnil)) (xscons (xfro G (.many [6, 7]) (xitr (xidx (xfld G (xvar 0) 22) (xvar 5))) (xscons (xifs (xcmp .eq (xidx (xfld G (xvar 0) 36) (xvar 6)) (xidx (xfld G (xvar 0) 36) (xvar 1))) (xscons (xifs (xcmp .notin (xvar 6) (xvar 2)) (xscons (xasg (xtsub (xvar 2) (xvar 6)) (xbin .add (xidx (xvar 2) (xvar 5)) (xvar 7))) (xscons (xexp (xbm .append (xvar 3) (xcons (xvar 6) xnil))) xsnil)) (xscons (xifs (xcmp .ne (xidx (xvar 2) (xvar 6)) (xbin .add (xidx (xvar 2) (xvar 5)) (xvar 7))) (xscons (xasg (xtone 4) (xcon (.bl false))) xsnil) xsnil) xsnil)) xsnil) xsnil) xsnil)) xsnil))) (xscons (xret (xtup (xcons (xvar 2) (xcons (xvar 4) xnil)))) xsnil)))
def x56 : Fx := ⟨2, false, [], 8, b56⟩
theorem p56 (G : Gam) : yB G f56.body = b56 G := (hxscons (hxasm (hxtcons hxtone (hxtcons hxtone (hxtcons hxtone hxtnil))) (hxtup (hxcons (hxdic1 hxvar hxcon) (hxcons (hxlst (hxcons hxvar hxnil)) (hxcons hxcon hxnil))))) (hxscons (hxwhl hxvar (hxscons (hxasg hxtone (hxbm hxvar hxnil)) (hxscons (hxfro (hxitr (hxidx (hxfld hxvar) hxvar)) (hxscons (hxifs (hxcmp (hxidx (hxfld hxvar) hxvar) (hxidx (hxfld hxvar) hxvar)) (hxscons (hxifs (hxcmp hxvar hxvar) (hxscons (hxasg (hxtsub hxvar hxvar) (hxbin (hxidx hxvar hxvar) hxvar)) (hxscons (hxexp (hxbm hxvar (hxcons hxvar hxnil))) hxsnil)) (hxscons (hxifs (hxcmp (hxidx hxvar hxvar) (hxbin (hxidx hxvar hxvar) hxvar)) (hxscons (hxasg hxtone hxcon) hxsnil) hxsnil) hxsnil)) hxsnil) hxsnil) hxsnil)) hxsnil))) (hxscons (hxret (hxtup (hxcons hxvar (hxcons hxvar hxnil)))) hxsnil)))
theorem e56 : f56.x = x56 := fn_x p56
def b57 (G : Gam) : XS := (xscons (xifs (xor_ (xcmp .isn (xvar 2) (xcon .non)) (xcmp .isn (xbm .get2 (xvar 0) (xcons (xvar 1) (xcons (xtup xnil) xnil))) (xcon .non))) (xscons (xasg (xtsub (xvar 0) (xvar 1)) (xcon .non)) xsnil) (xscons (xexp (xbm .update (xbm .setd (xvar 0) (xcons (xvar 1) (xcons xdic0 xnil))) (xcons (xdc G [3] (.one 3) (xitr (xvar 2)) xyes (xvar 3) (xcon (.bl true))) xnil))) xsnil)) xsnil)
def x57 : Fx := ⟨3, false, [], 4, b57⟩
theorem p57 (G : Gam) : yB G f57.body = b57 G := (hxscons (hxifs (hxor (hxcmp hxvar hxcon) (hxcmp (hxbm hxvar (hxcons hxvar (hxcons (hxtup hxnil) hxnil))) hxcon)) (hxscons (hxasg (hxtsub hxvar hxvar) hxcon) hxsnil) (hxscons (hxexp (hxbm (hxbm hxvar (hxcons hxvar (hxcons hxdic0 hxnil))) (hxcons (hxdc (hxitr hxvar) hxyes hxvar hxcon) hxnil))) hxsnil)) hxsnil)
theorem e57 : f57.x = x57 := fn_x p57
def b58 (G : Gam) : XS := (xscons (xasg (xtone 2) xdic0) (xscons (xfro G (.one 3) (xitr (xvar 1)) (xscons (xasm (xtcons (xtone 4) (xtcons (xtone 5) xtnil)) (xcall G 56 (xcons (xvar 0) (xcons (xvar 3) xnil)))) (xscons (xfro G (.one 6) (xitr (xvar 4)) (xscons (xifs (xor_ (xcmp .isn (xidx (xvar 1) (xvar 3)) (xcon .non)) (xnot (xvar 5))) (xscons (xexp (xcall G 57 (xcons (xvar 2) (xcons (xvar 6) (xcons (xcon .non) xnil))))) xsnil) (xscons (xexp (xcall G 57 (xcons (xvar 2) (xcons (xvar 6) (xcons (xlc G [7] (.one 7) (xitr (xidx (xvar 1) (xvar 3))) xyes (xbin .add (xvar 7) (xidx (xvar 4) (xvar 6)))) xnil))))) xsnil)) xsnil)) xsnil))) (xscons (xret (xvar 2)) xsnil)))
def x58 : Fx := ⟨2, false, [], 8, b58⟩
theorem p58 (G : Gam) : yB G f58.body = b58 G := (hxscons (hxasg hxtone hxdic0) (hxscons (hxfro (hxitr hxvar) (hxscons (hxasm (hxtcons hxtone (hxtcons hxtone hxtnil)) (hxcall (hxcons hxvar (hxcons hxvar hxnil)))) (hxscons (hxfro (hxitr hxvar) (hxscons (hxifs (hxor (hxcmp (hxidx hxvar hxvar) hxcon) (hxnot hxvar)) (hxscons (hxexp (hxcall (hxcons hxvar (hxcons hxvar (hxcons hxcon hxnil))))) hxsnil) (hxscons (hxexp (hxcall (hxcons hxvar (hxcons hxvar (hxcons (hxlc (hxitr (hxidx hxvar hxvar)) hxyes (hxbin hxvar (hxidx hxvar hxvar))) hxnil))))) hxsnil)) hxsnil)) hxsnil))) (hxscons (hxret hxvar) hxsnil)))
theorem e58 : f58.x = x58 := fn_x p58
def b59 (G : Gam) : XS := (xscons (xret (xcall G 58 (xcons (xvar 0) (xcons (xdc G [2] (.one 2) (xitr (xfld G (xvar 0) 40)) (xtest (xcmp .eq (xidx (xfld G (xvar 0) 36) (xvar 2)) (xvar 1)) xyes) (xvar 2) (xdic1 (xcon (.int 0)) (xcon (.bl true)))) xnil)))) xsnil)
def x59 : Fx := ⟨2, false, [], 3, b59⟩
theorem p59 (G : Gam) : yB G f59.body = b59 G := (hxscons (hxret (hxcall (hxcons hxvar (hxcons (hxdc (hxitr (hxfld hxvar)) (hxtest (hxcmp (hxidx (hxfld hxvar) hxvar) hxvar) hxyes) hxvar (hxdic1 hxcon hxcon)) hxnil)))) hxsnil)
theorem e59 : f59.x = x59 := fn_x p59
def b60 (G : Gam) : XS := (xscons (xasg (xtone 3) xdic0) (xscons (xfro G (.one 4) (xitr (xvar 1)) (xscons (xfro G (.many [5, 6]) (xitr (xidx (xfld G (xvar 0) 22) (xvar 4))) (xscons (xifs (xcmp .eq (xidx (xfld G (xvar 0) 36) (xvar 5)) (xvar 2)) (xscons (xexp (xcall G 57 (xcons (xvar 3) (xcons (xvar 5) (xcons (xife (xcmp .isn (xidx (xvar 1) (xvar 4)) (xcon .non)) (xcon .non) (xlc G [7] (.one 7) (xitr (xidx (xvar 1) (xvar 4))) xyes (xbin .add (xvar 7) (xvar 6)))) xnil))))) xsnil) xsnil) xsnil)) xsnil)) (xscons (xret (xcall G 58 (xcons (xvar 0) (xcons (xvar 3) xnil)))) xsnil)))
def x60 : Fx := ⟨3, false, [], 8, b60⟩
theorem p60 (G : Gam) : yB G f60.body = b60 G := (hxscons (hxasg hxtone hxdic0) (hxscons (hxfro (hxitr hxvar) (hxscons (hxfro (hxitr (hxidx (hxfld hxvar) hxvar)) (hxscons (hxifs (hxcmp (hxidx (hxfld hxvar) hxvar) hxvar) (hxscons (hxexp (hxcall (hxcons hxvar (hxcons hxvar (hxcons (hxife (hxcmp (hxidx hxvar hxvar) hxcon) hxcon (hxlc (hxitr (hxidx hxvar hxvar)) hxyes (hxbin hxvar hxvar))) hxnil))))) hxsnil) hxsnil) hxsnil)) hxsnil)) (hxscons (hxret (hxcall (hxcons hxvar (hxcons hxvar hxnil)))) hxsnil)))
theorem e60 : f60.x = x60 := fn_x p60
def b61 (G : Gam) : XS := (xscons (xasg (xtone 2) (xcall G 59 (xcons (xvar 0) (xcons (xidx (xvar 1) (xcon (.int 0))) xnil)))) (xscons (xfro G (.one 3) (xitr (xslo (xvar 1) (xcon (.int 1)))) (xscons (xasg (xtone 2) (xcall G 60 (xcons (xvar 0) (xcons (xvar 2) (xcons (xvar 3) xnil))))) xsnil)) (xscons (xret (xvar 2)) xsnil)))
def x61 : Fx := ⟨2, false, [], 4, b61⟩
theorem p61 (G : Gam) : yB G f61.body = b61 G := (hxscons (hxasg hxtone (hxcall (hxcons hxvar (hxcons (hxidx hxvar hxcon) hxnil)))) (hxscons (hxfro (hxitr (hxslo hxvar hxcon)) (hxscons (hxasg hxtone (hxcall (hxcons hxvar (hxcons hxvar (hxcons hxvar hxnil))))) hxsnil)) (hxscons (hxret hxvar) hxsnil)))
theorem e61 : f61.x = x61 := fn_x p61
def b62 (G : Gam) : XS := (xscons (xasg (xtone 2) (xlc G [3] (.one 3) (xitr (xvar 1)) (xtest (xcmp .isin (xvar 3) (xfld G (xvar 0) 11)) xyes) (xidx (xvar 1) (xvar 3)))) (xscons (xifs (xcmp .isin (xcon .non) (xvar 2)) (xscons (xret (xcon .non)) xsnil) xsnil) (xscons (xret (xbi .tuple (xcons (xssc G [4, 5] (.one 4) (xitr (xvar 2)) (.one 5) (xitr (xvar 4)) (xvar 5)) xnil))) xsnil)))
def x62 : Fx := ⟨2, false, [], 6, b62⟩
theorem p62 (G : Gam) : yB G f62.body = b62 G := (hxscons (hxasg hxtone (hxlc (hxitr hxvar) (hxtest (hxcmp hxvar (hxfld hxvar)) hxyes) (hxidx hxvar hxvar))) (hxscons (hxifs (hxcmp hxcon hxvar) (hxscons (hxret hxcon) hxsnil) hxsnil) (hxscons (hxret (hxbi (hxcons (hxssc (hxitr hxvar) (hxitr hxvar) hxvar) hxnil))) hxsnil)))
theorem e62 : f62.x = x62 := fn_x p62
def b63 (G : Gam) : XS := (xscons (xret (xife (xvar 0) (xbm .join (xcon (.str [])) (xcons (xlc G [1] (.one 1) (xitr (xvar 0)) xyes (xbi .str (xcons (xvar 1) xnil))) xnil)) (xcon (.str [45])))) xsnil)
def x63 : Fx := ⟨1, false, [], 2, b63⟩
theorem p63 (G : Gam) : yB G f63.body = b63 G := (hxscons (hxret (hxife hxvar (hxbm hxcon (hxcons (hxlc (hxitr hxvar) hxyes (hxbi (hxcons hxvar hxnil))) hxnil)) hxcon)) hxsnil)
theorem e63 : f63.x = x63 := fn_x p63
def b64 (G : Gam) : XS := (xscons (xexp (xcall G 45 (xcons (xvar 1) xnil))) (xscons (xasg (xtfld G (xvar 0) 8) (xvar 1)) xsnil))
def x64 : Fx := ⟨2, false, [], 2, b64⟩
theorem p64 (G : Gam) : yB G f64.body = b64 G := (hxscons (hxexp (hxcall (hxcons hxvar hxnil))) (hxscons (hxasg (hxtfld hxvar) hxvar) hxsnil))
theorem e64 : f64.x = x64 := fn_x p64
def b65 (G : Gam) : XS := (xscons (xret (xfld G (xvar 0) 8)) xsnil)
def x65 : Fx := ⟨1, false, [], 1, b65⟩
theorem p65 (G : Gam) : yB G f65.body = b65 G := (hxscons (hxret (hxfld hxvar)) hxsnil)
theorem e65 : f65.x = x65 := fn_x p65
def b66 (G : Gam) : XS := (xscons (xasg (xtone 2) (xife (xisi G (xvar 1) .str) (xbm .split (xvar 1) (xcons (xcon (.str [32])) xnil)) (xlst (xcons (xcon (.str [])) xnil)))) (xscons (xasg (xtone 3) (xife (xcmp .eq (xbi .len (xcons (xvar 2) xnil)) (xcon (.int 1))) (xmeth G (xvar 0) 26 (xcons (xidx (xvar 2) (xcon (.int 0))) xnil)) (xmeth G (xvar 0) 6 (xcons (xidx (xvar 2) (xcon (.int 0))) (xcons (xslo (xvar 2) (xcon (.int 1))) xnil))))) (xscons (xifs (xcmp .isn (xvar 3) (xcon .non)) (xscons xrse xsnil) xsnil) (xscons (xret (xvar 3)) xsnil))))
def x66 : Fx := ⟨2, false, [], 4, b66⟩
theorem p66 (G : Gam) : yB G f66.body = b66 G := (hxscons (hxasg hxtone (hxife (hxisi hxvar) (hxbm hxvar (hxcons hxcon hxnil)) (hxlst (hxcons hxcon hxnil)))) (hxscons (hxasg hxtone (hxife (hxcmp (hxbi (hxcons hxvar hxnil)) hxcon) (hxmeth hxvar (hxcons (hxidx hxvar hxcon) hxnil)) (hxmeth hxvar (hxcons (hxidx hxvar hxcon) (hxcons (hxslo hxvar hxcon) hxnil))))) (hxscons (hxifs (hxcmp hxvar hxcon) (hxscons hxrse hxsnil) hxsnil) (hxscons (hxret hxvar) hxsnil))))
theorem e66 : f66.x = x66 := fn_x p66
def b67 (G : Gam) : XS := (xscons (xifs (xcmp .eq (xvar 1) (xcon (.str [114, 105, 103, 104, 116]))) (xscons (xret (xife (xcall G 46 (xcons (xfld G (xvar 0) 8) xnil)) (xcon (.str [121, 101, 115])) (xcon (.str [110, 111])))) xsnil) xsnil) (xscons (xifs (xcmp .eq (xvar 1) (xcon (.str [101, 114, 114, 111, 114]))) (xscons (xasg (xtone 2) (xcall G 12 (xcons (xmake G 0 (xcons (xfld G (xvar 0) 8) xnil)) (xcons (xmake G 0 (xcons (xfld G (xvar 0) 8) xnil)) xnil)))) (xscons (xret (xife (xcmp .isn (xvar 2) (xcon .non)) (xcon (.str [110, 111, 32, 101, 110, 100])) (xbi .str (xcons (xvar 2) xnil)))) xsnil)) xsnil) (xscons (xifs (xcmp .eq (xvar 1) (xcon (.str [99, 111, 117, 110, 116, 101, 114]))) (xscons (xifs (xnot (xcall G 46 (xcons (xfld G (xvar 0) 8) xnil))) (xscons (xret (xcon (.str [119, 114, 111, 110, 103]))) xsnil) xsnil) (xscons (xret (xife (xcmp .isn (xcall G 49 (xcons (xfld G (xvar 0) 8) xnil)) (xcon .non)) (xcon (.str [121, 101, 115])) (xcon (.str [100, 114, 105, 102, 116])))) xsnil)) xsnil) (xscons (xifs (xcmp .eq (xvar 1) (xcon (.str [108, 111, 116, 115]))) (xscons (xasg (xtone 3) (xcall G 52 (xcons (xfld G (xvar 0) 8) xnil))) (xscons (xret (xife (xvar 3) (xbm .join (xcon (.str [32])) (xcons (xlc G [4] (.one 4) (xitr (xvar 3)) xyes (xcall G 63 (xcons (xvar 4) xnil))) xnil)) (xcon (.str [110, 111, 110, 101])))) xsnil)) xsnil) (xscons (xret (xcon .non)) xsnil)))))
def x67 : Fx := ⟨2, false, [], 5, b67⟩
theorem p67 (G : Gam) : yB G f67.body = b67 G := (hxscons (hxifs (hxcmp hxvar hxcon) (hxscons (hxret (hxife (hxcall (hxcons (hxfld hxvar) hxnil)) hxcon hxcon)) hxsnil) hxsnil) (hxscons (hxifs (hxcmp hxvar hxcon) (hxscons (hxasg hxtone (hxcall (hxcons (hxmake (hxcons (hxfld hxvar) hxnil)) (hxcons (hxmake (hxcons (hxfld hxvar) hxnil)) hxnil)))) (hxscons (hxret (hxife (hxcmp hxvar hxcon) hxcon (hxbi (hxcons hxvar hxnil)))) hxsnil)) hxsnil) (hxscons (hxifs (hxcmp hxvar hxcon) (hxscons (hxifs (hxnot (hxcall (hxcons (hxfld hxvar) hxnil))) (hxscons (hxret hxcon) hxsnil) hxsnil) (hxscons (hxret (hxife (hxcmp (hxcall (hxcons (hxfld hxvar) hxnil)) hxcon) hxcon hxcon)) hxsnil)) hxsnil) (hxscons (hxifs (hxcmp hxvar hxcon) (hxscons (hxasg hxtone (hxcall (hxcons (hxfld hxvar) hxnil))) (hxscons (hxret (hxife hxvar (hxbm hxcon (hxcons (hxlc (hxitr hxvar) hxyes (hxcall (hxcons hxvar hxnil))) hxnil)) hxcon)) hxsnil)) hxsnil) (hxscons (hxret hxcon) hxsnil)))))
theorem e67 : f67.x = x67 := fn_x p67
def b68 (G : Gam) : XS := (xscons (xifs (xand (xcmp .eq (xvar 1) (xcon (.str [114, 111, 119]))) (xcmp .eq (xbi .len (xcons (xvar 2) xnil)) (xcon (.int 1)))) (xscons (xasg (xtone 3) (xcall G 18 (xcons (xidx (xvar 2) (xcon (.int 0))) xnil))) (xscons (xret (xife (xand (xcmp .notn (xvar 3) (xcon .non)) (xcmp .lt (xvar 3) (xbi .len (xcons (xfld G (xfld G (xvar 0) 8) 47) xnil)))) (xidx (xfld G (xfld G (xvar 0) 8) 47) (xvar 3)) (xcon .non))) xsnil)) xsnil) (xscons (xifs (xand (xcmp .eq (xvar 1) (xcon (.str [119, 97, 108, 107]))) (xand (xcmp .eq (xbi .len (xcons (xvar 2) xnil)) (xcon (.int 1))) (xand (xcmp .ne (xidx (xvar 2) (xcon (.int 0))) (xcon (.str []))) (xbi .all (xcons (xlc G [4] (.one 4) (xitr (xidx (xvar 2) (xcon (.int 0)))) xyes (xcmp .isin (xvar 4) (xcon (.str [97, 98, 99, 100, 101, 102, 103, 104, 105, 106, 107, 108, 109, 110, 111, 112])))) xnil))))) (xscons (xret (xmeth G (xvar 0) 51 (xcons (xidx (xvar 2) (xcon (.int 0))) xnil))) xsnil) xsnil) (xscons (xifs (xand (xcmp .eq (xvar 1) (xcon (.str [114, 101, 97, 100]))) (xbi .all (xcons (xlc G [5] (.one 5) (xitr (xvar 2)) xyes (xcall G 20 (xcons (xvar 5) (xcons (xfld G (xfld G (xvar 0) 8) 37) xnil)))) xnil))) (xscons (xret (xmeth G (xvar 0) 33 (xcons (xbi .tuple (xcons (xvar 2) xnil)) xnil))) xsnil) xsnil) (xscons (xret (xcon .non)) xsnil))))
def x68 : Fx := ⟨3, false, [], 6, b68⟩
theorem p68 (G : Gam) : yB G f68.body = b68 G := (hxscons (hxifs (hxand (hxcmp hxvar hxcon) (hxcmp (hxbi (hxcons hxvar hxnil)) hxcon)) (hxscons (hxasg hxtone (hxcall (hxcons (hxidx hxvar hxcon) hxnil))) (hxscons (hxret (hxife (hxand (hxcmp hxvar hxcon) (hxcmp hxvar (hxbi (hxcons (hxfld (hxfld hxvar)) hxnil)))) (hxidx (hxfld (hxfld hxvar)) hxvar) hxcon)) hxsnil)) hxsnil) (hxscons (hxifs (hxand (hxcmp hxvar hxcon) (hxand (hxcmp (hxbi (hxcons hxvar hxnil)) hxcon) (hxand (hxcmp (hxidx hxvar hxcon) hxcon) (hxbi (hxcons (hxlc (hxitr (hxidx hxvar hxcon)) hxyes (hxcmp hxvar hxcon)) hxnil))))) (hxscons (hxret (hxmeth hxvar (hxcons (hxidx hxvar hxcon) hxnil))) hxsnil) hxsnil) (hxscons (hxifs (hxand (hxcmp hxvar hxcon) (hxbi (hxcons (hxlc (hxitr hxvar) hxyes (hxcall (hxcons hxvar (hxcons (hxfld (hxfld hxvar)) hxnil)))) hxnil))) (hxscons (hxret (hxmeth hxvar (hxcons (hxbi (hxcons hxvar hxnil)) hxnil))) hxsnil) hxsnil) (hxscons (hxret hxcon) hxsnil))))
theorem e68 : f68.x = x68 := fn_x p68
def b69 (G : Gam) : XS := (xscons (xifs (xnot (xcall G 53 (xcons (xfld G (xvar 0) 8) (xcons (xvar 1) xnil)))) (xscons (xret (xcon (.str [110, 111, 32, 119, 97, 108, 107]))) xsnil) xsnil) (xscons (xret (xfst (xcons (xcall G 55 (xcons (xfld G (xvar 0) 8) (xcons (xvar 1) xnil))) (xcons (xcon (.str [32])) (xcons (xife (xcmp .isin (xidx (xvar 1) (xneg (xcon (.int 1)))) (xfld G (xfld G (xvar 0) 8) 11)) (xcon (.str [106, 117, 100, 103, 101, 100])) (xcon (.str [111, 112, 101, 110]))) xnil))))) xsnil))
def x69 : Fx := ⟨2, false, [], 2, b69⟩
theorem p69 (G : Gam) : yB G f69.body = b69 G := (hxscons (hxifs (hxnot (hxcall (hxcons (hxfld hxvar) (hxcons hxvar hxnil)))) (hxscons (hxret hxcon) hxsnil) hxsnil) (hxscons (hxret (hxfst (hxcons (hxcall (hxcons (hxfld hxvar) (hxcons hxvar hxnil))) (hxcons hxcon (hxcons (hxife (hxcmp (hxidx hxvar (hxneg hxcon)) (hxfld (hxfld hxvar))) hxcon hxcon) hxnil))))) hxsnil))
theorem e69 : f69.x = x69 := fn_x p69
def b70 (G : Gam) : XS := (xscons (xifs (xbi .any (xcons (xlc G [2] (.one 2) (xrg1 (xbin .sub (xbi .len (xcons (xvar 1) xnil)) (xcon (.int 1)))) xyes (xcmp .eq (xidx (xvar 1) (xvar 2)) (xidx (xvar 1) (xbin .add (xvar 2) (xcon (.int 1)))))) xnil)) (xscons (xret (xcon .non)) xsnil) xsnil) (xscons (xasg (xtone 3) (xcall G 62 (xcons (xfld G (xvar 0) 8) (xcons (xcall G 61 (xcons (xfld G (xvar 0) 8) (xcons (xvar 1) xnil))) xnil)))) (xscons (xifs (xcmp .isn (xvar 3) (xcon .non)) (xscons (xret (xcon (.str [101, 110, 100, 108, 101, 115, 115]))) xsnil) xsnil) (xscons (xret (xife (xvar 3) (xbm .join (xcon (.str [32])) (xcons (xlc G [4] (.one 4) (xitr (xvar 3)) xyes (xbi .str (xcons (xvar 4) xnil))) xnil)) (xcon (.str [110, 111, 110, 101])))) xsnil))))
def x70 : Fx := ⟨2, false, [], 5, b70⟩
theorem p70 (G : Gam) : yB G f70.body = b70 G := (hxscons (hxifs (hxbi (hxcons (hxlc (hxrg1 (hxbin (hxbi (hxcons hxvar hxnil)) hxcon)) hxyes (hxcmp (hxidx hxvar hxvar) (hxidx hxvar (hxbin hxvar hxcon)))) hxnil)) (hxscons (hxret hxcon) hxsnil) hxsnil) (hxscons (hxasg hxtone (hxcall (hxcons (hxfld hxvar) (hxcons (hxcall (hxcons (hxfld hxvar) (hxcons hxvar hxnil))) hxnil)))) (hxscons (hxifs (hxcmp hxvar hxcon) (hxscons (hxret hxcon) hxsnil) hxsnil) (hxscons (hxret (hxife hxvar (hxbm hxcon (hxcons (hxlc (hxitr hxvar) hxyes (hxbi (hxcons hxvar hxnil))) hxnil)) hxcon)) hxsnil))))
theorem e70 : f70.x = x70 := fn_x p70
def b71 (G : Gam) : XS := (xscons (xasg (xtone 2) (xife (xcmp .lt (xvar 1) (xbi .len (xcons (xvar 0) xnil))) (xidx (xvar 0) (xvar 1)) (xbin .add (xbin .mul (xcon (.int 7)) (xvar 1)) (xcon (.int 2))))) (xscons (xasg (xtone 3) (xbin .add (xcon (.int 90001)) (xbin .mul (xcon (.int 7919)) (xvar 1)))) (xscons (xfro G (.one 4) (xitr (xbin .add (xshi (xvar 0) (xcon (.int 8))) (xlst (xcons (xvar 2) xnil)))) (xscons (xasg (xtone 3) (xbin .mod (xbi .int (xcons (xbin .add (xbin .add (xbin .mul (xvar 3) (xcon (.int 48271))) (xbi .int (xcons (xvar 4) xnil))) (xbin .mul (xcon (.int 11)) (xvar 1))) xnil)) (xcon (.int 2147483647)))) xsnil)) (xscons (xret (xlst (xcons (xife (xor_ (xcmp .lt (xvar 2) (xcon (.int 0))) (xcmp .ge (xvar 2) (xbin .pow (xcon (.int 10)) (xcon (.int 18))))) (xbi .abs (xcons (xvar 2) xnil)) (xcon (.int 0))) (xcons (xvar 3) (xcons (xcon (.int 0)) xnil))))) xsnil))))
def x71 : Fx := ⟨2, false, [], 5, b71⟩
theorem p71 (G : Gam) : yB G f71.body = b71 G := (hxscons (hxasg hxtone (hxife (hxcmp hxvar (hxbi (hxcons hxvar hxnil))) (hxidx hxvar hxvar) (hxbin (hxbin hxcon hxvar) hxcon))) (hxscons (hxasg hxtone (hxbin hxcon (hxbin hxcon hxvar))) (hxscons (hxfro (hxitr (hxbin (hxshi hxvar hxcon) (hxlst (hxcons hxvar hxnil)))) (hxscons (hxasg hxtone (hxbin (hxbi (hxcons (hxbin (hxbin (hxbin hxvar hxcon) (hxbi (hxcons hxvar hxnil))) (hxbin hxcon hxvar)) hxnil)) hxcon)) hxsnil)) (hxscons (hxret (hxlst (hxcons (hxife (hxor (hxcmp hxvar hxcon) (hxcmp hxvar (hxbin hxcon hxcon))) (hxbi (hxcons hxvar hxnil)) hxcon) (hxcons hxvar (hxcons hxcon hxnil))))) hxsnil))))
theorem e71 : f71.x = x71 := fn_x p71
def b72 (G : Gam) : XS := (xscons (xasg (xtsub (xvar 0) (xcon (.int 2))) (xbin .add (xidx (xvar 0) (xcon (.int 2))) (xcon (.int 1)))) (xscons (xasg (xtsub (xvar 0) (xcon (.int 1))) (xbin .mod (xbi .int (xcons (xbin .add (xbin .add (xbin .mul (xidx (xvar 0) (xcon (.int 1))) (xcon (.int 69621))) (xbin .mul (xcon (.int 40503)) (xidx (xvar 0) (xcon (.int 2))))) (xcon (.int 1))) xnil)) (xcon (.int 2147483647)))) (xscons (xifs (xcmp .gt (xidx (xvar 0) (xcon (.int 0))) (xcon (.int 0))) (xscons (xasm (xtcons (xtsub (xvar 0) (xcon (.int 0))) (xtcons (xtone 2) xtnil)) (xbi .divmod (xcons (xidx (xvar 0) (xcon (.int 0))) (xcons (xvar 1) xnil)))) (xscons (xret (xvar 2)) xsnil)) xsnil) (xscons (xasg (xtone 3) (xbin .add (xidx (xvar 0) (xcon (.int 1))) (xcon (.int 12345)))) (xscons (xasg (xtone 4) (xbin .mod (xbi .int (xcons (xbin .add (xbin .mul (xvar 3) (xidx (xvar 0) (xcon (.int 1)))) (xidx (xvar 0) (xcon (.int 2)))) xnil)) (xcon (.int 2147483629)))) (xscons (xret (xbin .mod (xbi .int (xcons (xbin .fdiv (xvar 4) (xcon (.int 256))) xnil)) (xvar 1))) xsnil))))))
def x72 : Fx := ⟨2, false, [], 5, b72⟩
theorem p72 (G : Gam) : yB G f72.body = b72 G := (hxscons (hxasg (hxtsub hxvar hxcon) (hxbin (hxidx hxvar hxcon) hxcon)) (hxscons (hxasg (hxtsub hxvar hxcon) (hxbin (hxbi (hxcons (hxbin (hxbin (hxbin (hxidx hxvar hxcon) hxcon) (hxbin hxcon (hxidx hxvar hxcon))) hxcon) hxnil)) hxcon)) (hxscons (hxifs (hxcmp (hxidx hxvar hxcon) hxcon) (hxscons (hxasm (hxtcons (hxtsub hxvar hxcon) (hxtcons hxtone hxtnil)) (hxbi (hxcons (hxidx hxvar hxcon) (hxcons hxvar hxnil)))) (hxscons (hxret hxvar) hxsnil)) hxsnil) (hxscons (hxasg hxtone (hxbin (hxidx hxvar hxcon) hxcon)) (hxscons (hxasg hxtone (hxbin (hxbi (hxcons (hxbin (hxbin hxvar (hxidx hxvar hxcon)) (hxidx hxvar hxcon)) hxnil)) hxcon)) (hxscons (hxret (hxbin (hxbi (hxcons (hxbin hxvar hxcon) hxnil)) hxvar)) hxsnil))))))
theorem e72 : f72.x = x72 := fn_x p72
def b73 (G : Gam) : XS := (xscons (xret (xidx (xvar 1) (xcall G 72 (xcons (xvar 0) (xcons (xbi .len (xcons (xvar 1) xnil)) xnil))))) xsnil)
def x73 : Fx := ⟨2, false, [], 2, b73⟩
theorem p73 (G : Gam) : yB G f73.body = b73 G := (hxscons (hxret (hxidx hxvar (hxcall (hxcons hxvar (hxcons (hxbi (hxcons hxvar hxnil)) hxnil))))) hxsnil)
theorem e73 : f73.x = x73 := fn_x p73
def b74 (G : Gam) : XS := (xscons (xret (xcmet G 7 28 (xcons (xbm .join (xcon (.str [10])) (xcons (xvar 0) xnil)) xnil))) xsnil)
def x74 : Fx := ⟨1, false, [], 1, b74⟩
theorem p74 (G : Gam) : yB G f74.body = b74 G := (hxscons (hxret (hxcmet (hxcons (hxbm hxcon (hxcons hxvar hxnil)) hxnil))) hxsnil)
theorem e74 : f74.x = x74 := fn_x p74
def b75 (G : Gam) : XS := (xscons (xasg (xtone 0) (xlst (xcons (xcon (.str [115, 101, 110, 115, 111, 114, 115, 32, 50])) (xcons (xcon (.str [112, 108, 97, 99, 101, 32, 111, 32, 48, 48])) (xcons (xcon (.str [112, 108, 97, 99, 101, 32, 98, 32, 49, 48])) (xcons (xcon (.str [112, 108, 97, 99, 101, 32, 99, 32, 49, 49])) (xcons (xcon (.str [112, 108, 97, 99, 101, 32, 100, 32, 48, 49])) (xcons (xcon (.str [119, 97, 121, 32, 111, 32, 98, 32, 48])) (xcons (xcon (.str [119, 97, 121, 32, 98, 32, 99, 32, 48])) xnil))))))))) (xscons (xret (xbin .add (xvar 0) (xlst (xcons (xcon (.str [119, 97, 121, 32, 99, 32, 100, 32, 49])) (xcons (xcon (.str [119, 97, 121, 32, 100, 32, 111, 32, 48])) (xcons (xcon (.str [98, 101, 103, 105, 110, 32, 111])) (xcons (xcon (.str [106, 117, 100, 103, 101, 32, 111])) xnil))))))) xsnil))
def x75 : Fx := ⟨0, false, [], 1, b75⟩
theorem p75 (G : Gam) : yB G f75.body = b75 G := (hxscons (hxasg hxtone (hxlst (hxcons hxcon (hxcons hxcon (hxcons hxcon (hxcons hxcon (hxcons hxcon (hxcons hxcon (hxcons hxcon hxnil))))))))) (hxscons (hxret (hxbin hxvar (hxlst (hxcons hxcon (hxcons hxcon (hxcons hxcon (hxcons hxcon hxnil))))))) hxsnil))
theorem e75 : f75.x = x75 := fn_x p75
def b76 (G : Gam) : XS := (xscons (xasg (xtone 0) (xcall G 75 xnil)) (xscons (xret (xbin .add (xbin .add (xshi (xvar 0) (xcon (.int 3))) (xlst (xcons (xcon (.str [112, 108, 97, 99, 101, 32, 99, 32, 48, 48])) xnil))) (xslo (xvar 0) (xcon (.int 4))))) xsnil))
def x76 : Fx := ⟨0, false, [], 1, b76⟩
theorem p76 (G : Gam) : yB G f76.body = b76 G := (hxscons (hxasg hxtone (hxcall hxnil)) (hxscons (hxret (hxbin (hxbin (hxshi hxvar hxcon) (hxlst (hxcons hxcon hxnil))) (hxslo hxvar hxcon))) hxsnil))
theorem e76 : f76.x = x76 := fn_x p76
def b77 (G : Gam) : XS := (xscons (xasg (xtone 0) (xlst (xcons (xcon (.str [115, 101, 110, 115, 111, 114, 115, 32, 50])) (xcons (xcon (.str [112, 108, 97, 99, 101, 32, 97, 32, 48, 48])) (xcons (xcon (.str [112, 108, 97, 99, 101, 32, 98, 32, 48, 49])) (xcons (xcon (.str [112, 108, 97, 99, 101, 32, 99, 32, 49, 48])) (xcons (xcon (.str [112, 108, 97, 99, 101, 32, 100, 32, 48, 48])) (xcons (xcon (.str [112, 108, 97, 99, 101, 32, 101, 32, 48, 49])) (xcons (xcon (.str [112, 108, 97, 99, 101, 32, 102, 32, 49, 48])) xnil))))))))) (xscons (xasg (xtone 0) (xbin .add (xvar 0) (xlst (xcons (xcon (.str [112, 108, 97, 99, 101, 32, 103, 32, 49, 49])) (xcons (xcon (.str [112, 108, 97, 99, 101, 32, 104, 32, 49, 48])) (xcons (xcon (.str [112, 108, 97, 99, 101, 32, 105, 32, 49, 49])) (xcons (xcon (.str [119, 97, 121, 32, 97, 32, 98, 32, 48])) (xcons (xcon (.str [119, 97, 121, 32, 98, 32, 99, 32, 48])) (xcons (xcon (.str [119, 97, 121, 32, 99, 32, 97, 32, 49])) (xcons (xcon (.str [119, 97, 121, 32, 100, 32, 101, 32, 48])) xnil)))))))))) (xscons (xasg (xtone 0) (xbin .add (xvar 0) (xlst (xcons (xcon (.str [119, 97, 121, 32, 101, 32, 102, 32, 48])) (xcons (xcon (.str [119, 97, 121, 32, 102, 32, 100, 32, 48])) (xcons (xcon (.str [119, 97, 121, 32, 97, 32, 103, 32, 48])) (xcons (xcon (.str [119, 97, 121, 32, 100, 32, 104, 32, 48])) (xcons (xcon (.str [119, 97, 121, 32, 104, 32, 105, 32, 48])) (xcons (xcon (.str [98, 101, 103, 105, 110, 32, 97, 32, 100])) (xcons (xcon (.str [106, 117, 100, 103, 101, 32, 103, 32, 105])) xnil)))))))))) (xscons (xret (xvar 0)) xsnil))))
def x77 : Fx := ⟨0, false, [], 1, b77⟩
theorem p77 (G : Gam) : yB G f77.body = b77 G := (hxscons (hxasg hxtone (hxlst (hxcons hxcon (hxcons hxcon (hxcons hxcon (hxcons hxcon (hxcons hxcon (hxcons hxcon (hxcons hxcon hxnil))))))))) (hxscons (hxasg hxtone (hxbin hxvar (hxlst (hxcons hxcon (hxcons hxcon (hxcons hxcon (hxcons hxcon (hxcons hxcon (hxcons hxcon (hxcons hxcon hxnil)))))))))) (hxscons (hxasg hxtone (hxbin hxvar (hxlst (hxcons hxcon (hxcons hxcon (hxcons hxcon (hxcons hxcon (hxcons hxcon (hxcons hxcon (hxcons hxcon hxnil)))))))))) (hxscons (hxret hxvar) hxsnil))))
theorem e77 : f77.x = x77 := fn_x p77
def b78 (G : Gam) : XS := (xscons (xasg (xtone 2) (xmake G 8 (xcons (xvar 0) xnil))) (xscons (xasg (xtone 3) (xlc G [4] (.one 4) (xitr (xvar 1)) xyes (xlst (xcons (xmeth G (xvar 2) 32 (xcons (xidx (xvar 4) (xcon (.int 0))) xnil)) (xcons (xmeth G (xvar 2) 32 (xcons (xidx (xvar 4) (xcon (.int 0))) xnil)) xnil))))) (xscons (xret (xand (xcmp .eq (xvar 3) (xlc G [4] (.one 4) (xitr (xvar 1)) xyes (xlst (xcons (xidx (xvar 4) (xcon (.int 1))) (xcons (xidx (xvar 4) (xcon (.int 1))) xnil))))) (xeqm G 1 (xfld G (xvar 2) 53) (xvar 0)))) xsnil)))
def x78 : Fx := ⟨2, false, [], 5, b78⟩
theorem p78 (G : Gam) : yB G f78.body = b78 G := (hxscons (hxasg hxtone (hxmake (hxcons hxvar hxnil))) (hxscons (hxasg hxtone (hxlc (hxitr hxvar) hxyes (hxlst (hxcons (hxmeth hxvar (hxcons (hxidx hxvar hxcon) hxnil)) (hxcons (hxmeth hxvar (hxcons (hxidx hxvar hxcon) hxnil)) hxnil))))) (hxscons (hxret (hxand (hxcmp hxvar (hxlc (hxitr hxvar) hxyes (hxlst (hxcons (hxidx hxvar hxcon) (hxcons (hxidx hxvar hxcon) hxnil))))) (hxeqm (hxfld hxvar) hxvar))) hxsnil)))
theorem e78 : f78.x = x78 := fn_x p78
def b79 (G : Gam) : XS := (xscons (xasg (xtone 0) (xlst (xcons (xtup (xcons (xcon (.str [114, 111, 119, 32, 48])) (xcons (xcon (.str [115, 101, 110, 115, 111, 114, 115, 32, 50])) xnil))) (xcons (xtup (xcons (xcon (.str [114, 111, 119, 32, 51])) (xcons (xcon (.str [112, 108, 97, 99, 101, 32, 99, 32, 49, 49])) xnil))) (xcons (xtup (xcons (xcon (.str [114, 111, 119, 32, 49, 48])) (xcons (xcon (.str [106, 117, 100, 103, 101, 32, 111])) xnil))) (xcons (xtup (xcons (xcon (.str [114, 105, 103, 104, 116])) (xcons (xcon (.str [121, 101, 115])) xnil))) (xcons (xtup (xcons (xcon (.str [101, 114, 114, 111, 114])) (xcons (xcon (.str [48])) xnil))) xnil))))))) (xscons (xasg (xtone 0) (xbin .add (xvar 0) (xlst (xcons (xtup (xcons (xcon (.str [99, 111, 117, 110, 116, 101, 114])) (xcons (xcon (.str [121, 101, 115])) xnil))) (xcons (xtup (xcons (xcon (.str [108, 111, 116, 115])) (xcons (xcon (.str [48, 49])) xnil))) (xcons (xtup (xcons (xcon (.str [119, 97, 108, 107, 32, 111, 98, 99, 100, 111])) (xcons (xcon (.str [49, 32, 106, 117, 100, 103, 101, 100])) xnil))) (xcons (xtup (xcons (xcon (.str [119, 97, 108, 107, 32, 111, 100, 99, 98, 111])) (xcons (xcon (.str [45, 49, 32, 106, 117, 100, 103, 101, 100])) xnil))) xnil))))))) (xscons (xasg (xtone 0) (xbin .add (xvar 0) (xlst (xcons (xtup (xcons (xcon (.str [119, 97, 108, 107, 32, 111, 98])) (xcons (xcon (.str [48, 32, 111, 112, 101, 110])) xnil))) (xcons (xtup (xcons (xcon (.str [119, 97, 108, 107, 32, 111, 99])) (xcons (xcon (.str [110, 111, 32, 119, 97, 108, 107])) xnil))) (xcons (xtup (xcons (xcon (.str [119, 97, 108, 107, 32, 98])) (xcons (xcon (.str [110, 111, 32, 119, 97, 108, 107])) xnil))) (xcons (xtup (xcons (xcon (.str [119, 97, 108, 107, 32, 112, 112, 112, 112])) (xcons (xcon (.str [110, 111, 32, 119, 97, 108, 107])) xnil))) xnil))))))) (xscons (xasg (xtone 0) (xbin .add (xvar 0) (xlst (xcons (xtup (xcons (xcon (.str [114, 101, 97, 100, 32, 48, 48])) (xcons (xcon (.str [48])) xnil))) (xcons (xtup (xcons (xcon (.str [114, 101, 97, 100, 32, 48, 48, 32, 49, 48, 32, 49, 49, 32, 48, 49, 32, 48, 48])) (xcons (xcon (.str [49])) xnil))) (xcons (xtup (xcons (xcon (.str [114, 101, 97, 100, 32, 48, 48, 32, 48, 49])) (xcons (xcon (.str [110, 111, 110, 101])) xnil))) (xcons (xtup (xcons (xcon (.str [114, 101, 97, 100, 32, 49, 49])) (xcons (xcon (.str [110, 111, 110, 101])) xnil))) xnil))))))) (xscons (xifs (xnot (xcall G 78 (xcons (xcall G 74 (xcons (xcall G 75 xnil) xnil)) (xcons (xvar 0) xnil)))) (xscons (xret (xcon (.bl false))) xsnil) xsnil) (xscons (xasg (xtone 1) (xlst (xcons (xtup (xcons (xcon (.str [114, 111, 119, 32, 51])) (xcons (xcon (.str [112, 108, 97, 99, 101, 32, 99, 32, 48, 48])) xnil))) (xcons (xtup (xcons (xcon (.str [114, 105, 103, 104, 116])) (xcons (xcon (.str [110, 111])) xnil))) (xcons (xtup (xcons (xcon (.str [101, 114, 114, 111, 114])) (xcons (xcon (.str [110, 111, 32, 101, 110, 100])) xnil))) (xcons (xtup (xcons (xcon (.str [99, 111, 117, 110, 116, 101, 114])) (xcons (xcon (.str [119, 114, 111, 110, 103])) xnil))) (xcons (xtup (xcons (xcon (.str [108, 111, 116, 115])) (xcons (xcon (.str [110, 111, 110, 101])) xnil))) xnil))))))) (xscons (xasg (xtone 1) (xbin .add (xvar 1) (xlst (xcons (xtup (xcons (xcon (.str [119, 97, 108, 107, 32, 111, 98, 99, 100, 111])) (xcons (xcon (.str [49, 32, 106, 117, 100, 103, 101, 100])) xnil))) (xcons (xtup (xcons (xcon (.str [114, 101, 97, 100, 32, 48, 48, 32, 49, 48, 32, 48, 48, 32, 48, 49, 32, 48, 48])) (xcons (xcon (.str [48, 32, 49])) xnil))) (xcons (xtup (xcons (xcon (.str [114, 101, 97, 100, 32, 48, 48, 32, 49, 48, 32, 48, 48])) (xcons (xcon (.str [48])) xnil))) xnil)))))) (xscons (xexp (xbm .append (xvar 1) (xcons (xtup (xcons (xcon (.str [119, 97, 108, 107, 32, 111])) (xcons (xcon (.str [48, 32, 106, 117, 100, 103, 101, 100])) xnil))) xnil))) (xscons (xifs (xnot (xcall G 78 (xcons (xcall G 74 (xcons (xcall G 76 xnil) xnil)) (xcons (xvar 1) xnil)))) (xscons (xret (xcon (.bl false))) xsnil) xsnil) (xscons (xasg (xtone 2) (xlst (xcons (xtup (xcons (xcon (.str [114, 105, 103, 104, 116])) (xcons (xcon (.str [121, 101, 115])) xnil))) (xcons (xtup (xcons (xcon (.str [101, 114, 114, 111, 114])) (xcons (xcon (.str [48])) xnil))) (xcons (xtup (xcons (xcon (.str [99, 111, 117, 110, 116, 101, 114])) (xcons (xcon (.str [100, 114, 105, 102, 116])) xnil))) (xcons (xtup (xcons (xcon (.str [119, 97, 108, 107, 32, 97, 98, 99, 97, 103])) (xcons (xcon (.str [49, 32, 106, 117, 100, 103, 101, 100])) xnil))) (xcons (xtup (xcons (xcon (.str [119, 97, 108, 107, 32, 100, 104, 105])) (xcons (xcon (.str [48, 32, 106, 117, 100, 103, 101, 100])) xnil))) xnil))))))) (xscons (xasg (xtone 2) (xbin .add (xvar 2) (xlst (xcons (xtup (xcons (xcon (.str [114, 101, 97, 100, 32, 48, 48, 32, 49, 48, 32, 49, 49])) (xcons (xcon (.str [48])) xnil))) (xcons (xtup (xcons (xcon (.str [114, 101, 97, 100, 32, 48, 48, 32, 48, 49, 32, 49, 48, 32, 48, 48, 32, 49, 49])) (xcons (xcon (.str [49])) xnil))) (xcons (xtup (xcons (xcon (.str [114, 111, 119, 32, 50, 48])) (xcons (xcon (.str [106, 117, 100, 103, 101, 32, 103, 32, 105])) xnil))) (xcons (xtup (xcons (xcon (.str [119, 97, 108, 107, 32, 97, 100])) (xcons (xcon (.str [110, 111, 32, 119, 97, 108, 107])) xnil))) xnil))))))) (xscons (xret (xcall G 78 (xcons (xcall G 74 (xcons (xcall G 77 xnil) xnil)) (xcons (xvar 2) xnil)))) xsnil))))))))))))
def x79 : Fx := ⟨0, false, [], 3, b79⟩
theorem p79 (G : Gam) : yB G f79.body = b79 G := (hxscons (hxasg hxtone (hxlst (hxcons (hxtup (hxcons hxcon (hxcons hxcon hxnil))) (hxcons (hxtup (hxcons hxcon (hxcons hxcon hxnil))) (hxcons (hxtup (hxcons hxcon (hxcons hxcon hxnil))) (hxcons (hxtup (hxcons hxcon (hxcons hxcon hxnil))) (hxcons (hxtup (hxcons hxcon (hxcons hxcon hxnil))) hxnil))))))) (hxscons (hxasg hxtone (hxbin hxvar (hxlst (hxcons (hxtup (hxcons hxcon (hxcons hxcon hxnil))) (hxcons (hxtup (hxcons hxcon (hxcons hxcon hxnil))) (hxcons (hxtup (hxcons hxcon (hxcons hxcon hxnil))) (hxcons (hxtup (hxcons hxcon (hxcons hxcon hxnil))) hxnil))))))) (hxscons (hxasg hxtone (hxbin hxvar (hxlst (hxcons (hxtup (hxcons hxcon (hxcons hxcon hxnil))) (hxcons (hxtup (hxcons hxcon (hxcons hxcon hxnil))) (hxcons (hxtup (hxcons hxcon (hxcons hxcon hxnil))) (hxcons (hxtup (hxcons hxcon (hxcons hxcon hxnil))) hxnil))))))) (hxscons (hxasg hxtone (hxbin hxvar (hxlst (hxcons (hxtup (hxcons hxcon (hxcons hxcon hxnil))) (hxcons (hxtup (hxcons hxcon (hxcons hxcon hxnil))) (hxcons (hxtup (hxcons hxcon (hxcons hxcon hxnil))) (hxcons (hxtup (hxcons hxcon (hxcons hxcon hxnil))) hxnil))))))) (hxscons (hxifs (hxnot (hxcall (hxcons (hxcall (hxcons (hxcall hxnil) hxnil)) (hxcons hxvar hxnil)))) (hxscons (hxret hxcon) hxsnil) hxsnil) (hxscons (hxasg hxtone (hxlst (hxcons (hxtup (hxcons hxcon (hxcons hxcon hxnil))) (hxcons (hxtup (hxcons hxcon (hxcons hxcon hxnil))) (hxcons (hxtup (hxcons hxcon (hxcons hxcon hxnil))) (hxcons (hxtup (hxcons hxcon (hxcons hxcon hxnil))) (hxcons (hxtup (hxcons hxcon (hxcons hxcon hxnil))) hxnil))))))) (hxscons (hxasg hxtone (hxbin hxvar (hxlst (hxcons (hxtup (hxcons hxcon (hxcons hxcon hxnil))) (hxcons (hxtup (hxcons hxcon (hxcons hxcon hxnil))) (hxcons (hxtup (hxcons hxcon (hxcons hxcon hxnil))) hxnil)))))) (hxscons (hxexp (hxbm hxvar (hxcons (hxtup (hxcons hxcon (hxcons hxcon hxnil))) hxnil))) (hxscons (hxifs (hxnot (hxcall (hxcons (hxcall (hxcons (hxcall hxnil) hxnil)) (hxcons hxvar hxnil)))) (hxscons (hxret hxcon) hxsnil) hxsnil) (hxscons (hxasg hxtone (hxlst (hxcons (hxtup (hxcons hxcon (hxcons hxcon hxnil))) (hxcons (hxtup (hxcons hxcon (hxcons hxcon hxnil))) (hxcons (hxtup (hxcons hxcon (hxcons hxcon hxnil))) (hxcons (hxtup (hxcons hxcon (hxcons hxcon hxnil))) (hxcons (hxtup (hxcons hxcon (hxcons hxcon hxnil))) hxnil))))))) (hxscons (hxasg hxtone (hxbin hxvar (hxlst (hxcons (hxtup (hxcons hxcon (hxcons hxcon hxnil))) (hxcons (hxtup (hxcons hxcon (hxcons hxcon hxnil))) (hxcons (hxtup (hxcons hxcon (hxcons hxcon hxnil))) (hxcons (hxtup (hxcons hxcon (hxcons hxcon hxnil))) hxnil))))))) (hxscons (hxret (hxcall (hxcons (hxcall (hxcons (hxcall hxnil) hxnil)) (hxcons hxvar hxnil)))) hxsnil))))))))))))
theorem e79 : f79.x = x79 := fn_x p79
def b80 (G : Gam) : XS := (xscons (xasg (xtone 1) (xcall G 72 (xcons (xvar 0) (xcons (xcon (.int 10)) xnil)))) (xscons (xasg (xtone 2) (xlst (xcons (xcon (.str [115, 101, 110, 115, 111, 114, 115, 32, 49])) (xcons (xcon (.str [112, 108, 97, 99, 101, 32, 97, 32, 48])) (xcons (xbin .add (xcon (.str [112, 108, 97, 99, 101, 32, 98, 32])) (xcall G 73 (xcons (xvar 0) (xcons (xlst (xcons (xcon (.str [48])) (xcons (xcon (.str [49])) xnil))) xnil)))) (xcons (xbin .add (xcon (.str [119, 97, 121, 32, 97, 32, 98, 32])) (xbi .str (xcons (xvar 1) xnil))) xnil)))))) (xscons (xasg (xtone 2) (xbin .add (xvar 2) (xlst (xcons (xcon (.str [98, 101, 103, 105, 110, 32, 97])) (xcons (xcon (.str [106, 117, 100, 103, 101, 32, 98])) xnil))))) (xscons (xasg (xtone 3) (xlst (xcons (xtup (xcons (xcon (.str [119, 97, 108, 107, 32, 97, 98])) (xcons (xbin .add (xbi .str (xcons (xvar 1) xnil)) (xcon (.str [32, 106, 117, 100, 103, 101, 100]))) xnil))) (xcons (xtup (xcons (xcon (.str [119, 97, 108, 107, 32, 97])) (xcons (xcon (.str [48, 32, 111, 112, 101, 110])) xnil))) (xcons (xtup (xcons (xcon (.str [119, 97, 108, 107, 32, 97, 98, 97, 98])) (xcons (xbin .add (xbi .str (xcons (xvar 1) xnil)) (xcon (.str [32, 106, 117, 100, 103, 101, 100]))) xnil))) xnil))))) (xscons (xasg (xtone 3) (xbin .add (xvar 3) (xlst (xcons (xtup (xcons (xcon (.str [114, 105, 103, 104, 116])) (xcons (xcon (.str [121, 101, 115])) xnil))) (xcons (xtup (xcons (xcon (.str [101, 114, 114, 111, 114])) (xcons (xcon (.str [48])) xnil))) (xcons (xtup (xcons (xcon (.str [99, 111, 117, 110, 116, 101, 114])) (xcons (xcon (.str [121, 101, 115])) xnil))) (xcons (xtup (xcons (xcon (.str [108, 111, 116, 115])) (xcons (xcon (.str [45])) xnil))) xnil))))))) (xscons (xexp (xbm .append (xvar 3) (xcons (xtup (xcons (xcon (.str [114, 111, 119, 32, 51])) (xcons (xbin .add (xcon (.str [119, 97, 121, 32, 97, 32, 98, 32])) (xbi .str (xcons (xvar 1) xnil))) xnil))) xnil))) (xscons (xasg (xtone 4) (xbin .add (xshi (xvar 2) (xcon (.int 4))) (xlst (xcons (xcon (.str [119, 97, 121, 32, 98, 32, 99, 32, 49])) (xcons (xcon (.str [119, 97, 121, 32, 99, 32, 97, 32, 49])) (xcons (xcon (.str [98, 101, 103, 105, 110, 32, 97])) (xcons (xcon (.str [106, 117, 100, 103, 101, 32, 97])) xnil))))))) (xscons (xasg (xtone 4) (xbin .add (xbin .add (xshi (xvar 4) (xcon (.int 3))) (xlst (xcons (xcon (.str [112, 108, 97, 99, 101, 32, 99, 32, 48])) xnil))) (xslo (xvar 4) (xcon (.int 3))))) (xscons (xasg (xtsub (xvar 4) (xcon (.int 2))) (xcon (.str [112, 108, 97, 99, 101, 32, 98, 32, 48]))) (xscons (xasg (xtone 5) (xlst (xcons (xtup (xcons (xcon (.str [114, 101, 97, 100, 32, 48])) (xcons (xcon (.str [101, 110, 100, 108, 101, 115, 115])) xnil))) (xcons (xtup (xcons (xcon (.str [114, 105, 103, 104, 116])) (xcons (xcon (.str [110, 111])) xnil))) (xcons (xtup (xcons (xcon (.str [101, 114, 114, 111, 114])) (xcons (xcon (.str [110, 111, 32, 101, 110, 100])) xnil))) (xcons (xtup (xcons (xcon (.str [99, 111, 117, 110, 116, 101, 114])) (xcons (xcon (.str [119, 114, 111, 110, 103])) xnil))) (xcons (xtup (xcons (xcon (.str [108, 111, 116, 115])) (xcons (xcon (.str [110, 111, 110, 101])) xnil))) xnil))))))) (xscons (xexp (xbm .append (xvar 5) (xcons (xtup (xcons (xcon (.str [114, 101, 97, 100, 32, 49])) (xcons (xcon (.str [110, 111, 110, 101])) xnil))) xnil))) (xscons (xret (xand (xcall G 78 (xcons (xcall G 74 (xcons (xvar 2) xnil)) (xcons (xvar 3) xnil))) (xcall G 78 (xcons (xcall G 74 (xcons (xvar 4) xnil)) (xcons (xvar 5) xnil))))) xsnil))))))))))))
def x80 : Fx := ⟨1, false, [], 6, b80⟩
theorem p80 (G : Gam) : yB G f80.body = b80 G := (hxscons (hxasg hxtone (hxcall (hxcons hxvar (hxcons hxcon hxnil)))) (hxscons (hxasg hxtone (hxlst (hxcons hxcon (hxcons hxcon (hxcons (hxbin hxcon (hxcall (hxcons hxvar (hxcons (hxlst (hxcons hxcon (hxcons hxcon hxnil))) hxnil)))) (hxcons (hxbin hxcon (hxbi (hxcons hxvar hxnil))) hxnil)))))) (hxscons (hxasg hxtone (hxbin hxvar (hxlst (hxcons hxcon (hxcons hxcon hxnil))))) (hxscons (hxasg hxtone (hxlst (hxcons (hxtup (hxcons hxcon (hxcons (hxbin (hxbi (hxcons hxvar hxnil)) hxcon) hxnil))) (hxcons (hxtup (hxcons hxcon (hxcons hxcon hxnil))) (hxcons (hxtup (hxcons hxcon (hxcons (hxbin (hxbi (hxcons hxvar hxnil)) hxcon) hxnil))) hxnil))))) (hxscons (hxasg hxtone (hxbin hxvar (hxlst (hxcons (hxtup (hxcons hxcon (hxcons hxcon hxnil))) (hxcons (hxtup (hxcons hxcon (hxcons hxcon hxnil))) (hxcons (hxtup (hxcons hxcon (hxcons hxcon hxnil))) (hxcons (hxtup (hxcons hxcon (hxcons hxcon hxnil))) hxnil))))))) (hxscons (hxexp (hxbm hxvar (hxcons (hxtup (hxcons hxcon (hxcons (hxbin hxcon (hxbi (hxcons hxvar hxnil))) hxnil))) hxnil))) (hxscons (hxasg hxtone (hxbin (hxshi hxvar hxcon) (hxlst (hxcons hxcon (hxcons hxcon (hxcons hxcon (hxcons hxcon hxnil))))))) (hxscons (hxasg hxtone (hxbin (hxbin (hxshi hxvar hxcon) (hxlst (hxcons hxcon hxnil))) (hxslo hxvar hxcon))) (hxscons (hxasg (hxtsub hxvar hxcon) hxcon) (hxscons (hxasg hxtone (hxlst (hxcons (hxtup (hxcons hxcon (hxcons hxcon hxnil))) (hxcons (hxtup (hxcons hxcon (hxcons hxcon hxnil))) (hxcons (hxtup (hxcons hxcon (hxcons hxcon hxnil))) (hxcons (hxtup (hxcons hxcon (hxcons hxcon hxnil))) (hxcons (hxtup (hxcons hxcon (hxcons hxcon hxnil))) hxnil))))))) (hxscons (hxexp (hxbm hxvar (hxcons (hxtup (hxcons hxcon (hxcons hxcon hxnil))) hxnil))) (hxscons (hxret (hxand (hxcall (hxcons (hxcall (hxcons hxvar hxnil)) (hxcons hxvar hxnil))) (hxcall (hxcons (hxcall (hxcons hxvar hxnil)) (hxcons hxvar hxnil))))) hxsnil))))))))))))
theorem e80 : f80.x = x80 := fn_x p80
def b81 (G : Gam) : XS := (xscons (xifs (xnot (xcall G 79 xnil)) (xscons (xret (xcon (.bl false))) xsnil) xsnil) (xscons (xret (xbi .all (xcons (xlc G [1] (.one 1) (xrg1 (xbi .max2 (xcons (xcon (.int 2)) (xcons (xbi .min2 (xcons (xbi .len (xcons (xvar 0) xnil)) (xcons (xcon (.int 4)) xnil))) xnil)))) xyes (xcall G 80 (xcons (xcall G 71 (xcons (xvar 0) (xcons (xvar 1) xnil))) xnil))) xnil))) xsnil))
def x81 : Fx := ⟨1, false, [], 2, b81⟩
theorem p81 (G : Gam) : yB G f81.body = b81 G := (hxscons (hxifs (hxnot (hxcall hxnil)) (hxscons (hxret hxcon) hxsnil) hxsnil) (hxscons (hxret (hxbi (hxcons (hxlc (hxrg1 (hxbi (hxcons hxcon (hxcons (hxbi (hxcons (hxbi (hxcons hxvar hxnil)) (hxcons hxcon hxnil))) hxnil)))) hxyes (hxcall (hxcons (hxcall (hxcons hxvar (hxcons hxvar hxnil))) hxnil))) hxnil))) hxsnil))
theorem e81 : f81.x = x81 := fn_x p81
def progX : ProgX := ⟨(.node (some x0) (.node (some x1) (.node (some x3) (.node (some x7) (.node none (.node (some x31) (.node (some x63) .nil .nil) .nil) (.node (some x47) (.node (some x79) .nil .nil) .nil)) (.node (some x23) (.node (some x39) (.node (some x71) .nil .nil) .nil) (.node (some x55) .nil .nil))) (.node (some x11) (.node (some x19) (.node (some x35) (.node (some x67) .nil .nil) .nil) (.node (some x51) .nil .nil)) (.node (some x27) (.node (some x43) (.node (some x75) .nil .nil) .nil) (.node (some x59) .nil .nil)))) (.node (some x5) (.node (some x9) (.node (some x17) (.node (some x33) (.node (some x65) .nil .nil) .nil) (.node (some x49) (.node (some x81) .nil .nil) .nil)) (.node (some x25) (.node (some x41) (.node (some x73) .nil .nil) .nil) (.node (some x57) .nil .nil))) (.node none (.node (some x21) (.node (some x37) (.node (some x69) .nil .nil) .nil) (.node (some x53) .nil .nil)) (.node none (.node (some x45) (.node (some x77) .nil .nil) .nil) (.node (some x61) .nil .nil))))) (.node (some x2) (.node (some x4) (.node (some x8) (.node (some x16) (.node (some x32) (.node (some x64) .nil .nil) .nil) (.node (some x48) (.node (some x80) .nil .nil) .nil)) (.node (some x24) (.node (some x40) (.node (some x72) .nil .nil) .nil) (.node (some x56) .nil .nil))) (.node (some x12) (.node (some x20) (.node (some x36) (.node (some x68) .nil .nil) .nil) (.node (some x52) .nil .nil)) (.node (some x28) (.node (some x44) (.node (some x76) .nil .nil) .nil) (.node (some x60) .nil .nil)))) (.node (some x6) (.node (some x10) (.node (some x18) (.node (some x34) (.node (some x66) .nil .nil) .nil) (.node (some x50) .nil .nil)) (.node (some x26) (.node (some x42) (.node (some x74) .nil .nil) .nil) (.node (some x58) .nil .nil))) (.node none (.node (some x22) (.node (some x38) (.node (some x70) .nil .nil) .nil) (.node (some x54) .nil .nil)) (.node (some x30) (.node (some x46) (.node (some x78) .nil .nil) .nil) (.node (some x62) .nil .nil)))))),
  prog.cls,
  (.node none (.node none .nil (.node none .nil (.node none .nil (.node (some x29) .nil .nil)))) .nil)⟩
theorem progX_f : progX.fns = prog.fns.map Fn.x := by
  unfold progX prog
  simp only [Tr.map, Option.map_some, Option.map_none, e0, e1, e2, e3, e4, e5, e6, e7, e8, e9, e10, e11, e12, e16, e17, e18, e19, e20, e21, e22, e23, e24, e25, e26, e27, e28, e30, e31, e32, e33, e34, e35, e36, e37, e38, e39, e40, e41, e42, e43, e44, e45, e46, e47, e48, e49, e50, e51, e52, e53, e54, e55, e56, e57, e58, e59, e60, e61, e62, e63, e64, e65, e66, e67, e68, e69, e70, e71, e72, e73, e74, e75, e76, e77, e78, e79, e80, e81]
theorem progX_c : progX.cms = prog.cms.map Fn.x := by
  unfold progX prog
  simp only [Tr.map, Option.map_some, Option.map_none, e29]
def f79_0 : List S := [(.asg (.one 0) (.lst [(.tup [(.con (.str [114, 111, 119, 32, 48])), (.con (.str [115, 101, 110, 115, 111, 114, 115, 32, 50]))]), (.tup [(.con (.str [114, 111, 119, 32, 51])), (.con (.str [112, 108, 97, 99, 101, 32, 99, 32, 49, 49]))]), (.tup [(.con (.str [114, 111, 119, 32, 49, 48])), (.con (.str [106, 117, 100, 103, 101, 32, 111]))]), (.tup [(.con (.str [114, 105, 103, 104, 116])), (.con (.str [121, 101, 115]))]), (.tup [(.con (.str [101, 114, 114, 111, 114])), (.con (.str [48]))])])), (.asg (.one 0) (.bin .add (.var 0) (.lst [(.tup [(.con (.str [99, 111, 117, 110, 116, 101, 114])), (.con (.str [121, 101, 115]))]), (.tup [(.con (.str [108, 111, 116, 115])), (.con (.str [48, 49]))]), (.tup [(.con (.str [119, 97, 108, 107, 32, 111, 98, 99, 100, 111])), (.con (.str [49, 32, 106, 117, 100, 103, 101, 100]))]), (.tup [(.con (.str [119, 97, 108, 107, 32, 111, 100, 99, 98, 111])), (.con (.str [45, 49, 32, 106, 117, 100, 103, 101, 100]))])]))), (.asg (.one 0) (.bin .add (.var 0) (.lst [(.tup [(.con (.str [119, 97, 108, 107, 32, 111, 98])), (.con (.str [48, 32, 111, 112, 101, 110]))]), (.tup [(.con (.str [119, 97, 108, 107, 32, 111, 99])), (.con (.str [110, 111, 32, 119, 97, 108, 107]))]), (.tup [(.con (.str [119, 97, 108, 107, 32, 98])), (.con (.str [110, 111, 32, 119, 97, 108, 107]))]), (.tup [(.con (.str [119, 97, 108, 107, 32, 112, 112, 112, 112])), (.con (.str [110, 111, 32, 119, 97, 108, 107]))])]))), (.asg (.one 0) (.bin .add (.var 0) (.lst [(.tup [(.con (.str [114, 101, 97, 100, 32, 48, 48])), (.con (.str [48]))]), (.tup [(.con (.str [114, 101, 97, 100, 32, 48, 48, 32, 49, 48, 32, 49, 49, 32, 48, 49, 32, 48, 48])), (.con (.str [49]))]), (.tup [(.con (.str [114, 101, 97, 100, 32, 48, 48, 32, 48, 49])), (.con (.str [110, 111, 110, 101]))]), (.tup [(.con (.str [114, 101, 97, 100, 32, 49, 49])), (.con (.str [110, 111, 110, 101]))])]))), (.ifs (.not (.call 78 [(.call 74 [(.call 75 [])]), (.var 0)])) [(.ret (.con (.bl false)))] [])]
def b79_0 (G : Gam) : XS := (xscons (xasg (xtone 0) (xlst (xcons (xtup (xcons (xcon (.str [114, 111, 119, 32, 48])) (xcons (xcon (.str [115, 101, 110, 115, 111, 114, 115, 32, 50])) xnil))) (xcons (xtup (xcons (xcon (.str [114, 111, 119, 32, 51])) (xcons (xcon (.str [112, 108, 97, 99, 101, 32, 99, 32, 49, 49])) xnil))) (xcons (xtup (xcons (xcon (.str [114, 111, 119, 32, 49, 48])) (xcons (xcon (.str [106, 117, 100, 103, 101, 32, 111])) xnil))) (xcons (xtup (xcons (xcon (.str [114, 105, 103, 104, 116])) (xcons (xcon (.str [121, 101, 115])) xnil))) (xcons (xtup (xcons (xcon (.str [101, 114, 114, 111, 114])) (xcons (xcon (.str [48])) xnil))) xnil))))))) (xscons (xasg (xtone 0) (xbin .add (xvar 0) (xlst (xcons (xtup (xcons (xcon (.str [99, 111, 117, 110, 116, 101, 114])) (xcons (xcon (.str [121, 101, 115])) xnil))) (xcons (xtup (xcons (xcon (.str [108, 111, 116, 115])) (xcons (xcon (.str [48, 49])) xnil))) (xcons (xtup (xcons (xcon (.str [119, 97, 108, 107, 32, 111, 98, 99, 100, 111])) (xcons (xcon (.str [49, 32, 106, 117, 100, 103, 101, 100])) xnil))) (xcons (xtup (xcons (xcon (.str [119, 97, 108, 107, 32, 111, 100, 99, 98, 111])) (xcons (xcon (.str [45, 49, 32, 106, 117, 100, 103, 101, 100])) xnil))) xnil))))))) (xscons (xasg (xtone 0) (xbin .add (xvar 0) (xlst (xcons (xtup (xcons (xcon (.str [119, 97, 108, 107, 32, 111, 98])) (xcons (xcon (.str [48, 32, 111, 112, 101, 110])) xnil))) (xcons (xtup (xcons (xcon (.str [119, 97, 108, 107, 32, 111, 99])) (xcons (xcon (.str [110, 111, 32, 119, 97, 108, 107])) xnil))) (xcons (xtup (xcons (xcon (.str [119, 97, 108, 107, 32, 98])) (xcons (xcon (.str [110, 111, 32, 119, 97, 108, 107])) xnil))) (xcons (xtup (xcons (xcon (.str [119, 97, 108, 107, 32, 112, 112, 112, 112])) (xcons (xcon (.str [110, 111, 32, 119, 97, 108, 107])) xnil))) xnil))))))) (xscons (xasg (xtone 0) (xbin .add (xvar 0) (xlst (xcons (xtup (xcons (xcon (.str [114, 101, 97, 100, 32, 48, 48])) (xcons (xcon (.str [48])) xnil))) (xcons (xtup (xcons (xcon (.str [114, 101, 97, 100, 32, 48, 48, 32, 49, 48, 32, 49, 49, 32, 48, 49, 32, 48, 48])) (xcons (xcon (.str [49])) xnil))) (xcons (xtup (xcons (xcon (.str [114, 101, 97, 100, 32, 48, 48, 32, 48, 49])) (xcons (xcon (.str [110, 111, 110, 101])) xnil))) (xcons (xtup (xcons (xcon (.str [114, 101, 97, 100, 32, 49, 49])) (xcons (xcon (.str [110, 111, 110, 101])) xnil))) xnil))))))) (xscons (xifs (xnot (xcall G 78 (xcons (xcall G 74 (xcons (xcall G 75 xnil) xnil)) (xcons (xvar 0) xnil)))) (xscons (xret (xcon (.bl false))) xsnil) xsnil) xsnil)))))
theorem p79_0 (G : Gam) : yB G f79_0 = b79_0 G := (hxscons (hxasg hxtone (hxlst (hxcons (hxtup (hxcons hxcon (hxcons hxcon hxnil))) (hxcons (hxtup (hxcons hxcon (hxcons hxcon hxnil))) (hxcons (hxtup (hxcons hxcon (hxcons hxcon hxnil))) (hxcons (hxtup (hxcons hxcon (hxcons hxcon hxnil))) (hxcons (hxtup (hxcons hxcon (hxcons hxcon hxnil))) hxnil))))))) (hxscons (hxasg hxtone (hxbin hxvar (hxlst (hxcons (hxtup (hxcons hxcon (hxcons hxcon hxnil))) (hxcons (hxtup (hxcons hxcon (hxcons hxcon hxnil))) (hxcons (hxtup (hxcons hxcon (hxcons hxcon hxnil))) (hxcons (hxtup (hxcons hxcon (hxcons hxcon hxnil))) hxnil))))))) (hxscons (hxasg hxtone (hxbin hxvar (hxlst (hxcons (hxtup (hxcons hxcon (hxcons hxcon hxnil))) (hxcons (hxtup (hxcons hxcon (hxcons hxcon hxnil))) (hxcons (hxtup (hxcons hxcon (hxcons hxcon hxnil))) (hxcons (hxtup (hxcons hxcon (hxcons hxcon hxnil))) hxnil))))))) (hxscons (hxasg hxtone (hxbin hxvar (hxlst (hxcons (hxtup (hxcons hxcon (hxcons hxcon hxnil))) (hxcons (hxtup (hxcons hxcon (hxcons hxcon hxnil))) (hxcons (hxtup (hxcons hxcon (hxcons hxcon hxnil))) (hxcons (hxtup (hxcons hxcon (hxcons hxcon hxnil))) hxnil))))))) (hxscons (hxifs (hxnot (hxcall (hxcons (hxcall (hxcons (hxcall hxnil) hxnil)) (hxcons hxvar hxnil)))) (hxscons (hxret hxcon) hxsnil) hxsnil) hxsnil)))))
def f79_1 : List S := [(.asg (.one 1) (.lst [(.tup [(.con (.str [114, 111, 119, 32, 51])), (.con (.str [112, 108, 97, 99, 101, 32, 99, 32, 48, 48]))]), (.tup [(.con (.str [114, 105, 103, 104, 116])), (.con (.str [110, 111]))]), (.tup [(.con (.str [101, 114, 114, 111, 114])), (.con (.str [110, 111, 32, 101, 110, 100]))]), (.tup [(.con (.str [99, 111, 117, 110, 116, 101, 114])), (.con (.str [119, 114, 111, 110, 103]))]), (.tup [(.con (.str [108, 111, 116, 115])), (.con (.str [110, 111, 110, 101]))])])), (.asg (.one 1) (.bin .add (.var 1) (.lst [(.tup [(.con (.str [119, 97, 108, 107, 32, 111, 98, 99, 100, 111])), (.con (.str [49, 32, 106, 117, 100, 103, 101, 100]))]), (.tup [(.con (.str [114, 101, 97, 100, 32, 48, 48, 32, 49, 48, 32, 48, 48, 32, 48, 49, 32, 48, 48])), (.con (.str [48, 32, 49]))]), (.tup [(.con (.str [114, 101, 97, 100, 32, 48, 48, 32, 49, 48, 32, 48, 48])), (.con (.str [48]))])]))), (.exp (.bm .append (.var 1) [(.tup [(.con (.str [119, 97, 108, 107, 32, 111])), (.con (.str [48, 32, 106, 117, 100, 103, 101, 100]))])])), (.ifs (.not (.call 78 [(.call 74 [(.call 76 [])]), (.var 1)])) [(.ret (.con (.bl false)))] [])]
def b79_1 (G : Gam) : XS := (xscons (xasg (xtone 1) (xlst (xcons (xtup (xcons (xcon (.str [114, 111, 119, 32, 51])) (xcons (xcon (.str [112, 108, 97, 99, 101, 32, 99, 32, 48, 48])) xnil))) (xcons (xtup (xcons (xcon (.str [114, 105, 103, 104, 116])) (xcons (xcon (.str [110, 111])) xnil))) (xcons (xtup (xcons (xcon (.str [101, 114, 114, 111, 114])) (xcons (xcon (.str [110, 111, 32, 101, 110, 100])) xnil))) (xcons (xtup (xcons (xcon (.str [99, 111, 117, 110, 116, 101, 114])) (xcons (xcon (.str [119, 114, 111, 110, 103])) xnil))) (xcons (xtup (xcons (xcon (.str [108, 111, 116, 115])) (xcons (xcon (.str [110, 111, 110, 101])) xnil))) xnil))))))) (xscons (xasg (xtone 1) (xbin .add (xvar 1) (xlst (xcons (xtup (xcons (xcon (.str [119, 97, 108, 107, 32, 111, 98, 99, 100, 111])) (xcons (xcon (.str [49, 32, 106, 117, 100, 103, 101, 100])) xnil))) (xcons (xtup (xcons (xcon (.str [114, 101, 97, 100, 32, 48, 48, 32, 49, 48, 32, 48, 48, 32, 48, 49, 32, 48, 48])) (xcons (xcon (.str [48, 32, 49])) xnil))) (xcons (xtup (xcons (xcon (.str [114, 101, 97, 100, 32, 48, 48, 32, 49, 48, 32, 48, 48])) (xcons (xcon (.str [48])) xnil))) xnil)))))) (xscons (xexp (xbm .append (xvar 1) (xcons (xtup (xcons (xcon (.str [119, 97, 108, 107, 32, 111])) (xcons (xcon (.str [48, 32, 106, 117, 100, 103, 101, 100])) xnil))) xnil))) (xscons (xifs (xnot (xcall G 78 (xcons (xcall G 74 (xcons (xcall G 76 xnil) xnil)) (xcons (xvar 1) xnil)))) (xscons (xret (xcon (.bl false))) xsnil) xsnil) xsnil))))
theorem p79_1 (G : Gam) : yB G f79_1 = b79_1 G := (hxscons (hxasg hxtone (hxlst (hxcons (hxtup (hxcons hxcon (hxcons hxcon hxnil))) (hxcons (hxtup (hxcons hxcon (hxcons hxcon hxnil))) (hxcons (hxtup (hxcons hxcon (hxcons hxcon hxnil))) (hxcons (hxtup (hxcons hxcon (hxcons hxcon hxnil))) (hxcons (hxtup (hxcons hxcon (hxcons hxcon hxnil))) hxnil))))))) (hxscons (hxasg hxtone (hxbin hxvar (hxlst (hxcons (hxtup (hxcons hxcon (hxcons hxcon hxnil))) (hxcons (hxtup (hxcons hxcon (hxcons hxcon hxnil))) (hxcons (hxtup (hxcons hxcon (hxcons hxcon hxnil))) hxnil)))))) (hxscons (hxexp (hxbm hxvar (hxcons (hxtup (hxcons hxcon (hxcons hxcon hxnil))) hxnil))) (hxscons (hxifs (hxnot (hxcall (hxcons (hxcall (hxcons (hxcall hxnil) hxnil)) (hxcons hxvar hxnil)))) (hxscons (hxret hxcon) hxsnil) hxsnil) hxsnil))))
def f79_2 : List S := [(.asg (.one 2) (.lst [(.tup [(.con (.str [114, 105, 103, 104, 116])), (.con (.str [121, 101, 115]))]), (.tup [(.con (.str [101, 114, 114, 111, 114])), (.con (.str [48]))]), (.tup [(.con (.str [99, 111, 117, 110, 116, 101, 114])), (.con (.str [100, 114, 105, 102, 116]))]), (.tup [(.con (.str [119, 97, 108, 107, 32, 97, 98, 99, 97, 103])), (.con (.str [49, 32, 106, 117, 100, 103, 101, 100]))]), (.tup [(.con (.str [119, 97, 108, 107, 32, 100, 104, 105])), (.con (.str [48, 32, 106, 117, 100, 103, 101, 100]))])])), (.asg (.one 2) (.bin .add (.var 2) (.lst [(.tup [(.con (.str [114, 101, 97, 100, 32, 48, 48, 32, 49, 48, 32, 49, 49])), (.con (.str [48]))]), (.tup [(.con (.str [114, 101, 97, 100, 32, 48, 48, 32, 48, 49, 32, 49, 48, 32, 48, 48, 32, 49, 49])), (.con (.str [49]))]), (.tup [(.con (.str [114, 111, 119, 32, 50, 48])), (.con (.str [106, 117, 100, 103, 101, 32, 103, 32, 105]))]), (.tup [(.con (.str [119, 97, 108, 107, 32, 97, 100])), (.con (.str [110, 111, 32, 119, 97, 108, 107]))])]))), (.ret (.call 78 [(.call 74 [(.call 77 [])]), (.var 2)]))]
def b79_2 (G : Gam) : XS := (xscons (xasg (xtone 2) (xlst (xcons (xtup (xcons (xcon (.str [114, 105, 103, 104, 116])) (xcons (xcon (.str [121, 101, 115])) xnil))) (xcons (xtup (xcons (xcon (.str [101, 114, 114, 111, 114])) (xcons (xcon (.str [48])) xnil))) (xcons (xtup (xcons (xcon (.str [99, 111, 117, 110, 116, 101, 114])) (xcons (xcon (.str [100, 114, 105, 102, 116])) xnil))) (xcons (xtup (xcons (xcon (.str [119, 97, 108, 107, 32, 97, 98, 99, 97, 103])) (xcons (xcon (.str [49, 32, 106, 117, 100, 103, 101, 100])) xnil))) (xcons (xtup (xcons (xcon (.str [119, 97, 108, 107, 32, 100, 104, 105])) (xcons (xcon (.str [48, 32, 106, 117, 100, 103, 101, 100])) xnil))) xnil))))))) (xscons (xasg (xtone 2) (xbin .add (xvar 2) (xlst (xcons (xtup (xcons (xcon (.str [114, 101, 97, 100, 32, 48, 48, 32, 49, 48, 32, 49, 49])) (xcons (xcon (.str [48])) xnil))) (xcons (xtup (xcons (xcon (.str [114, 101, 97, 100, 32, 48, 48, 32, 48, 49, 32, 49, 48, 32, 48, 48, 32, 49, 49])) (xcons (xcon (.str [49])) xnil))) (xcons (xtup (xcons (xcon (.str [114, 111, 119, 32, 50, 48])) (xcons (xcon (.str [106, 117, 100, 103, 101, 32, 103, 32, 105])) xnil))) (xcons (xtup (xcons (xcon (.str [119, 97, 108, 107, 32, 97, 100])) (xcons (xcon (.str [110, 111, 32, 119, 97, 108, 107])) xnil))) xnil))))))) (xscons (xret (xcall G 78 (xcons (xcall G 74 (xcons (xcall G 77 xnil) xnil)) (xcons (xvar 2) xnil)))) xsnil)))
theorem p79_2 (G : Gam) : yB G f79_2 = b79_2 G := (hxscons (hxasg hxtone (hxlst (hxcons (hxtup (hxcons hxcon (hxcons hxcon hxnil))) (hxcons (hxtup (hxcons hxcon (hxcons hxcon hxnil))) (hxcons (hxtup (hxcons hxcon (hxcons hxcon hxnil))) (hxcons (hxtup (hxcons hxcon (hxcons hxcon hxnil))) (hxcons (hxtup (hxcons hxcon (hxcons hxcon hxnil))) hxnil))))))) (hxscons (hxasg hxtone (hxbin hxvar (hxlst (hxcons (hxtup (hxcons hxcon (hxcons hxcon hxnil))) (hxcons (hxtup (hxcons hxcon (hxcons hxcon hxnil))) (hxcons (hxtup (hxcons hxcon (hxcons hxcon hxnil))) (hxcons (hxtup (hxcons hxcon (hxcons hxcon hxnil))) hxnil))))))) (hxscons (hxret (hxcall (hxcons (hxcall (hxcons (hxcall hxnil) hxnil)) (hxcons hxvar hxnil)))) hxsnil)))
theorem f79_parts : [f79_0, f79_1, f79_2].flatten = f79.body := rfl
def f80_0 : List S := [(.asg (.one 1) (.call 72 [(.var 0), (.con (.int 10))]))]
def b80_0 (G : Gam) : XS := (xscons (xasg (xtone 1) (xcall G 72 (xcons (xvar 0) (xcons (xcon (.int 10)) xnil)))) xsnil)
theorem p80_0 (G : Gam) : yB G f80_0 = b80_0 G := (hxscons (hxasg hxtone (hxcall (hxcons hxvar (hxcons hxcon hxnil)))) hxsnil)
def f80_1 : List S := [(.asg (.one 2) (.lst [(.con (.str [115, 101, 110, 115, 111, 114, 115, 32, 49])), (.con (.str [112, 108, 97, 99, 101, 32, 97, 32, 48])), (.bin .add (.con (.str [112, 108, 97, 99, 101, 32, 98, 32])) (.call 73 [(.var 0), (.lst [(.con (.str [48])), (.con (.str [49]))])])), (.bin .add (.con (.str [119, 97, 121, 32, 97, 32, 98, 32])) (.bi .str [(.var 1)]))]))]
def b80_1 (G : Gam) : XS := (xscons (xasg (xtone 2) (xlst (xcons (xcon (.str [115, 101, 110, 115, 111, 114, 115, 32, 49])) (xcons (xcon (.str [112, 108, 97, 99, 101, 32, 97, 32, 48])) (xcons (xbin .add (xcon (.str [112, 108, 97, 99, 101, 32, 98, 32])) (xcall G 73 (xcons (xvar 0) (xcons (xlst (xcons (xcon (.str [48])) (xcons (xcon (.str [49])) xnil))) xnil)))) (xcons (xbin .add (xcon (.str [119, 97, 121, 32, 97, 32, 98, 32])) (xbi .str (xcons (xvar 1) xnil))) xnil)))))) xsnil)
theorem p80_1 (G : Gam) : yB G f80_1 = b80_1 G := (hxscons (hxasg hxtone (hxlst (hxcons hxcon (hxcons hxcon (hxcons (hxbin hxcon (hxcall (hxcons hxvar (hxcons (hxlst (hxcons hxcon (hxcons hxcon hxnil))) hxnil)))) (hxcons (hxbin hxcon (hxbi (hxcons hxvar hxnil))) hxnil)))))) hxsnil)
def f80_2 : List S := [(.asg (.one 2) (.bin .add (.var 2) (.lst [(.con (.str [98, 101, 103, 105, 110, 32, 97])), (.con (.str [106, 117, 100, 103, 101, 32, 98]))]))), (.asg (.one 3) (.lst [(.tup [(.con (.str [119, 97, 108, 107, 32, 97, 98])), (.bin .add (.bi .str [(.var 1)]) (.con (.str [32, 106, 117, 100, 103, 101, 100])))]), (.tup [(.con (.str [119, 97, 108, 107, 32, 97])), (.con (.str [48, 32, 111, 112, 101, 110]))]), (.tup [(.con (.str [119, 97, 108, 107, 32, 97, 98, 97, 98])), (.bin .add (.bi .str [(.var 1)]) (.con (.str [32, 106, 117, 100, 103, 101, 100])))])])), (.asg (.one 3) (.bin .add (.var 3) (.lst [(.tup [(.con (.str [114, 105, 103, 104, 116])), (.con (.str [121, 101, 115]))]), (.tup [(.con (.str [101, 114, 114, 111, 114])), (.con (.str [48]))]), (.tup [(.con (.str [99, 111, 117, 110, 116, 101, 114])), (.con (.str [121, 101, 115]))]), (.tup [(.con (.str [108, 111, 116, 115])), (.con (.str [45]))])]))), (.exp (.bm .append (.var 3) [(.tup [(.con (.str [114, 111, 119, 32, 51])), (.bin .add (.con (.str [119, 97, 121, 32, 97, 32, 98, 32])) (.bi .str [(.var 1)]))])])), (.asg (.one 4) (.bin .add (.shi (.var 2) (.con (.int 4))) (.lst [(.con (.str [119, 97, 121, 32, 98, 32, 99, 32, 49])), (.con (.str [119, 97, 121, 32, 99, 32, 97, 32, 49])), (.con (.str [98, 101, 103, 105, 110, 32, 97])), (.con (.str [106, 117, 100, 103, 101, 32, 97]))]))), (.asg (.one 4) (.bin .add (.bin .add (.shi (.var 4) (.con (.int 3))) (.lst [(.con (.str [112, 108, 97, 99, 101, 32, 99, 32, 48]))])) (.slo (.var 4) (.con (.int 3))))), (.asg (.sub (.var 4) (.con (.int 2))) (.con (.str [112, 108, 97, 99, 101, 32, 98, 32, 48]))), (.asg (.one 5) (.lst [(.tup [(.con (.str [114, 101, 97, 100, 32, 48])), (.con (.str [101, 110, 100, 108, 101, 115, 115]))]), (.tup [(.con (.str [114, 105, 103, 104, 116])), (.con (.str [110, 111]))]), (.tup [(.con (.str [101, 114, 114, 111, 114])), (.con (.str [110, 111, 32, 101, 110, 100]))]), (.tup [(.con (.str [99, 111, 117, 110, 116, 101, 114])), (.con (.str [119, 114, 111, 110, 103]))]), (.tup [(.con (.str [108, 111, 116, 115])), (.con (.str [110, 111, 110, 101]))])])), (.exp (.bm .append (.var 5) [(.tup [(.con (.str [114, 101, 97, 100, 32, 49])), (.con (.str [110, 111, 110, 101]))])])), (.ret (.and (.call 78 [(.call 74 [(.var 2)]), (.var 3)]) (.call 78 [(.call 74 [(.var 4)]), (.var 5)])))]
def b80_2 (G : Gam) : XS := (xscons (xasg (xtone 2) (xbin .add (xvar 2) (xlst (xcons (xcon (.str [98, 101, 103, 105, 110, 32, 97])) (xcons (xcon (.str [106, 117, 100, 103, 101, 32, 98])) xnil))))) (xscons (xasg (xtone 3) (xlst (xcons (xtup (xcons (xcon (.str [119, 97, 108, 107, 32, 97, 98])) (xcons (xbin .add (xbi .str (xcons (xvar 1) xnil)) (xcon (.str [32, 106, 117, 100, 103, 101, 100]))) xnil))) (xcons (xtup (xcons (xcon (.str [119, 97, 108, 107, 32, 97])) (xcons (xcon (.str [48, 32, 111, 112, 101, 110])) xnil))) (xcons (xtup (xcons (xcon (.str [119, 97, 108, 107, 32, 97, 98, 97, 98])) (xcons (xbin .add (xbi .str (xcons (xvar 1) xnil)) (xcon (.str [32, 106, 117, 100, 103, 101, 100]))) xnil))) xnil))))) (xscons (xasg (xtone 3) (xbin .add (xvar 3) (xlst (xcons (xtup (xcons (xcon (.str [114, 105, 103, 104, 116])) (xcons (xcon (.str [121, 101, 115])) xnil))) (xcons (xtup (xcons (xcon (.str [101, 114, 114, 111, 114])) (xcons (xcon (.str [48])) xnil))) (xcons (xtup (xcons (xcon (.str [99, 111, 117, 110, 116, 101, 114])) (xcons (xcon (.str [121, 101, 115])) xnil))) (xcons (xtup (xcons (xcon (.str [108, 111, 116, 115])) (xcons (xcon (.str [45])) xnil))) xnil))))))) (xscons (xexp (xbm .append (xvar 3) (xcons (xtup (xcons (xcon (.str [114, 111, 119, 32, 51])) (xcons (xbin .add (xcon (.str [119, 97, 121, 32, 97, 32, 98, 32])) (xbi .str (xcons (xvar 1) xnil))) xnil))) xnil))) (xscons (xasg (xtone 4) (xbin .add (xshi (xvar 2) (xcon (.int 4))) (xlst (xcons (xcon (.str [119, 97, 121, 32, 98, 32, 99, 32, 49])) (xcons (xcon (.str [119, 97, 121, 32, 99, 32, 97, 32, 49])) (xcons (xcon (.str [98, 101, 103, 105, 110, 32, 97])) (xcons (xcon (.str [106, 117, 100, 103, 101, 32, 97])) xnil))))))) (xscons (xasg (xtone 4) (xbin .add (xbin .add (xshi (xvar 4) (xcon (.int 3))) (xlst (xcons (xcon (.str [112, 108, 97, 99, 101, 32, 99, 32, 48])) xnil))) (xslo (xvar 4) (xcon (.int 3))))) (xscons (xasg (xtsub (xvar 4) (xcon (.int 2))) (xcon (.str [112, 108, 97, 99, 101, 32, 98, 32, 48]))) (xscons (xasg (xtone 5) (xlst (xcons (xtup (xcons (xcon (.str [114, 101, 97, 100, 32, 48])) (xcons (xcon (.str [101, 110, 100, 108, 101, 115, 115])) xnil))) (xcons (xtup (xcons (xcon (.str [114, 105, 103, 104, 116])) (xcons (xcon (.str [110, 111])) xnil))) (xcons (xtup (xcons (xcon (.str [101, 114, 114, 111, 114])) (xcons (xcon (.str [110, 111, 32, 101, 110, 100])) xnil))) (xcons (xtup (xcons (xcon (.str [99, 111, 117, 110, 116, 101, 114])) (xcons (xcon (.str [119, 114, 111, 110, 103])) xnil))) (xcons (xtup (xcons (xcon (.str [108, 111, 116, 115])) (xcons (xcon (.str [110, 111, 110, 101])) xnil))) xnil))))))) (xscons (xexp (xbm .append (xvar 5) (xcons (xtup (xcons (xcon (.str [114, 101, 97, 100, 32, 49])) (xcons (xcon (.str [110, 111, 110, 101])) xnil))) xnil))) (xscons (xret (xand (xcall G 78 (xcons (xcall G 74 (xcons (xvar 2) xnil)) (xcons (xvar 3) xnil))) (xcall G 78 (xcons (xcall G 74 (xcons (xvar 4) xnil)) (xcons (xvar 5) xnil))))) xsnil))))))))))
theorem p80_2 (G : Gam) : yB G f80_2 = b80_2 G := (hxscons (hxasg hxtone (hxbin hxvar (hxlst (hxcons hxcon (hxcons hxcon hxnil))))) (hxscons (hxasg hxtone (hxlst (hxcons (hxtup (hxcons hxcon (hxcons (hxbin (hxbi (hxcons hxvar hxnil)) hxcon) hxnil))) (hxcons (hxtup (hxcons hxcon (hxcons hxcon hxnil))) (hxcons (hxtup (hxcons hxcon (hxcons (hxbin (hxbi (hxcons hxvar hxnil)) hxcon) hxnil))) hxnil))))) (hxscons (hxasg hxtone (hxbin hxvar (hxlst (hxcons (hxtup (hxcons hxcon (hxcons hxcon hxnil))) (hxcons (hxtup (hxcons hxcon (hxcons hxcon hxnil))) (hxcons (hxtup (hxcons hxcon (hxcons hxcon hxnil))) (hxcons (hxtup (hxcons hxcon (hxcons hxcon hxnil))) hxnil))))))) (hxscons (hxexp (hxbm hxvar (hxcons (hxtup (hxcons hxcon (hxcons (hxbin hxcon (hxbi (hxcons hxvar hxnil))) hxnil))) hxnil))) (hxscons (hxasg hxtone (hxbin (hxshi hxvar hxcon) (hxlst (hxcons hxcon (hxcons hxcon (hxcons hxcon (hxcons hxcon hxnil))))))) (hxscons (hxasg hxtone (hxbin (hxbin (hxshi hxvar hxcon) (hxlst (hxcons hxcon hxnil))) (hxslo hxvar hxcon))) (hxscons (hxasg (hxtsub hxvar hxcon) hxcon) (hxscons (hxasg hxtone (hxlst (hxcons (hxtup (hxcons hxcon (hxcons hxcon hxnil))) (hxcons (hxtup (hxcons hxcon (hxcons hxcon hxnil))) (hxcons (hxtup (hxcons hxcon (hxcons hxcon hxnil))) (hxcons (hxtup (hxcons hxcon (hxcons hxcon hxnil))) (hxcons (hxtup (hxcons hxcon (hxcons hxcon hxnil))) hxnil))))))) (hxscons (hxexp (hxbm hxvar (hxcons (hxtup (hxcons hxcon (hxcons hxcon hxnil))) hxnil))) (hxscons (hxret (hxand (hxcall (hxcons (hxcall (hxcons hxvar hxnil)) (hxcons hxvar hxnil))) (hxcall (hxcons (hxcall (hxcons hxvar hxnil)) (hxcons hxvar hxnil))))) hxsnil))))))))))
theorem f80_parts : [f80_0, f80_1, f80_2].flatten = f80.body := rfl
theorem runX_eq (fuel n : Nat) : runX progX fuel n = run prog fuel n := runX_is prog progX fuel progX_f rfl progX_c n
end
end K64

set_option Elab.async false
set_option linter.all false
set_option maxRecDepth 100000
set_option maxHeartbeats 4000000
/-! What a module's top has laid, looked at by one test, and that it is enough. -/
namespace Q
noncomputable section
open PySem L2 PySem.Spec PyProof.Rows

/-! ### trees as lists -/
def Tr.list {α : Type} : Tr α → List (Nat × α)
  | .nil => []
  | .node o l r => (match o with
    | some a => [(0, a)]
    | none => []) ++ ((Tr.list l).map (fun p => (2 * p.1 + 1, p.2)) ++ (Tr.list r).map fun p => (2 * p.1 + 2, p.2))
theorem Tr.in_list {α : Type} : ∀ (t : Tr α) (k : Nat) (a : α), t.get k = some a → (k, a) ∈ t.list
  | .nil, k, a, h => by cases h
  | .node o l r, 0, a, h => by
    have h : o = some a := h
    subst h
    exact List.mem_append_left _ List.mem_cons_self
  | .node o l r, k + 1, a, h => by
    have h : cond (Nat.beq (k % 2) 0) (l.get (k / 2)) (r.get (k / 2)) = some a := h
    refine List.mem_append_right _ ?_
    cases e : Nat.beq (k % 2) 0 with
    | true =>
      rw [e] at h
      have e' := Nat.eq_of_beq_eq_true e
      refine List.mem_append_left _ (List.mem_map.mpr ⟨_, Tr.in_list l _ a h, ?_⟩)
      show (2 * (k / 2) + 1, a) = _
      congr 1
      omega
    | false =>
      rw [e] at h
      have e' : k % 2 ≠ 0 := fun z => by rw [z] at e; cases e
      refine List.mem_append_right _ (List.mem_map.mpr ⟨_, Tr.in_list r _ a h, ?_⟩)
      show (2 * (k / 2) + 2, a) = _
      congr 1
      omega
/-- what is said of each at its place -/
def Tr.All {α : Type} : (Nat → α → Prop) → Tr α → Prop
  | _, .nil => True
  | q, .node o l r => (∀ a, o = some a → q 0 a) ∧ Tr.All (fun k => q (2 * k + 1)) l ∧ Tr.All (fun k => q (2 * k + 2)) r
theorem Tr.all_get {α : Type} : ∀ {q : Nat → α → Prop} {t : Tr α}, Tr.All q t → ∀ k a, t.get k = some a → q k a
  | _, .nil, _, k, a, h => by cases h
  | _, .node o l r, t, 0, a, h => t.1 a h
  | q, .node o l r, t, k + 1, a, h => by
    have h : cond (Nat.beq (k % 2) 0) (l.get (k / 2)) (r.get (k / 2)) = some a := h
    cases e : Nat.beq (k % 2) 0 with
    | true =>
      rw [e] at h
      have e' := Nat.eq_of_beq_eq_true e
      have z := Tr.all_get t.2.1 _ a h
      have z : q (2 * (k / 2) + 1) a := z
      rw [show 2 * (k / 2) + 1 = k + 1 by omega] at z
      exact z
    | false =>
      rw [e] at h
      have e' : k % 2 ≠ 0 := fun z => by rw [z] at e; cases e
      have z := Tr.all_get t.2.2 _ a h
      have z : q (2 * (k / 2) + 2) a := z
      rw [show 2 * (k / 2) + 2 = k + 1 by omega] at z
      exact z
theorem getN_mem : ∀ {xs : List (Nat × Nat)} {m f : Nat}, getN xs m = some f → (m, f) ∈ xs
  | [], m, f, h => by cases h
  | (g, d) :: r, m, f, h => by
    have h : cond (Nat.beq g m) (some d) (getN r m) = some f := h
    cases e : Nat.beq g m with
    | true =>
      rw [e] at h
      cases h
      rw [Nat.eq_of_beq_eq_true e]
      exact List.mem_cons_self
    | false =>
      rw [e] at h
      exact List.mem_cons_of_mem _ (getN_mem h)
theorem look_mem {α : Type} : ∀ {xs : List (Str × α)} {x : Str} {a : α}, xs.lookup x = some a → (x, a) ∈ xs
  | [], x, a, h => by cases h
  | (y, b) :: r, x, a, h => by
    rw [List.lookup_cons] at h
    cases e : (x == y) with
    | true =>
      rw [e] at h
      cases h
      rw [eq_of_beq e]
      exact List.mem_cons_self
    | false =>
      rw [e] at h
      exact List.mem_cons_of_mem _ (look_mem h)
theorem isome {α : Type} {o : Option α} {a : α} (h : o = some a) : o.isNone = false := by rw [h]; rfl
theorem or_r {a b : Bool} (h : (a || b) = true) (h2 : a = false) : b = true := by rw [h2] at h; exact h

/-! ### places by names -/
inductive Pa where
  | fn (x : Str)
  | me (c m : Str)
  | pr (c m : Str)
  | cm (c m : Str)
/-- what a record holds first -/
def hdAt (K : PySem.W.Frag) (p : Addr) (T : String) : Addr := match PySem.W.recIn K p T with
  | some (.ref a :: _) => a
  | _ => 0
def Pa.adr (K : PySem.W.Frag) : Pa → Addr
  | .fn x => He.ga K x
  | .me c m => He.ma K (He.ga K c) m
  | .pr c m => hdAt K (He.ma K (He.ga K c) m) "property"
  | .cm c m => hdAt K (He.ma K (He.ga K c) m) "classmethod"
def stg (K : PySem.W.Frag) (fld cn : List Str) (pa : List Pa) (kw : List (Str × Str)) : Stg := ⟨fld, fun c => He.ga K (cn.getD c ("" : Str)), fun i => (pa.getD i (.fn "")).adr K, kw⟩
def recHd (K : PySem.W.Frag) (p : Addr) (T : String) (f : Addr) : Bool := match PySem.W.recIn K p T with
  | some (.ref a :: _) => decide (a = f)
  | _ => false
theorem recHd_ok {K : PySem.W.Frag} {p : Addr} {T : String} {f : Addr} (h : recHd K p T f = true) : ∃ rest, PySem.W.recIn K p T = some (.ref f :: rest) := by
  unfold recHd at h
  split at h
  · rename_i a rest e
    rw [decide_eq_true_eq] at h
    subst h
    exact ⟨rest, e⟩
  · cases h
def propB (K : PySem.W.Frag) (C : Addr) (x : Str) (f : Addr) : Bool := He.eqO (PySem.W.findIn K (.ref C) x) (some (some (.ref (He.ma K C x)))) && He.eqO (PySem.W.specialIn K (.ref (He.ma K C x)) "__get__") (some (some (.builtin "property.__get__"))) &&
  decide (PySem.W.takesIn K (.ref (He.ma K C x)) = some true) && recHd K (He.ma K C x) "property" f
theorem propB_ok {K : PySem.W.Frag} {C : Addr} {x : Str} {f : Addr} (h : propB K C x f = true) : ∃ p, PropOf K C x p f := by
  unfold propB at h
  simp only [Bool.and_eq_true, decide_eq_true_eq] at h
  obtain ⟨⟨⟨h1, h2⟩, h3⟩, h4⟩ := h
  exact ⟨_, He.eqO_ok h1, He.eqO_ok h2, h3, recHd_ok h4⟩
def getB (K : PySem.W.Frag) (C p : Addr) (x : Str) : Bool := match PySem.W.findCls K (.ref C) (.type "type") x with
  | some (.get (.builtin s) (.ref q) .none (.ref D)) => decide (s = "classmethod.__get__") && decide (q = p) && decide (D = C)
  | _ => false
theorem getB_ok {K : PySem.W.Frag} {C p : Addr} {x : Str} (h : getB K C p x = true) : PySem.W.findCls K (.ref C) (.type "type") x = some (.get (.builtin "classmethod.__get__") (.ref p) .none (.ref C)) := by
  unfold getB at h
  split at h
  · rename_i e
    simp only [Bool.and_eq_true, decide_eq_true_eq] at h
    obtain ⟨⟨rfl, rfl⟩, rfl⟩ := h
    exact e
  · cases h
def cmB (K : PySem.W.Frag) (C : Addr) (x : Str) (f : Addr) : Bool := PySem.W.readsIn K C (.type "type") && He.eqO (PySem.W.specialIn K (.ref C) "__getattribute__") (some (some (.builtin "type.__getattribute__"))) &&
  getB K C (He.ma K C x) x && recHd K (He.ma K C x) "classmethod" f && PySem.W.fnIn K f
theorem cmB_ok {K : PySem.W.Frag} {C : Addr} {x : Str} {f : Addr} (h : cmB K C x f = true) : CmOk K C f x := by
  unfold cmB at h
  simp only [Bool.and_eq_true] at h
  obtain ⟨⟨⟨⟨h1, h2⟩, h3⟩, h4⟩, h5⟩ := h
  exact ⟨_, _, ⟨h1, He.eqO_ok h2⟩, ⟨getB_ok h3, recHd_ok h4, h5⟩⟩

/-! ### the test -/
section
variable (K : PySem.W.Frag) (n : Inf) (P : Prog) (g : Stg) (cn : List Str)
def clB (c : Nat) (cl : Cl) : Bool := let x := cn.getD c ("" : Str)
  (He.Fa.cls x).ok K && ((P.fns.get cl.init).isNone || ((He.Fa.mkr x).ok K && decide (He.ma K (He.ga K x) "__init__" = g.fad cl.init))) &&
  (List.range g.fld.length).all (fun f => !noAt cl f || He.eqO (PySem.W.findIn K (.ref (He.ga K x)) (g.fld.getD f ("" : Str))) (some none)) &&
  cl.meths.all (fun p => (P.fns.get p.2).isNone || ((He.Fa.meth x (g.fld.getD p.1 ("" : Str))).ok K && decide (He.ma K (He.ga K x) (g.fld.getD p.1 ("" : Str)) = g.fad p.2))) &&
  cl.props.all (fun p => propB K (He.ga K x) (g.fld.getD p.1 ("" : Str)) (g.fad p.2)) && cl.cmets.all (fun p => cmB K (He.ga K x) (g.fld.getD p.1 ("" : Str)) (g.fad p.2))
def isB (c : Nat) : Bool := let C := g.cad c
  He.eqO (PySem.W.findIn K (.ref C) "__class__") (some (some (.builtin "object.__class__"))) && He.eqO (PySem.W.specialIn K (.builtin "object.__class__") "__get__") (some (some (.builtin "getset_descriptor.__get__"))) &&
  decide (PySem.W.takesIn K (.builtin "object.__class__") = some true) && decide (PySem.W.mroIn K C (.type "object") = some true) &&
  (["int", "bool", "str", "tuple", "list"] : List String).all (fun t => decide (PySem.W.kitOne K (.ref C) (.type t) = some false)) &&
  P.cls.list.all (fun p => decide (PySem.W.kitOne K (.ref C) (.ref (g.cad p.1)) = some (Nat.beq c p.1))) &&
  (["NoneType", "bool", "int", "str", "tuple", "list", "dict"] : List String).all (fun t => decide (PySem.W.kitOne K (.type t) (.ref C) = some false))
def conB (x : Str) (d : D) : Bool := match d with
  | .int i => (He.Fa.int x i).ok K
  | .str s => (He.Fa.str x (Sx s)).ok K && decide (s.length ≤ 1000000)
  | _ => false
def allB_ : Bool := P.cls.list.all (fun p => clB K P g cn p.1 p.2 && isB K P g p.1) && n.fnm.all (fun p => (He.Fa.glo p.1).ok K && decide (g.fad p.2 = He.ga K p.1) && PySem.W.keepIn K (.ref (g.fad p.2))) &&
  n.cnm.all (fun p => (He.Fa.glo p.1).ok K && decide (g.cad p.2 = He.ga K p.1) && PySem.W.keepIn K (.ref (g.cad p.2))) && n.con.all (fun p => conB K p.1 p.2) && bltN.all fun x => (He.Fa.free x).ok K
end
theorem Fa_cls {K : PySem.W.Frag} {x : Str} (h : (He.Fa.cls x).ok K = true) : Cls K (He.ga K x) := He.cls_ok h
theorem tyS_in {t : TY} {m : String} (h : tyS t = some m) : m ∈ (["int", "bool", "str", "tuple", "list"] : List String) := by
  cases t <;> cases h <;> decide
theorem fld_at {fld : List Str} {i : Nat} {x : Str} (h : fld[i]? = some x) : fld.getD i ("" : Str) = x := by
  rw [List.getD_eq_getElem?_getD, h]
  rfl
section
variable {K : PySem.W.Frag} {n : Inf} {P : Prog} {fld cn : List Str} {pa : List Pa} {kw : List (Str × Str)} {h : Heap} {mg : Str → Option Value} {ks : Nat → List Str}
theorem wk_of (X : K.In h) (Gm : h.Ns mainGlobals mg) (t : allB_ K n P (stg K fld cn pa kw) cn = true) (hfl : n.fld = fld) (hkw : n.kw = kw) (hcl : n.cls = fun c => P.cls.get c) (nd : fld.Nodup)
    (hks : ∀ c cl m x f k, P.cls.get c = some cl → fld[m]? = some x → getN cl.meths m = some f → (x, k) ∈ kw → k ∈ ks f) : Wk n (stg K fld cn pa kw) P K mg ks := by
  unfold allB_ at t
  simp only [Bool.and_eq_true] at t
  obtain ⟨⟨⟨⟨t1, t2⟩, t3⟩, t4⟩, t5⟩ := t
  have cl1 : ∀ {c cl}, P.cls.get c = some cl → clB K P (stg K fld cn pa kw) cn c cl = true ∧ isB K P (stg K fld cn pa kw) c = true := fun {c cl} e => by
    have := List.all_eq_true.mp t1 _ (Tr.in_list _ _ _ e)
    rw [Bool.and_eq_true] at this
    exact this
  have parts : ∀ {c cl}, P.cls.get c = some cl → _ := fun {c cl} e => by
    have h1 := (cl1 e).1
    unfold clB at h1
    simp only [Bool.and_eq_true] at h1
    exact h1
  refine ⟨?_, ?_, ?_, ?_, ?_, nd, ?_, hcl, hfl.symm, ?_, ?_, ?_, ?_, hkw.symm, ?_, hks⟩
  · intro c cl e
    exact He.cls_ok (parts e).1.1.1.1.1
  · intro c cl fn e e2
    have q := or_r (parts e).1.1.1.1.2 (isome e2)
    rw [Bool.and_eq_true, decide_eq_true_eq] at q
    have := He.mkr_ok q.1
    rw [q.2] at this
    exact this
  · intro c cl f x e hx hn
    have q := List.all_eq_true.mp (parts e).1.1.1.2 f (List.mem_range.mpr (List.getElem?_eq_some_iff.mp hx).1)
    have q := or_r q (by rw [hn]; rfl)
    have q := He.eqO_ok q
    rw [show (stg K fld cn pa kw).fld.getD f ("" : Str) = x from fld_at hx] at q
    exact q
  · intro c cl m x f fn e hx hm e2
    have q := List.all_eq_true.mp (parts e).1.1.2 _ (getN_mem hm)
    have q := or_r q (isome e2)
    rw [Bool.and_eq_true, decide_eq_true_eq] at q
    rw [show (stg K fld cn pa kw).fld.getD m ("" : Str) = x from fld_at hx] at q
    have := He.meth_ok q.1
    rw [q.2] at this
    exact this
  · intro c cl m x f e hx hm
    have q := List.all_eq_true.mp (parts e).1.2 _ (getN_mem hm)
    rw [show (stg K fld cn pa kw).fld.getD m ("" : Str) = x from fld_at hx] at q
    exact propB_ok q
  · intro G hG
    have ib : ∀ {c cl}, G.cls c = some cl → _ := fun {c cl} e => by
      rw [hG] at e
      have h1 := (cl1 e).2
      unfold isB at h1
      simp only [Bool.and_eq_true, decide_eq_true_eq] at h1
      exact h1
    refine ⟨fun c cl e => ?_, fun c cl t m e ht => ?_, fun c c' cl cl' e e' => ?_, fun c cl m e hm => ?_⟩
    · have q := ib e
      exact ⟨He.eqO_ok q.1.1.1.1.1.1, He.eqO_ok q.1.1.1.1.1.2, q.1.1.1.1.2, q.1.1.1.2⟩
    · exact of_decide_eq_true (List.all_eq_true.mp (ib e).1.1.2 m (tyS_in ht))
    · rw [hG] at e'
      exact of_decide_eq_true (List.all_eq_true.mp (ib e).1.2 _ (Tr.in_list _ _ _ e'))
    · exact of_decide_eq_true (List.all_eq_true.mp (ib e).2 m hm)
  · intro x f e
    have q := List.all_eq_true.mp t2 _ (look_mem e)
    simp only [Bool.and_eq_true, decide_eq_true_eq] at q
    obtain ⟨⟨q1, q2⟩, q3⟩ := q
    exact ⟨by rw [q2]; exact He.glo_ok X Gm q1, q3⟩
  · intro x c e
    have q := List.all_eq_true.mp t3 _ (look_mem e)
    simp only [Bool.and_eq_true, decide_eq_true_eq] at q
    obtain ⟨⟨q1, q2⟩, q3⟩ := q
    exact ⟨by rw [q2]; exact He.glo_ok X Gm q1, q3⟩
  · intro x d e
    have q := List.all_eq_true.mp t4 _ (look_mem e)
    cases d with
    | int i =>
      obtain ⟨tk, q⟩ := He.int_ok X Gm q
      exact ⟨.int i, _, q, ⟨tk, rfl⟩, fun _ _ => Rep.int⟩
    | str s =>
      have q : ((He.Fa.str x (Sx s)).ok K && decide (s.length ≤ 1000000)) = true := q
      rw [Bool.and_eq_true, decide_eq_true_eq] at q
      obtain ⟨tk, q1⟩ := He.str_ok X Gm q.1
      exact ⟨.str (Sx s), _, q1, ⟨tk, rfl⟩, fun _ _ => Rep.str q.2⟩
    | _ => cases q
  · intro x hx
    exact He.free_ok X Gm (List.all_eq_true.mp t5 x hx)
  · intro c cl m x f fn e hx hm e2
    have q := List.all_eq_true.mp (parts e).2 _ (getN_mem hm)
    rw [show (stg K fld cn pa kw).fld.getD m ("" : Str) = x from fld_at hx] at q
    exact cmB_ok q
end

/-! ### defs by places -/
def fnV (K : PySem.W.Frag) (a : Addr) : He.FnW := match K.lookup a with
  | some ⟨_, _, .func fd, _⟩ => some (fd.name, fd.qualname, fd.params, fd.body, fd.scope, fd.globals, fd.closure, fd.builtins)
  | _ => none
structure DefQ where
  pa : Pa
  name : Str
  qual : Str
  st : Stmt
  dfl : List V
def DefQ.val (d : DefQ) : He.FnW := some (d.name, d.qual, defArgs d.st, .stmts (defBody d.st), defScope d.st, mainGlobals, [], builtinsNs)
def DefQ.ok (K : PySem.W.Frag) (d : DefQ) : Bool := PySem.W.keepIn K (.ref (d.pa.adr K)) && (match K.lookup (d.pa.adr K) with
  | some ⟨_, _, .func fd, _⟩ => PySem.W.codeIn K fd.code d.qual && (He.dflB K fd.defaults d.dfl && He.kwdB K fd.kwdefaults [])
  | _ => false)
theorem DefQ.funD {K : PySem.W.Frag} {d : DefQ} (e : fnV K (d.pa.adr K) = d.val) (c : d.ok K = true) : ∃ fd, FunD K d.name d.qual (defArgs d.st) (defBody d.st) (defScope d.st) d.dfl [] (d.pa.adr K) fd := by
  unfold DefQ.ok at c
  rw [Bool.and_eq_true] at c
  obtain ⟨kp, c2⟩ := c
  unfold fnV at e
  cases q : K.lookup (d.pa.adr K) with
  | none => rw [q] at c2; cases c2
  | some o =>
    obtain ⟨oc, od, dt, osl⟩ := o
    rw [q] at c2 e
    cases dt with
    | func fd =>
      obtain ⟨n1, n2, n3, n4, n5, n6, n7, n8, n9, n10, n11, n12, n13, n14, n15⟩ := fd
      have e2 : (some (n1, n2, n3, n4, n5, n6, n7, n15) : He.FnW) = some (d.name, d.qual, defArgs d.st, .stmts (defBody d.st), defScope d.st, mainGlobals, [], builtinsNs) := e
      simp only [Option.some.injEq, Prod.mk.injEq] at e2
      obtain ⟨h1, h2, h3, h4, h5, h6, h7, h8⟩ := e2
      subst h1 h2 h4 h6 h7 h8
      have c3 : (PySem.W.codeIn K n13 d.qual && (He.dflB K n8 d.dfl && He.kwdB K n9 [])) = true := c2
      rw [Bool.and_eq_true, Bool.and_eq_true] at c3
      rw [← h3, ← h5]
      exact ⟨_, ⟨oc, od, n8, n9, n10, n11, n12, n13, n14, osl, rfl, q, c3.1, He.dflB_ok c3.2.1, He.kwdB_ok c3.2.2⟩, kp⟩
    | _ => cases c2

/-! ### the hook -/
abbrev AlQ : Type := Bool × List He.FnW
def obsQ (chk : PySem.W.Frag → Bool) (ds : List DefQ) (K : PySem.W.Frag) : AlQ := (chk K && ds.all fun d => d.ok K, ds.map fun d => fnV K (d.pa.adr K))
def valQ (ds : List DefQ) : AlQ := (true, ds.map DefQ.val)
/-- .. without lists: what is handed in is none of them -/
def isLo (o : Obj) : Bool := match o.cls with
  | .type c => decide (c = "list")
  | _ => false
def frL (f : Addr → Option Obj) (as : List Addr) : PySem.W.Frag := as.filterMap fun a => (f a).bind fun o => if isLo o = true then none else some (a, o)
theorem look_mem' {α : Type} : ∀ {xs : List (Addr × α)} {x : Addr} {a : α}, xs.lookup x = some a → (x, a) ∈ xs
  | [], x, a, h => by cases h
  | (y, b) :: r, x, a, h => by
    rw [List.lookup_cons] at h
    cases e : (x == y) with
    | true =>
      rw [e] at h
      cases h
      rw [eq_of_beq e]
      exact List.mem_cons_self
    | false =>
      rw [e] at h
      exact List.mem_cons_of_mem _ (look_mem' h)
theorem frL_at {f : Addr → Option Obj} {as : List Addr} {a : Addr} {o : Obj} (h : (frL f as).lookup a = some o) : f a = some o ∧ isLo o = false := by
  obtain ⟨b, _, e⟩ := List.mem_filterMap.mp (look_mem' h)
  obtain ⟨o', e1, e2⟩ := Option.bind_eq_some_iff.mp e
  split at e2
  · cases e2
  · rename_i hl
    cases e2
    exact ⟨e1, by simpa using hl⟩
def NoLs (K : PySem.W.Frag) : Prop := ∀ a o, K.lookup a = some o → isLo o = false
/-- what the module's names reach in n steps, each once: those seen are the bits of one number -/
def addM {α : Type} : List Addr → Nat → List Addr → (Nat → List Addr → α) → α
  | [], m, out, k => k m out
  | a :: r, m, out, k => HandSHeadRun.frNat a fun a => match Nat.testBit m a with
    | true => addM r m out k
    | false => HandSHeadRun.frNat (Nat.lor m (Nat.shiftLeft 1 a)) fun m => addM r m (a :: out) k
def lvM {α : Type} (g : Addr → Option Obj) : List Addr → Nat → List Addr → (Nat → List Addr → α) → α
  | [], m, out, k => k m out
  | a :: r, m, out, k => match g a with
    | some o => addM (He.refsD o) m out fun m out => lvM g r m out k
    | none => lvM g r m out k
def asM (g : Addr → Option Obj) : Nat → List Addr → Nat → List Addr → List Addr
  | 0, _, _, all => all
  | n + 1, todo, m, all => lvM g todo m [] fun m new => asM g n new m (all ++ new)
def asMM (g : Addr → Option Obj) (n : Nat) : List Addr := asM g n [mainGlobals] (Nat.shiftLeft 1 mainGlobals) [mainGlobals]
def obsQG (n : Nat) (chk : PySem.W.Frag → Bool) (ds : List DefQ) (f : Addr → Option Obj) : AlQ := obsQ chk ds (frL f (asMM f n ++ [cStatics]))
def hookQ (n : Nat) (chk : PySem.W.Frag → Bool) (ds : List DefQ) : PySem.W.Hook where
  α := AlQ
  obs := fun s => obsQG n chk ds s.heap.get?
  val := fun _ => valQ ds
  says := fun _ h => ∃ K : PySem.W.Frag, K.In h ∧ NoLs K ∧ obsQ chk ds K = valQ ds
  of := fun _ _ e => ⟨_, fun _ _ z => (frL_at z).1, fun _ _ z => (frL_at z).2, e⟩
  keeps := fun _ _ _ ⟨K, hK, nl, c⟩ k => ⟨K, PySem.W.Frag.In.keeps hK k, nl, c⟩
theorem obsQG_eq {n : Nat} {chk : PySem.W.Frag → Bool} {ds : List DefQ} {f : Addr → Option Obj} {s : Shared} (h : ∀ a, f a = s.heap.get? a) : obsQG n chk ds f = (hookQ n chk ds).obs s := by
  rw [show f = s.heap.get? from funext h]
  rfl
/-- a list that is handed in is locked -/
theorem cells_at {K : PySem.W.Frag} {H : L2.Hp} {a : Addr} {vs : List V} (nl : NoLs K) (hO : L2.Only H) (hS : SqL K H a vs) : ∃ o, H a = some (.frz o (.lst vs)) := by
  rcases hS with hS | ⟨o, its, n, h1, h2, _⟩
  · rcases hS with h | h
    · rcases hO a with z | ⟨o, xs, z⟩
      · rw [z] at h; cases h
      · rw [z] at h; cases h
    · exact h
  · have := nl a o h1
    unfold isLo at this
    rw [h2] at this
    cases this
theorem held_frz {g : Stg} {H : L2.Hp} {a : Addr} {xs : List D} {vs : List V} {o : Obj} (h : H a = some (.frz o (.lst vs))) (r : ∀ m, Reps H m xs vs) : Held g [0] [a] (one0 (.lst xs)) H := by
  refine ⟨rfl, by simp, fun l b hl => ?_, fun l hl => ?_, fun k h => ?_⟩
  · cases l with
    | zero =>
      simp at hl
      subst hl
      exact ⟨.lst xs, _, by rw [one0_get, if_pos rfl], h, vs, ⟨o, rfl⟩, r _⟩
    | succ l => simp at hl
  · rw [one0_get, if_neg (by
      have : 1 ≤ l := hl
      omega)]
  · rw [List.mem_singleton.mp h]
    exact Nat.zero_lt_one
/-- a def's body, wherever it begins -/
theorem Kept.bodyE {n : Inf} {g : Stg} {P : Prog} {G : Gam} {Pg : Program} {w : World} {K : PySem.W.Frag} {mg : Str → Option Value} {base : Heap} {ks : Nat → List Str} {kk : Nat} (W : Wk n g P K mg ks) (L : Kept g P G Pg w K mg base ks kk) {qual : Str} {body : List Stmt} {scope : Scope} {f : Addr} {N ps : List Str} {bd : List S}
    (S : FnScope N ps scope) (hck : ckSs n N scope bd body = true) (cdv : Value) (A : Around) (outer : List Env) (s : Shared) (H : L2.Hp) (vs : List V) (Q : VK) (E : XK)
    (hr : Room (kk + 1) (A.deeper (envOfC qual scope s.heap.objs.size f cdv))) (h : ∃ lk m C sls d C' ls', Held g lk m C H ∧ Slt H m sls (L2.start N vs) ∧ evSs G bd lk sls C = .ok (.rt d, ls', C') ∧ ∀ v m' H', Step m H m' H' → Held g lk m' C' H' → Rep H' m' d v → Q v H') :
    ∃ t, PSs (cxOf CX0 Pg w K mg base N qual scope f cdv A outer s H E) body t ∧ t { nx := fun _ H' => Q .non H', rt := Q } (L2.start N vs) H := by
  have gd : Good (cxOf CX0 Pg w K mg base N qual scope f cdv A outer s H E) N scope scope := ⟨rfl, S.nd, rfl, rfl, fun x h => ⟨h, .inl rfl⟩⟩
  have c := L.cok (X := cxOf CX0 Pg w K mg base N qual scope f cdv A outer s H E) W rfl rfl gd (L.wd W rfl rfl rfl rfl rfl hr)
  obtain ⟨lk, m, C, sls, d, C', ls', hd, sl, e, k⟩ := h
  exact ⟨_, okSs (lk := lk) bd (passes_of rfl) c hck, m, C, sls, _, ls', C', hd, sl, e, fun m' H' σ' s1 d1 l1 v rv => k v m' H' s1 d1 rv⟩
section
variable {chk : PySem.W.Frag → Bool} {ds : List DefQ} {K : PySem.W.Frag}
theorem says_chk (c : obsQ chk ds K = valQ ds) : chk K = true := by
  have h : (chk K && ds.all fun d => d.ok K) = true := congrArg (fun z : AlQ => z.1) c
  rw [Bool.and_eq_true] at h
  exact h.1
theorem says_def (c : obsQ chk ds K = valQ ds) (i : Nat) {d : DefQ} (h : ds[i]? = some d) : ∃ fd, FunD K d.name d.qual (defArgs d.st) (defBody d.st) (defScope d.st) d.dfl [] (d.pa.adr K) fd := by
  have h1 : (chk K && ds.all fun d => d.ok K) = true := congrArg (fun z : AlQ => z.1) c
  rw [Bool.and_eq_true] at h1
  have e : ds.map (fun d => fnV K (d.pa.adr K)) = ds.map DefQ.val := congrArg (fun z : AlQ => z.2) c
  have e2 : (ds.map fun d => fnV K (d.pa.adr K))[i]? = (ds.map DefQ.val)[i]? := by rw [e]
  rw [List.getElem?_map, List.getElem?_map, h] at e2
  exact DefQ.funD (Option.some.inj e2) (List.all_eq_true.mp h1.2 d (List.mem_of_getElem? h))
end
end
end Q

set_option Elab.async false
set_option linter.all false
set_option maxRecDepth 1000000
set_option maxHeartbeats 0
/-! The head of the law. -/
namespace K64
noncomputable section
open Q PySem L2 PySem.Spec PyProof.Rows
def pas : List Pa := ([.fn "_wall", .me "Side" "__init__", .fn "steps_from", .fn "begin_pairs", .me "Part" "__init__", .me "Part" "path_to", .fn "parts_of", .fn "live_parts", .fn "walk_in", .fn "walks_in", .fn "unlike_in", .fn "error_in", .fn "error_of", .fn "", .fn "", .fn "", .fn "is_integer", .fn "is_between", .fn "number_in", .fn "signed_in", .fn "is_reading", .me "Reading" "__init__", .me "Reading" "take", .me "Reading" "take_sensors", .me "Reading" "take_place", .me "Reading" "take_way", .me "Reading" "take_places", .fn "read_rows", .me "Web" "__init__", .cm "Web" "read"] : List Pa) ++ ([.pr "Web" "rows", .pr "Web" "text", .pr "Web" "sensors", .pr "Web" "places", .pr "Web" "readings", .pr "Web" "ways", .pr "Web" "begins", .pr "Web" "judged", .me "Web" "with_row", .me "Web" "__len__", .me "Web" "__bool__", .me "Web" "__eq__", .me "Web" "__str__", .me "Web" "__repr__", .fn "near_of", .fn "check_web", .fn "is_right_of", .fn "unlike_of", .fn "onward", .fn "drift_part", .fn "error_with", .fn "all_lots", .fn "least_of", .fn "goes", .fn "counted", .fn "count_of", .fn "silent_from", .fn "put_in", .fn "settled", .fn "first_counts"] : List Pa) ++ ([.fn "next_counts", .fn "counts_by_place", .fn "counts_of", .fn "lot_said", .me "Console" "__init__", .pr "Console" "web", .me "Console" "say", .me "Console" "plain", .me "Console" "answer", .me "Console" "walked", .me "Console" "seen_so", .fn "_law_spring", .fn "_law_draw", .fn "_law_of", .fn "_law_made", .fn "_law_gate_rows", .fn "_law_short_rows", .fn "_law_twins_rows", .fn "_law_all_so", .fn "_law_known_ones", .fn "_law_right", .fn "law"] : List Pa)
def cnN : List Str := ["Side", "Part", "WrongValue", "InvalidText", "NotAWeb", "InvalidRows", "Reading", "Web", "Console"]
def defs : List DefQ := ([⟨.fn "_wall", "_wall", "_wall", s0, []⟩, ⟨.me "Side" "__init__", "__init__", "Side.__init__", s1, [.non]⟩, ⟨.fn "steps_from", "steps_from", "steps_from", s2, []⟩, ⟨.fn "begin_pairs", "begin_pairs", "begin_pairs", s3, []⟩, ⟨.me "Part" "__init__", "__init__", "Part.__init__", s4, []⟩, ⟨.me "Part" "path_to", "path_to", "Part.path_to", s5, []⟩, ⟨.fn "parts_of", "parts_of", "parts_of", s6, []⟩, ⟨.fn "live_parts", "live_parts", "live_parts", s7, []⟩, ⟨.fn "walk_in", "walk_in", "walk_in", s8, []⟩, ⟨.fn "walks_in", "walks_in", "walks_in", s9, []⟩, ⟨.fn "unlike_in", "unlike_in", "unlike_in", s10, []⟩, ⟨.fn "error_in", "error_in", "error_in", s11, []⟩, ⟨.fn "error_of", "error_of", "error_of", s12, []⟩, ⟨.fn "is_integer", "is_integer", "is_integer", s16, []⟩, ⟨.fn "is_between", "is_between", "is_between", s17, []⟩, ⟨.fn "number_in", "number_in", "number_in", s18, []⟩, ⟨.fn "signed_in", "signed_in", "signed_in", s19, []⟩, ⟨.fn "is_reading", "is_reading", "is_reading", s20, []⟩, ⟨.me "Reading" "__init__", "__init__", "Reading.__init__", s21, []⟩, ⟨.me "Reading" "take", "take", "Reading.take", s22, []⟩, ⟨.me "Reading" "take_sensors", "take_sensors", "Reading.take_sensors", s23, []⟩, ⟨.me "Reading" "take_place", "take_place", "Reading.take_place", s24, []⟩, ⟨.me "Reading" "take_way", "take_way", "Reading.take_way", s25, []⟩, ⟨.me "Reading" "take_places", "take_places", "Reading.take_places", s26, []⟩, ⟨.fn "read_rows", "read_rows", "read_rows", s27, []⟩, ⟨.me "Web" "__init__", "__init__", "Web.__init__", s28, []⟩, ⟨.cm "Web" "read", "read", "Web.read", s29, []⟩, ⟨.pr "Web" "rows", "rows", "Web.rows", s30, []⟩, ⟨.pr "Web" "text", "text", "Web.text", s31, []⟩, ⟨.pr "Web" "sensors", "sensors", "Web.sensors", s32, []⟩] : List DefQ) ++ ([⟨.pr "Web" "places", "places", "Web.places", s33, []⟩, ⟨.pr "Web" "readings", "readings", "Web.readings", s34, []⟩, ⟨.pr "Web" "ways", "ways", "Web.ways", s35, []⟩, ⟨.pr "Web" "begins", "begins", "Web.begins", s36, []⟩, ⟨.pr "Web" "judged", "judged", "Web.judged", s37, []⟩, ⟨.me "Web" "with_row", "with_row", "Web.with_row", s38, []⟩, ⟨.me "Web" "__len__", "__len__", "Web.__len__", s39, []⟩, ⟨.me "Web" "__bool__", "__bool__", "Web.__bool__", s40, []⟩, ⟨.me "Web" "__eq__", "__eq__", "Web.__eq__", s41, []⟩, ⟨.me "Web" "__str__", "__str__", "Web.__str__", s42, []⟩, ⟨.me "Web" "__repr__", "__repr__", "Web.__repr__", s43, []⟩, ⟨.fn "near_of", "near_of", "near_of", s44, []⟩, ⟨.fn "check_web", "check_web", "check_web", s45, []⟩, ⟨.fn "is_right_of", "is_right_of", "is_right_of", s46, []⟩, ⟨.fn "unlike_of", "unlike_of", "unlike_of", s47, []⟩, ⟨.fn "onward", "onward", "onward", s48, []⟩, ⟨.fn "drift_part", "drift_part", "drift_part", s49, []⟩, ⟨.fn "error_with", "error_with", "error_with", s50, []⟩, ⟨.fn "all_lots", "all_lots", "all_lots", s51, []⟩, ⟨.fn "least_of", "least_of", "least_of", s52, []⟩, ⟨.fn "goes", "goes", "goes", s53, []⟩, ⟨.fn "counted", "counted", "counted", s54, []⟩, ⟨.fn "count_of", "count_of", "count_of", s55, []⟩, ⟨.fn "silent_from", "silent_from", "silent_from", s56, []⟩, ⟨.fn "put_in", "put_in", "put_in", s57, []⟩, ⟨.fn "settled", "settled", "settled", s58, []⟩, ⟨.fn "first_counts", "first_counts", "first_counts", s59, []⟩, ⟨.fn "next_counts", "next_counts", "next_counts", s60, []⟩, ⟨.fn "counts_by_place", "counts_by_place", "counts_by_place", s61, []⟩, ⟨.fn "counts_of", "counts_of", "counts_of", s62, []⟩] : List DefQ) ++ ([⟨.fn "lot_said", "lot_said", "lot_said", s63, []⟩, ⟨.me "Console" "__init__", "__init__", "Console.__init__", s64, []⟩, ⟨.pr "Console" "web", "web", "Console.web", s65, []⟩, ⟨.me "Console" "say", "say", "Console.say", s66, []⟩, ⟨.me "Console" "plain", "plain", "Console.plain", s67, []⟩, ⟨.me "Console" "answer", "answer", "Console.answer", s68, []⟩, ⟨.me "Console" "walked", "walked", "Console.walked", s69, []⟩, ⟨.me "Console" "seen_so", "seen_so", "Console.seen_so", s70, []⟩, ⟨.fn "_law_spring", "_law_spring", "_law_spring", s71, []⟩, ⟨.fn "_law_draw", "_law_draw", "_law_draw", s72, []⟩, ⟨.fn "_law_of", "_law_of", "_law_of", s73, []⟩, ⟨.fn "_law_made", "_law_made", "_law_made", s74, []⟩, ⟨.fn "_law_gate_rows", "_law_gate_rows", "_law_gate_rows", s75, []⟩, ⟨.fn "_law_short_rows", "_law_short_rows", "_law_short_rows", s76, []⟩, ⟨.fn "_law_twins_rows", "_law_twins_rows", "_law_twins_rows", s77, []⟩, ⟨.fn "_law_all_so", "_law_all_so", "_law_all_so", s78, []⟩, ⟨.fn "_law_known_ones", "_law_known_ones", "_law_known_ones", s79, []⟩, ⟨.fn "_law_right", "_law_right", "_law_right", s80, []⟩, ⟨.fn "law", "law", "law", s81, []⟩] : List DefQ)
def ksL : List (Nat × List Str) := [(66, ["line"])]
def ks (i : Nat) : List Str := (ksL.lookup i).getD []
def st (K : PySem.W.Frag) : Stg := stg K fldL cnN pas kwL
def chk (K : PySem.W.Frag) : Bool := allB_ K inf prog (st K) cnN
section
variable {K : PySem.W.Frag}
theorem ck0 : ckSs inf N0 (defScope s0) f0.body (defBody s0) = true := by decide +kernel
theorem sc0 : FnScope N0 ["k"] (defScope s0) := ⟨rfl, rfl, rfl, by decide +kernel, rfl, by decide +kernel, by decide +kernel⟩
theorem d0 (c : obsQ chk defs K = valQ defs) : DefOk inf K ((st K).fad 0) f0 (ks 0) := by
  obtain ⟨fd, F⟩ := says_def c 0 rfl
  have B := F.bindsN (ps := ["k"]) fun _ _ _ _ _ _ us hl => match us, hl with | [_], _ => rfl
  exact ⟨_, _, _, _, _, _, fd, N0, _, F, sc0, rfl, ck0, .inl ⟨rfl, ⟨rfl, B, [], [], .nil, B, .nil⟩, fun k h => by cases h⟩⟩
theorem ck1 : ckSs inf N1 (defScope s1) f1.body (defBody s1) = true := by decide +kernel
theorem sc1 : FnScope N1 ["self", "web", "lot"] (defScope s1) := ⟨rfl, rfl, rfl, by decide +kernel, rfl, by decide +kernel, by decide +kernel⟩
theorem d1 (c : obsQ chk defs K = valQ defs) : DefOk inf K ((st K).fad 1) f1 (ks 1) := by
  obtain ⟨fd, F⟩ := says_def c 1 rfl
  have B : ∃ ds, Vals ([] : List V) ds ∧ Binds K fd ["self", "web", "lot"] ds := F.binds1 (ps := ["self", "web", "lot"]) 3 1 (by decide) rfl fun T kV doc pm an cdv ct us its hl hi => match us, hl, its, hi with | [_, _, _], _, [_], _ => ⟨_, rfl, rfl⟩
  have B1 := F.binds1 (ps := ["self", "web", "lot"]) 2 0 (by decide) rfl fun T kV doc pm an cdv ct us its hl hi => match us, hl, its, hi with | [_, _], _, [_], _ => ⟨_, rfl, rfl⟩
  obtain ⟨ds, r, b⟩ := B
  cases r
  obtain ⟨ds1, r1, b1⟩ := B1
  exact ⟨_, _, _, _, _, _, fd, N1, _, F, sc1, rfl, ck1, .inl ⟨rfl, ⟨rfl, b, ds1, _, r1, b1, (.cons (fun _ _ => Rep.non) .nil)⟩, fun k h => by cases h⟩⟩
theorem ck2 : ckSs inf N2 (defScope s2) f2.body (defBody s2) = true := by decide +kernel
theorem sc2 : FnScope N2 ["one", "other", "pair"] (defScope s2) := ⟨rfl, rfl, rfl, by decide +kernel, rfl, by decide +kernel, by decide +kernel⟩
theorem d2 (c : obsQ chk defs K = valQ defs) : DefOk inf K ((st K).fad 2) f2 (ks 2) := by
  obtain ⟨fd, F⟩ := says_def c 2 rfl
  have B := F.bindsN (ps := ["one", "other", "pair"]) fun _ _ _ _ _ _ us hl => match us, hl with | [_, _, _], _ => rfl
  exact ⟨_, _, _, _, _, _, fd, N2, _, F, sc2, rfl, ck2, .inl ⟨rfl, ⟨rfl, B, [], [], .nil, B, .nil⟩, fun k h => by cases h⟩⟩
theorem ck3 : ckSs inf N3 (defScope s3) f3.body (defBody s3) = true := by decide +kernel
theorem sc3 : FnScope N3 ["one", "other"] (defScope s3) := ⟨rfl, rfl, rfl, by decide +kernel, rfl, by decide +kernel, by decide +kernel⟩
theorem d3 (c : obsQ chk defs K = valQ defs) : DefOk inf K ((st K).fad 3) f3 (ks 3) := by
  obtain ⟨fd, F⟩ := says_def c 3 rfl
  have B := F.bindsN (ps := ["one", "other"]) fun _ _ _ _ _ _ us hl => match us, hl with | [_, _], _ => rfl
  exact ⟨_, _, _, _, _, _, fd, N3, _, F, sc3, rfl, ck3, .inl ⟨rfl, ⟨rfl, B, [], [], .nil, B, .nil⟩, fun k h => by cases h⟩⟩
theorem ck4 : ckSs inf N4 (defScope s4) f4.body (defBody s4) = true := by decide +kernel
theorem sc4 : FnScope N4 ["self", "one", "other", "begin"] (defScope s4) := ⟨rfl, rfl, rfl, by decide +kernel, rfl, by decide +kernel, by decide +kernel⟩
theorem d4 (c : obsQ chk defs K = valQ defs) : DefOk inf K ((st K).fad 4) f4 (ks 4) := by
  obtain ⟨fd, F⟩ := says_def c 4 rfl
  have B := F.bindsN (ps := ["self", "one", "other", "begin"]) fun _ _ _ _ _ _ us hl => match us, hl with | [_, _, _, _], _ => rfl
  exact ⟨_, _, _, _, _, _, fd, N4, _, F, sc4, rfl, ck4, .inl ⟨rfl, ⟨rfl, B, [], [], .nil, B, .nil⟩, fun k h => by cases h⟩⟩
theorem ck5 : ckSs inf N5 (defScope s5) f5.body (defBody s5) = true := by decide +kernel
theorem sc5 : FnScope N5 ["self", "pair"] (defScope s5) := ⟨rfl, rfl, rfl, by decide +kernel, rfl, by decide +kernel, by decide +kernel⟩
theorem d5 (c : obsQ chk defs K = valQ defs) : DefOk inf K ((st K).fad 5) f5 (ks 5) := by
  obtain ⟨fd, F⟩ := says_def c 5 rfl
  have B := F.bindsN (ps := ["self", "pair"]) fun _ _ _ _ _ _ us hl => match us, hl with | [_, _], _ => rfl
  exact ⟨_, _, _, _, _, _, fd, N5, _, F, sc5, rfl, ck5, .inl ⟨rfl, ⟨rfl, B, [], [], .nil, B, .nil⟩, fun k h => by cases h⟩⟩
theorem ck6 : ckSs inf N6 (defScope s6) f6.body (defBody s6) = true := by decide +kernel
theorem sc6 : FnScope N6 ["one", "other"] (defScope s6) := ⟨rfl, rfl, rfl, by decide +kernel, rfl, by decide +kernel, by decide +kernel⟩
theorem d6 (c : obsQ chk defs K = valQ defs) : DefOk inf K ((st K).fad 6) f6 (ks 6) := by
  obtain ⟨fd, F⟩ := says_def c 6 rfl
  have B := F.bindsN (ps := ["one", "other"]) fun _ _ _ _ _ _ us hl => match us, hl with | [_, _], _ => rfl
  exact ⟨_, _, _, _, _, _, fd, N6, _, F, sc6, rfl, ck6, .inl ⟨rfl, ⟨rfl, B, [], [], .nil, B, .nil⟩, fun k h => by cases h⟩⟩
theorem ck7 : ckSs inf N7 (defScope s7) f7.body (defBody s7) = true := by decide +kernel
theorem sc7 : FnScope N7 ["one", "other"] (defScope s7) := ⟨rfl, rfl, rfl, by decide +kernel, rfl, by decide +kernel, by decide +kernel⟩
theorem d7 (c : obsQ chk defs K = valQ defs) : DefOk inf K ((st K).fad 7) f7 (ks 7) := by
  obtain ⟨fd, F⟩ := says_def c 7 rfl
  have B := F.bindsN (ps := ["one", "other"]) fun _ _ _ _ _ _ us hl => match us, hl with | [_, _], _ => rfl
  exact ⟨_, _, _, _, _, _, fd, N7, _, F, sc7, rfl, ck7, .inl ⟨rfl, ⟨rfl, B, [], [], .nil, B, .nil⟩, fun k h => by cases h⟩⟩
theorem ck8 : ckSs inf N8 (defScope s8) f8.body (defBody s8) = true := by decide +kernel
theorem sc8 : FnScope N8 ["path", "at"] (defScope s8) := ⟨rfl, rfl, rfl, by decide +kernel, rfl, by decide +kernel, by decide +kernel⟩
theorem d8 (c : obsQ chk defs K = valQ defs) : DefOk inf K ((st K).fad 8) f8 (ks 8) := by
  obtain ⟨fd, F⟩ := says_def c 8 rfl
  have B := F.bindsN (ps := ["path", "at"]) fun _ _ _ _ _ _ us hl => match us, hl with | [_, _], _ => rfl
  exact ⟨_, _, _, _, _, _, fd, N8, _, F, sc8, rfl, ck8, .inl ⟨rfl, ⟨rfl, B, [], [], .nil, B, .nil⟩, fun k h => by cases h⟩⟩
theorem ck9 : ckSs inf N9 (defScope s9) f9.body (defBody s9) = true := by decide +kernel
theorem sc9 : FnScope N9 ["path"] (defScope s9) := ⟨rfl, rfl, rfl, by decide +kernel, rfl, by decide +kernel, by decide +kernel⟩
theorem d9 (c : obsQ chk defs K = valQ defs) : DefOk inf K ((st K).fad 9) f9 (ks 9) := by
  obtain ⟨fd, F⟩ := says_def c 9 rfl
  have B := F.bindsN (ps := ["path"]) fun _ _ _ _ _ _ us hl => match us, hl with | [_], _ => rfl
  exact ⟨_, _, _, _, _, _, fd, N9, _, F, sc9, rfl, ck9, .inl ⟨rfl, ⟨rfl, B, [], [], .nil, B, .nil⟩, fun k h => by cases h⟩⟩
theorem ck10 : ckSs inf N10 (defScope s10) f10.body (defBody s10) = true := by decide +kernel
theorem sc10 : FnScope N10 ["part"] (defScope s10) := ⟨rfl, rfl, rfl, by decide +kernel, rfl, by decide +kernel, by decide +kernel⟩
theorem d10 (c : obsQ chk defs K = valQ defs) : DefOk inf K ((st K).fad 10) f10 (ks 10) := by
  obtain ⟨fd, F⟩ := says_def c 10 rfl
  have B := F.bindsN (ps := ["part"]) fun _ _ _ _ _ _ us hl => match us, hl with | [_], _ => rfl
  exact ⟨_, _, _, _, _, _, fd, N10, _, F, sc10, rfl, ck10, .inl ⟨rfl, ⟨rfl, B, [], [], .nil, B, .nil⟩, fun k h => by cases h⟩⟩
theorem ck11 : ckSs inf N11 (defScope s11) f11.body (defBody s11) = true := by decide +kernel
theorem sc11 : FnScope N11 ["part"] (defScope s11) := ⟨rfl, rfl, rfl, by decide +kernel, rfl, by decide +kernel, by decide +kernel⟩
theorem d11 (c : obsQ chk defs K = valQ defs) : DefOk inf K ((st K).fad 11) f11 (ks 11) := by
  obtain ⟨fd, F⟩ := says_def c 11 rfl
  have B := F.bindsN (ps := ["part"]) fun _ _ _ _ _ _ us hl => match us, hl with | [_], _ => rfl
  exact ⟨_, _, _, _, _, _, fd, N11, _, F, sc11, rfl, ck11, .inl ⟨rfl, ⟨rfl, B, [], [], .nil, B, .nil⟩, fun k h => by cases h⟩⟩
theorem ck12 : ckSs inf N12 (defScope s12) f12.body (defBody s12) = true := by decide +kernel
theorem sc12 : FnScope N12 ["one", "other"] (defScope s12) := ⟨rfl, rfl, rfl, by decide +kernel, rfl, by decide +kernel, by decide +kernel⟩
theorem d12 (c : obsQ chk defs K = valQ defs) : DefOk inf K ((st K).fad 12) f12 (ks 12) := by
  obtain ⟨fd, F⟩ := says_def c 12 rfl
  have B := F.bindsN (ps := ["one", "other"]) fun _ _ _ _ _ _ us hl => match us, hl with | [_, _], _ => rfl
  exact ⟨_, _, _, _, _, _, fd, N12, _, F, sc12, rfl, ck12, .inl ⟨rfl, ⟨rfl, B, [], [], .nil, B, .nil⟩, fun k h => by cases h⟩⟩
theorem ck16 : ckSs inf N16 (defScope s16) f16.body (defBody s16) = true := by decide +kernel
theorem sc16 : FnScope N16 ["value"] (defScope s16) := ⟨rfl, rfl, rfl, by decide +kernel, rfl, by decide +kernel, by decide +kernel⟩
theorem d16 (c : obsQ chk defs K = valQ defs) : DefOk inf K ((st K).fad 16) f16 (ks 16) := by
  obtain ⟨fd, F⟩ := says_def c 13 rfl
  have B := F.bindsN (ps := ["value"]) fun _ _ _ _ _ _ us hl => match us, hl with | [_], _ => rfl
  exact ⟨_, _, _, _, _, _, fd, N16, _, F, sc16, rfl, ck16, .inl ⟨rfl, ⟨rfl, B, [], [], .nil, B, .nil⟩, fun k h => by cases h⟩⟩
theorem ck17 : ckSs inf N17 (defScope s17) f17.body (defBody s17) = true := by decide +kernel
theorem sc17 : FnScope N17 ["value", "least", "most"] (defScope s17) := ⟨rfl, rfl, rfl, by decide +kernel, rfl, by decide +kernel, by decide +kernel⟩
theorem d17 (c : obsQ chk defs K = valQ defs) : DefOk inf K ((st K).fad 17) f17 (ks 17) := by
  obtain ⟨fd, F⟩ := says_def c 14 rfl
  have B := F.bindsN (ps := ["value", "least", "most"]) fun _ _ _ _ _ _ us hl => match us, hl with | [_, _, _], _ => rfl
  exact ⟨_, _, _, _, _, _, fd, N17, _, F, sc17, rfl, ck17, .inl ⟨rfl, ⟨rfl, B, [], [], .nil, B, .nil⟩, fun k h => by cases h⟩⟩
theorem ck18 : ckSs inf N18 (defScope s18) f18.body (defBody s18) = true := by decide +kernel
theorem sc18 : FnScope N18 ["word"] (defScope s18) := ⟨rfl, rfl, rfl, by decide +kernel, rfl, by decide +kernel, by decide +kernel⟩
theorem d18 (c : obsQ chk defs K = valQ defs) : DefOk inf K ((st K).fad 18) f18 (ks 18) := by
  obtain ⟨fd, F⟩ := says_def c 15 rfl
  have B := F.bindsN (ps := ["word"]) fun _ _ _ _ _ _ us hl => match us, hl with | [_], _ => rfl
  exact ⟨_, _, _, _, _, _, fd, N18, _, F, sc18, rfl, ck18, .inl ⟨rfl, ⟨rfl, B, [], [], .nil, B, .nil⟩, fun k h => by cases h⟩⟩
theorem ck19 : ckSs inf N19 (defScope s19) f19.body (defBody s19) = true := by decide +kernel
theorem sc19 : FnScope N19 ["word"] (defScope s19) := ⟨rfl, rfl, rfl, by decide +kernel, rfl, by decide +kernel, by decide +kernel⟩
theorem d19 (c : obsQ chk defs K = valQ defs) : DefOk inf K ((st K).fad 19) f19 (ks 19) := by
  obtain ⟨fd, F⟩ := says_def c 16 rfl
  have B := F.bindsN (ps := ["word"]) fun _ _ _ _ _ _ us hl => match us, hl with | [_], _ => rfl
  exact ⟨_, _, _, _, _, _, fd, N19, _, F, sc19, rfl, ck19, .inl ⟨rfl, ⟨rfl, B, [], [], .nil, B, .nil⟩, fun k h => by cases h⟩⟩
theorem ck20 : ckSs inf N20 (defScope s20) f20.body (defBody s20) = true := by decide +kernel
theorem sc20 : FnScope N20 ["value", "sensors"] (defScope s20) := ⟨rfl, rfl, rfl, by decide +kernel, rfl, by decide +kernel, by decide +kernel⟩
theorem d20 (c : obsQ chk defs K = valQ defs) : DefOk inf K ((st K).fad 20) f20 (ks 20) := by
  obtain ⟨fd, F⟩ := says_def c 17 rfl
  have B := F.bindsN (ps := ["value", "sensors"]) fun _ _ _ _ _ _ us hl => match us, hl with | [_, _], _ => rfl
  exact ⟨_, _, _, _, _, _, fd, N20, _, F, sc20, rfl, ck20, .inl ⟨rfl, ⟨rfl, B, [], [], .nil, B, .nil⟩, fun k h => by cases h⟩⟩
theorem ck21 : ckSs inf N21 (defScope s21) f21.body (defBody s21) = true := by decide +kernel
theorem sc21 : FnScope N21 ["self"] (defScope s21) := ⟨rfl, rfl, rfl, by decide +kernel, rfl, by decide +kernel, by decide +kernel⟩
theorem d21 (c : obsQ chk defs K = valQ defs) : DefOk inf K ((st K).fad 21) f21 (ks 21) := by
  obtain ⟨fd, F⟩ := says_def c 18 rfl
  have B := F.bindsN (ps := ["self"]) fun _ _ _ _ _ _ us hl => match us, hl with | [_], _ => rfl
  exact ⟨_, _, _, _, _, _, fd, N21, _, F, sc21, rfl, ck21, .inl ⟨rfl, ⟨rfl, B, [], [], .nil, B, .nil⟩, fun k h => by cases h⟩⟩
theorem ck22 : ckSs inf N22 (defScope s22) f22.body (defBody s22) = true := by decide +kernel
theorem sc22 : FnScope N22 ["self", "row"] (defScope s22) := ⟨rfl, rfl, rfl, by decide +kernel, rfl, by decide +kernel, by decide +kernel⟩
theorem d22 (c : obsQ chk defs K = valQ defs) : DefOk inf K ((st K).fad 22) f22 (ks 22) := by
  obtain ⟨fd, F⟩ := says_def c 19 rfl
  have B := F.bindsN (ps := ["self", "row"]) fun _ _ _ _ _ _ us hl => match us, hl with | [_, _], _ => rfl
  exact ⟨_, _, _, _, _, _, fd, N22, _, F, sc22, rfl, ck22, .inl ⟨rfl, ⟨rfl, B, [], [], .nil, B, .nil⟩, fun k h => by cases h⟩⟩
theorem ck23 : ckSs inf N23 (defScope s23) f23.body (defBody s23) = true := by decide +kernel
theorem sc23 : FnScope N23 ["self", "words"] (defScope s23) := ⟨rfl, rfl, rfl, by decide +kernel, rfl, by decide +kernel, by decide +kernel⟩
theorem d23 (c : obsQ chk defs K = valQ defs) : DefOk inf K ((st K).fad 23) f23 (ks 23) := by
  obtain ⟨fd, F⟩ := says_def c 20 rfl
  have B := F.bindsN (ps := ["self", "words"]) fun _ _ _ _ _ _ us hl => match us, hl with | [_, _], _ => rfl
  exact ⟨_, _, _, _, _, _, fd, N23, _, F, sc23, rfl, ck23, .inl ⟨rfl, ⟨rfl, B, [], [], .nil, B, .nil⟩, fun k h => by cases h⟩⟩
theorem ck24 : ckSs inf N24 (defScope s24) f24.body (defBody s24) = true := by decide +kernel
theorem sc24 : FnScope N24 ["self", "words"] (defScope s24) := ⟨rfl, rfl, rfl, by decide +kernel, rfl, by decide +kernel, by decide +kernel⟩
theorem d24 (c : obsQ chk defs K = valQ defs) : DefOk inf K ((st K).fad 24) f24 (ks 24) := by
  obtain ⟨fd, F⟩ := says_def c 21 rfl
  have B := F.bindsN (ps := ["self", "words"]) fun _ _ _ _ _ _ us hl => match us, hl with | [_, _], _ => rfl
  exact ⟨_, _, _, _, _, _, fd, N24, _, F, sc24, rfl, ck24, .inl ⟨rfl, ⟨rfl, B, [], [], .nil, B, .nil⟩, fun k h => by cases h⟩⟩
theorem ck25 : ckSs inf N25 (defScope s25) f25.body (defBody s25) = true := by decide +kernel
theorem sc25 : FnScope N25 ["self", "words"] (defScope s25) := ⟨rfl, rfl, rfl, by decide +kernel, rfl, by decide +kernel, by decide +kernel⟩
theorem d25 (c : obsQ chk defs K = valQ defs) : DefOk inf K ((st K).fad 25) f25 (ks 25) := by
  obtain ⟨fd, F⟩ := says_def c 22 rfl
  have B := F.bindsN (ps := ["self", "words"]) fun _ _ _ _ _ _ us hl => match us, hl with | [_, _], _ => rfl
  exact ⟨_, _, _, _, _, _, fd, N25, _, F, sc25, rfl, ck25, .inl ⟨rfl, ⟨rfl, B, [], [], .nil, B, .nil⟩, fun k h => by cases h⟩⟩
theorem ck26 : ckSs inf N26 (defScope s26) f26.body (defBody s26) = true := by decide +kernel
theorem sc26 : FnScope N26 ["self", "words"] (defScope s26) := ⟨rfl, rfl, rfl, by decide +kernel, rfl, by decide +kernel, by decide +kernel⟩
theorem d26 (c : obsQ chk defs K = valQ defs) : DefOk inf K ((st K).fad 26) f26 (ks 26) := by
  obtain ⟨fd, F⟩ := says_def c 23 rfl
  have B := F.bindsN (ps := ["self", "words"]) fun _ _ _ _ _ _ us hl => match us, hl with | [_, _], _ => rfl
  exact ⟨_, _, _, _, _, _, fd, N26, _, F, sc26, rfl, ck26, .inl ⟨rfl, ⟨rfl, B, [], [], .nil, B, .nil⟩, fun k h => by cases h⟩⟩
theorem ck27 : ckSs inf N27 (defScope s27) f27.body (defBody s27) = true := by decide +kernel
theorem sc27 : FnScope N27 ["rows"] (defScope s27) := ⟨rfl, rfl, rfl, by decide +kernel, rfl, by decide +kernel, by decide +kernel⟩
theorem d27 (c : obsQ chk defs K = valQ defs) : DefOk inf K ((st K).fad 27) f27 (ks 27) := by
  obtain ⟨fd, F⟩ := says_def c 24 rfl
  have B := F.bindsN (ps := ["rows"]) fun _ _ _ _ _ _ us hl => match us, hl with | [_], _ => rfl
  exact ⟨_, _, _, _, _, _, fd, N27, _, F, sc27, rfl, ck27, .inl ⟨rfl, ⟨rfl, B, [], [], .nil, B, .nil⟩, fun k h => by cases h⟩⟩
theorem ck28 : ckSs inf N28 (defScope s28) f28.body (defBody s28) = true := by decide +kernel
theorem sc28 : FnScope N28 ["self", "rows"] (defScope s28) := ⟨rfl, rfl, rfl, by decide +kernel, rfl, by decide +kernel, by decide +kernel⟩
theorem d28 (c : obsQ chk defs K = valQ defs) : DefOk inf K ((st K).fad 28) f28 (ks 28) := by
  obtain ⟨fd, F⟩ := says_def c 25 rfl
  obtain ⟨oc, od, dV, kV, doc, pm, an, cdv, ct, osl, rfl, lk0, hcd, hD, _⟩ := id F.ex
  have e0 : dV = .none := by
    rcases hD with ⟨_, z⟩ | ⟨z, _⟩
    · exact z
    · exact absurd rfl z
  subst e0
  exact ⟨_, _, _, _, _, _, _, N28, _, F, sc28, rfl, ck28, .inr ⟨rfl, rfl, ["self"], "rows", rfl, rfl, StX.bind_star1 (B := fun xs => bindArgs _ ⟨xs, []⟩) (fun _ => rfl) (fun _ _ _ => rfl)⟩⟩
theorem ck29 : ckSs inf N29 (defScope s29) f29.body (defBody s29) = true := by decide +kernel
theorem sc29 : FnScope N29 ["cls", "text"] (defScope s29) := ⟨rfl, rfl, rfl, by decide +kernel, rfl, by decide +kernel, by decide +kernel⟩
theorem d29 (c : obsQ chk defs K = valQ defs) : DefOkC inf K ((st K).fad 29) f29 := by
  obtain ⟨fd, F⟩ := says_def c 26 rfl
  exact ⟨_, _, _, _, _, _, fd, N29, _, F, sc29, rfl, ck29, rfl, F.bindsN (ps := ["cls", "text"]) fun _ _ _ _ _ _ us hl => match us, hl with | [_, _], _ => rfl⟩
theorem ck30 : ckSs inf N30 (defScope s30) f30.body (defBody s30) = true := by decide +kernel
theorem sc30 : FnScope N30 ["self"] (defScope s30) := ⟨rfl, rfl, rfl, by decide +kernel, rfl, by decide +kernel, by decide +kernel⟩
theorem d30 (c : obsQ chk defs K = valQ defs) : DefOk inf K ((st K).fad 30) f30 (ks 30) := by
  obtain ⟨fd, F⟩ := says_def c 27 rfl
  have B := F.bindsN (ps := ["self"]) fun _ _ _ _ _ _ us hl => match us, hl with | [_], _ => rfl
  exact ⟨_, _, _, _, _, _, fd, N30, _, F, sc30, rfl, ck30, .inl ⟨rfl, ⟨rfl, B, [], [], .nil, B, .nil⟩, fun k h => by cases h⟩⟩
theorem ck31 : ckSs inf N31 (defScope s31) f31.body (defBody s31) = true := by decide +kernel
theorem sc31 : FnScope N31 ["self"] (defScope s31) := ⟨rfl, rfl, rfl, by decide +kernel, rfl, by decide +kernel, by decide +kernel⟩
theorem d31 (c : obsQ chk defs K = valQ defs) : DefOk inf K ((st K).fad 31) f31 (ks 31) := by
  obtain ⟨fd, F⟩ := says_def c 28 rfl
  have B := F.bindsN (ps := ["self"]) fun _ _ _ _ _ _ us hl => match us, hl with | [_], _ => rfl
  exact ⟨_, _, _, _, _, _, fd, N31, _, F, sc31, rfl, ck31, .inl ⟨rfl, ⟨rfl, B, [], [], .nil, B, .nil⟩, fun k h => by cases h⟩⟩
theorem ck32 : ckSs inf N32 (defScope s32) f32.body (defBody s32) = true := by decide +kernel
theorem sc32 : FnScope N32 ["self"] (defScope s32) := ⟨rfl, rfl, rfl, by decide +kernel, rfl, by decide +kernel, by decide +kernel⟩
theorem d32 (c : obsQ chk defs K = valQ defs) : DefOk inf K ((st K).fad 32) f32 (ks 32) := by
  obtain ⟨fd, F⟩ := says_def c 29 rfl
  have B := F.bindsN (ps := ["self"]) fun _ _ _ _ _ _ us hl => match us, hl with | [_], _ => rfl
  exact ⟨_, _, _, _, _, _, fd, N32, _, F, sc32, rfl, ck32, .inl ⟨rfl, ⟨rfl, B, [], [], .nil, B, .nil⟩, fun k h => by cases h⟩⟩
theorem ck33 : ckSs inf N33 (defScope s33) f33.body (defBody s33) = true := by decide +kernel
theorem sc33 : FnScope N33 ["self"] (defScope s33) := ⟨rfl, rfl, rfl, by decide +kernel, rfl, by decide +kernel, by decide +kernel⟩
theorem d33 (c : obsQ chk defs K = valQ defs) : DefOk inf K ((st K).fad 33) f33 (ks 33) := by
  obtain ⟨fd, F⟩ := says_def c 30 rfl
  have B := F.bindsN (ps := ["self"]) fun _ _ _ _ _ _ us hl => match us, hl with | [_], _ => rfl
  exact ⟨_, _, _, _, _, _, fd, N33, _, F, sc33, rfl, ck33, .inl ⟨rfl, ⟨rfl, B, [], [], .nil, B, .nil⟩, fun k h => by cases h⟩⟩
theorem ck34 : ckSs inf N34 (defScope s34) f34.body (defBody s34) = true := by decide +kernel
theorem sc34 : FnScope N34 ["self"] (defScope s34) := ⟨rfl, rfl, rfl, by decide +kernel, rfl, by decide +kernel, by decide +kernel⟩
theorem d34 (c : obsQ chk defs K = valQ defs) : DefOk inf K ((st K).fad 34) f34 (ks 34) := by
  obtain ⟨fd, F⟩ := says_def c 31 rfl
  have B := F.bindsN (ps := ["self"]) fun _ _ _ _ _ _ us hl => match us, hl with | [_], _ => rfl
  exact ⟨_, _, _, _, _, _, fd, N34, _, F, sc34, rfl, ck34, .inl ⟨rfl, ⟨rfl, B, [], [], .nil, B, .nil⟩, fun k h => by cases h⟩⟩
theorem ck35 : ckSs inf N35 (defScope s35) f35.body (defBody s35) = true := by decide +kernel
theorem sc35 : FnScope N35 ["self"] (defScope s35) := ⟨rfl, rfl, rfl, by decide +kernel, rfl, by decide +kernel, by decide +kernel⟩
theorem d35 (c : obsQ chk defs K = valQ defs) : DefOk inf K ((st K).fad 35) f35 (ks 35) := by
  obtain ⟨fd, F⟩ := says_def c 32 rfl
  have B := F.bindsN (ps := ["self"]) fun _ _ _ _ _ _ us hl => match us, hl with | [_], _ => rfl
  exact ⟨_, _, _, _, _, _, fd, N35, _, F, sc35, rfl, ck35, .inl ⟨rfl, ⟨rfl, B, [], [], .nil, B, .nil⟩, fun k h => by cases h⟩⟩
theorem ck36 : ckSs inf N36 (defScope s36) f36.body (defBody s36) = true := by decide +kernel
theorem sc36 : FnScope N36 ["self"] (defScope s36) := ⟨rfl, rfl, rfl, by decide +kernel, rfl, by decide +kernel, by decide +kernel⟩
theorem d36 (c : obsQ chk defs K = valQ defs) : DefOk inf K ((st K).fad 36) f36 (ks 36) := by
  obtain ⟨fd, F⟩ := says_def c 33 rfl
  have B := F.bindsN (ps := ["self"]) fun _ _ _ _ _ _ us hl => match us, hl with | [_], _ => rfl
  exact ⟨_, _, _, _, _, _, fd, N36, _, F, sc36, rfl, ck36, .inl ⟨rfl, ⟨rfl, B, [], [], .nil, B, .nil⟩, fun k h => by cases h⟩⟩
theorem ck37 : ckSs inf N37 (defScope s37) f37.body (defBody s37) = true := by decide +kernel
theorem sc37 : FnScope N37 ["self"] (defScope s37) := ⟨rfl, rfl, rfl, by decide +kernel, rfl, by decide +kernel, by decide +kernel⟩
theorem d37 (c : obsQ chk defs K = valQ defs) : DefOk inf K ((st K).fad 37) f37 (ks 37) := by
  obtain ⟨fd, F⟩ := says_def c 34 rfl
  have B := F.bindsN (ps := ["self"]) fun _ _ _ _ _ _ us hl => match us, hl with | [_], _ => rfl
  exact ⟨_, _, _, _, _, _, fd, N37, _, F, sc37, rfl, ck37, .inl ⟨rfl, ⟨rfl, B, [], [], .nil, B, .nil⟩, fun k h => by cases h⟩⟩
theorem ck38 : ckSs inf N38 (defScope s38) f38.body (defBody s38) = true := by decide +kernel
theorem sc38 : FnScope N38 ["self", "index", "row"] (defScope s38) := ⟨rfl, rfl, rfl, by decide +kernel, rfl, by decide +kernel, by decide +kernel⟩
theorem d38 (c : obsQ chk defs K = valQ defs) : DefOk inf K ((st K).fad 38) f38 (ks 38) := by
  obtain ⟨fd, F⟩ := says_def c 35 rfl
  have B := F.bindsN (ps := ["self", "index", "row"]) fun _ _ _ _ _ _ us hl => match us, hl with | [_, _, _], _ => rfl
  exact ⟨_, _, _, _, _, _, fd, N38, _, F, sc38, rfl, ck38, .inl ⟨rfl, ⟨rfl, B, [], [], .nil, B, .nil⟩, fun k h => by cases h⟩⟩
theorem ck39 : ckSs inf N39 (defScope s39) f39.body (defBody s39) = true := by decide +kernel
theorem sc39 : FnScope N39 ["self"] (defScope s39) := ⟨rfl, rfl, rfl, by decide +kernel, rfl, by decide +kernel, by decide +kernel⟩
theorem d39 (c : obsQ chk defs K = valQ defs) : DefOk inf K ((st K).fad 39) f39 (ks 39) := by
  obtain ⟨fd, F⟩ := says_def c 36 rfl
  have B := F.bindsN (ps := ["self"]) fun _ _ _ _ _ _ us hl => match us, hl with | [_], _ => rfl
  exact ⟨_, _, _, _, _, _, fd, N39, _, F, sc39, rfl, ck39, .inl ⟨rfl, ⟨rfl, B, [], [], .nil, B, .nil⟩, fun k h => by cases h⟩⟩
theorem ck40 : ckSs inf N40 (defScope s40) f40.body (defBody s40) = true := by decide +kernel
theorem sc40 : FnScope N40 ["self"] (defScope s40) := ⟨rfl, rfl, rfl, by decide +kernel, rfl, by decide +kernel, by decide +kernel⟩
theorem d40 (c : obsQ chk defs K = valQ defs) : DefOk inf K ((st K).fad 40) f40 (ks 40) := by
  obtain ⟨fd, F⟩ := says_def c 37 rfl
  have B := F.bindsN (ps := ["self"]) fun _ _ _ _ _ _ us hl => match us, hl with | [_], _ => rfl
  exact ⟨_, _, _, _, _, _, fd, N40, _, F, sc40, rfl, ck40, .inl ⟨rfl, ⟨rfl, B, [], [], .nil, B, .nil⟩, fun k h => by cases h⟩⟩
theorem ck41 : ckSs inf N41 (defScope s41) f41.body (defBody s41) = true := by decide +kernel
theorem sc41 : FnScope N41 ["self", "other"] (defScope s41) := ⟨rfl, rfl, rfl, by decide +kernel, rfl, by decide +kernel, by decide +kernel⟩
theorem d41 (c : obsQ chk defs K = valQ defs) : DefOk inf K ((st K).fad 41) f41 (ks 41) := by
  obtain ⟨fd, F⟩ := says_def c 38 rfl
  have B := F.bindsN (ps := ["self", "other"]) fun _ _ _ _ _ _ us hl => match us, hl with | [_, _], _ => rfl
  exact ⟨_, _, _, _, _, _, fd, N41, _, F, sc41, rfl, ck41, .inl ⟨rfl, ⟨rfl, B, [], [], .nil, B, .nil⟩, fun k h => by cases h⟩⟩
theorem ck42 : ckSs inf N42 (defScope s42) f42.body (defBody s42) = true := by decide +kernel
theorem sc42 : FnScope N42 ["self"] (defScope s42) := ⟨rfl, rfl, rfl, by decide +kernel, rfl, by decide +kernel, by decide +kernel⟩
theorem d42 (c : obsQ chk defs K = valQ defs) : DefOk inf K ((st K).fad 42) f42 (ks 42) := by
  obtain ⟨fd, F⟩ := says_def c 39 rfl
  have B := F.bindsN (ps := ["self"]) fun _ _ _ _ _ _ us hl => match us, hl with | [_], _ => rfl
  exact ⟨_, _, _, _, _, _, fd, N42, _, F, sc42, rfl, ck42, .inl ⟨rfl, ⟨rfl, B, [], [], .nil, B, .nil⟩, fun k h => by cases h⟩⟩
theorem ck43 : ckSs inf N43 (defScope s43) f43.body (defBody s43) = true := by decide +kernel
theorem sc43 : FnScope N43 ["self"] (defScope s43) := ⟨rfl, rfl, rfl, by decide +kernel, rfl, by decide +kernel, by decide +kernel⟩
theorem d43 (c : obsQ chk defs K = valQ defs) : DefOk inf K ((st K).fad 43) f43 (ks 43) := by
  obtain ⟨fd, F⟩ := says_def c 40 rfl
  have B := F.bindsN (ps := ["self"]) fun _ _ _ _ _ _ us hl => match us, hl with | [_], _ => rfl
  exact ⟨_, _, _, _, _, _, fd, N43, _, F, sc43, rfl, ck43, .inl ⟨rfl, ⟨rfl, B, [], [], .nil, B, .nil⟩, fun k h => by cases h⟩⟩
theorem ck44 : ckSs inf N44 (defScope s44) f44.body (defBody s44) = true := by decide +kernel
theorem sc44 : FnScope N44 ["place", "trails"] (defScope s44) := ⟨rfl, rfl, rfl, by decide +kernel, rfl, by decide +kernel, by decide +kernel⟩
theorem d44 (c : obsQ chk defs K = valQ defs) : DefOk inf K ((st K).fad 44) f44 (ks 44) := by
  obtain ⟨fd, F⟩ := says_def c 41 rfl
  have B := F.bindsN (ps := ["place", "trails"]) fun _ _ _ _ _ _ us hl => match us, hl with | [_, _], _ => rfl
  exact ⟨_, _, _, _, _, _, fd, N44, _, F, sc44, rfl, ck44, .inl ⟨rfl, ⟨rfl, B, [], [], .nil, B, .nil⟩, fun k h => by cases h⟩⟩
theorem ck45 : ckSs inf N45 (defScope s45) f45.body (defBody s45) = true := by decide +kernel
theorem sc45 : FnScope N45 ["value"] (defScope s45) := ⟨rfl, rfl, rfl, by decide +kernel, rfl, by decide +kernel, by decide +kernel⟩
theorem d45 (c : obsQ chk defs K = valQ defs) : DefOk inf K ((st K).fad 45) f45 (ks 45) := by
  obtain ⟨fd, F⟩ := says_def c 42 rfl
  have B := F.bindsN (ps := ["value"]) fun _ _ _ _ _ _ us hl => match us, hl with | [_], _ => rfl
  exact ⟨_, _, _, _, _, _, fd, N45, _, F, sc45, rfl, ck45, .inl ⟨rfl, ⟨rfl, B, [], [], .nil, B, .nil⟩, fun k h => by cases h⟩⟩
theorem ck46 : ckSs inf N46 (defScope s46) f46.body (defBody s46) = true := by decide +kernel
theorem sc46 : FnScope N46 ["web"] (defScope s46) := ⟨rfl, rfl, rfl, by decide +kernel, rfl, by decide +kernel, by decide +kernel⟩
theorem d46 (c : obsQ chk defs K = valQ defs) : DefOk inf K ((st K).fad 46) f46 (ks 46) := by
  obtain ⟨fd, F⟩ := says_def c 43 rfl
  have B := F.bindsN (ps := ["web"]) fun _ _ _ _ _ _ us hl => match us, hl with | [_], _ => rfl
  exact ⟨_, _, _, _, _, _, fd, N46, _, F, sc46, rfl, ck46, .inl ⟨rfl, ⟨rfl, B, [], [], .nil, B, .nil⟩, fun k h => by cases h⟩⟩
theorem ck47 : ckSs inf N47 (defScope s47) f47.body (defBody s47) = true := by decide +kernel
theorem sc47 : FnScope N47 ["one", "other"] (defScope s47) := ⟨rfl, rfl, rfl, by decide +kernel, rfl, by decide +kernel, by decide +kernel⟩
theorem d47 (c : obsQ chk defs K = valQ defs) : DefOk inf K ((st K).fad 47) f47 (ks 47) := by
  obtain ⟨fd, F⟩ := says_def c 44 rfl
  have B := F.bindsN (ps := ["one", "other"]) fun _ _ _ _ _ _ us hl => match us, hl with | [_, _], _ => rfl
  exact ⟨_, _, _, _, _, _, fd, N47, _, F, sc47, rfl, ck47, .inl ⟨rfl, ⟨rfl, B, [], [], .nil, B, .nil⟩, fun k h => by cases h⟩⟩
theorem ck48 : ckSs inf N48 (defScope s48) f48.body (defBody s48) = true := by decide +kernel
theorem sc48 : FnScope N48 ["web"] (defScope s48) := ⟨rfl, rfl, rfl, by decide +kernel, rfl, by decide +kernel, by decide +kernel⟩
theorem d48 (c : obsQ chk defs K = valQ defs) : DefOk inf K ((st K).fad 48) f48 (ks 48) := by
  obtain ⟨fd, F⟩ := says_def c 45 rfl
  have B := F.bindsN (ps := ["web"]) fun _ _ _ _ _ _ us hl => match us, hl with | [_], _ => rfl
  exact ⟨_, _, _, _, _, _, fd, N48, _, F, sc48, rfl, ck48, .inl ⟨rfl, ⟨rfl, B, [], [], .nil, B, .nil⟩, fun k h => by cases h⟩⟩
theorem ck49 : ckSs inf N49 (defScope s49) f49.body (defBody s49) = true := by decide +kernel
theorem sc49 : FnScope N49 ["web"] (defScope s49) := ⟨rfl, rfl, rfl, by decide +kernel, rfl, by decide +kernel, by decide +kernel⟩
theorem d49 (c : obsQ chk defs K = valQ defs) : DefOk inf K ((st K).fad 49) f49 (ks 49) := by
  obtain ⟨fd, F⟩ := says_def c 46 rfl
  have B := F.bindsN (ps := ["web"]) fun _ _ _ _ _ _ us hl => match us, hl with | [_], _ => rfl
  exact ⟨_, _, _, _, _, _, fd, N49, _, F, sc49, rfl, ck49, .inl ⟨rfl, ⟨rfl, B, [], [], .nil, B, .nil⟩, fun k h => by cases h⟩⟩
theorem ck50 : ckSs inf N50 (defScope s50) f50.body (defBody s50) = true := by decide +kernel
theorem sc50 : FnScope N50 ["web", "lot"] (defScope s50) := ⟨rfl, rfl, rfl, by decide +kernel, rfl, by decide +kernel, by decide +kernel⟩
theorem d50 (c : obsQ chk defs K = valQ defs) : DefOk inf K ((st K).fad 50) f50 (ks 50) := by
  obtain ⟨fd, F⟩ := says_def c 47 rfl
  have B := F.bindsN (ps := ["web", "lot"]) fun _ _ _ _ _ _ us hl => match us, hl with | [_, _], _ => rfl
  exact ⟨_, _, _, _, _, _, fd, N50, _, F, sc50, rfl, ck50, .inl ⟨rfl, ⟨rfl, B, [], [], .nil, B, .nil⟩, fun k h => by cases h⟩⟩
theorem ck51 : ckSs inf N51 (defScope s51) f51.body (defBody s51) = true := by decide +kernel
theorem sc51 : FnScope N51 ["many"] (defScope s51) := ⟨rfl, rfl, rfl, by decide +kernel, rfl, by decide +kernel, by decide +kernel⟩
theorem d51 (c : obsQ chk defs K = valQ defs) : DefOk inf K ((st K).fad 51) f51 (ks 51) := by
  obtain ⟨fd, F⟩ := says_def c 48 rfl
  have B := F.bindsN (ps := ["many"]) fun _ _ _ _ _ _ us hl => match us, hl with | [_], _ => rfl
  exact ⟨_, _, _, _, _, _, fd, N51, _, F, sc51, rfl, ck51, .inl ⟨rfl, ⟨rfl, B, [], [], .nil, B, .nil⟩, fun k h => by cases h⟩⟩
theorem ck52 : ckSs inf N52 (defScope s52) f52.body (defBody s52) = true := by decide +kernel
theorem sc52 : FnScope N52 ["web"] (defScope s52) := ⟨rfl, rfl, rfl, by decide +kernel, rfl, by decide +kernel, by decide +kernel⟩
theorem d52 (c : obsQ chk defs K = valQ defs) : DefOk inf K ((st K).fad 52) f52 (ks 52) := by
  obtain ⟨fd, F⟩ := says_def c 49 rfl
  have B := F.bindsN (ps := ["web"]) fun _ _ _ _ _ _ us hl => match us, hl with | [_], _ => rfl
  exact ⟨_, _, _, _, _, _, fd, N52, _, F, sc52, rfl, ck52, .inl ⟨rfl, ⟨rfl, B, [], [], .nil, B, .nil⟩, fun k h => by cases h⟩⟩
theorem ck53 : ckSs inf N53 (defScope s53) f53.body (defBody s53) = true := by decide +kernel
theorem sc53 : FnScope N53 ["web", "value"] (defScope s53) := ⟨rfl, rfl, rfl, by decide +kernel, rfl, by decide +kernel, by decide +kernel⟩
theorem d53 (c : obsQ chk defs K = valQ defs) : DefOk inf K ((st K).fad 53) f53 (ks 53) := by
  obtain ⟨fd, F⟩ := says_def c 50 rfl
  have B := F.bindsN (ps := ["web", "value"]) fun _ _ _ _ _ _ us hl => match us, hl with | [_, _], _ => rfl
  exact ⟨_, _, _, _, _, _, fd, N53, _, F, sc53, rfl, ck53, .inl ⟨rfl, ⟨rfl, B, [], [], .nil, B, .nil⟩, fun k h => by cases h⟩⟩
theorem ck54 : ckSs inf N54 (defScope s54) f54.body (defBody s54) = true := by decide +kernel
theorem sc54 : FnScope N54 ["web", "first", "second"] (defScope s54) := ⟨rfl, rfl, rfl, by decide +kernel, rfl, by decide +kernel, by decide +kernel⟩
theorem d54 (c : obsQ chk defs K = valQ defs) : DefOk inf K ((st K).fad 54) f54 (ks 54) := by
  obtain ⟨fd, F⟩ := says_def c 51 rfl
  have B := F.bindsN (ps := ["web", "first", "second"]) fun _ _ _ _ _ _ us hl => match us, hl with | [_, _, _], _ => rfl
  exact ⟨_, _, _, _, _, _, fd, N54, _, F, sc54, rfl, ck54, .inl ⟨rfl, ⟨rfl, B, [], [], .nil, B, .nil⟩, fun k h => by cases h⟩⟩
theorem ck55 : ckSs inf N55 (defScope s55) f55.body (defBody s55) = true := by decide +kernel
theorem sc55 : FnScope N55 ["web", "walk"] (defScope s55) := ⟨rfl, rfl, rfl, by decide +kernel, rfl, by decide +kernel, by decide +kernel⟩
theorem d55 (c : obsQ chk defs K = valQ defs) : DefOk inf K ((st K).fad 55) f55 (ks 55) := by
  obtain ⟨fd, F⟩ := says_def c 52 rfl
  have B := F.bindsN (ps := ["web", "walk"]) fun _ _ _ _ _ _ us hl => match us, hl with | [_, _], _ => rfl
  exact ⟨_, _, _, _, _, _, fd, N55, _, F, sc55, rfl, ck55, .inl ⟨rfl, ⟨rfl, B, [], [], .nil, B, .nil⟩, fun k h => by cases h⟩⟩
theorem ck56 : ckSs inf N56 (defScope s56) f56.body (defBody s56) = true := by decide +kernel
theorem sc56 : FnScope N56 ["web", "place"] (defScope s56) := ⟨rfl, rfl, rfl, by decide +kernel, rfl, by decide +kernel, by decide +kernel⟩
theorem d56 (c : obsQ chk defs K = valQ defs) : DefOk inf K ((st K).fad 56) f56 (ks 56) := by
  obtain ⟨fd, F⟩ := says_def c 53 rfl
  have B := F.bindsN (ps := ["web", "place"]) fun _ _ _ _ _ _ us hl => match us, hl with | [_, _], _ => rfl
  exact ⟨_, _, _, _, _, _, fd, N56, _, F, sc56, rfl, ck56, .inl ⟨rfl, ⟨rfl, B, [], [], .nil, B, .nil⟩, fun k h => by cases h⟩⟩
theorem ck57 : ckSs inf N57 (defScope s57) f57.body (defBody s57) = true := by decide +kernel
theorem sc57 : FnScope N57 ["found", "place", "values"] (defScope s57) := ⟨rfl, rfl, rfl, by decide +kernel, rfl, by decide +kernel, by decide +kernel⟩
theorem d57 (c : obsQ chk defs K = valQ defs) : DefOk inf K ((st K).fad 57) f57 (ks 57) := by
  obtain ⟨fd, F⟩ := says_def c 54 rfl
  have B := F.bindsN (ps := ["found", "place", "values"]) fun _ _ _ _ _ _ us hl => match us, hl with | [_, _, _], _ => rfl
  exact ⟨_, _, _, _, _, _, fd, N57, _, F, sc57, rfl, ck57, .inl ⟨rfl, ⟨rfl, B, [], [], .nil, B, .nil⟩, fun k h => by cases h⟩⟩
theorem ck58 : ckSs inf N58 (defScope s58) f58.body (defBody s58) = true := by decide +kernel
theorem sc58 : FnScope N58 ["web", "some"] (defScope s58) := ⟨rfl, rfl, rfl, by decide +kernel, rfl, by decide +kernel, by decide +kernel⟩
theorem d58 (c : obsQ chk defs K = valQ defs) : DefOk inf K ((st K).fad 58) f58 (ks 58) := by
  obtain ⟨fd, F⟩ := says_def c 55 rfl
  have B := F.bindsN (ps := ["web", "some"]) fun _ _ _ _ _ _ us hl => match us, hl with | [_, _], _ => rfl
  exact ⟨_, _, _, _, _, _, fd, N58, _, F, sc58, rfl, ck58, .inl ⟨rfl, ⟨rfl, B, [], [], .nil, B, .nil⟩, fun k h => by cases h⟩⟩
theorem ck59 : ckSs inf N59 (defScope s59) f59.body (defBody s59) = true := by decide +kernel
theorem sc59 : FnScope N59 ["web", "reading"] (defScope s59) := ⟨rfl, rfl, rfl, by decide +kernel, rfl, by decide +kernel, by decide +kernel⟩
theorem d59 (c : obsQ chk defs K = valQ defs) : DefOk inf K ((st K).fad 59) f59 (ks 59) := by
  obtain ⟨fd, F⟩ := says_def c 56 rfl
  have B := F.bindsN (ps := ["web", "reading"]) fun _ _ _ _ _ _ us hl => match us, hl with | [_, _], _ => rfl
  exact ⟨_, _, _, _, _, _, fd, N59, _, F, sc59, rfl, ck59, .inl ⟨rfl, ⟨rfl, B, [], [], .nil, B, .nil⟩, fun k h => by cases h⟩⟩
theorem ck60 : ckSs inf N60 (defScope s60) f60.body (defBody s60) = true := by decide +kernel
theorem sc60 : FnScope N60 ["web", "some", "reading"] (defScope s60) := ⟨rfl, rfl, rfl, by decide +kernel, rfl, by decide +kernel, by decide +kernel⟩
theorem d60 (c : obsQ chk defs K = valQ defs) : DefOk inf K ((st K).fad 60) f60 (ks 60) := by
  obtain ⟨fd, F⟩ := says_def c 57 rfl
  have B := F.bindsN (ps := ["web", "some", "reading"]) fun _ _ _ _ _ _ us hl => match us, hl with | [_, _, _], _ => rfl
  exact ⟨_, _, _, _, _, _, fd, N60, _, F, sc60, rfl, ck60, .inl ⟨rfl, ⟨rfl, B, [], [], .nil, B, .nil⟩, fun k h => by cases h⟩⟩
theorem ck61 : ckSs inf N61 (defScope s61) f61.body (defBody s61) = true := by decide +kernel
theorem sc61 : FnScope N61 ["web", "readings"] (defScope s61) := ⟨rfl, rfl, rfl, by decide +kernel, rfl, by decide +kernel, by decide +kernel⟩
theorem d61 (c : obsQ chk defs K = valQ defs) : DefOk inf K ((st K).fad 61) f61 (ks 61) := by
  obtain ⟨fd, F⟩ := says_def c 58 rfl
  have B := F.bindsN (ps := ["web", "readings"]) fun _ _ _ _ _ _ us hl => match us, hl with | [_, _], _ => rfl
  exact ⟨_, _, _, _, _, _, fd, N61, _, F, sc61, rfl, ck61, .inl ⟨rfl, ⟨rfl, B, [], [], .nil, B, .nil⟩, fun k h => by cases h⟩⟩
theorem ck62 : ckSs inf N62 (defScope s62) f62.body (defBody s62) = true := by decide +kernel
theorem sc62 : FnScope N62 ["web", "some"] (defScope s62) := ⟨rfl, rfl, rfl, by decide +kernel, rfl, by decide +kernel, by decide +kernel⟩
theorem d62 (c : obsQ chk defs K = valQ defs) : DefOk inf K ((st K).fad 62) f62 (ks 62) := by
  obtain ⟨fd, F⟩ := says_def c 59 rfl
  have B := F.bindsN (ps := ["web", "some"]) fun _ _ _ _ _ _ us hl => match us, hl with | [_, _], _ => rfl
  exact ⟨_, _, _, _, _, _, fd, N62, _, F, sc62, rfl, ck62, .inl ⟨rfl, ⟨rfl, B, [], [], .nil, B, .nil⟩, fun k h => by cases h⟩⟩
theorem ck63 : ckSs inf N63 (defScope s63) f63.body (defBody s63) = true := by decide +kernel
theorem sc63 : FnScope N63 ["lot"] (defScope s63) := ⟨rfl, rfl, rfl, by decide +kernel, rfl, by decide +kernel, by decide +kernel⟩
theorem d63 (c : obsQ chk defs K = valQ defs) : DefOk inf K ((st K).fad 63) f63 (ks 63) := by
  obtain ⟨fd, F⟩ := says_def c 60 rfl
  have B := F.bindsN (ps := ["lot"]) fun _ _ _ _ _ _ us hl => match us, hl with | [_], _ => rfl
  exact ⟨_, _, _, _, _, _, fd, N63, _, F, sc63, rfl, ck63, .inl ⟨rfl, ⟨rfl, B, [], [], .nil, B, .nil⟩, fun k h => by cases h⟩⟩
theorem ck64 : ckSs inf N64 (defScope s64) f64.body (defBody s64) = true := by decide +kernel
theorem sc64 : FnScope N64 ["self", "web"] (defScope s64) := ⟨rfl, rfl, rfl, by decide +kernel, rfl, by decide +kernel, by decide +kernel⟩
theorem d64 (c : obsQ chk defs K = valQ defs) : DefOk inf K ((st K).fad 64) f64 (ks 64) := by
  obtain ⟨fd, F⟩ := says_def c 61 rfl
  have B := F.bindsN (ps := ["self", "web"]) fun _ _ _ _ _ _ us hl => match us, hl with | [_, _], _ => rfl
  exact ⟨_, _, _, _, _, _, fd, N64, _, F, sc64, rfl, ck64, .inl ⟨rfl, ⟨rfl, B, [], [], .nil, B, .nil⟩, fun k h => by cases h⟩⟩
theorem ck65 : ckSs inf N65 (defScope s65) f65.body (defBody s65) = true := by decide +kernel
theorem sc65 : FnScope N65 ["self"] (defScope s65) := ⟨rfl, rfl, rfl, by decide +kernel, rfl, by decide +kernel, by decide +kernel⟩
theorem d65 (c : obsQ chk defs K = valQ defs) : DefOk inf K ((st K).fad 65) f65 (ks 65) := by
  obtain ⟨fd, F⟩ := says_def c 62 rfl
  have B := F.bindsN (ps := ["self"]) fun _ _ _ _ _ _ us hl => match us, hl with | [_], _ => rfl
  exact ⟨_, _, _, _, _, _, fd, N65, _, F, sc65, rfl, ck65, .inl ⟨rfl, ⟨rfl, B, [], [], .nil, B, .nil⟩, fun k h => by cases h⟩⟩
theorem ck66 : ckSs inf N66 (defScope s66) f66.body (defBody s66) = true := by decide +kernel
theorem sc66 : FnScope N66 ["self", "line"] (defScope s66) := ⟨rfl, rfl, rfl, by decide +kernel, rfl, by decide +kernel, by decide +kernel⟩
theorem d66 (c : obsQ chk defs K = valQ defs) : DefOk inf K ((st K).fad 66) f66 (ks 66) := by
  obtain ⟨fd, F⟩ := says_def c 63 rfl
  have B := F.bindsN (ps := ["self", "line"]) fun _ _ _ _ _ _ us hl => match us, hl with | [_, _], _ => rfl
  have BK : ∀ k ∈ ks 66, BindK K fd ["self", "line"] k := by
    intro k hk
    have hk : k ∈ [("line" : Str)] := hk
    obtain ⟨oc, od, dV, kV, doc, pm, an, cdv, ct, osl, rfl, lk0, hcd, hD, _⟩ := id F.ex
    have e0 : dV = .none := by
      rcases hD with ⟨_, z⟩ | ⟨z, _⟩
      · exact z
      · exact absurd rfl z
    subst e0
    simp only [List.mem_cons, List.not_mem_nil, or_false] at hk
    subst hk
    exact ⟨rfl, fun s u u2 _ => BindsTo.of_eq (by rfl)⟩
  exact ⟨_, _, _, _, _, _, fd, N66, _, F, sc66, rfl, ck66, .inl ⟨rfl, ⟨rfl, B, [], [], .nil, B, .nil⟩, BK⟩⟩
theorem ck67 : ckSs inf N67 (defScope s67) f67.body (defBody s67) = true := by decide +kernel
theorem sc67 : FnScope N67 ["self", "word"] (defScope s67) := ⟨rfl, rfl, rfl, by decide +kernel, rfl, by decide +kernel, by decide +kernel⟩
theorem d67 (c : obsQ chk defs K = valQ defs) : DefOk inf K ((st K).fad 67) f67 (ks 67) := by
  obtain ⟨fd, F⟩ := says_def c 64 rfl
  have B := F.bindsN (ps := ["self", "word"]) fun _ _ _ _ _ _ us hl => match us, hl with | [_, _], _ => rfl
  exact ⟨_, _, _, _, _, _, fd, N67, _, F, sc67, rfl, ck67, .inl ⟨rfl, ⟨rfl, B, [], [], .nil, B, .nil⟩, fun k h => by cases h⟩⟩
theorem ck68 : ckSs inf N68 (defScope s68) f68.body (defBody s68) = true := by decide +kernel
theorem sc68 : FnScope N68 ["self", "word", "rest"] (defScope s68) := ⟨rfl, rfl, rfl, by decide +kernel, rfl, by decide +kernel, by decide +kernel⟩
theorem d68 (c : obsQ chk defs K = valQ defs) : DefOk inf K ((st K).fad 68) f68 (ks 68) := by
  obtain ⟨fd, F⟩ := says_def c 65 rfl
  have B := F.bindsN (ps := ["self", "word", "rest"]) fun _ _ _ _ _ _ us hl => match us, hl with | [_, _, _], _ => rfl
  exact ⟨_, _, _, _, _, _, fd, N68, _, F, sc68, rfl, ck68, .inl ⟨rfl, ⟨rfl, B, [], [], .nil, B, .nil⟩, fun k h => by cases h⟩⟩
theorem ck69 : ckSs inf N69 (defScope s69) f69.body (defBody s69) = true := by decide +kernel
theorem sc69 : FnScope N69 ["self", "walk"] (defScope s69) := ⟨rfl, rfl, rfl, by decide +kernel, rfl, by decide +kernel, by decide +kernel⟩
theorem d69 (c : obsQ chk defs K = valQ defs) : DefOk inf K ((st K).fad 69) f69 (ks 69) := by
  obtain ⟨fd, F⟩ := says_def c 66 rfl
  have B := F.bindsN (ps := ["self", "walk"]) fun _ _ _ _ _ _ us hl => match us, hl with | [_, _], _ => rfl
  exact ⟨_, _, _, _, _, _, fd, N69, _, F, sc69, rfl, ck69, .inl ⟨rfl, ⟨rfl, B, [], [], .nil, B, .nil⟩, fun k h => by cases h⟩⟩
theorem ck70 : ckSs inf N70 (defScope s70) f70.body (defBody s70) = true := by decide +kernel
theorem sc70 : FnScope N70 ["self", "readings"] (defScope s70) := ⟨rfl, rfl, rfl, by decide +kernel, rfl, by decide +kernel, by decide +kernel⟩
theorem d70 (c : obsQ chk defs K = valQ defs) : DefOk inf K ((st K).fad 70) f70 (ks 70) := by
  obtain ⟨fd, F⟩ := says_def c 67 rfl
  have B := F.bindsN (ps := ["self", "readings"]) fun _ _ _ _ _ _ us hl => match us, hl with | [_, _], _ => rfl
  exact ⟨_, _, _, _, _, _, fd, N70, _, F, sc70, rfl, ck70, .inl ⟨rfl, ⟨rfl, B, [], [], .nil, B, .nil⟩, fun k h => by cases h⟩⟩
theorem ck71 : ckSs inf N71 (defScope s71) f71.body (defBody s71) = true := by decide +kernel
theorem sc71 : FnScope N71 ["_law_cells", "_law_k"] (defScope s71) := ⟨rfl, rfl, rfl, by decide +kernel, rfl, by decide +kernel, by decide +kernel⟩
theorem d71 (c : obsQ chk defs K = valQ defs) : DefOk inf K ((st K).fad 71) f71 (ks 71) := by
  obtain ⟨fd, F⟩ := says_def c 68 rfl
  have B := F.bindsN (ps := ["_law_cells", "_law_k"]) fun _ _ _ _ _ _ us hl => match us, hl with | [_, _], _ => rfl
  exact ⟨_, _, _, _, _, _, fd, N71, _, F, sc71, rfl, ck71, .inl ⟨rfl, ⟨rfl, B, [], [], .nil, B, .nil⟩, fun k h => by cases h⟩⟩
theorem ck72 : ckSs inf N72 (defScope s72) f72.body (defBody s72) = true := by decide +kernel
theorem sc72 : FnScope N72 ["_law_spring_here", "_law_size"] (defScope s72) := ⟨rfl, rfl, rfl, by decide +kernel, rfl, by decide +kernel, by decide +kernel⟩
theorem d72 (c : obsQ chk defs K = valQ defs) : DefOk inf K ((st K).fad 72) f72 (ks 72) := by
  obtain ⟨fd, F⟩ := says_def c 69 rfl
  have B := F.bindsN (ps := ["_law_spring_here", "_law_size"]) fun _ _ _ _ _ _ us hl => match us, hl with | [_, _], _ => rfl
  exact ⟨_, _, _, _, _, _, fd, N72, _, F, sc72, rfl, ck72, .inl ⟨rfl, ⟨rfl, B, [], [], .nil, B, .nil⟩, fun k h => by cases h⟩⟩
theorem ck73 : ckSs inf N73 (defScope s73) f73.body (defBody s73) = true := by decide +kernel
theorem sc73 : FnScope N73 ["_law_spring_here", "_law_menu"] (defScope s73) := ⟨rfl, rfl, rfl, by decide +kernel, rfl, by decide +kernel, by decide +kernel⟩
theorem d73 (c : obsQ chk defs K = valQ defs) : DefOk inf K ((st K).fad 73) f73 (ks 73) := by
  obtain ⟨fd, F⟩ := says_def c 70 rfl
  have B := F.bindsN (ps := ["_law_spring_here", "_law_menu"]) fun _ _ _ _ _ _ us hl => match us, hl with | [_, _], _ => rfl
  exact ⟨_, _, _, _, _, _, fd, N73, _, F, sc73, rfl, ck73, .inl ⟨rfl, ⟨rfl, B, [], [], .nil, B, .nil⟩, fun k h => by cases h⟩⟩
theorem ck74 : ckSs inf N74 (defScope s74) f74.body (defBody s74) = true := by decide +kernel
theorem sc74 : FnScope N74 ["_law_rows_now"] (defScope s74) := ⟨rfl, rfl, rfl, by decide +kernel, rfl, by decide +kernel, by decide +kernel⟩
theorem d74 (c : obsQ chk defs K = valQ defs) : DefOk inf K ((st K).fad 74) f74 (ks 74) := by
  obtain ⟨fd, F⟩ := says_def c 71 rfl
  have B := F.bindsN (ps := ["_law_rows_now"]) fun _ _ _ _ _ _ us hl => match us, hl with | [_], _ => rfl
  exact ⟨_, _, _, _, _, _, fd, N74, _, F, sc74, rfl, ck74, .inl ⟨rfl, ⟨rfl, B, [], [], .nil, B, .nil⟩, fun k h => by cases h⟩⟩
theorem ck75 : ckSs inf N75 (defScope s75) f75.body (defBody s75) = true := by decide +kernel
theorem sc75 : FnScope N75 [] (defScope s75) := ⟨rfl, rfl, rfl, by decide +kernel, rfl, by decide +kernel, by decide +kernel⟩
theorem d75 (c : obsQ chk defs K = valQ defs) : DefOk inf K ((st K).fad 75) f75 (ks 75) := by
  obtain ⟨fd, F⟩ := says_def c 72 rfl
  have B := F.bindsN (ps := []) fun _ _ _ _ _ _ us hl => match us, hl with | [], _ => rfl
  exact ⟨_, _, _, _, _, _, fd, N75, _, F, sc75, rfl, ck75, .inl ⟨rfl, ⟨rfl, B, [], [], .nil, B, .nil⟩, fun k h => by cases h⟩⟩
theorem ck76 : ckSs inf N76 (defScope s76) f76.body (defBody s76) = true := by decide +kernel
theorem sc76 : FnScope N76 [] (defScope s76) := ⟨rfl, rfl, rfl, by decide +kernel, rfl, by decide +kernel, by decide +kernel⟩
theorem d76 (c : obsQ chk defs K = valQ defs) : DefOk inf K ((st K).fad 76) f76 (ks 76) := by
  obtain ⟨fd, F⟩ := says_def c 73 rfl
  have B := F.bindsN (ps := []) fun _ _ _ _ _ _ us hl => match us, hl with | [], _ => rfl
  exact ⟨_, _, _, _, _, _, fd, N76, _, F, sc76, rfl, ck76, .inl ⟨rfl, ⟨rfl, B, [], [], .nil, B, .nil⟩, fun k h => by cases h⟩⟩
theorem ck77 : ckSs inf N77 (defScope s77) f77.body (defBody s77) = true := by decide +kernel
theorem sc77 : FnScope N77 [] (defScope s77) := ⟨rfl, rfl, rfl, by decide +kernel, rfl, by decide +kernel, by decide +kernel⟩
theorem d77 (c : obsQ chk defs K = valQ defs) : DefOk inf K ((st K).fad 77) f77 (ks 77) := by
  obtain ⟨fd, F⟩ := says_def c 74 rfl
  have B := F.bindsN (ps := []) fun _ _ _ _ _ _ us hl => match us, hl with | [], _ => rfl
  exact ⟨_, _, _, _, _, _, fd, N77, _, F, sc77, rfl, ck77, .inl ⟨rfl, ⟨rfl, B, [], [], .nil, B, .nil⟩, fun k h => by cases h⟩⟩
theorem ck78 : ckSs inf N78 (defScope s78) f78.body (defBody s78) = true := by decide +kernel
theorem sc78 : FnScope N78 ["_law_here", "_law_pairs"] (defScope s78) := ⟨rfl, rfl, rfl, by decide +kernel, rfl, by decide +kernel, by decide +kernel⟩
theorem d78 (c : obsQ chk defs K = valQ defs) : DefOk inf K ((st K).fad 78) f78 (ks 78) := by
  obtain ⟨fd, F⟩ := says_def c 75 rfl
  have B := F.bindsN (ps := ["_law_here", "_law_pairs"]) fun _ _ _ _ _ _ us hl => match us, hl with | [_, _], _ => rfl
  exact ⟨_, _, _, _, _, _, fd, N78, _, F, sc78, rfl, ck78, .inl ⟨rfl, ⟨rfl, B, [], [], .nil, B, .nil⟩, fun k h => by cases h⟩⟩
theorem ck79 : ckSs inf N79 (defScope s79) f79.body (defBody s79) = true := by decide +kernel
theorem sc79 : FnScope N79 [] (defScope s79) := ⟨rfl, rfl, rfl, by decide +kernel, rfl, by decide +kernel, by decide +kernel⟩
theorem d79 (c : obsQ chk defs K = valQ defs) : DefOk inf K ((st K).fad 79) f79 (ks 79) := by
  obtain ⟨fd, F⟩ := says_def c 76 rfl
  have B := F.bindsN (ps := []) fun _ _ _ _ _ _ us hl => match us, hl with | [], _ => rfl
  exact ⟨_, _, _, _, _, _, fd, N79, _, F, sc79, rfl, ck79, .inl ⟨rfl, ⟨rfl, B, [], [], .nil, B, .nil⟩, fun k h => by cases h⟩⟩
theorem ck80 : ckSs inf N80 (defScope s80) f80.body (defBody s80) = true := by decide +kernel
theorem sc80 : FnScope N80 ["_law_spring_here"] (defScope s80) := ⟨rfl, rfl, rfl, by decide +kernel, rfl, by decide +kernel, by decide +kernel⟩
theorem d80 (c : obsQ chk defs K = valQ defs) : DefOk inf K ((st K).fad 80) f80 (ks 80) := by
  obtain ⟨fd, F⟩ := says_def c 77 rfl
  have B := F.bindsN (ps := ["_law_spring_here"]) fun _ _ _ _ _ _ us hl => match us, hl with | [_], _ => rfl
  exact ⟨_, _, _, _, _, _, fd, N80, _, F, sc80, rfl, ck80, .inl ⟨rfl, ⟨rfl, B, [], [], .nil, B, .nil⟩, fun k h => by cases h⟩⟩
theorem ck81 : ckSs inf N81 (defScope s81) f81.body (defBody s81) = true := by decide +kernel
theorem sc81 : FnScope N81 ["_law_cells"] (defScope s81) := ⟨rfl, rfl, rfl, by decide +kernel, rfl, by decide +kernel, by decide +kernel⟩
theorem d81 (c : obsQ chk defs K = valQ defs) : DefOk inf K ((st K).fad 81) f81 (ks 81) := by
  obtain ⟨fd, F⟩ := says_def c 78 rfl
  have B := F.bindsN (ps := ["_law_cells"]) fun _ _ _ _ _ _ us hl => match us, hl with | [_], _ => rfl
  exact ⟨_, _, _, _, _, _, fd, N81, _, F, sc81, rfl, ck81, .inl ⟨rfl, ⟨rfl, B, [], [], .nil, B, .nil⟩, fun k h => by cases h⟩⟩
end
theorem all_f {K : PySem.W.Frag} (c : obsQ chk defs K = valQ defs) : ∀ i fn, prog.fns.get i = some fn → DefOk inf K ((st K).fad i) fn (ks i) :=
  Tr.all_get (q := fun i fn => DefOk inf K ((st K).fad i) fn (ks i)) (And.intro (fun a h => by cases h; exact d0 c) (And.intro (And.intro (fun a h => by cases h; exact d1 c) (And.intro (And.intro (fun a h => by cases h; exact d3 c) (And.intro (And.intro (fun a h => by cases h; exact d7 c) (And.intro (And.intro (fun a h => by cases h) (And.intro (And.intro (fun a h => by cases h; exact d31 c) (And.intro (And.intro (fun a h => by cases h; exact d63 c) (And.intro True.intro True.intro)) True.intro)) (And.intro (fun a h => by cases h; exact d47 c) (And.intro (And.intro (fun a h => by cases h; exact d79 c) (And.intro True.intro True.intro)) True.intro)))) (And.intro (fun a h => by cases h; exact d23 c) (And.intro (And.intro (fun a h => by cases h; exact d39 c) (And.intro (And.intro (fun a h => by cases h; exact d71 c) (And.intro True.intro True.intro)) True.intro)) (And.intro (fun a h => by cases h; exact d55 c) (And.intro True.intro True.intro)))))) (And.intro (fun a h => by cases h; exact d11 c) (And.intro (And.intro (fun a h => by cases h; exact d19 c) (And.intro (And.intro (fun a h => by cases h; exact d35 c) (And.intro (And.intro (fun a h => by cases h; exact d67 c) (And.intro True.intro True.intro)) True.intro)) (And.intro (fun a h => by cases h; exact d51 c) (And.intro True.intro True.intro)))) (And.intro (fun a h => by cases h; exact d27 c) (And.intro (And.intro (fun a h => by cases h; exact d43 c) (And.intro (And.intro (fun a h => by cases h; exact d75 c) (And.intro True.intro True.intro)) True.intro)) (And.intro (fun a h => by cases h; exact d59 c) (And.intro True.intro True.intro)))))))) (And.intro (fun a h => by cases h; exact d5 c) (And.intro (And.intro (fun a h => by cases h; exact d9 c) (And.intro (And.intro (fun a h => by cases h; exact d17 c) (And.intro (And.intro (fun a h => by cases h; exact d33 c) (And.intro (And.intro (fun a h => by cases h; exact d65 c) (And.intro True.intro True.intro)) True.intro)) (And.intro (fun a h => by cases h; exact d49 c) (And.intro (And.intro (fun a h => by cases h; exact d81 c) (And.intro True.intro True.intro)) True.intro)))) (And.intro (fun a h => by cases h; exact d25 c) (And.intro (And.intro (fun a h => by cases h; exact d41 c) (And.intro (And.intro (fun a h => by cases h; exact d73 c) (And.intro True.intro True.intro)) True.intro)) (And.intro (fun a h => by cases h; exact d57 c) (And.intro True.intro True.intro)))))) (And.intro (fun a h => by cases h) (And.intro (And.intro (fun a h => by cases h; exact d21 c) (And.intro (And.intro (fun a h => by cases h; exact d37 c) (And.intro (And.intro (fun a h => by cases h; exact d69 c) (And.intro True.intro True.intro)) True.intro)) (And.intro (fun a h => by cases h; exact d53 c) (And.intro True.intro True.intro)))) (And.intro (fun a h => by cases h) (And.intro (And.intro (fun a h => by cases h; exact d45 c) (And.intro (And.intro (fun a h => by cases h; exact d77 c) (And.intro True.intro True.intro)) True.intro)) (And.intro (fun a h => by cases h; exact d61 c) (And.intro True.intro True.intro)))))))))) (And.intro (fun a h => by cases h; exact d2 c) (And.intro (And.intro (fun a h => by cases h; exact d4 c) (And.intro (And.intro (fun a h => by cases h; exact d8 c) (And.intro (And.intro (fun a h => by cases h; exact d16 c) (And.intro (And.intro (fun a h => by cases h; exact d32 c) (And.intro (And.intro (fun a h => by cases h; exact d64 c) (And.intro True.intro True.intro)) True.intro)) (And.intro (fun a h => by cases h; exact d48 c) (And.intro (And.intro (fun a h => by cases h; exact d80 c) (And.intro True.intro True.intro)) True.intro)))) (And.intro (fun a h => by cases h; exact d24 c) (And.intro (And.intro (fun a h => by cases h; exact d40 c) (And.intro (And.intro (fun a h => by cases h; exact d72 c) (And.intro True.intro True.intro)) True.intro)) (And.intro (fun a h => by cases h; exact d56 c) (And.intro True.intro True.intro)))))) (And.intro (fun a h => by cases h; exact d12 c) (And.intro (And.intro (fun a h => by cases h; exact d20 c) (And.intro (And.intro (fun a h => by cases h; exact d36 c) (And.intro (And.intro (fun a h => by cases h; exact d68 c) (And.intro True.intro True.intro)) True.intro)) (And.intro (fun a h => by cases h; exact d52 c) (And.intro True.intro True.intro)))) (And.intro (fun a h => by cases h; exact d28 c) (And.intro (And.intro (fun a h => by cases h; exact d44 c) (And.intro (And.intro (fun a h => by cases h; exact d76 c) (And.intro True.intro True.intro)) True.intro)) (And.intro (fun a h => by cases h; exact d60 c) (And.intro True.intro True.intro)))))))) (And.intro (fun a h => by cases h; exact d6 c) (And.intro (And.intro (fun a h => by cases h; exact d10 c) (And.intro (And.intro (fun a h => by cases h; exact d18 c) (And.intro (And.intro (fun a h => by cases h; exact d34 c) (And.intro (And.intro (fun a h => by cases h; exact d66 c) (And.intro True.intro True.intro)) True.intro)) (And.intro (fun a h => by cases h; exact d50 c) (And.intro True.intro True.intro)))) (And.intro (fun a h => by cases h; exact d26 c) (And.intro (And.intro (fun a h => by cases h; exact d42 c) (And.intro (And.intro (fun a h => by cases h; exact d74 c) (And.intro True.intro True.intro)) True.intro)) (And.intro (fun a h => by cases h; exact d58 c) (And.intro True.intro True.intro)))))) (And.intro (fun a h => by cases h) (And.intro (And.intro (fun a h => by cases h; exact d22 c) (And.intro (And.intro (fun a h => by cases h; exact d38 c) (And.intro (And.intro (fun a h => by cases h; exact d70 c) (And.intro True.intro True.intro)) True.intro)) (And.intro (fun a h => by cases h; exact d54 c) (And.intro True.intro True.intro)))) (And.intro (fun a h => by cases h; exact d30 c) (And.intro (And.intro (fun a h => by cases h; exact d46 c) (And.intro (And.intro (fun a h => by cases h; exact d78 c) (And.intro True.intro True.intro)) True.intro)) (And.intro (fun a h => by cases h; exact d62 c) (And.intro True.intro True.intro))))))))))))
theorem all_c {K : PySem.W.Frag} (c : obsQ chk defs K = valQ defs) : ∀ i fn, prog.cms.get i = some fn → DefOkC inf K ((st K).fad i) fn :=
  Tr.all_get (q := fun i fn => DefOkC inf K ((st K).fad i) fn) (And.intro (fun a h => by cases h) (And.intro (And.intro (fun a h => by cases h) (And.intro True.intro (And.intro (fun a h => by cases h) (And.intro True.intro (And.intro (fun a h => by cases h) (And.intro True.intro (And.intro (fun a h => by cases h; exact d29 c) (And.intro True.intro True.intro)))))))) True.intro))
def loose : List Str := (["_wall", "Side", "steps_from", "begin_pairs", "Part", "parts_of", "live_parts", "walk_in", "walks_in", "unlike_in", "error_in", "error_of", "WrongValue", "InvalidText", "NotAWeb", "InvalidRows", "MOST_SENSORS", "MOST_PLACES", "MOST_WAYS", "MOST_COUNTED", "FIGURES", "LETTERS", "SENSORS", "PLACES", "WAYS", "BEGUN", "DONE", "is_integer", "is_between", "number_in"] : List Str) ++ (["signed_in", "is_reading", "Reading", "read_rows", "Web", "near_of", "check_web", "is_right_of", "unlike_of", "onward", "drift_part", "error_with", "all_lots", "least_of", "goes", "counted", "count_of", "silent_from", "put_in", "settled", "first_counts", "next_counts", "counts_by_place", "counts_of", "NONE", "lot_said", "Console", "_law_spring", "_law_draw", "_law_of"] : List Str) ++ (["_law_made", "_law_gate_rows", "_law_short_rows", "_law_twins_rows", "_law_all_so", "_law_known_ones", "_law_right"] : List Str)
def lawAt : Nat := 75
end
end K64

set_option Elab.async false
set_option linter.all false
set_option maxRecDepth 1000000
set_option maxHeartbeats 0
/-! The top's run, and the statement. -/
namespace K64
noncomputable section
open Q PySem L2 PySem.Spec PyProof.Rows
abbrev R0 : PySem.W.OpenRow := PySem.W.OpenLaw.row PySem.Challenge.rw_loopquads_k64_consoles_by_hand
abbrev hk : PySem.W.Hook := hookQ 5 chk defs
def ob (s : PySem.W.SharedT) : AlQ := obsQG 5 chk defs (HandSHeadRun.getT s)
theorem ob_eq (s : PySem.W.SharedT) : ob s = hk.obs s.abs := obsQG_eq (HandSHeadRun.getT_eq s)
theorem run_top (w : World) : HandSHeadRun.RunEq R0 (PySem.W.view R0.prog [75]) hk ob 20000 loose w := by
  intro os
  kernel_rfl
end
end K64
set_option Elab.async false
set_option linter.all false
set_option maxRecDepth 1000000
set_option maxHeartbeats 4000000
/-! The law's own draws, for any whole numbers in the spring. -/
namespace Q
noncomputable section
section
variable {a b e : XE} {as : XA} {s r : XS} {lk : List Nat} {ls ls1 : Sl} {C C1 C2 C3 C4 : Hq} {x y d : D} {i : Nat} {o : BO}
theorem q_var (h : getV ls i = some d) : xvar i lk ls C = .ok (d, C) := by
  unfold xvar
  rw [h]
  rfl
theorem q_con : xcon d lk ls C = .ok (d, C) := rfl
theorem q_bin {q : D × Hq} (h1 : a lk ls C = .ok (x, C1)) (h2 : b lk ls C1 = .ok (y, C2)) (h3 : binD o lk x y C2 = some q) : xbin o a b lk ls C = .ok q := by
  unfold xbin
  rw [h1, R.bind_ok, h2, R.bind_ok, h3]
  rfl
theorem q_idx (h1 : a lk ls C = .ok (x, C1)) (h2 : b lk ls C1 = .ok (y, C2)) (h3 : idxD lk x y C2 = some d) : xidx a b lk ls C = .ok (d, C2) := by
  unfold xidx
  rw [h1, R.bind_ok, h2, R.bind_ok, h3]
  rfl
theorem q_int {j : Int} (h1 : a lk ls C = .ok (.int j, C1)) : xbi .int (xcons a xnil) lk ls C = .ok (.int j, C1) := by
  unfold xbi xcons
  rw [h1]
  rfl
theorem q_bi1 {f : BI} {q : D × Hq} (h1 : a lk ls C = .ok (x, C1)) (h2 : biD f [x] C1 = some q) : xbi f (xcons a xnil) lk ls C = .ok q := by
  unfold xbi xcons
  rw [h1]
  show R.of (biD f [x] C1) = _
  rw [h2]
  rfl
theorem q_bi2 {f : BI} {q : D × Hq} (h1 : a lk ls C = .ok (x, C1)) (h2 : b lk ls C1 = .ok (y, C2)) (h3 : biD f [x, y] C2 = some q) : xbi f (xcons a (xcons b xnil)) lk ls C = .ok q := by
  unfold xbi
  show (((a lk ls C).bind fun x => ((b lk ls x.2).bind fun y => R.ok ([y.1], y.2)).bind fun y => .ok (x.1 :: y.1, y.2)).bind fun x => R.of (biD f x.1 x.2)) = _
  rw [h1, R.bind_ok, h2]
  show R.of (biD f [x, y] C2) = _
  rw [h3]
  rfl
theorem q_cmp {op : KO} {k : Bool} (h1 : a lk ls C = .ok (x, C1)) (h2 : b lk ls C1 = .ok (y, C2)) (h3 : cmpD op lk x y C2 = some k) : xcmp op a b lk ls C = .ok (.bl k, C2) := by
  unfold xcmp
  rw [h1, R.bind_ok, h2, R.bind_ok, h3]
  rfl
theorem q_asub (h1 : e lk ls C = .ok (d, C1)) (h2 : a lk ls C1 = .ok (x, C2)) (h3 : b lk ls C2 = .ok (y, C3)) (h4 : setSub lk x y d C3 = some C4) : xasg (xtsub a b) e lk ls C = .ok (.nx, ls, C4) := by
  unfold xasg xtsub
  rw [h1, R.bind_ok]
  show ((a lk ls C1).bind _).bind _ = _
  rw [h2, R.bind_ok, h3, R.bind_ok, h4]
  rfl
theorem q_aone (h1 : e lk ls C = .ok (d, C1)) : xasg (xtone i) e lk ls C = .ok (.nx, setV ls i d, C1) := by
  unfold xasg xtone
  rw [h1]
  rfl
theorem q_seq {q : R (Fl × Sl × Hq)} (h1 : s lk ls C = .ok (.nx, ls1, C1)) (h2 : r lk ls1 C1 = q) : xscons s r lk ls C = q := by
  unfold xscons
  rw [h1]
  exact h2
theorem q_ret (h1 : e lk ls C = .ok (d, C1)) : xscons (xret e) r lk ls C = .ok (.rt d, ls, C1) := by
  unfold xscons xret
  rw [h1]
  rfl
theorem q_rt (h1 : s lk ls C = .ok (.rt d, ls1, C1)) : xscons s r lk ls C = .ok (.rt d, ls1, C1) := by
  unfold xscons
  rw [h1]
  rfl
theorem q_if {k : Bool} {f : XS} (h1 : e lk ls C = .ok (.bl k, C1)) : xifs e s f lk ls C = if k then s lk ls C1 else f lk ls C1 := by
  unfold xifs
  rw [h1]
  rfl
theorem idx_lst {l : Nat} {xs : List D} {j : Int} (h : C.get l = some (.lst xs)) (h2 : atOf xs j = some d) : idxD lk (.loc l) (.int j) C = some d := by
  show (match C.get l with
    | some (.lst xs) => atOf xs j
    | some (.dic kvs) => if kfit lk l kvs (.int j) then dget kvs (.int j) else none
    | _ => none) = _
  rw [h]
  exact h2
theorem q_asm2 {d1 d2 : D} (h1 : e lk ls C = .ok (.tup [d1, d2], C1)) (h2 : a lk ls C1 = .ok (x, C2)) (h3 : b lk ls C2 = .ok (y, C3)) (h4 : setSub lk x y d1 C3 = some C4) : xasm (xtcons (xtsub a b) (xtcons (xtone i) xtnil)) e lk ls C = .ok (.nx, setV ls i d2, C4) := by
  unfold xasm
  rw [h1, R.bind_ok]
  show ((((a lk ls C1).bind fun x => (b lk ls x.2).bind fun y => (R.of (setSub lk x.1 y.1 d1 y.2)).bind fun C' => .ok (ls, C')).bind fun r => R.ok (setV r.1 i d2, r.2))).bind (fun r => R.ok (Fl.nx, r.1, r.2)) = _
  rw [h2, R.bind_ok, h3, R.bind_ok, h4]
  rfl
theorem set_lst {l k : Nat} {xs : List D} {j : Int} (h : C.get l = some (.lst xs)) (h2 : atN j xs.length = some k) : setSub [] (.loc l) (.int j) d C = some (C.set l (.lst (xs.set k d))) := by
  unfold setSub
  show (match C.get l with
    | some (.lst xs) => (atN j xs.length).map fun k => C.set l (.lst (xs.set k d))
    | some (.dic kvs) => if keyFits kvs (.int j) && roomy kvs then some (C.set l (.dic (dput kvs (.int j) d))) else none
    | _ => none) = _
  rw [h]
  show (atN j xs.length).map _ = _
  rw [h2]
  rfl
theorem mul_sm {i j : Int} (h : small j = true) : binD .mul lk (.int i) (.int j) C = some (.int (i * j), C) := by
  show (if (small i || small j) = true then _ else _) = _
  rw [h, Bool.or_true]
  rfl
theorem mul_sl {i j : Int} (h : small i = true) : binD .mul lk (.int i) (.int j) C = some (.int (i * j), C) := by
  show (if (small i || small j) = true then _ else _) = _
  rw [h]
  rfl
theorem mod_is {i j : Int} (h : 0 < j) : binD .mod lk (.int i) (.int j) C = some (.int (i % j), C) := by
  show (if decide (0 < j) = true then _ else _) = _
  rw [decide_eq_true h]
  rfl
theorem fdiv_is {i j : Int} (h : 0 < j) (h2 : j < 1073741824) : binD .fdiv lk (.int i) (.int j) C = some (.int (i / j), C) := by
  show (if (decide (0 < j) && decide (j < 1073741824)) = true then _ else _) = _
  rw [decide_eq_true h, decide_eq_true h2]
  rfl
theorem small_of {i : Int} (h : -(2 ^ 64) < i) (h2 : i < 2 ^ 64) : small i = true := by
  unfold small
  rw [decide_eq_true h, decide_eq_true h2]
  rfl
end

/-! ### the numbers -/
def db (b c : Int) : Int := (b * 69621 + 40503 * (c + 1) + 1) % 2147483647
def dA (a n : Int) : Int := if 0 < a then a / n else a
def dV (a b c n : Int) : Int := if 0 < a then a % n else (((db b c + 12345) * db b c + (c + 1)) % 2147483629 / 256) % n
theorem db_sm (b c : Int) : small (db b c) = true := by
  have h1 : 0 ≤ db b c := Int.emod_nonneg _ (by decide)
  have h2 : db b c < 2147483647 := Int.emod_lt_of_pos _ (by decide)
  refine small_of (Int.lt_of_lt_of_le (by decide) h1) (Int.lt_trans h2 (by decide))
theorem dV_range {a b c n : Int} (h : 0 < n) : 0 ≤ dV a b c n ∧ dV a b c n < n := by
  unfold dV
  split
  · exact ⟨Int.emod_nonneg _ (by omega), Int.emod_lt_of_pos _ h⟩
  · exact ⟨Int.emod_nonneg _ (by omega), Int.emod_lt_of_pos _ h⟩
end
end Q
namespace K64
noncomputable section
open Q
/-- the object at a place is put there, all else stays -/
def SetAt (C : Hq) (l : Nat) (o : CO) (C' : Hq) : Prop := C'.n = C.n ∧ ∀ j, C'.get j = if j = l then some o else C.get j
theorem set_at (C : Hq) (l : Nat) (o : CO) : SetAt C l o (C.set l o) := ⟨rfl, fun j => Hq.get_set C l j o⟩
theorem SetAt.get {C C' : Hq} {l : Nat} {o : CO} (h : SetAt C l o C') : C'.get l = some o := by rw [h.2, if_pos rfl]
theorem SetAt.trans {C C1 C2 : Hq} {l : Nat} {o o' : CO} (h : SetAt C l o C1) (h2 : SetAt C1 l o' C2) : SetAt C l o' C2 := by
  refine ⟨h2.1.trans h.1, fun j => ?_⟩
  rw [h2.2, h.2]
  split <;> rfl
theorem draw_body (G : Gam) {C : Hq} {l : Nat} {a b c n : Int} (h : C.get l = some (.lst [.int a, .int b, .int c])) (hn : 0 < n) (hn2 : n < 1073741824) :
    ∃ C' ls', evSs G f72.body [] [some (.loc l), some (.int n), none, none, none] C = .ok (.rt (.int (dV a b c n)), ls', C') ∧ SetAt C l (.lst [.int (dA a n), .int (db b c), .int (c + 1)]) C' := by
  have e0 : evSs G f72.body [] [some (.loc l), some (.int n), none, none, none] C = b72 G [] [some (.loc l), some (.int n), none, none, none] C := congrFun (congrFun (congrFun (p72 G) _) _) _
  rw [e0]
  unfold b72
  have a1 := set_at C l (.lst [.int a, .int b, .int (c + 1)])
  have a2 := set_at (C.set l (.lst [.int a, .int b, .int (c + 1)])) l (.lst [.int a, .int (db b c), .int (c + 1)])
  generalize hC1 : C.set l (.lst [.int a, .int b, .int (c + 1)]) = C1 at a1 a2
  generalize hC2 : C1.set l (.lst [.int a, .int (db b c), .int (c + 1)]) = C2 at a2
  have a12 := a1.trans a2
  have s1 : ∀ {r : XS} {q}, r [] [some (.loc l), some (.int n), none, none, none] C1 = q → xscons (xasg (xtsub (xvar 0) (xcon (.int 2))) (xbin .add (xidx (xvar 0) (xcon (.int 2))) (xcon (.int 1)))) r [] [some (.loc l), some (.int n), none, none, none] C = q := fun {r q} z => by
    refine q_seq (q_asub (q_bin (q_idx (q_var rfl) q_con (idx_lst h rfl)) q_con rfl) (q_var rfl) q_con (set_lst (k := 2) h rfl)) ?_
    show r _ _ (C.set l (.lst [.int a, .int b, .int (c + 1)])) = q
    rw [hC1]
    exact z
  have s2 : ∀ {r : XS} {q}, r [] [some (.loc l), some (.int n), none, none, none] C2 = q → xscons (xasg (xtsub (xvar 0) (xcon (.int 1))) (xbin .mod (xbi .int (xcons (xbin .add (xbin .add (xbin .mul (xidx (xvar 0) (xcon (.int 1))) (xcon (.int 69621))) (xbin .mul (xcon (.int 40503)) (xidx (xvar 0) (xcon (.int 2))))) (xcon (.int 1))) xnil)) (xcon (.int 2147483647)))) r [] [some (.loc l), some (.int n), none, none, none] C1 = q := fun {r q} z => by
    refine q_seq (q_asub (q_bin (q_int (q_bin (q_bin (q_bin (q_idx (q_var rfl) q_con (idx_lst a1.get rfl)) q_con (mul_sm (by decide))) (q_bin q_con (q_idx (q_var rfl) q_con (idx_lst a1.get rfl)) (mul_sl (by decide))) rfl) q_con rfl)) q_con (mod_is (by decide))) (q_var rfl) q_con (set_lst (k := 1) a1.get rfl)) ?_
    show r _ _ (C1.set l (.lst [.int a, .int (db b c), .int (c + 1)])) = q
    rw [hC2]
    exact z
  have hc : xcmp .gt (xidx (xvar 0) (xcon (.int 0))) (xcon (.int 0)) [] [some (.loc l), some (.int n), none, none, none] C2 = .ok (.bl (decide (0 < a)), C2) := q_cmp (q_idx (q_var rfl) q_con (idx_lst a2.get rfl)) q_con rfl
  by_cases ha : 0 < a
  · have e1 : dV a b c n = a % n := by unfold dV; rw [if_pos ha]
    have e2 : dA a n = a / n := by unfold dA; rw [if_pos ha]
    rw [e1, e2]
    rw [decide_eq_true ha] at hc
    refine ⟨C2.set l (.lst [.int (a / n), .int (db b c), .int (c + 1)]), [some (.loc l), some (.int n), some (.int (a % n)), none, none], s1 (s2 (q_rt ((q_if hc).trans ?_))), a12.trans (set_at _ _ _)⟩
    · show xscons _ _ [] _ C2 = _
      have hd : biD .divmod [.int a, .int n] C2 = some (.tup [.int (a / n), .int (a % n)], C2) := by
        show (if (decide (0 < n) && decide (n < 1073741824)) = true then some (D.tup [.int (a / n), .int (a % n)]) else none).map (fun d => (d, C2)) = _
        rw [decide_eq_true hn, decide_eq_true hn2]
        rfl
      exact q_seq (q_asm2 (q_bi2 (q_idx (q_var rfl) q_con (idx_lst a2.get rfl)) (q_var rfl) hd) (q_var rfl) q_con (set_lst (k := 0) a2.get rfl)) (q_ret (q_var rfl))
  · have e1 : dV a b c n = (((db b c + 12345) * db b c + (c + 1)) % 2147483629 / 256) % n := by unfold dV; rw [if_neg ha]
    have e2 : dA a n = a := by unfold dA; rw [if_neg ha]
    rw [e1, e2]
    rw [decide_eq_false ha] at hc
    refine ⟨C2, [some (.loc l), some (.int n), none, some (.int (db b c + 12345)), some (.int (((db b c + 12345) * db b c + (c + 1)) % 2147483629))], s1 (s2 (q_seq (ls1 := [some (.loc l), some (.int n), none, none, none]) (C1 := C2) ((q_if hc).trans rfl) ?_)), a12⟩
    · refine q_seq (q_aone (q_bin (q_idx (q_var rfl) q_con (idx_lst a2.get rfl)) q_con rfl)) ?_
      refine q_seq (q_aone (q_bin (q_int (q_bin (q_bin (q_var rfl) (q_idx (q_var rfl) q_con (idx_lst a2.get rfl)) (mul_sm (db_sm b c))) (q_idx (q_var rfl) q_con (idx_lst a2.get rfl)) rfl)) q_con (mod_is (by decide)))) ?_
      exact q_ret (q_bin (q_int (q_bin (q_var rfl) q_con (fdiv_is (by decide) (by decide)))) (q_var rfl) (mod_is hn))
theorem fn_is {fu lv i : Nat} {fn : Fn} {lk : List Nat} {as bs : List D} {C : Hq} (h : prog.fns.get i = some fn) (h2 : bindA fn as = some bs) : (run prog fu (lv + 1)).fn i lk as C = ends (evSs (run prog fu lv) fn.body lk (bs.map some ++ List.replicate (fn.ns - bs.length) none) C) := by
  show (R.of (prog.fns.get i)).bind (fun fn => callF (run prog fu lv) fn lk as C) = _
  rw [h, R.of_some, R.bind_ok]
  unfold callF
  rw [h2, R.of_some, R.bind_ok]
theorem draw_fn (fu lv : Nat) {C : Hq} {l : Nat} {a b c n : Int} (h : C.get l = some (.lst [.int a, .int b, .int c])) (hn : 0 < n) (hn2 : n < 1073741824) :
    ∃ C', (run prog fu (lv + 1)).fn 72 [] [.loc l, .int n] C = .ok (.int (dV a b c n), C') ∧ SetAt C l (.lst [.int (dA a n), .int (db b c), .int (c + 1)]) C' := by
  obtain ⟨C', ls', e, h2⟩ := draw_body (run prog fu lv) h hn hn2
  refine ⟨C', ?_, h2⟩
  rw [fn_is (fn := f72) (bs := [.loc l, .int n]) rfl rfl]
  show ends (evSs (run prog fu lv) f72.body [] [some (.loc l), some (.int n), none, none, none] C) = _
  rw [e]
  rfl
/-- one of two -/
def pick (v : Int) (d0 d1 : D) : D := if v = 0 then d0 else d1
theorem of_fn (fu lv : Nat) {C : Hq} {l j : Nat} {a b c : Int} {d0 d1 : D} (h : C.get l = some (.lst [.int a, .int b, .int c])) (hj : C.get j = some (.lst [d0, d1])) (hne : j ≠ l) :
    ∃ C', (run prog fu (lv + 2)).fn 73 [] [.loc l, .loc j] C = .ok (pick (dV a b c 2) d0 d1, C') ∧ SetAt C l (.lst [.int (dA a 2), .int (db b c), .int (c + 1)]) C' := by
  obtain ⟨C', e, h2⟩ := draw_fn fu lv h (n := 2) (by decide) (by decide)
  refine ⟨C', ?_, h2⟩
  have hj' : C'.get j = some (.lst [d0, d1]) := by rw [h2.2, if_neg hne]; exact hj
  rw [fn_is (fn := f73) (bs := [.loc l, .loc j]) rfl rfl]
  show ends (evSs (run prog fu (lv + 1)) f73.body [] [some (.loc l), some (.loc j)] C) = _
  rw [show evSs (run prog fu (lv + 1)) f73.body [] [some (.loc l), some (.loc j)] C = b73 (run prog fu (lv + 1)) [] [some (.loc l), some (.loc j)] C from congrFun (congrFun (congrFun (p73 _) _) _) _]
  have hlen : xbi .len (xcons (xvar 1) xnil) [] [some (.loc l), some (.loc j)] C = .ok (.int 2, C) := q_bi1 (q_var rfl) (by
    show (lenD C (.loc j)).map (fun n => (D.int n, C)) = _
    unfold lenD
    show (match C.get j with
      | some (.lst xs) => some xs.length
      | some (.dic kvs) => some kvs.length
      | _ => none).map (fun n => (D.int n, C)) = _
    rw [hj]
    rfl)
  have hcall : xcall (run prog fu (lv + 1)) 72 (xcons (xvar 0) (xcons (xbi .len (xcons (xvar 1) xnil)) xnil)) [] [some (.loc l), some (.loc j)] C = .ok (.int (dV a b c 2), C') := by
    unfold xcall
    show ((((xvar 0 [] [some (.loc l), some (.loc j)] C).bind fun x => ((xbi .len (xcons (xvar 1) xnil) [] [some (.loc l), some (.loc j)] x.2).bind fun y => R.ok ([y.1], y.2)).bind fun y => R.ok (x.1 :: y.1, y.2))).bind fun x => (run prog fu (lv + 1)).fn 72 [] x.1 x.2) = _
    rw [q_var (d := .loc l) rfl, R.bind_ok, hlen]
    exact e
  have hr := dV_range (a := a) (b := b) (c := c) (n := 2) (by decide)
  have hix : idxD [] (.loc j) (.int (dV a b c 2)) C' = some (pick (dV a b c 2) d0 d1) := by
    refine idx_lst hj' ?_
    unfold pick
    rcases (show dV a b c 2 = 0 ∨ dV a b c 2 = 1 by omega) with q | q
    · rw [q]; rfl
    · rw [q]; rfl
  unfold b73
  rw [q_ret (q_idx (q_var rfl) hcall hix)]
  rfl

/-! ### the spring -/
theorem q_ift {e a b : XE} {lk : List Nat} {ls : Sl} {C C1 : Hq} {k : Bool} (h : e lk ls C = .ok (.bl k, C1)) : xife e a b lk ls C = if k then a lk ls C1 else b lk ls C1 := by
  unfold xife
  rw [h]
  rfl
theorem mix_loop (G : Gam) {lk : List Nat} {l m : Nat} {k cell : Int} {zs : List D} {C : Hq} (hm : C.get m = some (.lst zs)) (hz : ∀ z ∈ zs, ∃ x, z = .int x) {body : XS}
    (hb : ∀ (x mixed : Int), ∃ mixed', body lk [some (.loc l), some (.int k), some (.int cell), some (.int mixed), some (.int x)] C = .ok (.nx, [some (.loc l), some (.int k), some (.int cell), some (.int mixed'), some (.int x)], C)) :
    ∀ (fu i : Nat) (mixed : Int) (o : Option D), zs.length - i < fu → ∃ mixed' o', loopF (Iter.next (.lst m)) (fun x ls C => (R.of (putP (.one 4) x C ls)).bind fun ls' => body lk ls' C) fu i [some (.loc l), some (.int k), some (.int cell), some (.int mixed), o] C
      = .ok (.nx, [some (.loc l), some (.int k), some (.int cell), some (.int mixed'), o'], C)
  | 0, i, mixed, o, h => by omega
  | fu + 1, i, mixed, o, h => by
    have hn : Iter.next (.lst m) i C = some zs[i]? := by
      show (asLst C m).map (fun xs => xs[i]?) = _
      unfold asLst
      rw [hm]
      rfl
    cases e : zs[i]? with
    | none =>
      refine ⟨mixed, o, ?_⟩
      show ((R.of (Iter.next (.lst m) i C)).bind _) = _
      rw [hn, e]
      rfl
    | some z =>
      have hi := (List.getElem?_eq_some_iff.mp e).1
      obtain ⟨x, rfl⟩ := hz z (List.mem_of_getElem? e)
      obtain ⟨m1, h1⟩ := hb x mixed
      obtain ⟨m2, o2, h2⟩ := mix_loop G hm hz hb fu (i + 1) m1 (some (.int x)) (by omega)
      refine ⟨m2, o2, ?_⟩
      show ((R.of (Iter.next (.lst m) i C)).bind _) = _
      rw [hn, e, R.of_some, R.bind_ok]
      show ((body lk [some (.loc l), some (.int k), some (.int cell), some (.int mixed), some (.int x)] C).bind _) = _
      rw [h1]
      exact h2
theorem cut8 (xs : List D) : (cutL xs none (some 8)).length ≤ 8 := by
  unfold cutL
  show ((xs.drop 0).take (clampI 8 xs.length - 0)).length ≤ 8
  rw [List.length_take]
  have h : clampI 8 xs.length ≤ 8 := by
    unfold clampI
    rw [if_neg (by decide)]
    exact Nat.le_trans (Nat.min_le_left _ _) (by decide)
  omega
theorem push_at (C : Hq) (o : CO) (i : Nat) (h : i < C.n) : (C.push o).get i = C.get i := by rw [Hq.get_push, if_neg (by omega)]
theorem push_new (C : Hq) (o : CO) : (C.push o).get C.n = some o := by rw [Hq.get_push, if_pos rfl]
theorem asL {C : Hq} {l : Nat} {xs : List D} (h : C.get l = some (.lst xs)) : asLst C l = some xs := by
  unfold asLst
  rw [h]
theorem spring_body (G : Gam) (hf : 9 < G.fuel) {lk : List Nat} (hlk : ∀ j, 0 < j → isLk lk j = false) {C : Hq} {l : Nat} {ns : List Int} {k : Nat} (h : C.get l = some (.lst (ns.map .int))) (hl : l < C.n) :
    ∃ a b C' j ls', evSs G f71.body lk [some (.loc l), some (.int k), none, none, none] C = .ok (.rt (.loc j), ls', C') ∧ C'.get j = some (.lst [.int a, .int b, .int 0]) ∧ C.n ≤ j ∧ j < C'.n ∧ C.n ≤ C'.n ∧ ∀ i, i < C.n → C'.get i = C.get i := by
  rw [show evSs G f71.body lk [some (.loc l), some (.int k), none, none, none] C = b71 G lk [some (.loc l), some (.int k), none, none, none] C from congrFun (congrFun (congrFun (p71 G) _) _) _]
  have hlen : biD .len [.loc l] C = some (.int ns.length, C) := by
    show (match C.get l with
      | some (.lst xs) => some xs.length
      | some (.dic kvs) => some kvs.length
      | _ => none).map (fun n => (D.int n, C)) = _
    rw [h]
    simp
  have hcell : ∃ cell : Int, xife (xcmp .lt (xvar 1) (xbi .len (xcons (xvar 0) xnil))) (xidx (xvar 0) (xvar 1)) (xbin .add (xbin .mul (xcon (.int 7)) (xvar 1)) (xcon (.int 2))) lk [some (.loc l), some (.int k), none, none, none] C = .ok (.int cell, C) := by
    have hc : xcmp .lt (xvar 1) (xbi .len (xcons (xvar 0) xnil)) lk [some (.loc l), some (.int k), none, none, none] C = .ok (.bl (decide ((k : Int) < ns.length)), C) := q_cmp (q_var rfl) (q_bi1 (q_var rfl) hlen) rfl
    by_cases hk : (k : Int) < ns.length
    · have hk' : k < ns.length := by omega
      refine ⟨ns[k], (q_ift hc).trans ?_⟩
      rw [decide_eq_true hk, if_pos rfl]
      refine q_idx (q_var rfl) (q_var rfl) (idx_lst h ?_)
      unfold atOf atN
      rw [if_pos (by omega), if_pos (by rw [List.length_map]; omega)]
      simp [hk']
    · refine ⟨7 * k + 2, (q_ift hc).trans ?_⟩
      rw [decide_eq_false hk, if_neg (by decide)]
      exact q_bin (q_bin q_con (q_var rfl) (mul_sl (by decide))) q_con rfl
  obtain ⟨cell, hcell⟩ := hcell
  -- the numbers that are mixed
  have e1 : slcD (.loc l) none (some 8) C = some (newL C (.lst (cutL (ns.map .int) none (some 8)))) := by
    show (asLst C l).map _ = _
    rw [asL h]
    rfl
  generalize hys : cutL (ns.map D.int) none (some 8) = ys at e1
  have hyl : ys.length ≤ 8 := by rw [← hys]; exact cut8 _
  have hyi : ∀ z ∈ ys, ∃ x, z = D.int x := by
    intro z hz
    rw [← hys] at hz
    unfold cutL at hz
    obtain ⟨x, _, hx⟩ := List.mem_map.mp (List.mem_of_mem_drop (List.mem_of_mem_take hz))
    exact ⟨x, hx.symm⟩
  let C1 := C.push (.lst ys)
  let C2 := C1.push (.lst [.int cell])
  let C3 := C2.push (.lst (ys ++ [.int cell]))
  have n1 : C1.n = C.n + 1 := rfl
  have n2 : C2.n = C.n + 2 := rfl
  have n3 : C3.n = C.n + 3 := rfl
  have keep : ∀ i, i < C.n → C3.get i = C.get i := fun i hi => by
    rw [push_at C2 _ i (by omega), push_at C1 _ i (by omega), push_at C _ i hi]
  have g1 : C2.get C.n = some (.lst ys) := by
    rw [push_at C1 _ C.n (by omega)]
    exact push_new C _
  have g2 : C2.get (C.n + 1) = some (.lst [.int cell]) := push_new C1 _
  have g3 : C3.get (C.n + 2) = some (.lst (ys ++ [.int cell])) := push_new C2 _
  have hadd : binD .add lk (.loc C.n) (.loc (C.n + 1)) C2 = some (.loc (C.n + 2), C3) := by
    show ((asLst C2 C.n).bind fun xs => (asLst C2 (C.n + 1)).bind fun ys => if (free lk C.n && free lk (C.n + 1) && decide (xs.length + ys.length ≤ 1000000)) = true then some (newL C2 (.lst (xs ++ ys))) else none) = _
    rw [asL g1, asL g2]
    show (if (free lk C.n && free lk (C.n + 1) && decide (ys.length + 1 ≤ 1000000)) = true then some (newL C2 (.lst (ys ++ [.int cell]))) else none) = _
    rw [decide_eq_true (show ys.length + 1 ≤ 1000000 by omega)]
    have z1 : free lk C.n = true := by unfold free; rw [hlk _ (by omega)]; rfl
    have z2 : free lk (C.n + 1) = true := by unfold free; rw [hlk _ (by omega)]; rfl
    rw [z1, z2]
    rfl
  have hit : ∀ ls, getV ls 0 = some (.loc l) → getV ls 2 = some (.int cell) → xitr (xbin .add (xshi (xvar 0) (xcon (.int 8))) (xlst (xcons (xvar 2) xnil))) lk ls C = .ok (.lst (C.n + 2), C3) := fun ls h0 h2 => by
    have a1 : xshi (xvar 0) (xcon (.int 8)) lk ls C = .ok (.loc C.n, C1) := by
      unfold xshi
      rw [q_var h0, R.bind_ok]
      show R.of (slcD (.loc l) none (some 8) C) = _
      rw [e1]
      rfl
    have a2 : xlst (xcons (xvar 2) xnil) lk ls C1 = .ok (.loc (C.n + 1), C2) := by
      unfold xlst
      show ((((xvar 2) lk ls C1).bind fun x => R.ok ([x.1], x.2)).bind fun x => R.ok (newL x.2 (.lst x.1))) = _
      rw [q_var h2]
      rfl
    unfold xitr
    rw [q_bin a1 a2 hadd, R.bind_ok]
    show (R.of (iterD C3 (.loc (C.n + 2)))).bind _ = _
    unfold iterD
    show (R.of (match C3.get (C.n + 2) with
      | some (.lst _) => some (Iter.lst (C.n + 2))
      | some (.dic _) => some (Iter.key (C.n + 2))
      | _ => none)).bind _ = _
    rw [g3]
    rfl
  -- the loop
  have hbody : ∀ (x mixed : Int), ∃ mixed', (xscons (xasg (xtone 3) (xbin .mod (xbi .int (xcons (xbin .add (xbin .add (xbin .mul (xvar 3) (xcon (.int 48271))) (xbi .int (xcons (xvar 4) xnil))) (xbin .mul (xcon (.int 11)) (xvar 1))) xnil)) (xcon (.int 2147483647)))) xsnil) lk
      [some (.loc l), some (.int k), some (.int cell), some (.int mixed), some (.int x)] C3 = .ok (.nx, [some (.loc l), some (.int k), some (.int cell), some (.int mixed'), some (.int x)], C3) := fun x mixed =>
    ⟨(mixed * 48271 + x + 11 * k) % 2147483647, q_seq (q_aone (q_bin (q_int (q_bin (q_bin (q_bin (q_var rfl) q_con (mul_sm (by decide))) (q_int (q_var rfl)) rfl) (q_bin q_con (q_var rfl) (mul_sl (by decide))) rfl)) q_con (mod_is (by decide)))) rfl⟩
  obtain ⟨mixed, o, hloop⟩ := mix_loop G (l := l) (k := k) (cell := cell) g3 (fun z hz => by
    rcases List.mem_append.mp hz with q | q
    · exact hyi z q
    · exact ⟨cell, List.mem_singleton.mp q⟩) hbody G.fuel 0 (90001 + 7919 * k) none (by
      rw [List.length_append, List.length_singleton]
      omega)
  -- what comes back
  have hret : ∃ a : Int, xife (xor_ (xcmp .lt (xvar 2) (xcon (.int 0))) (xcmp .ge (xvar 2) (xbin .pow (xcon (.int 10)) (xcon (.int 18))))) (xbi .abs (xcons (xvar 2) xnil)) (xcon (.int 0)) lk [some (.loc l), some (.int k), some (.int cell), some (.int mixed), o] C3 = .ok (.int a, C3) := by
    have hc : ∃ b, xor_ (xcmp .lt (xvar 2) (xcon (.int 0))) (xcmp .ge (xvar 2) (xbin .pow (xcon (.int 10)) (xcon (.int 18)))) lk [some (.loc l), some (.int k), some (.int cell), some (.int mixed), o] C3 = .ok (.bl b, C3) := by
      have h1 : xcmp .lt (xvar 2) (xcon (.int 0)) lk [some (.loc l), some (.int k), some (.int cell), some (.int mixed), o] C3 = .ok (.bl (decide (cell < 0)), C3) := q_cmp (q_var rfl) q_con rfl
      have h2 : xcmp .ge (xvar 2) (xbin .pow (xcon (.int 10)) (xcon (.int 18))) lk [some (.loc l), some (.int k), some (.int cell), some (.int mixed), o] C3 = .ok (.bl (decide ((10 : Int) ^ 18 ≤ cell)), C3) :=
        q_cmp (q_var rfl) (q_bin (q := (.int (10 ^ 18), C3)) q_con q_con (by rfl)) rfl
      by_cases q : cell < 0
      · refine ⟨true, ?_⟩
        unfold xor_
        rw [h1, decide_eq_true q]
        rfl
      · refine ⟨decide ((10 : Int) ^ 18 ≤ cell), ?_⟩
        unfold xor_
        rw [h1, decide_eq_false q]
        exact h2
    obtain ⟨b, hc⟩ := hc
    cases b with
    | true => exact ⟨if cell < 0 then -cell else cell, (q_ift hc).trans (q_bi1 (q_var rfl) rfl)⟩
    | false => exact ⟨0, (q_ift hc).trans rfl⟩
  obtain ⟨a, hret⟩ := hret
  refine ⟨a, mixed, C3.push (.lst [.int a, .int mixed, .int 0]), C.n + 3, [some (.loc l), some (.int k), some (.int cell), some (.int mixed), o], ?_, push_new C3 _, by omega, Nat.lt_succ_self _, ?_, fun i hi => ?_⟩
  · unfold b71
    refine q_seq (q_aone hcell) (q_seq (q_aone (q_bin q_con (q_bin q_con (q_var rfl) (mul_sl (by decide))) rfl)) (q_seq (ls1 := [some (.loc l), some (.int k), some (.int cell), some (.int mixed), o]) (C1 := C3) ?_ (q_ret ?_)))
    · unfold xfro
      rw [hit _ rfl rfl, R.bind_ok]
      exact hloop
    · unfold xlst
      show (((xife _ _ _ lk _ C3).bind fun x => ((xvar 3 lk _ x.2).bind fun y => ((xcon (.int 0) lk _ y.2).bind fun z => R.ok ([z.1], z.2)).bind fun z => R.ok (y.1 :: z.1, z.2)).bind fun y => R.ok (x.1 :: y.1, y.2)).bind fun x => R.ok (newL x.2 (.lst x.1))) = _
      rw [hret, R.bind_ok, q_var (d := .int mixed) rfl]
      rfl
  · show C.n ≤ C.n + 3 + 1
    omega
  · rw [push_at C3 _ i (by omega)]
    exact keep i hi
theorem spring_fn (fu lv : Nat) (hf : 9 < fu) {lk : List Nat} (hlk : ∀ j, 0 < j → isLk lk j = false) {C : Hq} {l : Nat} {ns : List Int} {k : Nat} (h : C.get l = some (.lst (ns.map .int))) (hl : l < C.n) :
    ∃ a b C' j, (run prog fu (lv + 1)).fn 71 lk [.loc l, .int k] C = .ok (.loc j, C') ∧ C'.get j = some (.lst [.int a, .int b, .int 0]) ∧ C.n ≤ j ∧ j < C'.n ∧ C.n ≤ C'.n ∧ ∀ i, i < C.n → C'.get i = C.get i := by
  obtain ⟨a, b, C', j, ls', e, h2⟩ := spring_body (run prog fu lv) (by cases lv <;> exact hf) hlk h hl (k := k)
  refine ⟨a, b, C', j, ?_, h2⟩
  rw [fn_is (fn := f71) (bs := [.loc l, .int k]) rfl rfl]
  show ends (evSs (run prog fu lv) f71.body lk [some (.loc l), some (.int k), none, none, none] C) = _
  rw [e]
  rfl
end
end K64

set_option Elab.async false
set_option linter.all false
set_option maxRecDepth 1000000
set_option maxHeartbeats 0
namespace K64
noncomputable section
open Q
def isNx (k : Nat) : R (Fl × Sl × Hq) → Bool
  | .ok (.nx, ls, _) => Nat.beq ls.length k
  | _ => false
def isTr : R (Fl × Sl × Hq) → Bool
  | .ok (.rt (.bl true), _, _) => true
  | _ => false
/-- the reckoning: 25 levels, 200 turns -/
def G0 : Gam := run prog 200 25
def X0 : Gam := runX progX 200 25
theorem X0_is : X0 = G0 := runX_eq 200 25
def no3 : Sl := [none, none, none]
/-- the rows of the drawn web -/
def rowsD (v t : Nat) : List D := [.str [115, 101, 110, 115, 111, 114, 115, 32, 49], .str [112, 108, 97, 99, 101, 32, 97, 32, 48], .str ([112, 108, 97, 99, 101, 32, 98, 32] ++ [48 + t]), .str ([119, 97, 121, 32, 97, 32, 98, 32] ++ strI v)]
theorem k79_0 : isNx 3 (b79_0 X0 [] no3 nil0) = true := by decide +kernel
theorem k79_1 : isNx 3 (b79_1 X0 [] no3 nil0) = true := by decide +kernel
theorem k79_2 : isTr (b79_2 X0 [] no3 nil0) = true := by decide +kernel
theorem k80_0_0 : isTr (b80_2 X0 [] [none, some (.int 0), some (.loc 0), none, none, none] (one0 (.lst (rowsD 0 0)))) = true := by decide +kernel
theorem k80_0_1 : isTr (b80_2 X0 [] [none, some (.int 0), some (.loc 0), none, none, none] (one0 (.lst (rowsD 0 1)))) = true := by decide +kernel
theorem k80_1_0 : isTr (b80_2 X0 [] [none, some (.int 1), some (.loc 0), none, none, none] (one0 (.lst (rowsD 1 0)))) = true := by decide +kernel
theorem k80_1_1 : isTr (b80_2 X0 [] [none, some (.int 1), some (.loc 0), none, none, none] (one0 (.lst (rowsD 1 1)))) = true := by decide +kernel
theorem k80_2_0 : isTr (b80_2 X0 [] [none, some (.int 2), some (.loc 0), none, none, none] (one0 (.lst (rowsD 2 0)))) = true := by decide +kernel
theorem k80_2_1 : isTr (b80_2 X0 [] [none, some (.int 2), some (.loc 0), none, none, none] (one0 (.lst (rowsD 2 1)))) = true := by decide +kernel
theorem k80_3_0 : isTr (b80_2 X0 [] [none, some (.int 3), some (.loc 0), none, none, none] (one0 (.lst (rowsD 3 0)))) = true := by decide +kernel
theorem k80_3_1 : isTr (b80_2 X0 [] [none, some (.int 3), some (.loc 0), none, none, none] (one0 (.lst (rowsD 3 1)))) = true := by decide +kernel
theorem k80_4_0 : isTr (b80_2 X0 [] [none, some (.int 4), some (.loc 0), none, none, none] (one0 (.lst (rowsD 4 0)))) = true := by decide +kernel
theorem k80_4_1 : isTr (b80_2 X0 [] [none, some (.int 4), some (.loc 0), none, none, none] (one0 (.lst (rowsD 4 1)))) = true := by decide +kernel
theorem k80_5_0 : isTr (b80_2 X0 [] [none, some (.int 5), some (.loc 0), none, none, none] (one0 (.lst (rowsD 5 0)))) = true := by decide +kernel
theorem k80_5_1 : isTr (b80_2 X0 [] [none, some (.int 5), some (.loc 0), none, none, none] (one0 (.lst (rowsD 5 1)))) = true := by decide +kernel
theorem k80_6_0 : isTr (b80_2 X0 [] [none, some (.int 6), some (.loc 0), none, none, none] (one0 (.lst (rowsD 6 0)))) = true := by decide +kernel
theorem k80_6_1 : isTr (b80_2 X0 [] [none, some (.int 6), some (.loc 0), none, none, none] (one0 (.lst (rowsD 6 1)))) = true := by decide +kernel
theorem k80_7_0 : isTr (b80_2 X0 [] [none, some (.int 7), some (.loc 0), none, none, none] (one0 (.lst (rowsD 7 0)))) = true := by decide +kernel
theorem k80_7_1 : isTr (b80_2 X0 [] [none, some (.int 7), some (.loc 0), none, none, none] (one0 (.lst (rowsD 7 1)))) = true := by decide +kernel
theorem k80_8_0 : isTr (b80_2 X0 [] [none, some (.int 8), some (.loc 0), none, none, none] (one0 (.lst (rowsD 8 0)))) = true := by decide +kernel
theorem k80_8_1 : isTr (b80_2 X0 [] [none, some (.int 8), some (.loc 0), none, none, none] (one0 (.lst (rowsD 8 1)))) = true := by decide +kernel
theorem k80_9_0 : isTr (b80_2 X0 [] [none, some (.int 9), some (.loc 0), none, none, none] (one0 (.lst (rowsD 9 0)))) = true := by decide +kernel
theorem k80_9_1 : isTr (b80_2 X0 [] [none, some (.int 9), some (.loc 0), none, none, none] (one0 (.lst (rowsD 9 1)))) = true := by decide +kernel
end
end K64

set_option Elab.async false
set_option linter.all false
set_option maxRecDepth 1000000
set_option maxHeartbeats 4000000
/-! What the law's last defs promise. -/
namespace K64
noncomputable section
open Q PySem L2 PySem.Spec PyProof.Rows

section
variable {g : Stg} {lk : List Nat} {m : List Addr} {C : Hq} {H H' : L2.Hp}
theorem step_of_keep (h : ∀ a o, H a = some o → H' a = some o) : Step m H m H' := ⟨⟨[], by simp⟩, fun a vs e => h a _ e, fun a o e _ => h a o e, fun a ha => .inl ha, fun a o u e => h a _ e⟩
theorem held_of_keep (hd : Held g lk m C H) (h : ∀ a o, H a = some o → H' a = some o) : Held g lk m C H' := hd.same (step_of_keep h) fun a ha => by
  obtain ⟨l, o, u, _, _, h2, _⟩ := hd.mem ha
  rw [h2, h a u h2]
theorem part_nx {G : Gam} {p : List S} {k : Nat} {D' : Ends} {σ : L2.St} (hσ : σ.length = k) {r : R (Fl × Sl × Hq)} (e : evSs G p [] (List.replicate k none) nil0 = r) (hr : isNx k r = true) (q : ∀ H' σ', σ'.length = k → (∀ a o, H a = some o → H' a = some o) → D'.nx σ' H') :
    tS g [] (fun ls C => evSs G p [] ls C) D' σ H := by
  subst e
  unfold isNx at hr
  split at hr
  · rename_i ls' C' e
    have hl := Nat.eq_of_beq_eq_true hr
    exact ⟨[], nil0, _, .nx, ls', C', held_nil H, slt_none hσ, e, fun m' H' σ' s1 d1 sl1 => q H' σ' (by rw [← sl1.1, hl]) (step_keep s1)⟩
  · cases hr
theorem part_rt {G : Gam} {p : List S} {m : List Addr} {C : Hq} {ls : Sl} {D' : Ends} {σ : L2.St} (hd : Held g [] m C H) (sl : Slt H m ls σ) {r : R (Fl × Sl × Hq)} (e : evSs G p [] ls C = r) (hr : isTr r = true) (q : ∀ m' H', Step m H m' H' → D'.rt (.bl true) H') :
    tS g [] (fun ls C => evSs G p [] ls C) D' σ H := by
  subst e
  unfold isTr at hr
  split at hr
  · rename_i ls' C' e
    refine ⟨m, C, ls, _, ls', C', hd, sl, e, fun m' H' σ' s1 d1 sl1 v rv => ?_⟩
    rw [rv.bl_]
    exact q m' H' s1
  · cases hr
end
theorem eY {G : Gam} {p : List S} {b : XS} (h : yB G p = b) (ls : Sl) (C : Hq) : evSs G p [] ls C = b [] ls C := congrFun (congrFun (congrFun h _) _) _

/-- all that was there stays, and it is true -/
def mk79 : List Nat → List D → Hq → R (D × Hq) := fun _ as C => match as with
  | [] => .ok (.bl true, C)
  | _ => .no
section
variable {g : Stg} {Pg : Program} {w : World} {K : PySem.W.Frag} {mg : Str → Option Value} {base : Heap} {ks : Nat → List Str} {kk : Nat}
theorem known_fn (W : Wk inf g prog K mg ks) (L : Lv g prog 200 Pg w K mg base ks kk 25) (D : DefOk inf K (g.fad 79) f79 (ks 79)) : FnR Pg w K mg base CX0 (kk + 2) (g.fad 79) (spF g mk79) := by
  obtain ⟨x, qual, params, body, scope, dvs, fd, N, ps, FD, S, hN, hck, hb⟩ := D
  rcases hb with ⟨_, B, _⟩ | ⟨hv, _⟩
  · rw [← f79_parts] at hck
    have OK : FnOk Pg w K mg base CX0 (kk + 2) (g.fad 79) fd ps (fun vs H Q _ => vs = [] ∧ ∀ H', (∀ a o, H a = some o → H' a = some o) → Q (.bl true) H') := FD.ok S (fun vs H Q E h => by
      rw [h.1, B.np]
      rfl) fun cdv A outer s H vs Q E hr h => by
        obtain ⟨rfl, h⟩ := h
        refine L.kept.body W S hck cdv A outer s H _ Q E hr ?_
        have h0 : (L2.start N ([] : List V)).length = 3 := by
          unfold L2.start
          simp [hN]
          rfl
        refine part_nx h0 (eY ((p79_0 G0).trans (congrArg b79_0 X0_is.symm)) _ _) k79_0 fun H1 σ1 l1 k1 => ?_
        refine part_nx l1 (eY ((p79_1 G0).trans (congrArg b79_1 X0_is.symm)) _ _) k79_1 fun H2 σ2 l2 k2 => ?_
        exact part_rt (held_nil H2) (slt_none l2) (eY ((p79_2 G0).trans (congrArg b79_2 X0_is.symm)) _ _) k79_2 fun m' H3 s3 => h H3 fun a o e => step_keep s3 a o (k2 a o (k1 a o e))
    refine (OK.raw B.b0 .nil).imp fun vs H Q E h => ?_
    obtain ⟨lk, m, C, as, d, C', hd, r, e, k⟩ := h
    cases as with
    | cons a as => cases e
    | nil =>
      cases e
      cases r.unnil
      exact ⟨rfl, fun H' keep => k _ m H' (step_of_keep keep) (held_of_keep hd keep) Rep.bl⟩
  · cases hv
end

/-! ### the drawn web -/
theorem reps_flat {H H' : L2.Hp} {m m' : List Addr} : ∀ {xs : List D} {vs : List V}, (∀ x ∈ xs, isFlat x = true) → Reps H m xs vs → Reps H' m' xs vs
  | [], vs, _, r => by
    rw [r.unnil]
    exact .nil
  | x :: xs, vs, h, r => by
    obtain ⟨v, vs', rfl, h1, h2⟩ := r.uncons
    refine .cons ?_ (reps_flat (fun y hy => h y (List.mem_cons_of_mem _ hy)) h2)
    have hx := h x List.mem_cons_self
    cases x with
    | int j => rw [h1.int_]; exact Rep.int
    | str s => have hl := h1.slen; rw [h1.str_]; exact Rep.str hl
    | _ => cases hx
/-- the spring behind a draw -/
def nA (a n : Int) : Int := dA a n
def sp1 (a b c n : Int) : List D := [.int (dA a n), .int (db b c), .int (c + 1)]
def sp2 (a b c : Int) : List D := sp1 (dA a 10) (db b c) (c + 1) 2
def mk80 : List Nat → List D → Hq → R (D × Hq) := fun lk as C => match as with
  | [.loc l] => match C.get l with
    | some (.lst [.int a, .int b, .int c]) => if isLk lk l then .no else .ok (.bl true, C.set l (.lst (sp2 a b c)))
    | _ => .no
  | _ => .no
def intsV (a b c : Int) : List V := [.int a, .int b, .int c]
theorem reps3 {H : L2.Hp} {m : List Addr} {a b c : Int} {vs : List V} (r : Reps H m [.int a, .int b, .int c] vs) : vs = intsV a b c := by
  obtain ⟨v, r1, rfl, h1, r⟩ := r.uncons
  obtain ⟨v2, r2, rfl, h2, r⟩ := r.uncons
  obtain ⟨v3, r3, rfl, h3, r⟩ := r.uncons
  rw [r.unnil, h1.int_, h2.int_, h3.int_]
  rfl
theorem reps3' {a b c : Int} (H : L2.Hp) (m : List Addr) : Reps H m [.int a, .int b, .int c] (intsV a b c) := .cons Rep.int (.cons Rep.int (.cons Rep.int .nil))
theorem held_lst {g : Stg} {m : List Addr} {C : Hq} {H : L2.Hp} {l : Nat} {a : Addr} {xs : List D} (hd : Held g [] m C H) (hl : m[l]? = some a) (e : C.get l = some (.lst xs)) : ∃ vs, H a = some (.lst vs) ∧ Reps H m xs vs := by
  obtain ⟨o, u, h1, h2, h3⟩ := hd.obj l a hl
  rw [e] at h1
  cases h1
  obtain ⟨vs, h4, h5⟩ := h3
  exact ⟨vs, by rw [h2]; exact congrArg some h4, h5⟩
theorem q_cons {a : XE} {as : XA} {lk : List Nat} {ls : Sl} {C C1 C2 : Hq} {x : D} {xs : List D} (h1 : a lk ls C = .ok (x, C1)) (h2 : as lk ls C1 = .ok (xs, C2)) : xcons a as lk ls C = .ok (x :: xs, C2) := by
  unfold xcons
  rw [h1, R.bind_ok, h2]
  rfl
theorem q_lst {as : XA} {lk : List Nat} {ls : Sl} {C C1 : Hq} {xs : List D} (h1 : as lk ls C = .ok (xs, C1)) : xlst as lk ls C = .ok (.loc C1.n, C1.push (.lst xs)) := by
  unfold xlst
  rw [h1]
  rfl
theorem draw_part (G : Gam) {C C' : Hq} {v : Int} (e : G.fn 72 [] [.loc 0, .int 10] C = .ok (.int v, C')) :
    evSs G f80_0 [] [some (.loc 0), none, none, none, none, none] C = .ok (.nx, [some (.loc 0), some (.int v), none, none, none, none], C') := by
  rw [eY (p80_0 G)]
  unfold b80_0
  refine q_seq (q_aone ?_) rfl
  unfold xcall
  show (R.ok ([D.loc 0, D.int 10], C)).bind (fun x => G.fn 72 [] x.1 x.2) = _
  exact e
theorem strI10 {v : Nat} (h : v < 10) : (strI (v : Int)).length ≤ 10 := by
  have key : (List.range 10).all (fun v => decide ((strI (v : Int)).length ≤ 10)) = true := by decide +kernel
  exact of_decide_eq_true (List.all_eq_true.mp key v (List.mem_range.mpr h))
theorem rows_part (G : Gam) {C C' : Hq} {v t : Nat} (hv : v < 10) (hn : C.n = 1) (e : G.fn 73 [] [.loc 0, .loc 1] (C.push (.lst [.str [48], .str [49]])) = .ok (.str [48 + t], C')) (hn' : C'.n = 2) :
    evSs G f80_1 [] [some (.loc 0), some (.int v), none, none, none, none] C = .ok (.nx, [some (.loc 0), some (.int v), some (.loc 2), none, none, none], C'.push (.lst (rowsD v t))) := by
  rw [eY (p80_1 G)]
  unfold b80_1
  have hof : xcall G 73 (xcons (xvar 0) (xcons (xlst (xcons (xcon (.str [48])) (xcons (xcon (.str [49])) xnil))) xnil)) [] [some (.loc 0), some (.int v), none, none, none, none] C = .ok (.str [48 + t], C') := by
    unfold xcall
    show (R.ok ([D.loc 0, D.loc C.n], C.push (.lst [.str [48], .str [49]]))).bind (fun x => G.fn 73 [] x.1 x.2) = _
    rw [hn]
    exact e
  have hstr : xbi .str (xcons (xvar 1) xnil) [] [some (.loc 0), some (.int v), none, none, none, none] C' = .ok (.str (strI v), C') := q_bi1 (q_var rfl) (by
    show (if decide ((v : Int).natAbs < 200) = true then some (D.str (strI v), C') else none) = _
    rw [decide_eq_true (by omega)]
    exact if_pos rfl)
  have hl := strI10 hv
  refine q_seq (ls1 := [some (.loc 0), some (.int v), some (.loc 2), none, none, none]) (C1 := C'.push (.lst (rowsD v t))) ?_ rfl
  refine (q_aone (d := .loc 2) (C1 := C'.push (.lst (rowsD v t))) ?_).trans rfl
  have a3 : xbin .add (xcon (.str [112, 108, 97, 99, 101, 32, 98, 32])) (xcall G 73 (xcons (xvar 0) (xcons (xlst (xcons (xcon (.str [48])) (xcons (xcon (.str [49])) xnil))) xnil))) [] [some (.loc 0), some (.int v), none, none, none, none] C = .ok (.str ([112, 108, 97, 99, 101, 32, 98, 32] ++ [48 + t]), C') := q_bin q_con hof rfl
  have a4 : xbin .add (xcon (.str [119, 97, 121, 32, 97, 32, 98, 32])) (xbi .str (xcons (xvar 1) xnil)) [] [some (.loc 0), some (.int v), none, none, none, none] C' = .ok (.str ([119, 97, 121, 32, 97, 32, 98, 32] ++ strI v), C') := q_bin q_con hstr (by
    show (if 8 + (strI v).length ≤ 1000000 then _ else _) = _
    rw [if_pos (by omega)])
  have hq := q_lst (q_cons (q_con (d := .str [115, 101, 110, 115, 111, 114, 115, 32, 49])) (q_cons (q_con (d := .str [112, 108, 97, 99, 101, 32, 97, 32, 48])) (q_cons a3 (q_cons a4 (as := xnil) rfl))))
  rw [hn'] at hq
  exact hq
theorem web_ok : ∀ {v t : Nat}, v < 10 → t < 2 → isTr (b80_2 X0 [] [none, some (.int v), some (.loc 0), none, none, none] (one0 (.lst (rowsD v t)))) = true := by
  intro v t hv ht
  match v, t, hv, ht with
  | 0, 0, _, _ => exact k80_0_0
  | 0, 1, _, _ => exact k80_0_1
  | 1, 0, _, _ => exact k80_1_0
  | 1, 1, _, _ => exact k80_1_1
  | 2, 0, _, _ => exact k80_2_0
  | 2, 1, _, _ => exact k80_2_1
  | 3, 0, _, _ => exact k80_3_0
  | 3, 1, _, _ => exact k80_3_1
  | 4, 0, _, _ => exact k80_4_0
  | 4, 1, _, _ => exact k80_4_1
  | 5, 0, _, _ => exact k80_5_0
  | 5, 1, _, _ => exact k80_5_1
  | 6, 0, _, _ => exact k80_6_0
  | 6, 1, _, _ => exact k80_6_1
  | 7, 0, _, _ => exact k80_7_0
  | 7, 1, _, _ => exact k80_7_1
  | 8, 0, _, _ => exact k80_8_0
  | 8, 1, _, _ => exact k80_8_1
  | 9, 0, _, _ => exact k80_9_0
  | 9, 1, _, _ => exact k80_9_1
  | v + 10, _, h, _ => omega
  | _, t + 2, _, h => omega
section
variable {g : Stg} {Pg : Program} {w : World} {K : PySem.W.Frag} {mg : Str → Option Value} {base : Heap} {ks : Nat → List Str} {kk : Nat}
/-- what `_law_right` does: the spring goes on, all else stays, and it is true -/
def spR : Sp := fun vs H Q _ => ∃ sp a b c, vs = [.ref sp] ∧ H sp = some (.lst (intsV a b c)) ∧
  ∀ H', (∀ x o, x ≠ sp → H x = some o → H' x = some o) → (∀ m, ∃ us, H' sp = some (.lst us) ∧ Reps H' m (sp2 a b c) us) → Q (.bl true) H'
theorem slot_at {H : L2.Hp} {m : List Addr} {ls : Sl} {σ : L2.St} {i l : Nat} {a : Addr} (sl : Slt H m ls σ) (h : ls[i]? = some (some (.loc l))) (hm : m[l]? = some a) : σ[i]? = some (some (.ref a)) := by
  obtain ⟨v, h1, r⟩ := sl.2 i _ h
  obtain ⟨b, h2, rfl⟩ := r.loc_
  rw [hm] at h2
  cases h2
  exact h1
theorem slot_int {H : L2.Hp} {m : List Addr} {ls : Sl} {σ : L2.St} {i : Nat} {v : Int} (sl : Slt H m ls σ) (h : ls[i]? = some (some (.int v))) : σ[i]? = some (some (.int v)) := by
  obtain ⟨u, h1, r⟩ := sl.2 i _ h
  rw [r.int_] at h1
  exact h1
theorem right_fn (W : Wk inf g prog K mg ks) (L : Lv g prog 200 Pg w K mg base ks kk 25) (D : DefOk inf K (g.fad 80) f80 (ks 80)) : FnR Pg w K mg base CX0 (kk + 2) (g.fad 80) (spF g mk80) := by
  obtain ⟨x, qual, params, body, scope, dvs, fd, N, ps, FD, S, hN, hck, hb⟩ := D
  rcases hb with ⟨_, B, _⟩ | ⟨hv, _⟩
  · rw [← f80_parts] at hck
    have OK : FnOk Pg w K mg base CX0 (kk + 2) (g.fad 80) fd ps spR := FD.ok S (fun vs H Q E h => by
      obtain ⟨sp, a, b, c, rfl, _⟩ := h
      rw [B.np]
      rfl) fun cdv A outer s H vs Q E hr h => by
        obtain ⟨sp, a, b, c, rfl, hsp, h⟩ := h
        refine L.kept.body W S hck cdv A outer s H _ Q E hr ?_
        have h0 : L2.start N [V.ref sp] = [some (.ref sp), none, none, none, none, none] := by
          unfold L2.start
          rw [hN]
          rfl
        rw [h0]
        -- the first draw
        have d0 : Held g [] [sp] (one0 (.lst [.int a, .int b, .int c])) H := held_one hsp fun m => reps3' _ _
        obtain ⟨C1, e1, t1⟩ := draw_fn 200 24 (C := one0 (.lst [.int a, .int b, .int c])) (l := 0) (n := 10) (by rw [one0_get, if_pos rfl]) (by decide) (by decide)
        obtain ⟨v1, v2⟩ := dV_range (a := a) (b := b) (c := c) (n := 10) (by decide)
        obtain ⟨v, hv⟩ : ∃ v : Nat, dV a b c 10 = v := ⟨(dV a b c 10).toNat, by omega⟩
        have hv10 : v < 10 := by omega
        rw [hv] at e1
        refine ⟨[sp], _, [some (.loc 0), none, none, none, none, none], _, _, C1, d0, ⟨rfl, fun i d e => ?_⟩, draw_part G0 e1, fun m1 H1 σ1 s1 d1 sl1 => ?_⟩
        · match i, e with
          | 0, e => cases e; exact ⟨_, rfl, Rep.loc rfl⟩
          | 1, e => cases e
          | 2, e => cases e
          | 3, e => cases e
          | 4, e => cases e
          | 5, e => cases e
          | i + 6, e => cases e
        have m1e : m1 = [sp] := by
          obtain ⟨u, hu⟩ := s1.pre
          have hlen := d1.len
          rw [hu, t1.1] at hlen
          have : u = [] := List.length_eq_zero_iff.mp (by
            rw [List.length_append] at hlen
            have z : (one0 (.lst [.int a, .int b, .int c])).n = 1 := rfl
            rw [z] at hlen
            simp at hlen
            exact List.length_eq_zero_iff.mpr hlen)
          rw [hu, this]
          rfl
        subst m1e
        obtain ⟨us1, hs1, rs1⟩ := held_lst d1 (a := sp) rfl t1.get
        cases reps3 rs1
        have p0 := slot_at (i := 0) sl1 rfl (a := sp) rfl
        have p1 := slot_int (i := 1) sl1 rfl
        have pl := sl1.1
        -- the second draw, and the rows
        have dd : Held g [] [sp] (one0 (.lst [.int (dA a 10), .int (db b c), .int (c + 1)])) H1 := held_one hs1 fun m => reps3' _ _
        have g0 : ((one0 (.lst [.int (dA a 10), .int (db b c), .int (c + 1)])).push (.lst [.str [48], .str [49]])).get 0 = some (.lst [.int (dA a 10), .int (db b c), .int (c + 1)]) := by
          rw [push_at _ _ 0 (Nat.lt_succ_self 0), one0_get, if_pos rfl]
        have g1 : ((one0 (.lst [.int (dA a 10), .int (db b c), .int (c + 1)])).push (.lst [.str [48], .str [49]])).get 1 = some (.lst [.str [48], .str [49]]) := push_new _ _
        obtain ⟨C2, e2, t2⟩ := of_fn 200 23 g0 g1 (by decide)
        obtain ⟨w1, w2⟩ := dV_range (a := dA a 10) (b := db b c) (c := c + 1) (n := 2) (by decide)
        obtain ⟨t, ht⟩ : ∃ t : Nat, dV (dA a 10) (db b c) (c + 1) 2 = t := ⟨(dV (dA a 10) (db b c) (c + 1) 2).toNat, by omega⟩
        have ht2 : t < 2 := by omega
        have hpick : pick (dV (dA a 10) (db b c) (c + 1) 2) (.str [48]) (.str [49]) = .str [48 + t] := by
          rw [ht]
          match t, ht2 with
          | 0, _ => rfl
          | 1, _ => rfl
        rw [hpick] at e2
        have hn2 : C2.n = 2 := t2.1
        refine ⟨[sp], _, [some (.loc 0), some (.int v), none, none, none, none], _, _, C2.push (.lst (rowsD v t)), dd, ⟨?_, fun i d e => ?_⟩, rows_part G0 hv10 rfl e2 hn2, fun m2 H2 σ2 s2 d2 sl2 => ?_⟩
        · exact pl
        · match i, e with
          | 0, e => cases e; exact ⟨_, p0, Rep.loc rfl⟩
          | 1, e => cases e; exact ⟨_, p1, Rep.int⟩
          | 2, e => cases e
          | 3, e => cases e
          | 4, e => cases e
          | 5, e => cases e
          | i + 6, e => cases e
        obtain ⟨u2, hu2⟩ := s2.pre
        have hm2 : m2.length = 3 := by
          rw [d2.len]
          show C2.n + 1 = 3
          rw [hn2]
        have hsp2 : m2[0]? = some sp := by rw [hu2]; rfl
        obtain ⟨pa, hpa⟩ : ∃ pa, m2[2]? = some pa := ⟨m2[2], by simp [hm2]⟩
        obtain ⟨us2, hs2, rs2⟩ := held_lst d2 hsp2 (show (C2.push (.lst (rowsD v t))).get 0 = some (.lst (sp2 a b c)) by
          rw [push_at C2 _ 0 (by omega)]
          exact t2.get)
        obtain ⟨vsr, hrow, rrow⟩ := held_lst d2 hpa (show (C2.push (.lst (rowsD v t))).get 2 = some (.lst (rowsD v t)) by
          rw [← hn2]
          exact push_new C2 _)
        have hne : pa ≠ sp := fun z => by
          have := at_inj d2 hpa (z ▸ hsp2)
          cases this
        have flat : ∀ x ∈ rowsD v t, isFlat x = true := fun x hx => by
          unfold rowsD at hx
          simp only [List.mem_cons, List.not_mem_nil, or_false] at hx
          rcases hx with rfl | rfl | rfl | rfl <;> rfl
        have q1 := slot_int (i := 1) sl2 rfl
        have q2 := slot_at (i := 2) sl2 rfl hpa
        have pl2 := sl2.1
        -- the rest
        refine part_rt (m := [pa]) (C := one0 (.lst (rowsD v t))) (ls := [none, some (.int v), some (.loc 0), none, none, none]) (held_one hrow fun m => reps_flat flat rrow) ⟨?_, fun i d e => ?_⟩ (eY ((p80_2 G0).trans (congrArg b80_2 X0_is.symm)) _ _) (web_ok hv10 ht2) fun m3 H3 s3 => ?_
        · exact pl2
        · match i, e with
          | 0, e => cases e
          | 1, e => cases e; exact ⟨_, q1, Rep.int⟩
          | 2, e => cases e; exact ⟨_, q2, Rep.loc rfl⟩
          | 3, e => cases e
          | 4, e => cases e
          | 5, e => cases e
          | i + 6, e => cases e
        refine h H3 (fun y o hy e => ?_) fun m => ?_
        · have z1 := s1.off y o e (by simpa using hy)
          have z2 := s2.off y o z1 (by simpa using hy)
          refine s3.off y o z2 fun z => ?_
          rw [List.mem_singleton.mp z] at z1
          rcases s2.new pa (List.mem_of_getElem? hpa) with q | q
          · exact hne (List.mem_singleton.mp q)
          · rw [q] at z1
            cases z1
        · refine ⟨us2, s3.off sp _ hs2 (by simpa using fun z => hne z.symm), reps_flat (fun x hx => ?_) rs2⟩
          unfold sp2 sp1 at hx
          simp only [List.mem_cons, List.not_mem_nil, or_false] at hx
          rcases hx with rfl | rfl | rfl <;> rfl
    refine (OK.raw B.b0 .nil).imp fun vs H Q E h => ?_
    obtain ⟨lk, m, C, as, d, C', hd, r, e, k⟩ := h
    match as, e with
    | [.loc l], e =>
      obtain ⟨v, rfl, rv⟩ := r.one
      obtain ⟨sp, hl, rfl⟩ := rv.loc_
      unfold mk80 at e
      dsimp only at e
      split at e
      · rename_i a b c hC
        split at e
        · cases e
        · rename_i hf
          have hf : isLk lk l = false := by simpa using hf
          cases e
          obtain ⟨us, hs, rs⟩ := hd.frl (asL hC) hl hf
          cases reps3 rs
          refine ⟨sp, a, b, c, rfl, hs, fun H' keep new => ?_⟩
          obtain ⟨us', hs', rs'⟩ := new m
          have nz := hd.notFrz hl hf
          have up : Step m H m H' := by
            refine ⟨⟨[], by simp⟩, fun y vs e => keep y _ (fun z => hd.notTup (List.mem_of_getElem? hl) vs (z ▸ e)) e, fun y o e hy => keep y o (fun z => hy (z ▸ List.mem_of_getElem? hl)) e, fun y hy => .inl hy, fun y o u e => keep y _ (fun z => nz o u (z ▸ e)) e⟩
          have hd' : Held g lk m (C.set l (.lst (sp2 a b c))) H' := by
            refine ⟨hd.len, hd.nd, fun j y hj => ?_, fun j hj => ?_, hd.lko⟩
            · by_cases q : j = l
              · subst q
                rw [hl] at hj
                cases hj
                exact ⟨.lst (sp2 a b c), .lst us', by rw [Hq.get_set, if_pos rfl], hs', ⟨us', by rw [hf]; rfl, rs'⟩⟩
              · obtain ⟨o', u, g1, g2, g3⟩ := hd.obj j y hj
                exact ⟨o', u, by rw [Hq.get_set, if_neg q]; exact g1, keep y u (fun z => q (at_inj hd (z ▸ hj) hl)) g2, g3.step up⟩
            · rw [Hq.get_set, if_neg ?_]
              · exact hd.non j hj
              · have := (List.getElem?_eq_some_iff.mp hl).1
                rw [hd.len] at this
                have hj' : C.n ≤ j := hj
                omega
          exact k _ m H' up hd' Rep.bl
      · cases e
    | [], e => cases e
    | .non :: _, e => cases e
    | .bl _ :: _, e => cases e
    | .int _ :: _, e => cases e
    | .str _ :: _, e => cases e
    | .tup _ :: _, e => cases e
    | .loc _ :: _ :: _, e => cases e
  · cases hv
end
end
end K64

set_option Elab.async false
set_option linter.all false
set_option maxRecDepth 1000000
set_option maxHeartbeats 4000000
/-! The law itself. -/
namespace K64
noncomputable section
open Q PySem L2 PySem.Spec PyProof.Rows

/-- the reckoning with the two promises in it -/
def G1 : Gam := ⟨fun i lk as C => if i = 79 then mk79 lk as C else if i = 80 then mk80 lk as C else G0.fn i lk as C, G0.cls, 200, G0.cfn⟩
theorem G1_79 {lk : List Nat} {as : List D} {C : Hq} : G1.fn 79 lk as C = mk79 lk as C := rfl
theorem G1_80 {lk : List Nat} {as : List D} {C : Hq} : G1.fn 80 lk as C = mk80 lk as C := rfl
theorem G1_71 {lk : List Nat} {as : List D} {C : Hq} : G1.fn 71 lk as C = G0.fn 71 lk as C := rfl
theorem allB_true (C : Hq) : ∀ k, allB C (List.replicate k (.bl true)) = some true
  | 0 => rfl
  | k + 1 => by
    show (allB C (List.replicate k (.bl true))).map (fun b => true && b) = _
    rw [allB_true C k]
    rfl
theorem rng_at (r i : Nat) : Iter.next (.items (rngL 0 r)) i = fun _ => some (if i < r then some (.int i) else none) := by
  funext C
  show some (rngL 0 r)[i]? = _
  rw [rngL_get]
  simp
theorem lk0 : ∀ j, 0 < j → isLk [0] j = false := by
  intro j hj
  cases j with
  | zero => omega
  | succ j => rfl
def elt81 : XE := xcall G1 80 (xcons (xcall G1 71 (xcons (xvar 0) (xcons (xvar 1) xnil))) xnil)
theorem elt_ok {ns : List Int} {C : Hq} {k : Nat} (h0 : C.get 0 = some (.lst (ns.map .int))) (hn : 1 < C.n) : ∃ C2, elt81 [0] [some (.loc 0), some (.int k)] C = .ok (.bl true, C2) ∧ (∀ i, i < C.n → C2.get i = C.get i) ∧ C.n ≤ C2.n := by
  obtain ⟨a, b, C1, j, e, g1, g2, g3, g4, g5⟩ := spring_fn 200 24 (by decide) lk0 h0 (by omega) (k := k)
  have e : G1.fn 71 [0] [.loc 0, .int k] C = .ok (.loc j, C1) := e
  refine ⟨C1.set j (.lst (sp2 a b 0)), ?_, fun i hi => ?_, g4⟩
  · unfold elt81
    have h1 : xcall G1 71 (xcons (xvar 0) (xcons (xvar 1) xnil)) [0] [some (.loc 0), some (.int k)] C = .ok (.loc j, C1) := by
      unfold xcall
      show (R.ok ([D.loc 0, D.int k], C)).bind (fun x => G1.fn 71 [0] x.1 x.2) = _
      exact e
    show ((xcons (xcall G1 71 (xcons (xvar 0) (xcons (xvar 1) xnil))) xnil [0] [some (.loc 0), some (.int k)] C).bind fun x => G1.fn 80 [0] x.1 x.2) = _
    rw [q_cons h1 (as := xnil) rfl]
    show mk80 [0] [.loc j] C1 = _
    unfold mk80
    dsimp only
    rw [g1]
    show (if isLk [0] j = true then _ else _) = _
    rw [lk0 j (by omega)]
    rfl
  · rw [Hq.get_set, if_neg (by omega)]
    exact g5 i hi
theorem law_loop {ns : List Int} (r : Nat) (hr : r ≤ 100) : ∀ (fu i : Nat) (C : Hq), r - i < fu → i ≤ r → C.get 0 = some (.lst (ns.map .int)) → C.get 1 = some (.lst (List.replicate i (.bl true))) → 1 < C.n →
    ∃ C', loopC (Iter.next (.items (rngL 0 r))) (fun x C' => (R.of (putP (.one 1) x C' (wipe [some (.loc 0), none] [1]))).bind fun ls' => (xyes [0] ls' C').bind fun t => if t.1 then
          (elt81 [0] ls' t.2).bind fun y => (R.of (asLst y.2 1)).bind fun xs => if roomy xs then .ok (y.2.set 1 (.lst (xs ++ [y.1]))) else .no else .ok t.2) fu i C = .ok C' ∧ C'.get 1 = some (.lst (List.replicate r (.bl true)))
  | 0, i, C, h, _, _, _, _ => by omega
  | fu + 1, i, C, h, hi, h0, h1, hn => by
    rw [loopC_succ, rng_at]
    by_cases q : i < r
    · rw [if_pos q]
      obtain ⟨C2, e, keep, hn2⟩ := elt_ok (k := i) h0 hn
      have h2 : C2.get 1 = some (.lst (List.replicate i (.bl true))) := by rw [keep 1 (by omega)]; exact h1
      have hroom : roomy (List.replicate i (D.bl true)) = true := by
        unfold roomy
        rw [decide_eq_true (by rw [List.length_replicate]; omega)]
      obtain ⟨C', e', g'⟩ := law_loop r hr fu (i + 1) (C2.set 1 (.lst (List.replicate i (.bl true) ++ [.bl true]))) (by omega) q (by
        rw [Hq.get_set, if_neg (by decide), keep 0 (by omega)]
        exact h0) (by
        rw [Hq.get_set, if_pos rfl, ← List.replicate_succ']) (by
        show 1 < C2.n
        omega)
      refine ⟨C', ?_, g'⟩
      show (((elt81 [0] [some (.loc 0), some (.int i)] C).bind fun y => (R.of (asLst y.2 1)).bind fun xs => if roomy xs = true then R.ok (y.2.set 1 (.lst (xs ++ [y.1]))) else R.no).bind fun C' => loopC _ _ fu (i + 1) C') = _
      rw [e, R.bind_ok, asL h2, R.of_some, R.bind_ok, if_pos hroom, R.bind_ok]
      exact e'
    · rw [if_neg q]
      have : i = r := by omega
      subst this
      exact ⟨C, rfl, h1⟩
theorem law_eval (ns : List Int) : ∃ ls' C', evSs G1 f81.body [0] [some (.loc 0), none] (one0 (.lst (ns.map .int))) = .ok (.rt (.bl true), ls', C') := by
  rw [show evSs G1 f81.body [0] [some (.loc 0), none] (one0 (.lst (ns.map .int))) = b81 G1 [0] [some (.loc 0), none] (one0 (.lst (ns.map .int))) from congrFun (congrFun (congrFun (p81 G1) _) _) _]
  unfold b81
  generalize hC : one0 (.lst (ns.map .int)) = C
  have h0 : C.get 0 = some (.lst (ns.map .int)) := by rw [← hC, one0_get, if_pos rfl]
  have hn : C.n = 1 := by rw [← hC]; rfl
  -- the known ones
  have s1 : xifs (xnot (xcall G1 79 xnil)) (xscons (xret (xcon (.bl false))) xsnil) xsnil [0] [some (.loc 0), none] C = .ok (.nx, [some (.loc 0), none], C) := by
    refine (q_if (k := false) (C1 := C) ?_).trans rfl
    rfl
  -- how many
  obtain ⟨r, hr, hj⟩ : ∃ r : Nat, r ≤ 4 ∧ xbi .max2 (xcons (xcon (.int 2)) (xcons (xbi .min2 (xcons (xbi .len (xcons (xvar 0) xnil)) (xcons (xcon (.int 4)) xnil))) xnil)) [0] [some (.loc 0), none] C = .ok (.int r, C) := by
    have hl : xbi .len (xcons (xvar 0) xnil) [0] [some (.loc 0), none] C = .ok (.int ns.length, C) := q_bi1 (q_var rfl) (by
      show (match C.get 0 with
        | some (.lst xs) => some xs.length
        | some (.dic kvs) => some kvs.length
        | _ => none).map (fun n => (D.int n, C)) = _
      rw [h0]
      simp)
    have hm := q_bi2 (f := .min2) hl (q_con (d := .int 4)) (q := (.int (if (4 : Int) < ns.length then 4 else ns.length), C)) rfl
    have hx := q_bi2 (f := .max2) (q_con (d := .int 2) (lk := [0]) (ls := [some (.loc 0), none]) (C := C)) hm (q := (.int (if (if (4 : Int) < ns.length then 4 else (ns.length : Int)) > 2 then (if (4 : Int) < ns.length then 4 else (ns.length : Int)) else 2), C)) rfl
    refine ⟨(if (if (4 : Int) < ns.length then 4 else (ns.length : Int)) > 2 then (if (4 : Int) < ns.length then 4 else (ns.length : Int)) else 2).toNat, ?_, ?_⟩
    · split <;> (try split) <;> omega
    · rw [hx]
      congr 3
      split <;> (try split) <;> omega
  have hi : xrg1 (xbi .max2 (xcons (xcon (.int 2)) (xcons (xbi .min2 (xcons (xbi .len (xcons (xvar 0) xnil)) (xcons (xcon (.int 4)) xnil))) xnil))) [0] [some (.loc 0), none] C = .ok (.items (rngL 0 r), C) := by
    unfold xrg1
    rw [hj, R.bind_ok]
    show (R.of (some (r : Int))).bind _ = _
    rw [R.of_some, R.bind_ok, decide_eq_true (show -(2 ^ 60) < (r : Int) by omega), decide_eq_true (show (r : Int) < 2 ^ 60 by omega)]
    rfl
  have hlc : ∃ C', xlc G1 [1] (.one 1) (xrg1 (xbi .max2 (xcons (xcon (.int 2)) (xcons (xbi .min2 (xcons (xbi .len (xcons (xvar 0) xnil)) (xcons (xcon (.int 4)) xnil))) xnil)))) xyes (xcall G1 80 (xcons (xcall G1 71 (xcons (xvar 0) (xcons (xvar 1) xnil))) xnil)) [0] [some (.loc 0), none] C
      = .ok (.loc 1, C') ∧ C'.get 1 = some (.lst (List.replicate r (.bl true))) := by
    obtain ⟨C', e, g⟩ := law_loop (ns := ns) r (by omega) 200 0 (C.push (.lst [])) (by omega) (by omega) (by rw [push_at C _ 0 (by omega)]; exact h0) (by
      have := push_new C (.lst [])
      rw [hn] at this
      exact this) (by
      show 1 < C.n + 1
      omega)
    refine ⟨C', ?_, g⟩
    unfold xlc
    rw [hi, R.bind_ok]
    show (loopC (Iter.next (.items (rngL 0 r))) _ 200 0 (C.push (.lst []))).bind (fun C' => R.ok (D.loc C.n, C')) = _
    rw [hn]
    have e2 : loopC (Iter.next (.items (rngL 0 r))) (fun x C' => (R.of (putP (.one 1) x C' (wipe [some (.loc 0), none] [1]))).bind fun ls' => (xyes ((Iter.items (rngL 0 r)).lock [0]) ls' C').bind fun t => if t.1 then
          ((xcall G1 80 (xcons (xcall G1 71 (xcons (xvar 0) (xcons (xvar 1) xnil))) xnil)) ((Iter.items (rngL 0 r)).lock [0]) ls' t.2).bind fun y => (R.of (asLst y.2 1)).bind fun xs => if roomy xs then .ok (y.2.set 1 (.lst (xs ++ [y.1]))) else .no else .ok t.2) 200 0 (C.push (.lst [])) = .ok C' := e
    rw [e2]
    rfl
  obtain ⟨C', hlc, hg⟩ := hlc
  refine ⟨[some (.loc 0), none], C', q_seq s1 (q_ret (q_bi1 hlc ?_))⟩
  · show ((allAt C' (.loc 1)).map fun k => (D.bl k, C')) = _
    unfold allAt
    show (((asLst C' 1).bind (allB C')).map fun k => (D.bl k, C')) = _
    rw [asL hg]
    show ((allB C' (List.replicate r (.bl true))).map fun k => (D.bl k, C')) = _
    rw [allB_true]
    rfl

section
variable {g : Stg} {Pg : Program} {w : World} {K : PySem.W.Frag} {mg : Str → Option Value} {ks : Nat → List Str} {kk : Nat}
theorem fn_levels {base : Heap} (L : Lv g prog 200 Pg w K mg base ks kk 25) : Kept g prog G0 Pg w K mg base ks kk := L.kept
/-- what the law promises -/
def spL : Sp := fun vs H Q _ => ∃ a o ns, vs = [.ref a] ∧ H a = some (.frz o (.lst (List.map V.int ns))) ∧ ∀ H', Q (.bl true) H'
theorem law_fn (Wp : Wk inf g prog K mg ks) (D : ∀ i fn, prog.fns.get i = some fn → DefOk inf K (g.fad i) fn (ks i)) (DC : ∀ i fn, prog.cms.get i = some fn → DefOkC inf K (g.fad i) fn) (h79 : ks 79 = []) (h80 : ks 80 = [])
    {x qual : Str} {params : Arguments} {body : List Stmt} {scope : Scope} {fd : FuncData} (FD : FunD K x qual params body scope [] [] (g.fad 81) fd) (S : FnScope N81 ["_law_cells"] scope) (hck : ckSs inf N81 scope f81.body body = true) (base : Heap) :
    FnOk Pg w K mg base CX0 54 (g.fad 81) fd ["_law_cells"] spL := by
  have L := all_lv (Pg := Pg) (w := w) (base := base) (fuel := 200) Wp D DC 25
  have F79 := known_fn Wp L (D 79 f79 rfl)
  have F80 := right_fn Wp L (D 80 f80 rfl)
  have Kp : Kept g prog G1 Pg w K mg base ks 52 := by
    have k0 := fn_levels L
    refine ⟨k0.cls, fun {f} h => ?_, k0.isc, fun i => ?_, fun i => (k0.c i).mono (by decide), fun i k hk => ?_⟩
    · by_cases q : f = 79
      · exact ⟨f79, by rw [q]; rfl⟩
      · by_cases q2 : f = 80
        · exact ⟨f80, by rw [q2]; rfl⟩
        · refine k0.isf ?_
          obtain ⟨lk, as, C, r, e⟩ := h
          refine ⟨lk, as, C, r, ?_⟩
          rw [← e]
          show _ = (if f = 79 then _ else if f = 80 then _ else _)
          rw [if_neg q, if_neg q2]
    · by_cases q : i = 79
      · subst q
        exact F79
      · by_cases q2 : i = 80
        · subst q2
          exact F80
        · rw [show G1.fn i = G0.fn i from by
            funext lk as C
            show (if i = 79 then _ else if i = 80 then _ else _) = _
            rw [if_neg q, if_neg q2]]
          exact (k0.f i).mono (by decide)
    · have q : i ≠ 79 := fun z => by rw [z, h79] at hk; cases hk
      have q2 : i ≠ 80 := fun z => by rw [z, h80] at hk; cases hk
      rw [show G1.fn i = G0.fn i from by
        funext lk as C
        show (if i = 79 then _ else if i = 80 then _ else _) = _
        rw [if_neg q, if_neg q2]]
      have F := k0.k i k hk
      exact fun A outer s H u u2 vs Q E hr => F A outer s H u u2 vs Q E (hr.mono (by decide))
  refine FD.ok S (fun vs H Q E h => ?_) fun cdv A outer s H vs Q E hr h => ?_
  · obtain ⟨a, o, ns, rfl, _⟩ := h
    rfl
  · obtain ⟨a, o, ns, rfl, ha, h⟩ := h
    obtain ⟨ls', C', e⟩ := law_eval ns
    refine Kp.bodyE Wp S hck cdv A outer s H _ Q E hr ⟨[0], [a], one0 (.lst (ns.map .int)), [some (.loc 0), none], .bl true, C', ls', held_frz ha fun m => reps_ints ns, ⟨rfl, fun i d e => ?_⟩, e, fun v m' H' s1 d1 r1 => ?_⟩
    · match i, e with
      | 0, e => cases e; exact ⟨_, rfl, Rep.loc rfl⟩
      | 1, e => cases e
      | i + 2, e => cases e
    · rw [r1.bl_]
      exact h H'
end
end
end K64

set_option Elab.async false
set_option linter.all false
set_option maxRecDepth 1000000
set_option maxHeartbeats 0
/-! The top's run, and the statement. -/
namespace K64
noncomputable section
open Q PySem L2 PySem.Spec PyProof.Rows
theorem ks_key : (prog.cls.list.all fun p => p.2.meths.all fun q => kwL.all fun z => !(decide (fldL.getD q.1 ("" : Str) = z.1)) || (ks q.2).contains z.2) = true := by decide +kernel
theorem ks_ok : ∀ c cl m x f k, prog.cls.get c = some cl → fldL[m]? = some x → getN cl.meths m = some f → (x, k) ∈ kwL → k ∈ ks f := by
  intro c cl m x f k h1 h2 h3 h4
  have a1 := List.all_eq_true.mp ks_key _ (Tr.in_list _ _ _ h1)
  have a2 := List.all_eq_true.mp a1 _ (getN_mem h3)
  have a3 := List.all_eq_true.mp a2 _ h4
  have a4 : (ks f).contains k = true := or_r a3 (by rw [show fldL.getD m ("" : Str) = x from fld_at h2, decide_eq_true rfl]; rfl)
  exact List.elem_iff.mp a4
theorem fld_nd : fldL.Nodup := by decide +kernel
theorem facts {Pg : Program} {w : World} {K : PySem.W.Frag} {h : Heap} {mg : Str → Option Value} {fa : Addr} (X : K.In h) (Gm : h.Ns mainGlobals mg) (c : obsQ chk defs K = valQ defs) (hfa : mg ("law" : Str) = some (.ref fa)) :
    ∃ fd : FuncData, (∀ (s : Shared) (v : Value), BindsTo s fd ⟨[v], []⟩ [("_law_cells", v)]) ∧ ∀ base : Heap, K.In base → base.Ns mainGlobals mg → FnOk Pg w K mg base CX0 54 fa fd ["_law_cells"] spL := by
  have W : Wk inf (st K) prog K mg ks := wk_of X Gm (says_chk c) rfl rfl rfl fld_nd ks_ok
  obtain ⟨fd, F⟩ := says_def c 78 rfl
  have e := hfa.symm.trans (W.fn "law" 81 (by decide +kernel)).1
  cases e
  have b := FunD.bindsA (ps := ["_law_cells"]) F fun _ _ _ _ _ _ us hl => match us, hl with | [_], _ => rfl
  exact ⟨fd, fun s v => b s [v] rfl, fun base _ _ => law_fn W (all_f c) (all_c c) rfl rfl F sc81 ck81 base⟩
end
end K64
open PySem PySem.W PySem.Calls PyProof.Rows
theorem PySem.Challenge.cw_loopquads_k64_consoles_by_hand_holds : PySem.Challenge.rw_loopquads_k64_consoles_by_hand.Holds := by
  w_on; o_law
  refine HandSHeadRun.head_any (r := OpenLaw.row PySem.Challenge.rw_loopquads_k64_consoles_by_hand) (q := view (OpenLaw.row PySem.Challenge.rw_loopquads_k64_consoles_by_hand).prog [75]) (H := K64.hk) (ob := K64.ob) (M := 20000) (loose := K64.loose) (d := HandSHeadRun.topDef (OpenLaw.row PySem.Challenge.rw_loopquads_k64_consoles_by_hand).prog 75) (kwd := []) K64.ob_eq
    (by kernel_rfl) (fun s => by kernel_rfl) K64.run_top (by kernel_rfl) (by kernel_rfl) (by kernel_rfl) (by rfl) (by first | assumption | decide +kernel) (by decide +kernel) ⟨rfl, rfl, rfl, rfl, rfl, by decide +kernel⟩ ?hw ?hc
  case hw => w_witness2
  case hc =>
    refine L2.walk_ofE (l := PySem.Challenge.rw_loopquads_k64_consoles_by_hand) (n := 63) (k := 54) (x := "_law_cells") (CX := L2.CX0) rfl (by decide) (by kernel_rfl) ⟨rfl, by decide, by decide⟩ ?F (fun _ _ _ _ z => z)
    intro w mg fa h Y Gm hmg0
    obtain ⟨K, KX, nl, c⟩ := Y
    have hmg : mg ("law" : PySem.Str) = some (.ref fa) := by
      have e : (HandSHeadRun.topDef (OpenLaw.row PySem.Challenge.rw_loopquads_k64_consoles_by_hand).prog 75).name = ("law" : PySem.Str) := by kernel_rfl
      rw [← e]
      exact hmg0
    obtain ⟨fd, hb, hF⟩ := K64.facts (Pg := (PySem.Challenge.rw_loopquads_k64_consoles_by_hand).prog) (w := w) KX Gm c hmg
    exact ⟨K, fd, K64.spL, KX, hb, fun H a ns hl hO hS => let ⟨o, ho⟩ := Q.cells_at nl hO hS; ⟨a, o, ns, rfl, ho, fun _ => rfl⟩, hF⟩

