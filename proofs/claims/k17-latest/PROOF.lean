import PyProof.Rows.All
import PyProof.P3Statements
import PyProof.EqLayable
import KE.LtData
import KE.SortKeyed
import KE.DataMinMax
import HandS.ForMost
import HandS.ForExc
import HandS.Deep
import HandS.Defaults
import HandS.Wide
import HandS.Style
import HandS.HeadHook1
import HandS.TupAny
import HandS.Conv
import HandS.IsInst
import KE.SortData
import HandS.TupSets
import HandS.SetFor
import HandS.Strs
import HandS.ExcIs
import KE.KRevSl
import HandS.Iter
import HandS.Sort
import PyProof.Claim2Refuses
import KE.GoesMore
import KE.GoesEnum
import PyProof.Draws
import HandS.Base
import HandS.Call
import HandS.Ends
import HandS.More
import HandS.Words
import HandS.WordsExc
import HandS.Head0
import HandS.Head1
import HandS.Head2
import HandS.HeadEnd
import HandS.HeadHook2
import Wide.All
import OpenK.AllK
import Wide.FinOn
import KE.KStateDown
import PySem.Challenge.RW_bingocards_k17_latest
set_option Elab.async false
set_option linter.all false
set_option maxRecDepth 100000
set_option maxHeartbeats 0
namespace BG
open PySem
abbrev D := PySem.PyData

/-- a mirror's result: a value, an exception of the named class, or nothing promised -/
inductive Rs (α : Type) where
  | ok (a : α)
  | exc (c : Str)
  | bad
def Rs.bind {α β : Type} (m : Rs α) (f : α → Rs β) : Rs β := match m with
  | .ok a => f a
  | .exc c => .exc c
  | .bad => .bad
/-- behind a block: it goes on with a state, or it returned -/
inductive Out (A : Type) where
  | nx (a : A)
  | rt (d : D)
def Rs.go {A B : Type} (m : Rs (Out A)) (k : A → Rs (Out B)) : Rs (Out B) := match m with
  | .ok (.nx a) => k a
  | .ok (.rt d) => .ok (.rt d)
  | .exc c => .exc c
  | .bad => .bad
/-- a def's end -/
def Rs.fin {A : Type} (m : Rs (Out A)) : Rs D := match m with
  | .ok (.nx _) => .ok .none
  | .ok (.rt d) => .ok d
  | .exc c => .exc c
  | .bad => .bad
@[simp] theorem bind_ok {α β : Type} (a : α) (f : α → Rs β) : (Rs.ok a).bind f = f a := (rfl)
@[simp] theorem bind_exc {α β : Type} (c : Str) (f : α → Rs β) : (Rs.exc c : Rs α).bind f = .exc c := (rfl)
@[simp] theorem bind_bad {α β : Type} (f : α → Rs β) : (Rs.bad : Rs α).bind f = .bad := (rfl)
@[simp] theorem go_nx {A B : Type} (a : A) (f : A → Rs (Out B)) : (Rs.ok (Out.nx a)).go f = f a := (rfl)
@[simp] theorem go_rt {A B : Type} (d : D) (f : A → Rs (Out B)) : (Rs.ok (Out.rt d) : Rs (Out A)).go f = .ok (.rt d) := (rfl)
@[simp] theorem go_exc {A B : Type} (c : Str) (f : A → Rs (Out B)) : (Rs.exc c : Rs (Out A)).go f = .exc c := (rfl)
@[simp] theorem go_bad {A B : Type} (f : A → Rs (Out B)) : (Rs.bad : Rs (Out A)).go f = .bad := (rfl)
@[simp] theorem fin_nx {A : Type} (a : A) : (Rs.ok (Out.nx a)).fin = .ok .none := (rfl)
@[simp] theorem fin_rt {A : Type} (d : D) : (Rs.ok (Out.rt d) : Rs (Out A)).fin = .ok d := (rfl)
@[simp] theorem fin_exc {A : Type} (c : Str) : (Rs.exc c : Rs (Out A)).fin = .exc c := (rfl)
@[simp] theorem fin_bad {A : Type} : (Rs.bad : Rs (Out A)).fin = .bad := (rfl)

/-- for x in xs -/
def forO {A : Type} (f : A → D → Rs (Out A)) : List D → A → Rs (Out A)
  | [], a => .ok (.nx a)
  | x :: xs, a => (f a x).go fun a' => forO f xs a'
/-- while c: body, at most n turns -/
def whileO {A : Type} (c : A → Rs Bool) (f : A → Rs (Out A)) : Nat → A → Rs (Out A)
  | 0, _ => .bad
  | n + 1, a => (c a).bind fun b => if b = true then (f a).go fun a' => whileO c f n a' else .ok (.nx a)
/-- [e for x in xs if t] -/
def compO (f : D → Rs (Option D)) : List D → Rs (List D)
  | [] => .ok []
  | x :: xs => match f x with
    | .ok (some d) => (compO f xs).bind fun r => .ok (d :: r)
    | .ok none => compO f xs
    | _ => .bad
/-- the element behind its test -/
def eltO (t : Rs Bool) (e : Rs D) : Rs (Option D) := t.bind fun b => if b = true then e.bind fun d => .ok (some d) else .ok none

/-- a test's answer -/
def toB : D → Rs Bool
  | .bool b => .ok b
  | _ => .bad

def sizeMax : Nat := 16777216
def ofInt : D → Rs Int
  | .int i => .ok i
  | _ => .bad
def ofList : D → Rs (List D)
  | .list xs => .ok xs
  | _ => .bad
/-- what is walked by for: a list or a tuple -/
def ofSeq : D → Rs (List D)
  | .list xs => .ok xs
  | .tuple xs => .ok xs
  | _ => .bad

mutual
/-- every list and tuple of it is within the line -/
def szD : D → Bool
  | .list xs => decide (xs.length ≤ sizeMax) && szA xs
  | .tuple xs => decide (xs.length ≤ sizeMax) && szA xs
  | _ => true
def szA : List D → Bool
  | [] => true
  | x :: xs => szD x && szA xs
end
theorem szA_mem : ∀ {xs : List D} {d : D}, szA xs = true → d ∈ xs → szD d = true
  | x :: xs, d, h, hm => by
    unfold szA at h
    obtain ⟨h1, h2⟩ := Bool.and_eq_true_iff.mp h
    rcases List.mem_cons.mp hm with e | e
    · rw [e]; exact h1
    · exact szA_mem h2 e
theorem szA_of : ∀ {xs : List D}, (∀ d ∈ xs, szD d = true) → szA xs = true
  | [], _ => by simp [szA]
  | x :: xs, h => by
    unfold szA
    exact Bool.and_eq_true_iff.mpr ⟨h x (by simp), szA_of fun d hd => h d (List.mem_cons_of_mem _ hd)⟩
theorem szA_append {xs ys : List D} (h1 : szA xs = true) (h2 : szA ys = true) : szA (xs ++ ys) = true := szA_of fun d hd => by
  rcases List.mem_append.mp hd with e | e
  · exact szA_mem h1 e
  · exact szA_mem h2 e
theorem szD_list {xs : List D} : szD (.list xs) = true ↔ xs.length ≤ sizeMax ∧ szA xs = true := by
  unfold szD
  rw [Bool.and_eq_true, decide_eq_true_iff]
theorem szD_tuple {xs : List D} : szD (.tuple xs) = true ↔ xs.length ≤ sizeMax ∧ szA xs = true := by
  unfold szD
  rw [Bool.and_eq_true, decide_eq_true_iff]

def pyAdd : D → D → Rs D
  | .int i, .int j => .ok (.int (i + j))
  | .list a, .list b => if a.length + b.length ≤ sizeMax then .ok (.list (a ++ b)) else .bad
  | .tuple a, .tuple b => if a.length + b.length ≤ sizeMax then .ok (.tuple (a ++ b)) else .bad
  | _, _ => .bad
def pySub : D → D → Rs D
  | .int i, .int j => .ok (.int (i - j))
  | _, _ => .bad
def pyMul : D → D → Rs D
  | .int i, .int j => if (-(2 ^ 64) < i ∧ i < 2 ^ 64) ∨ (-(2 ^ 64) < j ∧ j < 2 ^ 64) then .ok (.int (i * j)) else .bad
  | _, _ => .bad
/-- [..] * n -/
def repL (ds : List D) : D → Rs (List D)
  | .int j => if 0 ≤ j ∧ j < 2 ^ 31 ∧ ds.length * j.toNat ≤ sizeMax then .ok (List.replicate j.toNat ds).flatten else .bad
  | _ => .bad
def pyDiv : D → D → Rs D
  | .int i, .int j => if 0 < j ∧ j < 2 ^ 64 then .ok (.int (i / j)) else .bad
  | _, _ => .bad
def pyMod : D → D → Rs D
  | .int i, .int j => if 0 < j then .ok (.int (i % j)) else .bad
  | _, _ => .bad
def pyPow : D → D → Rs D
  | .int i, .int j => if 0 ≤ j ∧ j ≤ 1000000 ∧ i.natAbs < 2 ^ 64 then .ok (.int (i ^ j.toNat)) else .bad
  | _, _ => .bad
def pyNeg : D → Rs D
  | .int i => .ok (.int (-i))
  | _ => .bad
def pyLt : D → D → Rs D
  | .int i, .int j => .ok (.bool (decide (i < j)))
  | _, _ => .bad
def pyLe : D → D → Rs D
  | .int i, .int j => .ok (.bool (decide (i ≤ j)))
  | _, _ => .bad
def pyGt : D → D → Rs D
  | .int i, .int j => .ok (.bool (decide (j < i)))
  | _, _ => .bad
def pyGe : D → D → Rs D
  | .int i, .int j => .ok (.bool (decide (j ≤ i)))
  | _, _ => .bad
def shp (d : D) : Bool := SeqAt.shaped d
def pyEq (a b : D) : Rs D := if shp a = true ∧ shp b = true then .ok (.bool (PyData.eqv a b)) else .bad
def pyNe (a b : D) : Rs D := if shp a = true ∧ shp b = true then .ok (.bool (!PyData.eqv a b)) else .bad
def isNoneB : D → Bool
  | .none => true
  | _ => false
/-- x is y: with None, of two bools -/
def pyIs : D → D → Rs D
  | .bool a, .bool b => .ok (.bool (decide (a = b)))
  | a, .none => .ok (.bool (isNoneB a))
  | _, _ => .bad
def pyIsNot : D → D → Rs D
  | .bool a, .bool b => .ok (.bool (!decide (a = b)))
  | a, .none => .ok (.bool (!isNoneB a))
  | _, _ => .bad
/-- x in xs -/
def pyIn (x y : D) : Rs D := (ofSeq y).bind fun ds => if shp x = true ∧ shp (.list ds) = true then .ok (.bool (ds.any fun z => PyData.eqv z x)) else .bad
def pyNotIn (x y : D) : Rs D := (ofSeq y).bind fun ds => if shp x = true ∧ shp (.list ds) = true then .ok (.bool (!ds.any fun z => PyData.eqv z x)) else .bad

def ixOf (n : Nat) (i : Int) : Option Nat := if 0 ≤ i then (if i < n then some i.toNat else none) else (if 0 ≤ i + n then some (i + n).toNat else none)
def pyIx (a i : D) : Rs D := (ofSeq a).bind fun xs => (ofInt i).bind fun j => match (ixOf xs.length j).bind fun k => xs[k]? with
  | some d => .ok d
  | none => .bad

def sIx (n d : Nat) : Option Int → Nat
  | none => d
  | some v => if v < 0 then (v + (n : Int)).toNat else min v.toNat n
def cutL {α : Type} (xs : List α) (lo hi : Option Int) : List α := (xs.drop (sIx xs.length 0 lo)).take (sIx xs.length xs.length hi - sIx xs.length 0 lo)
/-- a slice's part -/
def part (m : Rs D) : Rs (Option Int) := m.bind fun d => (ofInt d).bind fun i => .ok (some i)
def pySlice (a : D) (lo hi : Option Int) : Rs D := match a with
  | .list xs => .ok (.list (cutL xs lo hi))
  | .tuple xs => .ok (.tuple (cutL xs lo hi))
  | _ => .bad
def pyRev (a : D) : Rs D := match a with
  | .list xs => .ok (.list xs.reverse)
  | .tuple xs => .ok (.tuple xs.reverse)
  | _ => .bad
def mkTup (ds : List D) : Rs D := if ds.length ≤ sizeMax then .ok (.tuple ds) else .bad
def mkLst (ds : List D) : Rs (List D) := if ds.length ≤ sizeMax then .ok ds else .bad
/-- a new list as a datum -/
def lstD (m : Rs (List D)) : Rs D := m.bind fun ds => .ok (.list ds)

def andT (a b : Rs Bool) : Rs Bool := a.bind fun c => if c = true then b else .ok false
def orT (a b : Rs Bool) : Rs Bool := a.bind fun c => if c = true then .ok true else b
def notT (a : Rs Bool) : Rs Bool := a.bind fun c => .ok (!c)
def andV (a b : Rs D) : Rs D := (a.bind toB).bind fun c => if c = true then b else .ok (.bool false)
def orV (a b : Rs D) : Rs D := (a.bind toB).bind fun c => if c = true then .ok (.bool true) else b
def notV (a : Rs D) : Rs D := (a.bind toB).bind fun c => .ok (.bool (!c))
def ifE (c : Rs Bool) (a b : Rs D) : Rs D := c.bind fun c => if c = true then a else b
def tst (m : Rs D) : Rs Bool := m.bind toB
/-- a op b op' c -/
def chainV (g g' : D → D → Rs D) (a b c : Rs D) : Rs D := a.bind fun x => b.bind fun y => ((g x y).bind toB).bind fun k => if k = true then c.bind fun z => g' y z else .ok (.bool false)

def pyLen : D → Rs D
  | .list xs => .ok (.int xs.length)
  | .tuple xs => .ok (.int xs.length)
  | _ => .bad
def pyList (a : D) : Rs (List D) := ofSeq a
def pyTuple (a : D) : Rs D := (ofSeq a).bind fun xs => .ok (.tuple xs)
def tyName : D → Option String
  | .none => some "NoneType"
  | .bool _ => some "bool"
  | .int _ => some "int"
  | .str _ => some "str"
  | .list _ => some "list"
  | .tuple _ => some "tuple"
  | .dict _ => none
/-- isinstance(x, T), T one of int, bool, str, list, tuple -/
def isT (T : String) (d : D) : Bool := match d with
  | .bool _ => T == "bool" || T == "int"
  | .int _ => T == "int"
  | .str _ => T == "str"
  | .list _ => T == "list"
  | .tuple _ => T == "tuple"
  | _ => false
def pyIsT (T : String) (d : D) : Rs D := match d with
  | .dict _ => .bad
  | d => .ok (.bool (isT T d))
def intsOf : List D → Option (List Int)
  | [] => some []
  | .int b :: r => (intsOf r).map (b :: ·)
  | _ => none
def pySum : D → Rs D
  | .list xs => match intsOf xs with
    | some ns => .ok (.int ns.sum)
    | none => .bad
  | _ => .bad
/-- the greatest, the least of ints -/
def maxI : Int → List Int → Int
  | m, [] => m
  | m, x :: xs => maxI (if m < x then x else m) xs
def minI : Int → List Int → Int
  | m, [] => m
  | m, x :: xs => minI (if x < m then x else m) xs
def pyMaxI : D → Rs D
  | .list xs => match intsOf xs with
    | some (n :: ns) => .ok (.int (maxI n ns))
    | _ => .bad
  | _ => .bad
def pyMinI : D → Rs D
  | .list xs => match intsOf xs with
    | some (n :: ns) => .ok (.int (minI n ns))
    | _ => .bad
  | _ => .bad
def boolsOf : List D → Option (List Bool)
  | [] => some []
  | .bool b :: r => (boolsOf r).map (b :: ·)
  | _ => none
def pyAll : D → Rs D
  | .list xs => match boolsOf xs with
    | some bs => .ok (.bool (bs.all id))
    | none => .bad
  | _ => .bad
def pyAny : D → Rs D
  | .list xs => match boolsOf xs with
    | some bs => .ok (.bool (bs.any id))
    | none => .bad
  | _ => .bad
/-- lo, lo + 1, .. below hi -/
def intsD (lo : Int) (n : Nat) : List D := (List.range n).map fun (i : Nat) => .int (lo + (i : Int))
def pyRange (a b : D) : Rs (List D) := (ofInt a).bind fun i => (ofInt b).bind fun j =>
  if -(2 ^ 61) < i ∧ i < 2 ^ 61 ∧ -(2 ^ 61) < j ∧ j < 2 ^ 61 ∧ j - i ≤ sizeMax then .ok (intsD i (j - i).toNat) else .bad
end BG
namespace BG
open PySem
def lift1 (f : D → Rs D) : List D → Rs D
  | [a] => f a
  | _ => .bad
def lift2 (f : D → D → Rs D) : List D → Rs D
  | [a, b] => f a b
  | _ => .bad
def lift3 (f : D → D → D → Rs D) : List D → Rs D
  | [a, b, c] => f a b c
  | _ => .bad
def lift4 (f : D → D → D → D → Rs D) : List D → Rs D
  | [a, b, c, d] => f a b c d
  | _ => .bad
def lift5 (f : D → D → D → D → D → Rs D) : List D → Rs D
  | [a, b, c, d, e] => f a b c d e
  | _ => .bad
/-- a pair taken apart -/
def un2 {α : Type} (d : D) (f : D → D → Rs α) : Rs α := match d with
  | .tuple [a, b] => f a b
  | _ => .bad
def enumD (ds : List D) : List D := (List.range ds.length).map fun i => .tuple [.int (i : Nat), ds.getD i .none]
def zipD (as bs : List D) : List D := (as.zip bs).map fun p => .tuple [p.1, p.2]
/-- a comprehension over what m walks -/
def comp (m : Rs (List D)) (f : D → Rs (Option D)) : Rs (List D) := m.bind (compO f)
/-- xs[b] = ..: the place -/
def setIx {α : Type} (ds : List D) (b : D) (f : Nat → Rs α) : Rs α := (ofInt b).bind fun j => match ixOf ds.length j with
  | some n => f n
  | none => .bad
def lB1 (f : D → Rs (Out Unit)) : List D → Rs (Out Unit)
  | [a] => f a
  | _ => .bad
def lB2 (f : D → D → Rs (Out Unit)) : List D → Rs (Out Unit)
  | [a, b] => f a b
  | _ => .bad
def lB3 (f : D → D → D → Rs (Out Unit)) : List D → Rs (Out Unit)
  | [a, b, c] => f a b c
  | _ => .bad
def lB4 (f : D → D → D → D → Rs (Out Unit)) : List D → Rs (Out Unit)
  | [a, b, c, d] => f a b c d
  | _ => .bad
def lB5 (f : D → D → D → D → D → Rs (Out Unit)) : List D → Rs (Out Unit)
  | [a, b, c, d, e] => f a b c d e
  | _ => .bad
theorem lB1_fin {f : D → Rs (Out Unit)} (ds : List D) (h : ds.length = 1) : (lB1 f ds).fin = lift1 (fun a => (f a).fin) ds := match ds, h with
  | [_], _ => rfl
theorem lB2_fin {f : D → D → Rs (Out Unit)} (ds : List D) (h : ds.length = 2) : (lB2 f ds).fin = lift2 (fun a b => (f a b).fin) ds := match ds, h with
  | [_, _], _ => rfl
theorem lB3_fin {f : D → D → D → Rs (Out Unit)} (ds : List D) (h : ds.length = 3) : (lB3 f ds).fin = lift3 (fun a b c => (f a b c).fin) ds := match ds, h with
  | [_, _, _], _ => rfl
theorem lB4_fin {f : D → D → D → D → Rs (Out Unit)} (ds : List D) (h : ds.length = 4) : (lB4 f ds).fin = lift4 (fun a b c d => (f a b c d).fin) ds := match ds, h with
  | [_, _, _, _], _ => rfl
theorem lB5_fin {f : D → D → D → D → D → Rs (Out Unit)} (ds : List D) (h : ds.length = 5) : (lB5 f ds).fin = lift5 (fun a b c d e => (f a b c d e).fin) ds := match ds, h with
  | [_, _, _, _, _], _ => rfl
def compF (f : D → Rs (List D)) : List D → Rs (List D)
  | [] => .ok []
  | x :: xs => match f x with
    | .ok r => (compF f xs).bind fun r' => .ok (r ++ r')
    | _ => .bad
def comp2 (m : Rs (List D)) (f : D → Rs (List D)) : Rs (List D) := (m.bind (compF f)).bind mkLst
/-- try: m, except .. as e: h, then f -/
def tryO {A B : Type} (m : Rs (Out B)) (h : Str → Rs (Out A)) (f : B → Rs (Out A)) : Rs (Out A) := match m with
  | .ok (.nx b) => f b
  | .ok (.rt d) => .ok (.rt d)
  | .exc c => h c
  | .bad => .bad
def ixS (c : Str) : List Str → Nat → Option Nat
  | [], _ => none
  | x :: xs, n => if x = c then some n else ixS c xs (n + 1)
/-- return [isinstance(e, C), ..].index(True) -/
def excIx {A : Type} (cs : List Str) (c : Str) : Rs (Out A) := match ixS c cs 0 with
  | some i => .ok (.rt (.int (i : Nat)))
  | none => .bad
/-- l.index(x) -/
def pyIndex (ds : List D) (x : D) : Rs D := if shp (.list ds) = true ∧ shp x = true then (match ds.findIdx? (fun z => PyData.eqv z x) with
    | some j => .ok (.int (j : Nat))
    | none => .bad) else .bad
/-- [f, g, ..][d] -/
def pickF {α : Type} (ms : List (List D → Rs D)) (d : D) (k : (List D → Rs D) → Rs α) : Rs α := (ofInt d).bind fun i => match (ixOf ms.length i).bind fun n => ms[n]? with
  | some m => k m
  | none => .bad
end BG
namespace BG
open PySem

structure StrictO {α : Type} (lt : α → α → Bool) : Prop where
  irr : ∀ a, lt a a = false
  tr : ∀ a b c, lt a b = true → lt b c = true → lt a c = true
  tri : ∀ a b, lt a b = false → lt b a = false → a = b
theorem StrictO.asym {α : Type} {lt : α → α → Bool} (o : StrictO lt) {a b : α} (h : lt a b = true) : lt b a = false := by
  cases q : lt b a with
  | false => rfl
  | true => have := o.tr a b a h q; rw [o.irr] at this; cases this
variable {α : Type} {lt : α → α → Bool}
/-- into a list in order; nothing twice -/
def insU (lt : α → α → Bool) (x : α) : List α → List α
  | [] => [x]
  | y :: ys => if lt x y = true then x :: y :: ys else if lt y x = true then y :: insU lt x ys else y :: ys
def usort (lt : α → α → Bool) : List α → List α
  | [] => []
  | x :: xs => insU lt x (usort lt xs)
/-- into a list in order -/
def ins (lt : α → α → Bool) (x : α) : List α → List α
  | [] => [x]
  | y :: ys => if lt y x = true then y :: ins lt x ys else x :: y :: ys
def isort (lt : α → α → Bool) : List α → List α
  | [] => []
  | x :: xs => ins lt x (isort lt xs)
theorem mem_insU (o : StrictO lt) {x z : α} : ∀ {l : List α}, z ∈ insU lt x l ↔ z = x ∨ z ∈ l
  | [] => by simp [insU]
  | y :: ys => by
    unfold insU
    by_cases h1 : lt x y = true
    · rw [if_pos h1]; simp
    · rw [if_neg h1]
      by_cases h2 : lt y x = true
      · rw [if_pos h2, List.mem_cons, mem_insU o, List.mem_cons]
        constructor
        · rintro (h | h | h)
          · exact .inr (.inl h)
          · exact .inl h
          · exact .inr (.inr h)
        · rintro (h | h | h)
          · exact .inr (.inl h)
          · exact .inl h
          · exact .inr (.inr h)
      · rw [if_neg h2]
        have e : x = y := o.tri x y (by simpa using h1) (by simpa using h2)
        subst e
        simp
theorem mem_usort (o : StrictO lt) {z : α} : ∀ {l : List α}, z ∈ usort lt l ↔ z ∈ l
  | [] => by simp [usort]
  | x :: xs => by rw [usort, mem_insU o, mem_usort o, List.mem_cons]
theorem insU_sorted (o : StrictO lt) {x : α} : ∀ {l : List α}, l.Pairwise (fun a b => lt a b = true) → (insU lt x l).Pairwise (fun a b => lt a b = true)
  | [], _ => by simp [insU]
  | y :: ys, h => by
    obtain ⟨h1, h2⟩ := List.pairwise_cons.mp h
    unfold insU
    by_cases c1 : lt x y = true
    · rw [if_pos c1]
      refine List.pairwise_cons.mpr ⟨fun z hz => ?_, h⟩
      rcases List.mem_cons.mp hz with e | e
      · rw [e]; exact c1
      · exact o.tr x y z c1 (h1 z e)
    · rw [if_neg c1]
      by_cases c2 : lt y x = true
      · rw [if_pos c2]
        refine List.pairwise_cons.mpr ⟨fun z hz => ?_, insU_sorted o h2⟩
        rcases (mem_insU o).mp hz with e | e
        · rw [e]; exact c2
        · exact h1 z e
      · rw [if_neg c2]; exact h
theorem usort_sorted (o : StrictO lt) : ∀ l : List α, (usort lt l).Pairwise (fun a b => lt a b = true)
  | [] => by simp [usort]
  | x :: xs => insU_sorted o (usort_sorted o xs)
/-- lists in strict order with the same members are one -/
theorem sorted_one (o : StrictO lt) : ∀ {l m : List α}, l.Pairwise (fun a b => lt a b = true) → m.Pairwise (fun a b => lt a b = true) → (∀ z, z ∈ l ↔ z ∈ m) → l = m
  | [], [], _, _, _ => rfl
  | [], y :: ys, _, _, h => by have := (h y).mpr (by simp); simp at this
  | x :: xs, [], _, _, h => by have := (h x).mp (by simp); simp at this
  | x :: xs, y :: ys, hl, hm, h => by
    obtain ⟨l1, l2⟩ := List.pairwise_cons.mp hl
    obtain ⟨m1, m2⟩ := List.pairwise_cons.mp hm
    have e : x = y := by
      rcases List.mem_cons.mp ((h x).mp (by simp)) with e | e
      · exact e
      · rcases List.mem_cons.mp ((h y).mpr (by simp)) with e' | e'
        · exact e'.symm
        · have a := m1 x e
          have b := l1 y e'
          rw [o.asym a] at b
          cases b
    subst e
    have nx : x ∉ xs := fun q => by have := l1 x q; rw [o.irr] at this; cases this
    have ny : x ∉ ys := fun q => by have := m1 x q; rw [o.irr] at this; cases this
    rw [sorted_one o l2 m2 fun z => ?_]
    constructor
    · intro hz
      rcases List.mem_cons.mp ((h z).mp (List.mem_cons_of_mem _ hz)) with e | e
      · subst e; exact absurd hz nx
      · exact e
    · intro hz
      rcases List.mem_cons.mp ((h z).mpr (List.mem_cons_of_mem _ hz)) with e | e
      · subst e; exact absurd hz ny
      · exact e
theorem usort_is (o : StrictO lt) {l m : List α} (hm : m.Pairwise (fun a b => lt a b = true)) (h : ∀ z, z ∈ m ↔ z ∈ l) : m = usort lt l :=
  sorted_one o hm (usort_sorted o l) fun z => (h z).trans (mem_usort o).symm
theorem usort_congr (o : StrictO lt) {l m : List α} (h : ∀ z, z ∈ m ↔ z ∈ l) : usort lt m = usort lt l := usort_is o (usort_sorted o m) fun z => (mem_usort o).trans (h z)
theorem insU_length (o : StrictO lt) (x : α) : ∀ l : List α, (insU lt x l).length ≤ l.length + 1
  | [] => by simp [insU]
  | y :: ys => by
    unfold insU
    split
    · simp
    · split
      · have := insU_length o x ys; simp; omega
      · simp
theorem usort_length (o : StrictO lt) : ∀ l : List α, (usort lt l).length ≤ l.length
  | [] => by simp [usort]
  | x :: xs => by
    have h1 := usort_length o xs
    have h2 := insU_length o x (usort lt xs)
    rw [usort, List.length_cons]
    omega
theorem usort_nodup (o : StrictO lt) (l : List α) : (usort lt l).Nodup := (usort_sorted o l).imp fun {a b} h e => by
  subst e
  rw [o.irr] at h
  cases h
theorem ins_perm (x : α) : ∀ l : List α, (ins lt x l).Perm (x :: l)
  | [] => by simp [ins]
  | y :: ys => by
    unfold ins
    split
    · exact ((ins_perm x ys).cons y).trans (List.Perm.swap x y ys)
    · exact List.Perm.refl _
theorem isort_perm : ∀ l : List α, (isort lt l).Perm l
  | [] => by simp [isort]
  | x :: xs => (ins_perm x _).trans ((isort_perm xs).cons x)
theorem ins_sorted (o : StrictO lt) {x : α} : ∀ {l : List α}, l.Pairwise (fun a b => lt b a = false) → (ins lt x l).Pairwise (fun a b => lt b a = false)
  | [], _ => by simp [ins]
  | y :: ys, h => by
    obtain ⟨h1, h2⟩ := List.pairwise_cons.mp h
    unfold ins
    by_cases c : lt y x = true
    · rw [if_pos c]
      refine List.pairwise_cons.mpr ⟨fun z hz => ?_, ins_sorted o h2⟩
      rcases List.mem_cons.mp ((ins_perm x ys).mem_iff.mp hz) with e | e
      · rw [e]; exact o.asym c
      · exact h1 z e
    · rw [if_neg c]
      refine List.pairwise_cons.mpr ⟨fun z hz => ?_, h⟩
      rcases List.mem_cons.mp hz with e | e
      · rw [e]; simpa using c
      · cases q : lt z x with
        | false => rfl
        | true =>
          have c' : lt y x = false := by simpa using c
          have hz' := h1 z e
          -- z < x ≤ y, and not z < y
          cases q2 : lt x y with
          | true =>
            have := o.tr z x y q q2
            rw [this] at hz'
            cases hz'
          | false =>
            have e2 := o.tri x y q2 c'
            subst e2
            rw [q] at hz'
            cases hz'
theorem isort_sorted (o : StrictO lt) : ∀ l : List α, (isort lt l).Pairwise (fun a b => lt b a = false)
  | [] => by simp [isort]
  | x :: xs => ins_sorted o (isort_sorted o xs)
/-- a list in order that is a permutation is the one -/
theorem perm_sorted_one (o : StrictO lt) : ∀ {l m : List α}, l.Pairwise (fun a b => lt b a = false) → m.Pairwise (fun a b => lt b a = false) → l.Perm m → l = m
  | [], m, _, _, h => (List.nil_perm.mp h).symm
  | x :: xs, [], _, _, h => absurd h.length_eq (by simp)
  | x :: xs, y :: ys, hl, hm, h => by
    obtain ⟨l1, l2⟩ := List.pairwise_cons.mp hl
    obtain ⟨m1, m2⟩ := List.pairwise_cons.mp hm
    have e : x = y := by
      rcases List.mem_cons.mp (h.mem_iff.mp (show x ∈ x :: xs by simp)) with e | e
      · exact e
      · rcases List.mem_cons.mp (h.mem_iff.mpr (show y ∈ y :: ys by simp)) with e' | e'
        · exact e'.symm
        · exact o.tri x y (m1 x e) (l1 y e')
    subst e
    rw [perm_sorted_one o l2 m2 (List.Perm.cons_inv h)]
theorem isort_is (o : StrictO lt) {l m : List α} (hm : m.Pairwise (fun a b => lt b a = false)) (h : m.Perm l) : m = isort lt l :=
  perm_sorted_one o hm (isort_sorted o l) (h.trans (isort_perm l).symm)
def ltI (a b : Int) : Bool := decide (a < b)
theorem ltI_o : StrictO ltI := ⟨fun a => by simp [ltI], fun a b c h1 h2 => by simp [ltI] at *; omega, fun a b h1 h2 => by simp [ltI] at *; omega⟩
def ltL : List Int → List Int → Bool
  | _, [] => false
  | [], _ :: _ => true
  | x :: xs, y :: ys => decide (x < y) || (decide (x = y) && ltL xs ys)
theorem ltL_irr : ∀ a : List Int, ltL a a = false
  | [] => rfl
  | x :: xs => by simp [ltL, ltL_irr xs]
theorem ltL_tr : ∀ a b c : List Int, ltL a b = true → ltL b c = true → ltL a c = true
  | _, [], _, h, _ => by simp [ltL] at h
  | _, _ :: _, [], _, h => by simp [ltL] at h
  | [], _ :: _, _ :: _, _, _ => rfl
  | x :: xs, y :: ys, z :: zs, h1, h2 => by
    simp only [ltL, Bool.or_eq_true, Bool.and_eq_true, decide_eq_true_eq] at *
    rcases h1 with h1 | ⟨h1, k1⟩
    · rcases h2 with h2 | ⟨h2, k2⟩
      · exact .inl (by omega)
      · exact .inl (by omega)
    · rcases h2 with h2 | ⟨h2, k2⟩
      · exact .inl (by omega)
      · exact .inr ⟨by omega, ltL_tr xs ys zs k1 k2⟩
theorem ltL_tri : ∀ a b : List Int, ltL a b = false → ltL b a = false → a = b
  | [], [], _, _ => rfl
  | [], _ :: _, h, _ => by simp [ltL] at h
  | _ :: _, [], _, h => by simp [ltL] at h
  | x :: xs, y :: ys, h1, h2 => by
    simp only [ltL, Bool.or_eq_false_iff, Bool.and_eq_false_iff, decide_eq_false_iff_not] at *
    have e : x = y := by omega
    subst e
    have k1 : ltL xs ys = false := by rcases h1.2 with h | h; exact absurd rfl h; exact h
    have k2 : ltL ys xs = false := by rcases h2.2 with h | h; exact absurd rfl h; exact h
    rw [ltL_tri xs ys k1 k2]
theorem ltL_o : StrictO ltL := ⟨ltL_irr, ltL_tr, ltL_tri⟩
/-- a tuple of ints -/
def tupI (ns : List Int) : D := .tuple (ns.map .int)
def tupsOf : List D → Option (List (List Int))
  | [] => some []
  | .tuple b :: r => (intsOf b).bind fun ns => (tupsOf r).map (ns :: ·)
  | _ => none
def distinctI (ns : List Int) : Nat := (usort ltI ns).length
/-- len(set(xs)), ints -/
def pyLenSet : D → Rs D
  | .list xs => match intsOf xs with
    | some ns => if ns.length < 100 then .ok (.int (distinctI ns)) else .bad
    | none => .bad
  | _ => .bad
/-- sorted(set(xs)): ints, tuples of ints (none empty) -/
def pySortedSet : D → Rs (List D)
  | .list xs => match intsOf xs with
    | some ns => if ns.length < 64 then .ok ((usort ltI ns).map .int) else .bad
    | none => match tupsOf xs with
      | some ls => if ls.length < 64 ∧ (∀ l ∈ ls, l ≠ []) then .ok ((usort ltL ls).map tupI) else .bad
      | none => .bad
  | _ => .bad
/-- sorted(xs): ints, tuples of ints (none empty) -/
def pySorted : D → Rs (List D)
  | .list xs => match intsOf xs with
    | some ns => .ok ((isort ltI ns).map .int)
    | none => match tupsOf xs with
      | some ls => if ∀ l ∈ ls, l ≠ [] then .ok ((isort ltL ls).map tupI) else .bad
      | none => .bad
  | _ => .bad
end BG
namespace BG
open PySem
/-- all can be compared -/
def alikeB (xs : List D) : Bool := (xs.all fun x => xs.all fun y => PySem.W.alike x y) && (xs.all fun x => !isNoneB x) && decide (PyData.depthAll xs ≤ 60)
/-- min(xs) of data -/
def pyMinD : D → Rs D
  | .list (x :: xs) => if alikeB (x :: xs) = true then .ok (PySem.W.minD x xs) else .bad
  | _ => .bad
def pyMax2 : D → D → Rs D
  | .int i, .int j => .ok (.int (if j > i then j else i))
  | _, _ => .bad
def pyMin2 : D → D → Rs D
  | .int i, .int j => .ok (.int (if j < i then j else i))
  | _, _ => .bad
/-- xs.pop(b): the item's place -/
def popIx {α : Type} (ds : List D) (b : D) (f : D → List D → Rs α) : Rs α := (ofInt b).bind fun j => if -(2 ^ 63) ≤ j ∧ j < 2 ^ 63 then (match ixOf ds.length j with
  | some n => (match ds[n]? with
    | some d => f d (ds.eraseIdx n)
    | none => .bad)
  | none => .bad) else .bad
/-- x in range(a, b) -/
def pyInRange (x a b : D) : Rs D := (ofInt x).bind fun i => (ofInt a).bind fun lo => (ofInt b).bind fun hi => .ok (.bool (decide (lo ≤ i ∧ i < hi)))
/-- [a, b, ..][i], [a, b, ..][j] = .. -/
def set2 {α : Type} (ds : List D) (b c : D) (f : Nat → Nat → Rs α) : Rs α := setIx ds b fun n => setIx ds c fun k => f n k
end BG
namespace BG
open PySem
/-- sorted(set(t)), t a tuple of ints -/
def pySortedSetT : D → Rs (List D)
  | .tuple ds => match intsOf ds with
    | some ns => if ns.length < 64 then .ok ((usort ltI ns).map .int) else .bad
    | none => .bad
  | _ => .bad
end BG
namespace BG
open PySem PySem.Spec PyProof.Rows L2

mutual
/-- a value stands for a datum, all its parts tracked -/
inductive Dv (H : Hp) : V → D → Prop
  | non : Dv H .non .none
  | bl (b : Bool) : Dv H (.bl b) (.bool b)
  | int (i : Int) : Dv H (.int i) (.int i)
  | str (x : Str) : Dv H (.str x) (.str x)
  | lst {a : Addr} {xs : List V} {ds : List D} : Rd H a (.lst xs) → DvA H xs ds → Dv H (.ref a) (.list ds)
  | tup {a : Addr} {xs : List V} {ds : List D} : H a = some (.tup xs) → DvA H xs ds → Dv H (.ref a) (.tuple ds)
inductive DvA (H : Hp) : List V → List D → Prop
  | nil : DvA H [] []
  | cons {v : V} {vs : List V} {d : D} {ds : List D} : Dv H v d → DvA H vs ds → DvA H (v :: vs) (d :: ds)
end
theorem rd_mono {H H' : Hp} {a : Addr} {u : HO} (e : Same H H') (h : Rd H a u) : Rd H' a u := by
  rcases h with h | ⟨o, h⟩
  · exact .inl (e _ _ h)
  · exact .inr ⟨o, e _ _ h⟩
mutual
theorem Dv.mono {H H' : Hp} (e : Same H H') : ∀ {v : V} {d : D}, Dv H v d → Dv H' v d
  | _, _, .non => .non
  | _, _, .bl b => .bl b
  | _, _, .int i => .int i
  | _, _, .str x => .str x
  | _, _, .lst hs ha => .lst (rd_mono e hs) (DvA.mono e ha)
  | _, _, .tup hs ha => .tup (e _ _ hs) (DvA.mono e ha)
theorem DvA.mono {H H' : Hp} (e : Same H H') : ∀ {vs : List V} {ds : List D}, DvA H vs ds → DvA H' vs ds
  | _, _, .nil => .nil
  | _, _, .cons h t => .cons (Dv.mono e h) (DvA.mono e t)
end
mutual
theorem Dv.dp {K : PySem.W.Frag} {H : Hp} : ∀ {v : V} {d : D}, Dv H v d → Dp K H v d
  | _, _, .non => .non
  | _, _, .bl b => .bl b
  | _, _, .int i => .int i
  | _, _, .str x => .str x
  | _, _, .lst hs ha => .lst (.inl hs) (DvA.dp ha)
  | _, _, .tup hs ha => .tup (.inl (.inl hs)) (DvA.dp ha)
theorem DvA.dp {K : PySem.W.Frag} {H : Hp} : ∀ {vs : List V} {ds : List D}, DvA H vs ds → DpAll K H vs ds
  | _, _, .nil => .nil
  | _, _, .cons h t => .cons (Dv.dp h) (DvA.dp t)
end
theorem DvA.length {H : Hp} : ∀ {vs : List V} {ds : List D}, DvA H vs ds → vs.length = ds.length
  | _, _, .nil => rfl
  | _, _, .cons _ t => congrArg Nat.succ (DvA.length t)
theorem DvA.get {H : Hp} : ∀ {vs : List V} {ds : List D} {i : Nat} {v : V}, DvA H vs ds → vs[i]? = some v → ∃ d, ds[i]? = some d ∧ Dv H v d
  | _, _, i, v, .nil, h => by simp at h
  | _, _, 0, v, .cons h t, e => by
    simp at e
    subst e
    exact ⟨_, rfl, h⟩
  | _, _, i + 1, v, .cons h t, e => by
    obtain ⟨d, h1, h2⟩ := DvA.get (i := i) (v := v) t (by simpa using e)
    exact ⟨d, by simpa using h1, h2⟩
theorem DvA.get' {H : Hp} {vs : List V} {ds : List D} {i : Nat} {d : D} (h : DvA H vs ds) (e : ds[i]? = some d) : ∃ v, vs[i]? = some v ∧ Dv H v d := by
  have hl := DvA.length h
  obtain ⟨hi, _⟩ := List.getElem?_eq_some_iff.mp e
  have hv : vs[i]? = some (vs[i]'(by omega)) := List.getElem?_eq_getElem (by omega)
  obtain ⟨d', h1, h2⟩ := DvA.get h hv
  rw [e] at h1
  cases h1
  exact ⟨_, hv, h2⟩
theorem DvA.append {H : Hp} : ∀ {vs us : List V} {ds es : List D}, DvA H vs ds → DvA H us es → DvA H (vs ++ us) (ds ++ es)
  | _, _, _, _, .nil, h => h
  | _, _, _, _, .cons h t, g => .cons h (DvA.append t g)
theorem DvA.of {H : Hp} : ∀ {vs : List V} {ds : List D}, vs.length = ds.length → (∀ (i : Nat) v d, vs[i]? = some v → ds[i]? = some d → Dv H v d) → DvA H vs ds
  | [], [], _, _ => .nil
  | v :: vs, d :: ds, hl, h => .cons (h 0 v d rfl rfl) (DvA.of (by simpa using hl) fun i v' d' e1 e2 => h (i + 1) v' d' (by simpa using e1) (by simpa using e2))

/-- a value stands for a datum -/
def Rp (K : PySem.W.Frag) (H : Hp) (v : V) (d : D) : Prop := Dv H v d ∧ szD d = true
def RpA (K : PySem.W.Frag) (H : Hp) (vs : List V) (ds : List D) : Prop := DvA H vs ds ∧ szA ds = true
/-- .. where it is read only: a list may be one that is still changed -/
def Rq (K : PySem.W.Frag) (Hd H : Hp) (v : V) (d : D) : Prop := Rp K Hd v d ∨ ∃ l vs ds, v = .ref l ∧ d = .list ds ∧ Rd H l (.lst vs) ∧ RpA K Hd vs ds ∧ ds.length ≤ sizeMax
theorem Rp.mono {K : PySem.W.Frag} {H H' : Hp} {v : V} {d : D} (e : Same H H') (h : Rp K H v d) : Rp K H' v d := ⟨h.1.mono e, h.2⟩
theorem RpA.mono {K : PySem.W.Frag} {H H' : Hp} {v : List V} {d : List D} (e : Same H H') (h : RpA K H v d) : RpA K H' v d := ⟨h.1.mono e, h.2⟩
theorem RpA.nil {K : PySem.W.Frag} {H : Hp} : RpA K H [] [] := ⟨.nil, by simp [szA]⟩
theorem RpA.cons {K : PySem.W.Frag} {H : Hp} {v : V} {d : D} {vs : List V} {ds : List D} (h : Rp K H v d) (t : RpA K H vs ds) : RpA K H (v :: vs) (d :: ds) :=
  ⟨.cons h.1 t.1, by unfold szA; rw [h.2, t.2]; rfl⟩
theorem RpA.append {K : PySem.W.Frag} {H : Hp} {vs us : List V} {ds es : List D} (h : RpA K H vs ds) (t : RpA K H us es) : RpA K H (vs ++ us) (ds ++ es) := ⟨h.1.append t.1, szA_append h.2 t.2⟩
theorem RpA.get {K : PySem.W.Frag} {H : Hp} {vs : List V} {ds : List D} {i : Nat} {d : D} (h : RpA K H vs ds) (e : ds[i]? = some d) : ∃ v, vs[i]? = some v ∧ Rp K H v d := by
  obtain ⟨v, h1, h2⟩ := h.1.get' e
  exact ⟨v, h1, h2, szA_mem h.2 (List.mem_of_getElem? e)⟩
theorem RpA.getV {K : PySem.W.Frag} {H : Hp} {vs : List V} {ds : List D} {i : Nat} {v : V} (h : RpA K H vs ds) (e : vs[i]? = some v) : ∃ d, ds[i]? = some d ∧ Rp K H v d := by
  obtain ⟨d, h1, h2⟩ := h.1.get e
  exact ⟨d, h1, h2, szA_mem h.2 (List.mem_of_getElem? h1)⟩

/-- from one heap to the next: what stood stands; what was no data is none -/
structure Ext (Hd H Hd' H' : Hp) : Prop where
  a : Same H H'
  d : Same Hd Hd'
  s : Same Hd' H'
  o : ∀ a, H a ≠ none → Hd a = none → Hd' a = none
theorem Ext.refl {Hd H : Hp} (h : Same Hd H) : Ext Hd H Hd H := ⟨Same.refl H, Same.refl Hd, h, fun _ _ h => h⟩
theorem Ext.trans {Hd H Hd1 H1 Hd2 H2 : Hp} (x : Ext Hd H Hd1 H1) (y : Ext Hd1 H1 Hd2 H2) : Ext Hd H Hd2 H2 :=
  ⟨x.a.trans y.a, x.d.trans y.d, y.s, fun a h1 h2 => y.o a (fun q => by
    cases e : H a with
    | none => exact h1 e
    | some o => rw [x.a a o e] at q; cases q) (x.o a h1 h2)⟩
theorem same_new {H : Hp} {p : Addr} {o : HO} (h : H p = none) : Same H (upd H p o) := fun b x e => by
  rw [upd_ne (ne_of_none e h)]
  exact e
/-- a new datum -/
theorem Ext.new {Hd H : Hp} {p : Addr} {o : HO} (s : Same Hd H) (h : H p = none) : Ext Hd H (upd Hd p o) (upd H p o) :=
  ⟨same_new h, same_new (s.free h), fun b x e => by
    by_cases hb : b = p
    · subst hb
      rw [upd_same] at e ⊢
      exact e
    · rw [upd_ne hb] at e ⊢
      exact s b x e, fun a h1 h2 => by
    rw [upd_ne (fun e => h1 (by rw [e]; exact h))]
    exact h2⟩
/-- a new object that is no datum yet -/
theorem Ext.newOwn {Hd H : Hp} {p : Addr} {o : HO} (s : Same Hd H) (h : H p = none) : Ext Hd H Hd (upd H p o) :=
  ⟨same_new h, Same.refl Hd, s.trans (same_new h), fun _ _ h => h⟩
theorem Rq.mono {K : PySem.W.Frag} {Hd H Hd' H' : Hp} {v : V} {d : D} (e : Ext Hd H Hd' H') (h : Rq K Hd H v d) : Rq K Hd' H' v d := by
  rcases h with h | ⟨l, vs, ds, h1, h2, h3, h4, h5⟩
  · exact .inl (h.mono e.d)
  · exact .inr ⟨l, vs, ds, h1, h2, rd_mono e.a h3, h4.mono e.d, h5⟩
theorem Rp.list {K : PySem.W.Frag} {H : Hp} {p : Addr} {vs : List V} {ds : List D} (h : H p = some (.lst vs)) (a : RpA K H vs ds) (hl : ds.length ≤ sizeMax) : Rp K H (.ref p) (.list ds) :=
  ⟨.lst (.inl h) a.1, szD_list.mpr ⟨hl, a.2⟩⟩
theorem Rp.tuple {K : PySem.W.Frag} {H : Hp} {p : Addr} {vs : List V} {ds : List D} (h : H p = some (.tup vs)) (a : RpA K H vs ds) (hl : ds.length ≤ sizeMax) : Rp K H (.ref p) (.tuple ds) :=
  ⟨.tup h a.1, szD_tuple.mpr ⟨hl, a.2⟩⟩
theorem sizeMax_eq : sizeMax = sizeLine := by decide
/-- a list that is read -/
theorem Rq.seqL {K : PySem.W.Frag} {Hd H : Hp} {v : V} {ds : List D} (s : Same Hd H) (h : Rq K Hd H v (.list ds)) : ∃ l vs, v = .ref l ∧ Rd H l (.lst vs) ∧ RpA K Hd vs ds ∧ ds.length ≤ sizeMax := by
  rcases h with ⟨h, hz⟩ | ⟨l, vs, ds', h1, h2, h3, h4, h5⟩
  · cases h with
    | lst hs ha => exact ⟨_, _, rfl, rd_mono s hs, ⟨ha, (szD_list.mp hz).2⟩, (szD_list.mp hz).1⟩
  · cases h2
    exact ⟨l, vs, h1, h3, h4, h5⟩
theorem Rq.seqT {K : PySem.W.Frag} {Hd H : Hp} {v : V} {ds : List D} (s : Same Hd H) (h : Rq K Hd H v (.tuple ds)) : ∃ l vs, v = .ref l ∧ Hd l = some (.tup vs) ∧ RpA K Hd vs ds ∧ ds.length ≤ sizeMax := by
  rcases h with ⟨h, hz⟩ | ⟨l, vs, ds', h1, h2, h3, h4, h5⟩
  · cases h with
    | tup hs ha => exact ⟨_, _, rfl, hs, ⟨ha, (szD_tuple.mp hz).2⟩, (szD_tuple.mp hz).1⟩
  · cases h2
theorem Rq.int {K : PySem.W.Frag} {Hd H : Hp} {v : V} {i : Int} (h : Rq K Hd H v (.int i)) : v = .int i := by
  rcases h with ⟨h, _⟩ | ⟨l, vs, ds', h1, h2, _⟩
  · cases h; rfl
  · cases h2
theorem Rq.bool {K : PySem.W.Frag} {Hd H : Hp} {v : V} {i : Bool} (h : Rq K Hd H v (.bool i)) : v = .bl i := by
  rcases h with ⟨h, _⟩ | ⟨l, vs, ds', h1, h2, _⟩
  · cases h; rfl
  · cases h2
theorem Rq.str {K : PySem.W.Frag} {Hd H : Hp} {v : V} {i : Str} (h : Rq K Hd H v (.str i)) : v = .str i := by
  rcases h with ⟨h, _⟩ | ⟨l, vs, ds', h1, h2, _⟩
  · cases h; rfl
  · cases h2
/-- as the library's own Dp, over the whole heap -/
theorem Rq.dv {K : PySem.W.Frag} {Hd H : Hp} {v : V} {d : D} (s : Same Hd H) (h : Rq K Hd H v d) : Dv H v d := by
  rcases h with ⟨h, _⟩ | ⟨l, vs, ds', h1, h2, h3, h4, _⟩
  · exact h.mono s
  · subst h1 h2
    exact .lst h3 (h4.1.mono s)
theorem Rq.dp {K K' : PySem.W.Frag} {Hd H : Hp} {v : V} {d : D} (s : Same Hd H) (h : Rq K Hd H v d) : Dp K' H v d := (h.dv s).dp
theorem Rp.int {K : PySem.W.Frag} {H : Hp} {i : Int} : Rp K H (.int i) (.int i) := ⟨.int i, by simp [szD]⟩
theorem Rp.bl {K : PySem.W.Frag} {H : Hp} {i : Bool} : Rp K H (.bl i) (.bool i) := ⟨.bl i, by simp [szD]⟩
theorem Rp.str {K : PySem.W.Frag} {H : Hp} {i : Str} : Rp K H (.str i) (.str i) := ⟨.str i, by simp [szD]⟩
theorem Rp.non {K : PySem.W.Frag} {H : Hp} : Rp K H .non .none := ⟨.non, by simp [szD]⟩

inductive Slot where
  | no
  | dat (d : D)
  | own (ds : List D)
abbrev Gam := List Slot

structure Sc where
  P : Program
  w : World
  K : PySem.W.Frag
  mg : Str → Option Value
  base : Heap
  N : List Str
  sc : Scope
  st : Str → Bool
  k : Nat
  W : WX
  Bd : Hp
  Bh : Hp
  top : Bool := false
structure Fits (S : Sc) (X : Cx) : Prop where
  P : X.prog = S.P
  w : X.w = S.w
  K : X.K = S.K
  mg : X.mg = S.mg
  base : X.base = S.base
  N : X.N = S.N
  sc : X.env.scope = S.sc
  st : ∀ x, S.st x = true → X.fn x = true ∨ X.env.scope.names.lookup x = some .local
  nd : X.N.Nodup
  kind : X.env.scope.kind = .function
  calm : X.calm = true
  room : Room S.k X.A
  takes : Takes X S.W
  own : PassesOwn (model X.prog X.w) X.A X.env X.xe
  top : S.top = true → X.stack = X.env :: X.outer ∧ X.env.frame = some X.env.locals
/-- the state: what the slots hold -/
structure SS (S : Sc) (Γ : Gam) (σ : L2.St) (Hd H : Hp) : Prop where
  len : Γ.length = σ.length
  sub : Same Hd H
  b1 : Same S.Bh H
  b2 : Same S.Bd Hd
  b3 : ∀ a, S.Bh a ≠ none → S.Bd a = none → Hd a = none
  dat : ∀ (i : Nat) d, Γ[i]? = some (.dat d) → ∃ v, σ[i]? = some (some v) ∧ Rp S.K Hd v d
  own : ∀ (i : Nat) ds, Γ[i]? = some (.own ds) → ∃ l vs, σ[i]? = some (some (.ref l)) ∧ H l = some (.lst vs) ∧ Hd l = none ∧ S.Bh l = none ∧ RpA S.K Hd vs ds ∧ ds.length ≤ sizeMax
  sep : ∀ (i j : Nat) ds es l, i ≠ j → Γ[i]? = some (.own ds) → Γ[j]? = some (.own es) → σ[i]? = some (some (.ref l)) → σ[j]? ≠ some (some (.ref l))
theorem SS.ext {S : Sc} {Γ : Gam} {σ : L2.St} {Hd H Hd' H' : Hp} (s : SS S Γ σ Hd H) (e : Ext Hd H Hd' H') : SS S Γ σ Hd' H' where
  len := s.len
  sub := e.s
  b1 := s.b1.trans e.a
  b2 := s.b2.trans e.d
  b3 := fun a h1 h2 => e.o a (fun q => h1 ((s.b1).free q)) (s.b3 a h1 h2)
  dat := fun i d h => by
    obtain ⟨v, h1, h2⟩ := s.dat i d h
    exact ⟨v, h1, h2.mono e.d⟩
  own := fun i ds h => by
    obtain ⟨l, vs, h1, h2, h3, h4, h5, h6⟩ := s.own i ds h
    exact ⟨l, vs, h1, e.a _ _ h2, e.o l (by rw [h2]; simp) h3, h4, h5.mono e.d, h6⟩
  sep := s.sep

/-- what an expression's end is asked -/
def EPost (S : Sc) (R : Hp → Hp → V → D → Prop) (σ : L2.St) (Hd H : Hp) (Q : VK) : Rs D → Prop
  | .ok d => ∀ v Hd' H', Ext Hd H Hd' H' → R Hd' H' v d → Q v H'
  | .exc c => ∀ Hd' H', Ext Hd H Hd' H' → S.W (.ref (He.ga S.K c)) none σ H'
  | .bad => False
def RE (S : Sc) (R : Hp → Hp → V → D → Prop) (Γ : Gam) (t : TE) (m : Rs D) : Prop :=
  ∀ σ Hd H Q, SS S Γ σ Hd H → EPost S R σ Hd H Q m → t σ H Q
/-- an expression computes m: as a datum (DE); to be read (DQ) -/
def DE (S : Sc) (Γ : Gam) (e : Expr) (m : Rs D) : Prop := ∃ t, (∀ X, Fits S X → PE X e t) ∧ RE S (fun Hd _ => Rp S.K Hd) Γ t m
def DQ (S : Sc) (Γ : Gam) (e : Expr) (m : Rs D) : Prop := ∃ t, (∀ X, Fits S X → PE X e t) ∧ RE S (Rq S.K) Γ t m
theorem EPost.imp {S : Sc} {R R' : Hp → Hp → V → D → Prop} {σ : L2.St} {Hd H : Hp} {Q : VK} (f : ∀ Hd H v d, R Hd H v d → R' Hd H v d) : ∀ {m : Rs D}, EPost S R' σ Hd H Q m → EPost S R σ Hd H Q m
  | .ok d, h => fun v Hd' H' e r => h v Hd' H' e (f _ _ _ _ r)
  | .exc c, h => h
  | .bad, h => h
theorem DE.q {S : Sc} {Γ : Gam} {e : Expr} {m : Rs D} (h : DE S Γ e m) : DQ S Γ e m := by
  obtain ⟨t, h1, h2⟩ := h
  exact ⟨t, h1, fun σ Hd H Q s p => h2 σ Hd H Q s (EPost.imp (fun _ _ _ _ r => .inl r) p)⟩
/-- an argument list -/
def APost (S : Sc) (σ : L2.St) (Hd H : Hp) (Q : List V → Hp → Prop) : Rs (List D) → Prop
  | .ok ds => ∀ vs Hd' H', Ext Hd H Hd' H' → RpA S.K Hd' vs ds → Q vs H'
  | .exc c => ∀ Hd' H', Ext Hd H Hd' H' → S.W (.ref (He.ga S.K c)) none σ H'
  | .bad => False
def RA (S : Sc) (Γ : Gam) (t : TA) (m : Rs (List D)) : Prop := ∀ σ Hd H Q, SS S Γ σ Hd H → APost S σ Hd H Q m → t σ H Q
def DA (S : Sc) (Γ : Gam) (es : List Expr) (m : Rs (List D)) : Prop := ∃ t, (∀ X, Fits S X → PA X es t) ∧ RA S Γ t m
/-- a test -/
def TPost (S : Sc) (σ : L2.St) (Hd H : Hp) (Q : Bool → Hp → Prop) : Rs Bool → Prop
  | .ok b => ∀ Hd' H', Ext Hd H Hd' H' → Q b H'
  | .exc c => ∀ Hd' H', Ext Hd H Hd' H' → S.W (.ref (He.ga S.K c)) none σ H'
  | .bad => False
def RT (S : Sc) (Γ : Gam) (t : TT) (m : Rs Bool) : Prop := ∀ σ Hd H Q, SS S Γ σ Hd H → TPost S σ Hd H Q m → t σ H Q
def DT (S : Sc) (Γ : Gam) (e : Expr) (m : Rs Bool) : Prop := ∃ t, (∀ X, Fits S X → PT X e t) ∧ RT S Γ t m
def DW (S : Sc) (Γ : Gam) (e : Expr) (m : Rs Bool) : Prop := ∃ t, (∀ X, Fits S X → PW X e t) ∧ RT S Γ t m
/-- an expression that makes a new list: DF -/
def FPost (S : Sc) (σ : L2.St) (Hd H : Hp) (Q : VK) : Rs (List D) → Prop
  | .ok ds => ∀ l vs Hd' H', Ext Hd H Hd' H' → H l = none → H' l = some (.lst vs) → Hd' l = none → RpA S.K Hd' vs ds → ds.length ≤ sizeMax → Q (.ref l) H'
  | .exc c => ∀ Hd' H', Ext Hd H Hd' H' → S.W (.ref (He.ga S.K c)) none σ H'
  | .bad => False
def RF (S : Sc) (Γ : Gam) (t : TE) (m : Rs (List D)) : Prop := ∀ σ Hd H Q, SS S Γ σ Hd H → FPost S σ Hd H Q m → t σ H Q
def DF (S : Sc) (Γ : Gam) (e : Expr) (m : Rs (List D)) : Prop := ∃ t, (∀ X, Fits S X → PE X e t) ∧ RF S Γ t m
/-- the posts after a first part -/
theorem EPost.after {S : Sc} {R : Hp → Hp → V → D → Prop} {σ : L2.St} {Hd H Hd1 H1 : Hp} {Q : VK} (e : Ext Hd H Hd1 H1) : ∀ {m : Rs D}, EPost S R σ Hd H Q m → EPost S R σ Hd1 H1 Q m
  | .ok d, h => fun v Hd' H' e' r => h v Hd' H' (e.trans e') r
  | .exc c, h => fun Hd' H' e' => h Hd' H' (e.trans e')
  | .bad, h => h
theorem APost.after {S : Sc} {σ : L2.St} {Hd H Hd1 H1 : Hp} {Q : List V → Hp → Prop} (e : Ext Hd H Hd1 H1) : ∀ {m : Rs (List D)}, APost S σ Hd H Q m → APost S σ Hd1 H1 Q m
  | .ok d, h => fun v Hd' H' e' r => h v Hd' H' (e.trans e') r
  | .exc c, h => fun Hd' H' e' => h Hd' H' (e.trans e')
  | .bad, h => h
theorem TPost.after {S : Sc} {σ : L2.St} {Hd H Hd1 H1 : Hp} {Q : Bool → Hp → Prop} (e : Ext Hd H Hd1 H1) : ∀ {m : Rs Bool}, TPost S σ Hd H Q m → TPost S σ Hd1 H1 Q m
  | .ok d, h => fun Hd' H' e' => h Hd' H' (e.trans e')
  | .exc c, h => fun Hd' H' e' => h Hd' H' (e.trans e')
  | .bad, h => h
theorem FPost.after {S : Sc} {σ : L2.St} {Hd H Hd1 H1 : Hp} {Q : VK} (e : Ext Hd H Hd1 H1) : ∀ {m : Rs (List D)}, FPost S σ Hd H Q m → FPost S σ Hd1 H1 Q m
  | .ok d, h => fun l vs Hd' H' e' h1 => h l vs Hd' H' (e.trans e') (e.a.free h1)
  | .exc c, h => fun Hd' H' e' => h Hd' H' (e.trans e')
  | .bad, h => h
/-- a first expression, then a rest whose wish is P -/
theorem RE.bind {S : Sc} {R : Hp → Hp → V → D → Prop} {Γ : Gam} {t : TE} {m : Rs D} {σ : L2.St} {Hd H : Hp} {Q : VK} (h : RE S R Γ t m) (s : SS S Γ σ Hd H)
    (ok : ∀ d, m = .ok d → ∀ v Hd' H', Ext Hd H Hd' H' → R Hd' H' v d → Q v H') (ex : ∀ c, m = .exc c → ∀ Hd' H', Ext Hd H Hd' H' → S.W (.ref (He.ga S.K c)) none σ H') (nb : m ≠ .bad) : t σ H Q := by
  refine h σ Hd H Q s ?_
  cases m with
  | ok d => exact ok d rfl
  | exc c => exact ex c rfl
  | bad => exact absurd rfl nb
end BG
namespace BG
open PySem PySem.Spec PyProof.Rows L2
variable {S : Sc} {Γ : Gam} {a b c e : Expr} {ma mb mc m : Rs D} {pos : Pos}

theorem re_two {R R1 R2 : Hp → Hp → V → D → Prop} {ta tb : TE} {g : D → D → Rs D} {r : L2.R2}
    (m1 : ∀ {Hd H Hd' H' v d}, Ext Hd H Hd' H' → R1 Hd H v d → R1 Hd' H' v d)
    (ha : RE S R1 Γ ta ma) (hb : RE S R2 Γ tb mb)
    (hr : ∀ σ Hd H x y d e Q, SS S Γ σ Hd H → R1 Hd H x d → R2 Hd H y e → EPost S R σ Hd H Q (g d e) → r x y H Q) :
    RE S R Γ (tOp r ta tb) (ma.bind fun d => mb.bind fun e => g d e) := fun σ Hd H Q s p => by
  refine ha σ Hd H _ s ?_
  cases ma with
  | ok d =>
    intro x Hd1 H1 e1 r1
    refine hb σ Hd1 H1 _ (s.ext e1) ?_
    cases mb with
    | ok e =>
      intro y Hd2 H2 e2 r2
      exact hr σ Hd2 H2 x y d e Q ((s.ext e1).ext e2) (m1 e2 r1) r2 (EPost.after (e1.trans e2) p)
    | exc c => exact fun Hd' H' e' => p Hd' H' (e1.trans e')
    | bad => exact p.elim
  | exc c => exact p
  | bad => exact p.elim
theorem re_one {R R1 : Hp → Hp → V → D → Prop} {ta : TE} {g : D → Rs D} {r : V → Hp → VK → Prop} (ha : RE S R1 Γ ta ma)
    (hr : ∀ σ Hd H x d Q, SS S Γ σ Hd H → R1 Hd H x d → EPost S R σ Hd H Q (g d) → r x H Q) :
    RE S R Γ (tUn r ta) (ma.bind g) := fun σ Hd H Q s p => by
  refine ha σ Hd H _ s ?_
  cases ma with
  | ok d => exact fun x Hd1 H1 e1 r1 => hr σ Hd1 H1 x d Q (s.ext e1) r1 (EPost.after e1 p)
  | exc c => exact p
  | bad => exact p.elim
/-- a two-place operator over data -/
def OpD (S : Sc) (f : Value → Value → Sem Value) (g : D → D → Rs D) : Prop :=
  ∃ r : L2.R2, (∀ X, Fits S X → OpR X f r) ∧ ∀ Γ σ Hd H x y d e Q, SS S Γ σ Hd H → Rq S.K Hd H x d → Rq S.K Hd H y e → EPost S (fun Hd _ => Rp S.K Hd) σ Hd H Q (g d e) → r x y H Q
theorem de_bin {op : Operator} {g : D → D → Rs D} (o : OpD S (binaryOp op) g) (ha : DQ S Γ a ma) (hb : DQ S Γ b mb) : DE S Γ (.BinOp a op b pos) (ma.bind fun d => mb.bind fun e => g d e) := by
  obtain ⟨r, o1, o2⟩ := o
  obtain ⟨ta, a1, a2⟩ := ha
  obtain ⟨tb, b1, b2⟩ := hb
  exact ⟨tOp r ta tb, fun X hX => pe_op (o1 X hX) (a1 X hX) (b1 X hX), re_two (fun e h => h.mono e) a2 b2 (o2 Γ)⟩
theorem de_cmp {op : CmpOp} {g : D → D → Rs D} (o : OpD S (compareOp op) g) (ha : DQ S Γ a ma) (hb : DQ S Γ b mb) (hm : behindInMarks op b = false := by first | exact nomark _ | with_unfolding_all rfl) : DE S Γ (.Compare a [op] [b] pos) (ma.bind fun d => mb.bind fun e => g d e) := by
  obtain ⟨r, o1, o2⟩ := o
  obtain ⟨ta, a1, a2⟩ := ha
  obtain ⟨tb, b1, b2⟩ := hb
  exact ⟨tOp r ta tb, fun X hX => pe_cmpR (o1 X hX) (a1 X hX) (b1 X hX) hm, re_two (fun e h => h.mono e) a2 b2 (o2 Γ)⟩
theorem tst_post {σ : L2.St} {Hd H : Hp} {Q : Bool → Hp → Prop} : ∀ {m : Rs D}, TPost S σ Hd H Q (tst m) → EPost S (fun Hd _ => Rp S.K Hd) σ Hd H (fun x H1 => ∃ c, x = .bl c ∧ Q c H1) m
  | .ok (.bool b), h => fun v Hd' H' e r => by
    cases r.1
    exact ⟨b, rfl, h Hd' H' e⟩
  | .ok .none, h => h.elim
  | .ok (.int _), h => h.elim
  | .ok (.str _), h => h.elim
  | .ok (.list _), h => h.elim
  | .ok (.tuple _), h => h.elim
  | .ok (.dict _), h => h.elim
  | .exc c, h => h
  | .bad, h => h
/-- an expression as a test -/
theorem dt_val (h : DE S Γ e m) (he : ∀ (env : Env) whole, isTrue e env whole = (do let v ← whole; standAt e.pos; holding [v] (truthy v)) := by intro _ _; rfl) : DT S Γ e (tst m) := by
  obtain ⟨t, h1, h2⟩ := h
  exact ⟨tB t, fun X hX => pt_val (h1 X hX) (he X.env), fun σ Hd H Q s p => h2 σ Hd H _ s (tst_post p)⟩
theorem dt_cmp {op : CmpOp} {g : D → D → Rs D} (o : OpD S (compareOp op) g) (ha : DQ S Γ a ma) (hb : DQ S Γ b mb) (hm : behindInMarks op b = false := by first | exact nomark _ | with_unfolding_all rfl) : DT S Γ (.Compare a [op] [b] pos) (tst (ma.bind fun d => mb.bind fun e => g d e)) := by
  obtain ⟨r, o1, o2⟩ := o
  obtain ⟨ta, a1, a2⟩ := ha
  obtain ⟨tb, b1, b2⟩ := hb
  exact ⟨tTest (tOp r ta tb), fun X hX => pt_cmpR (o1 X hX) (a1 X hX) (b1 X hX) hm, fun σ Hd H Q s p => re_two (fun e h => h.mono e) a2 b2 (o2 Γ) σ Hd H _ s (tst_post p)⟩

theorem re_c {v : V} {d : D} (h : ∀ Hd, Rp S.K Hd v d) : RE S (fun Hd _ => Rp S.K Hd) Γ (tC v) (.ok d) := fun σ Hd H Q s p => p v Hd H (Ext.refl s.sub) (h Hd)
theorem de_int {i : Int} {j : Nat} : DE S Γ (.Constant (.int i) j pos) (.ok (.int i)) := ⟨_, fun _ _ => pe_int, re_c fun _ => Rp.int⟩
theorem de_bool {i : Bool} {j : Nat} : DE S Γ (.Constant (.bool i) j pos) (.ok (.bool i)) := ⟨_, fun _ _ => pe_bl, re_c fun _ => Rp.bl⟩
theorem de_none {j : Nat} : DE S Γ (.Constant .none j pos) (.ok .none) := ⟨_, fun _ _ => pe_non, re_c fun _ => Rp.non⟩
theorem de_str {i : Str} {j : Nat} : DE S Γ (.Constant (.str i) j pos) (.ok (.str i)) := ⟨_, fun _ _ => pe_str, re_c fun _ => Rp.str⟩
theorem fit_var {X : Cx} (hX : Fits S X) {x : Str} {i : Nat} (hN : S.N[i]? = some x) (hv : Vis S.sc x) (hd : (x == ("__debug__" : Str)) = false) (hcd : (x == ("__classdict__" : Str)) = false) : PE X (.Name x pos) (tVar i) :=
  pe_var (by rw [hX.N]; exact hN) (by rw [hX.sc]; exact hv) hd hcd
theorem de_var (i : Nat) {x : Str} {d : D} (hΓ : Γ[i]? = some (.dat d) := by rfl) (hN : S.N[i]? = some x := by rfl) (hv : Vis S.sc x := by first | exact Or.inl rfl | exact Or.inr (Or.inl rfl) | exact Or.inr (Or.inr rfl))
    (hd : (x == ("__debug__" : Str)) = false := by decide) (hcd : (x == ("__classdict__" : Str)) = false := by decide) : DE S Γ (.Name x pos) (.ok d) :=
  ⟨tVar i, fun _ hX => fit_var hX hN hv hd hcd, fun σ Hd H Q s p => by
    obtain ⟨v, h1, h2⟩ := s.dat i d hΓ
    exact ⟨v, h1, p v Hd H (Ext.refl s.sub) h2⟩⟩
/-- a list that is still changed, read -/
theorem dq_own (i : Nat) {x : Str} {ds : List D} (hΓ : Γ[i]? = some (.own ds) := by rfl) (hN : S.N[i]? = some x := by rfl) (hv : Vis S.sc x := by first | exact Or.inl rfl | exact Or.inr (Or.inl rfl) | exact Or.inr (Or.inr rfl))
    (hd : (x == ("__debug__" : Str)) = false := by decide) (hcd : (x == ("__classdict__" : Str)) = false := by decide) : DQ S Γ (.Name x pos) (.ok (.list ds)) :=
  ⟨tVar i, fun _ hX => fit_var hX hN hv hd hcd, fun σ Hd H Q s p => by
    obtain ⟨l, vs, h1, h2, h3, h4, h5, h6⟩ := s.own i ds hΓ
    exact ⟨.ref l, h1, p _ Hd H (Ext.refl s.sub) (.inr ⟨l, vs, ds, rfl, rfl, .inl h2, h5, h6⟩)⟩⟩
def GlS (S : Sc) (x : Str) : Prop := S.sc.names.lookup x = some .globalImplicit
theorem GlS.gl {X : Cx} (hX : Fits S X) {x : Str} (h : GlS S x) : Gl X x := by
  show X.env.scope.names.lookup x = _
  rw [hX.sc]
  exact h
theorem de_gint {x : Str} {i : Int} (hm : ∃ t, S.mg x = some (.int i t)) (hg : GlS S x := by rfl) (hd : (x == ("__debug__" : Str)) = false := by decide) : DE S Γ (.Name x pos) (.ok (.int i)) := by
  obtain ⟨t, hm⟩ := hm
  exact ⟨tC (.int i), fun X hX => pe_glob (hg.gl hX) (by rw [hX.mg]; exact hm) ⟨t, rfl⟩ hd, re_c fun _ => Rp.int⟩
theorem de_gstr {x : Str} {i : Str} (hm : ∃ t, S.mg x = some (.str i t)) (hg : GlS S x := by rfl) (hd : (x == ("__debug__" : Str)) = false := by decide) : DE S Γ (.Name x pos) (.ok (.str i)) := by
  obtain ⟨t, hm⟩ := hm
  exact ⟨tC (.str i), fun X hX => pe_glob (hg.gl hX) (by rw [hX.mg]; exact hm) ⟨t, rfl⟩ hd, re_c fun _ => Rp.str⟩

theorem opd_i0 {f : Value → Value → Sem Value} {g : D → D → Rs D} {h : Int → Int → V} {k : Int → Int → D} (o : ∀ X : Cx, OpR X f (rI0 h)) (hk : ∀ i j K Hd, Rp K Hd (h i j) (k i j))
    (hg : ∀ d e, (∃ i j, d = .int i ∧ e = .int j ∧ g d e = .ok (k i j)) ∨ g d e = .bad) : OpD S f g := by
  refine ⟨_, fun X _ => o X, fun Γ σ Hd H x y d e Q s hx hy p => ?_⟩
  rcases hg d e with ⟨i, j, rfl, rfl, q⟩ | q
  · rw [q] at p
    exact ⟨i, j, hx.int, hy.int, p _ _ _ (Ext.refl s.sub) (hk i j _ _)⟩
  · rw [q] at p
    exact p.elim
theorem opd_i {f : Value → Value → Sem Value} {g : D → D → Rs D} {C : Int → Int → Prop} {h : Int → Int → V} {k : Int → Int → D} (o : ∀ X : Cx, OpR X f (rI C h)) (hk : ∀ i j K Hd, Rp K Hd (h i j) (k i j))
    (hg : ∀ d e, (∃ i j, d = .int i ∧ e = .int j ∧ C i j ∧ g d e = .ok (k i j)) ∨ g d e = .bad) : OpD S f g := by
  refine ⟨_, fun X _ => o X, fun Γ σ Hd H x y d e Q s hx hy p => ?_⟩
  rcases hg d e with ⟨i, j, rfl, rfl, hc, q⟩ | q
  · rw [q] at p
    exact ⟨i, j, hx.int, hy.int, hc, p _ _ _ (Ext.refl s.sub) (hk i j _ _)⟩
  · rw [q] at p
    exact p.elim
theorem od_sub : OpD S (binaryOp .Sub) pySub := opd_i0 (k := fun i j => .int (i - j)) (fun X => op_sub) (fun _ _ _ _ => Rp.int) fun d e => by
  unfold pySub; split
  · exact .inl ⟨_, _, rfl, rfl, rfl⟩
  · exact .inr rfl
theorem od_mul : OpD S (binaryOp .Mult) pyMul := opd_i (k := fun i j => .int (i * j)) (fun X => op_mul) (fun _ _ _ _ => Rp.int) fun d e => by
  unfold pyMul; split
  · split
    · rename_i h; exact .inl ⟨_, _, rfl, rfl, h, rfl⟩
    · exact .inr rfl
  · exact .inr rfl
theorem od_mod : OpD S (binaryOp .Mod) pyMod := opd_i (k := fun i j => .int (i % j)) (fun X => op_mod) (fun _ _ _ _ => Rp.int) fun d e => by
  unfold pyMod; split
  · split
    · rename_i h; exact .inl ⟨_, _, rfl, rfl, h, rfl⟩
    · exact .inr rfl
  · exact .inr rfl
theorem od_pow : OpD S (binaryOp .Pow) pyPow := opd_i (k := fun i j => .int (i ^ j.toNat)) (fun X => op_pow) (fun _ _ _ _ => Rp.int) fun d e => by
  unfold pyPow; split
  · split
    · rename_i h; exact .inl ⟨_, _, rfl, rfl, h, rfl⟩
    · exact .inr rfl
  · exact .inr rfl
theorem od_lt : OpD S (compareOp .Lt) pyLt := opd_i0 (k := fun i j => .bool (decide (i < j))) (fun X => op_lt) (fun _ _ _ _ => Rp.bl) fun d e => by
  unfold pyLt; split
  · exact .inl ⟨_, _, rfl, rfl, rfl⟩
  · exact .inr rfl
theorem od_le : OpD S (compareOp .LtE) pyLe := opd_i0 (k := fun i j => .bool (decide (i ≤ j))) (fun X => op_le) (fun _ _ _ _ => Rp.bl) fun d e => by
  unfold pyLe; split
  · exact .inl ⟨_, _, rfl, rfl, rfl⟩
  · exact .inr rfl
theorem od_gt : OpD S (compareOp .Gt) pyGt := opd_i0 (k := fun i j => .bool (decide (j < i))) (fun X => op_gt) (fun _ _ _ _ => Rp.bl) fun d e => by
  unfold pyGt; split
  · exact .inl ⟨_, _, rfl, rfl, rfl⟩
  · exact .inr rfl
theorem od_ge : OpD S (compareOp .GtE) pyGe := opd_i0 (k := fun i j => .bool (decide (j ≤ i))) (fun X => op_ge) (fun _ _ _ _ => Rp.bl) fun d e => by
  unfold pyGe; split
  · exact .inl ⟨_, _, rfl, rfl, rfl⟩
  · exact .inr rfl
theorem units64 {X : Cx} (hX : Fits S X) : X.A.units + 64 < cLine := hX.room.units
theorem units65 {X : Cx} (hX : Fits S X) : X.A.units + 65 < cLine := by have := hX.room.un; omega
theorem od_eq : OpD S (compareOp .Eq) pyEq := by
  refine ⟨rEqD S.K, fun X hX => hX.K ▸ op_eqD (units64 hX), fun Γ σ Hd H x y d e Q s hx hy p => ?_⟩
  unfold pyEq at p
  split at p
  · rename_i h
    exact ⟨d, e, hx.dp s.sub, hy.dp s.sub, h.1, h.2, p _ _ _ (Ext.refl s.sub) Rp.bl⟩
  · exact p.elim
theorem od_ne : OpD S (compareOp .NotEq) pyNe := by
  refine ⟨rNeD S.K, fun X hX => hX.K ▸ op_neD (units64 hX), fun Γ σ Hd H x y d e Q s hx hy p => ?_⟩
  unfold pyNe at p
  split at p
  · rename_i h
    exact ⟨d, e, hx.dp s.sub, hy.dp s.sub, h.1, h.2, p _ _ _ (Ext.refl s.sub) Rp.bl⟩
  · exact p.elim
end BG
namespace BG
open PySem PySem.Spec PyProof.Rows L2
variable {S : Sc} {Γ : Gam} {a b c e : Expr} {ma mb mc m : Rs D} {pos : Pos}

theorem opr_or {X : Cx} {f : Value → Value → Sem Value} {r r' : L2.R2} (h : OpR X f r) (h' : OpR X f r') : OpR X f (fun x y H Q => r x y H Q ∨ r' x y H Q) := fun pins s σ H x y v u Q I rx ry q =>
  q.elim (h pins s σ H x y v u Q I rx ry) (h' pins s σ H x y v u Q I rx ry)
/-- list + list -/
def rCatL : L2.R2 := fun x y H Q => ∃ l b xs zs, x = .ref l ∧ y = .ref b ∧ Rd H l (.lst xs) ∧ Rd H b (.lst zs) ∧ xs.length + zs.length ≤ sizeLine ∧ ∀ p, H p = none → Q (.ref p) (upd H p (.lst (xs ++ zs)))
theorem op_catL {X : Cx} : OpR X (binaryOp .Add) rCatL := by
  intro pins s σ H x y v u Q I rx ry h
  obtain ⟨l, b, xs, zs, rfl, rfl, hH, hB, hz, q⟩ := h
  cases rx
  cases ry
  obtain ⟨z, its, n, r, e⟩ := hH.ok I.hok
  obtain ⟨z2, its2, n2, r2, e2⟩ := hB.ok I.hok
  have l1 := r.length
  have l2 := r2.length
  have hq : its.toArray.size + its2.toArray.size ≤ sizeLine := by simp; omega
  refine PySem.P.add_list e e2 ?_ hq
  have ea : its.toArray ++ its2.toArray = (its ++ its2).toArray := by simp
  rw [ea]
  have hw : (xs ++ zs).length ≤ sizeLine := by simp; omega
  exact ⟨.ref _, _, I.lnew (t' := s.toks) (r.append r2) hw, rfl, q _ I.fresh⟩
theorem post_new_list {σ : L2.St} {Hd H : Hp} {Q : VK} {vs : List V} {ds : List D} (s : Same Hd H) (r : RpA S.K Hd vs ds) (hl : ds.length ≤ sizeMax)
    (p : ∀ v Hd' H', Ext Hd H Hd' H' → Rp S.K Hd' v (.list ds) → Q v H') : ∀ p, H p = none → Q (.ref p) (upd H p (.lst vs)) := fun l hn =>
  p _ (upd Hd l (.lst vs)) _ (Ext.new s hn) (Rp.list upd_same (r.mono (same_new (s.free hn))) hl)
theorem post_new_tup {σ : L2.St} {Hd H : Hp} {Q : VK} {vs : List V} {ds : List D} (s : Same Hd H) (r : RpA S.K Hd vs ds) (hl : ds.length ≤ sizeMax)
    (p : ∀ v Hd' H', Ext Hd H Hd' H' → Rp S.K Hd' v (.tuple ds) → Q v H') : ∀ p, H p = none → Q (.ref p) (upd H p (.tup vs)) := fun l hn =>
  p _ (upd Hd l (.tup vs)) _ (Ext.new s hn) (Rp.tuple upd_same (r.mono (same_new (s.free hn))) hl)
theorem RpA.len {K : PySem.W.Frag} {H : Hp} {vs : List V} {ds : List D} (h : RpA K H vs ds) : vs.length = ds.length := h.1.length
theorem od_add : OpD S (binaryOp .Add) pyAdd := by
  refine ⟨fun x y H Q => rI0 (fun i j => .int (i + j)) x y H Q ∨ rCatL x y H Q ∨ rCatA S.K x y H Q, fun X hX => opr_or op_add (opr_or op_catL (hX.K ▸ op_catA)), fun Γ σ Hd H x y d e Q s hx hy p => ?_⟩
  unfold pyAdd at p
  split at p
  · exact .inl ⟨_, _, hx.int, hy.int, p _ _ _ (Ext.refl s.sub) Rp.int⟩
  · split at p
    · rename_i hz
      obtain ⟨l, vs, rfl, h1, h2, h3⟩ := hx.seqL s.sub
      obtain ⟨l', vs', rfl, h1', h2', h3'⟩ := hy.seqL s.sub
      refine .inr (.inl ⟨l, l', vs, vs', rfl, rfl, h1, h1', ?_, post_new_list (σ := σ) s.sub (h2.append h2') (by simpa using hz) p⟩)
      rw [h2.len, h2'.len, ← sizeMax_eq]
      exact hz
    · exact p.elim
  · split at p
    · rename_i xs ys hz
      obtain ⟨l, vs, rfl, h1, h2, h3⟩ := hx.seqT s.sub
      obtain ⟨l', vs', rfl, h1', h2', h3'⟩ := hy.seqT s.sub
      have e1 := h2.len
      have e2 := h2'.len
      refine .inr (.inr ⟨l, l', vs, vs', rfl, rfl, .inl (.inl (s.sub _ _ h1)), .inl (.inl (s.sub _ _ h1')), by rw [e1, e2, ← sizeMax_eq]; exact hz, fun z => ?_, fun z z' => ?_, fun _ _ => post_new_tup (σ := σ) s.sub (h2.append h2') (by simpa using hz) p⟩)
      · have : xs = [] := List.eq_nil_of_length_eq_zero (by rw [← e1, z]; rfl)
        subst this
        exact p _ _ _ (Ext.refl s.sub) (Rp.tuple h1' h2' h3')
      · have : ys = [] := List.eq_nil_of_length_eq_zero (by rw [← e2, z']; rfl)
        subst this
        rw [List.append_nil] at p
        exact p _ _ _ (Ext.refl s.sub) (Rp.tuple h1 h2 h3)
    · exact p.elim
  · exact p.elim
def rInT (K : PySem.W.Frag) : L2.R2 := fun x y H Q => ∃ d ds, Dp K H x d ∧ (Dp K H y (.list ds) ∨ Dp K H y (.tuple ds)) ∧ SeqAt.shaped d = true ∧ SeqAt.shaped (.list ds) = true ∧ Q (.bl (ds.any fun z => PyData.eqv z d)) H
def rNotInT (K : PySem.W.Frag) : L2.R2 := fun x y H Q => ∃ d ds, Dp K H x d ∧ (Dp K H y (.list ds) ∨ Dp K H y (.tuple ds)) ∧ SeqAt.shaped d = true ∧ SeqAt.shaped (.list ds) = true ∧ Q (.bl (!ds.any fun z => PyData.eqv z d)) H
theorem op_inT {X : Cx} (hu : X.A.units + 65 < cLine) : OpR X (compareOp .In) (rInT X.K) := by
  intro pins s σ H x y v u Q I rx ry h
  obtain ⟨d, ds, hd, he, sd, se, q⟩ := h
  obtain ⟨as, r1⟩ := Dp.reads I d x v hd rx
  have hl : PyData.canLayAll0 ds = true := by have := SeqAt.canLay_of_shaped se; simpa [PyData.canLay0] using this
  rcases he with he | he
  · obtain ⟨bs, r2⟩ := Dp.reads I _ y u he ry
    exact SeqAt.in_list_reads r2 r1 hl (SeqAt.canLay_of_shaped sd) (room_in_shaped sd hu) ⟨.bl _, H, I, rfl, q⟩
  · obtain ⟨bs, r2⟩ := Dp.reads I _ y u he ry
    exact SeqAt.in_tuple_reads r2 r1 hl (SeqAt.canLay_of_shaped sd) (room_in_shaped sd hu) ⟨.bl _, H, I, rfl, q⟩
theorem op_notInT {X : Cx} (hu : X.A.units + 65 < cLine) : OpR X (compareOp .NotIn) (rNotInT X.K) := by
  intro pins s σ H x y v u Q I rx ry h
  obtain ⟨d, ds, hd, he, sd, se, q⟩ := h
  obtain ⟨as, r1⟩ := Dp.reads I d x v hd rx
  have hl : PyData.canLayAll0 ds = true := by have := SeqAt.canLay_of_shaped se; simpa [PyData.canLay0] using this
  rcases he with he | he
  · obtain ⟨bs, r2⟩ := Dp.reads I _ y u he ry
    exact SeqAt.notIn_list_reads r2 r1 hl (SeqAt.canLay_of_shaped sd) (room_in_shaped sd hu) ⟨.bl _, H, I, rfl, q⟩
  · obtain ⟨bs, r2⟩ := Dp.reads I _ y u he ry
    exact SeqAt.notIn_tuple_reads r2 r1 hl (SeqAt.canLay_of_shaped sd) (room_in_shaped sd hu) ⟨.bl _, H, I, rfl, q⟩
theorem ofSeq_post {R : Hp → Hp → V → D → Prop} {σ : L2.St} {Hd H : Hp} {Q : VK} {d : D} {f : List D → Rs D} (p : EPost S R σ Hd H Q ((ofSeq d).bind f)) : ∃ ds, (d = .list ds ∨ d = .tuple ds) ∧ EPost S R σ Hd H Q (f ds) := by
  cases d with
  | list ds => exact ⟨ds, .inl rfl, p⟩
  | tuple ds => exact ⟨ds, .inr rfl, p⟩
  | none => exact p.elim
  | bool _ => exact p.elim
  | int _ => exact p.elim
  | str _ => exact p.elim
  | dict _ => exact p.elim
theorem od_in : OpD S (compareOp .In) pyIn := by
  refine ⟨rInT S.K, fun X hX => hX.K ▸ op_inT (units65 hX), fun Γ σ Hd H x y d e Q s hx hy p => ?_⟩
  obtain ⟨ds, he, p⟩ := ofSeq_post p
  split at p
  · rename_i h
    refine ⟨d, ds, hx.dp s.sub, ?_, h.1, h.2, p _ _ _ (Ext.refl s.sub) Rp.bl⟩
    rcases he with rfl | rfl
    · exact .inl (hy.dp s.sub)
    · exact .inr (hy.dp s.sub)
  · exact p.elim
theorem od_notIn : OpD S (compareOp .NotIn) pyNotIn := by
  refine ⟨rNotInT S.K, fun X hX => hX.K ▸ op_notInT (units65 hX), fun Γ σ Hd H x y d e Q s hx hy p => ?_⟩
  obtain ⟨ds, he, p⟩ := ofSeq_post p
  split at p
  · rename_i h
    refine ⟨d, ds, hx.dp s.sub, ?_, h.1, h.2, p _ _ _ (Ext.refl s.sub) Rp.bl⟩
    rcases he with rfl | rfl
    · exact .inl (hy.dp s.sub)
    · exact .inr (hy.dp s.sub)
  · exact p.elim
theorem rq_none {K : PySem.W.Frag} {Hd H : Hp} {v : V} {d : D} (h : Rq K Hd H v d) : decide (v = .non) = isNoneB d := by
  rcases h with ⟨h, _⟩ | ⟨l, vs, ds, rfl, rfl, _⟩
  · cases h <;> simp [isNoneB]
  · simp [isNoneB]
theorem rq_non {K : PySem.W.Frag} {Hd H : Hp} {v : V} (h : Rq K Hd H v .none) : v = .non := by
  rcases h with ⟨h, _⟩ | ⟨l, vs, ds, rfl, h, _⟩
  · cases h; rfl
  · cases h
theorem od_is : OpD S (compareOp .Is) pyIs := by
  refine ⟨fun x y H Q => rIsB x y H Q ∨ (y = .non ∧ Q (.bl (decide (x = .non))) H), fun X hX => opr_or op_isBl op_isN, fun Γ σ Hd H x y d e Q s hx hy p => ?_⟩
  unfold pyIs at p
  split at p
  · exact .inl ⟨_, _, hx.bool, hy.bool, p _ _ _ (Ext.refl s.sub) Rp.bl⟩
  · exact .inr ⟨rq_non hy, by rw [rq_none hx]; exact p _ _ _ (Ext.refl s.sub) Rp.bl⟩
  · exact p.elim
theorem od_isNot : OpD S (compareOp .IsNot) pyIsNot := by
  refine ⟨fun x y H Q => rNotB x y H Q ∨ (y = .non ∧ Q (.bl (!decide (x = .non))) H), fun X hX => opr_or op_notBl op_notN, fun Γ σ Hd H x y d e Q s hx hy p => ?_⟩
  unfold pyIsNot at p
  split at p
  · exact .inl ⟨_, _, hx.bool, hy.bool, p _ _ _ (Ext.refl s.sub) Rp.bl⟩
  · exact .inr ⟨rq_non hy, by rw [rq_none hx]; exact p _ _ _ (Ext.refl s.sub) Rp.bl⟩
  · exact p.elim
def NoStar (e : Expr) : Prop := ∀ es env, starEach (e :: es) env = (false, eval e env) :: starEach es env
theorem da_nil : DA S Γ [] (.ok []) := ⟨tNil, fun _ _ => pa_nil, fun σ Hd H Q s p => p [] Hd H (Ext.refl s.sub) RpA.nil⟩
theorem da_cons {es : List Expr} {mr : Rs (List D)} (ha : DE S Γ a ma) (hr : DA S Γ es mr) (hs : NoStar a := by intro _ _; rfl) : DA S Γ (a :: es) (ma.bind fun d => mr.bind fun ds => .ok (d :: ds)) := by
  obtain ⟨ta, a1, a2⟩ := ha
  obtain ⟨tr, r1, r2⟩ := hr
  refine ⟨tCons ta tr, fun X hX => pa_cons (a1 X hX) (r1 X hX) (hs _ _), fun σ Hd H Q s p => ?_⟩
  refine a2 σ Hd H _ s ?_
  cases ma with
  | ok d =>
    intro x Hd1 H1 e1 q1
    refine r2 σ Hd1 H1 _ (s.ext e1) ?_
    cases mr with
    | ok ds => exact fun vs Hd2 H2 e2 q2 => p _ _ _ (e1.trans e2) (RpA.cons (q1.mono e2.d) q2)
    | exc c => exact fun Hd' H' e' => p Hd' H' (e1.trans e')
    | bad => exact p.elim
  | exc c => exact p
  | bad => exact p.elim
theorem de_tup {es : List Expr} {k : Nat} {mr : Rs (List D)} (h : DA S Γ es mr) : DE S Γ (.Tuple es k pos) (mr.bind mkTup) := by
  obtain ⟨t, h1, h2⟩ := h
  refine ⟨tTup t, fun X hX => pe_tup (h1 X hX), fun σ Hd H Q s p => h2 σ Hd H _ s ?_⟩
  cases mr with
  | ok ds =>
    intro vs Hd1 H1 e1 r1
    have p : EPost S _ σ Hd H Q (mkTup ds) := p
    unfold mkTup at p
    split at p
    · rename_i hz
      exact ⟨by rw [r1.len, ← sizeMax_eq]; exact hz, post_new_tup (σ := σ) e1.s r1 hz fun v Hd' H' e' r' => p v Hd' H' (e1.trans e') r'⟩
    · exact p.elim
  | exc c => exact p
  | bad => exact p.elim
theorem df_lst {es : List Expr} {mr : Rs (List D)} (h : DA S Γ es mr) : DF S Γ (.List es pos) (mr.bind mkLst) := by
  obtain ⟨t, h1, h2⟩ := h
  refine ⟨tLst t, fun X hX => pe_lst (h1 X hX), fun σ Hd H Q s p => h2 σ Hd H _ s ?_⟩
  cases mr with
  | ok ds =>
    intro vs Hd1 H1 e1 r1
    have p : FPost S σ Hd H Q (mkLst ds) := p
    unfold mkLst at p
    split at p
    · rename_i hz
      refine ⟨by rw [r1.len, ← sizeMax_eq]; exact hz, fun l hn => ?_⟩
      exact p l vs Hd1 _ (e1.trans (Ext.newOwn e1.s hn)) (e1.a.free hn) upd_same (e1.s.free hn) r1 hz
    · exact p.elim
  | exc c => exact p
  | bad => exact p.elim
/-- a new list is a datum -/
theorem upd_data {Hd H Hd' H' : Hp} {l : Addr} {vs : List V} (e : Ext Hd H Hd' H') (hn : H l = none) (hl : H' l = some (.lst vs)) (hd : Hd' l = none) : Ext Hd H (upd Hd' l (.lst vs)) H' :=
  ⟨e.a, e.d.trans (same_new hd), fun b o q => by
    by_cases hb : b = l
    · subst hb
      rw [upd_same] at q
      cases q
      exact hl
    · rw [upd_ne hb] at q
      exact e.s b o q, fun b h1 h2 => by
    rw [upd_ne (fun z => h1 (by rw [z]; exact hn))]
    exact e.o b h1 h2⟩
theorem DF.de {mr : Rs (List D)} (h : DF S Γ e mr) : DE S Γ e (lstD mr) := by
  obtain ⟨t, h1, h2⟩ := h
  refine ⟨t, h1, fun σ Hd H Q s p => h2 σ Hd H _ s ?_⟩
  cases mr with
  | ok ds =>
    intro l vs Hd' H' e' hn hl hd r hz
    exact p _ _ _ (upd_data e' hn hl hd) (Rp.list upd_same (r.mono (same_new hd)) hz)
  | exc c => exact p
  | bad => exact p.elim
theorem ixOf_ixN (n : Nat) (i : Int) : ixOf n i = ixN n i := by
  unfold ixOf ixN
  by_cases h : 0 ≤ i
  · rw [if_pos h, if_pos h]
  · rw [if_neg h, if_neg h]
    by_cases h2 : -(n : Int) ≤ i
    · rw [if_pos h2, if_pos (by omega)]
    · rw [if_neg h2, if_neg (by omega)]
theorem ixr_or {X : Cx} {r r' : L2.R2} (h : IxR X r) (h' : IxR X r') : IxR X (fun x y H Q => r x y H Q ∨ r' x y H Q) := h.or h'
theorem de_ix (ha : DQ S Γ a ma) (hb : DQ S Γ b mb) (hs : PlainIx b := by intro _ _; rfl) : DE S Γ (.Subscript a b pos) (ma.bind fun d => mb.bind fun e => pyIx d e) := by
  obtain ⟨ta, a1, a2⟩ := ha
  obtain ⟨tb, b1, b2⟩ := hb
  refine ⟨tOp (fun x y H Q => rIxL S.K x y H Q ∨ rIxT S.K x y H Q) ta tb, fun X hX => pe_ix (ixr_or (hX.K ▸ ix_list) (hX.K ▸ ix_tup)) (a1 X hX) (b1 X hX) hs, re_two (fun e h => h.mono e) a2 b2 fun σ Hd H x y d e Q s hx hy p => ?_⟩
  obtain ⟨ds, he, p2⟩ := ofSeq_post p
  cases e with
  | int j =>
    have p3 : EPost S _ σ Hd H Q (match (ixOf ds.length j).bind fun k => ds[k]? with | some d => .ok d | none => .bad) := p2
    clear p p2
    cases q : (ixOf ds.length j).bind fun k => ds[k]? with
    | none => rw [q] at p3; exact p3.elim
    | some z =>
      rw [q] at p3
      obtain ⟨k, k1, k2⟩ := Option.bind_eq_some_iff.mp q
      rcases he with rfl | rfl
      · obtain ⟨l, vs, rfl, h1, h2, h3⟩ := hx.seqL s.sub
        obtain ⟨v, hv, hr⟩ := h2.get k2
        refine .inl ⟨l, vs, j, v, rfl, hy.int, .inl h1, ?_, p3 _ _ _ (Ext.refl s.sub) hr⟩
        unfold atI
        rw [h2.len, ← ixOf_ixN, k1]
        exact hv
      · obtain ⟨l, vs, rfl, h1, h2, h3⟩ := hx.seqT s.sub
        obtain ⟨v, hv, hr⟩ := h2.get k2
        refine .inr ⟨l, vs, j, v, rfl, hy.int, .inl (.inl (s.sub _ _ h1)), ?_, p3 _ _ _ (Ext.refl s.sub) hr⟩
        unfold atI
        rw [h2.len, ← ixOf_ixN, k1]
        exact hv
  | none => exact p2.elim
  | bool _ => exact p2.elim
  | str _ => exact p2.elim
  | list _ => exact p2.elim
  | tuple _ => exact p2.elim
  | dict _ => exact p2.elim
end BG
namespace BG
open PySem PySem.Spec PyProof.Rows L2
variable {S : Sc} {Γ : Gam} {a b c e : Expr} {ma mb mc m : Rs D} {pos : Pos}

def OPost (S : Sc) (σ : L2.St) (Hd H : Hp) (Q : Option Int → Hp → Prop) : Rs (Option Int) → Prop
  | .ok o => ∀ Hd' H', Ext Hd H Hd' H' → Q o H'
  | .exc c => ∀ Hd' H', Ext Hd H Hd' H' → S.W (.ref (He.ga S.K c)) none σ H'
  | .bad => False
def DO (S : Sc) (Γ : Gam) (e : Option Expr) (m : Rs (Option Int)) : Prop := ∃ t : TO, (∀ X, Fits S X → PO X e t) ∧ ∀ σ Hd H Q, SS S Γ σ Hd H → OPost S σ Hd H Q m → t σ H Q
theorem do_none : DO S Γ none (.ok none) := ⟨tNoPart, fun _ _ => po_none, fun σ Hd H Q s p => p Hd H (Ext.refl s.sub)⟩
theorem do_some (h : DE S Γ e m) : DO S Γ (some e) (part m) := by
  obtain ⟨t, h1, h2⟩ := h
  refine ⟨tPart t, fun X hX => po_some (h1 X hX), fun σ Hd H Q s p => h2 σ Hd H _ s ?_⟩
  cases m with
  | ok d =>
    intro v Hd' H' e' r
    cases d with
    | int i =>
      cases r.1
      exact ⟨i, rfl, p Hd' H' e'⟩
    | none => exact p.elim
    | bool _ => exact p.elim
    | str _ => exact p.elim
    | list _ => exact p.elim
    | tuple _ => exact p.elim
    | dict _ => exact p.elim
  | exc c => exact p
  | bad => exact p.elim
theorem sIx_eq (n d : Nat) : ∀ o : Option Int, sIx n d o = HT.sIx n d o
  | none => rfl
  | some _ => rfl
theorem DvA.drop {H : Hp} : ∀ (n : Nat) {vs : List V} {ds : List D}, DvA H vs ds → DvA H (vs.drop n) (ds.drop n)
  | 0, _, _, h => h
  | _ + 1, _, _, .nil => .nil
  | n + 1, _, _, .cons _ t => DvA.drop n t
theorem DvA.take {H : Hp} : ∀ (n : Nat) {vs : List V} {ds : List D}, DvA H vs ds → DvA H (vs.take n) (ds.take n)
  | 0, _, _, _ => .nil
  | _ + 1, _, _, .nil => .nil
  | n + 1, _, _, .cons h t => .cons h (DvA.take n t)
theorem RpA.cut {K : PySem.W.Frag} {H : Hp} {vs : List V} {ds : List D} (h : RpA K H vs ds) (lo hi : Option Int) : RpA K H (cutV vs lo hi) (cutL ds lo hi) := by
  unfold cutV cutL
  rw [← sIx_eq, ← sIx_eq, h.len]
  exact ⟨(h.1.drop _).take _, szA_of fun d hd => szA_mem h.2 (List.mem_of_mem_drop (List.mem_of_mem_take hd))⟩
theorem cutL_len {α : Type} (xs : List α) (lo hi : Option Int) : (cutL xs lo hi).length ≤ xs.length := by
  unfold cutL
  rw [List.length_take, List.length_drop]
  omega
theorem de_slice {l h : Option Expr} {ml mh : Rs (Option Int)} {p2 : Pos} (ha : DQ S Γ a ma) (hl : DO S Γ l ml) (hh : DO S Γ h mh) : DE S Γ (.Subscript a (.Slice l h none p2) pos) (ma.bind fun d => ml.bind fun x => mh.bind fun y => pySlice d x y) := by
  obtain ⟨ta, a1, a2⟩ := ha
  obtain ⟨tl, l1, l2⟩ := hl
  obtain ⟨th, h1, h2⟩ := hh
  refine ⟨tSl (fun x lo hi H Q => rSlL S.K x lo hi H Q ∨ rSlA S.K x lo hi H Q) ta tl th, fun X hX => pe_slice (SlR.or (hX.K ▸ sl_list) (hX.K ▸ sl_tupA)) (a1 X hX) (l1 X hX) (h1 X hX), fun σ Hd H Q s p => ?_⟩
  refine a2 σ Hd H _ s ?_
  cases ma with
  | exc c => exact p
  | bad => exact p.elim
  | ok d =>
    intro x Hd1 H1 e1 q1
    refine l2 σ Hd1 H1 _ (s.ext e1) ?_
    cases ml with
    | exc c => exact fun Hd' H' e' => p Hd' H' (e1.trans e')
    | bad => exact p.elim
    | ok lo =>
      intro Hd2 H2 e2
      refine h2 σ Hd2 H2 _ ((s.ext e1).ext e2) ?_
      cases mh with
      | exc c => exact fun Hd' H' e' => p Hd' H' ((e1.trans e2).trans e')
      | bad => exact p.elim
      | ok hi =>
        intro Hd3 H3 e3
        have p' : EPost S _ σ Hd3 H3 Q (pySlice d lo hi) := EPost.after ((e1.trans e2).trans e3) p
        have q3 := q1.mono (e2.trans e3)
        have ss : Same Hd3 H3 := e3.s
        cases d with
        | list xs =>
          obtain ⟨l, vs, rfl, r1, r2, r3⟩ := q3.seqL ss
          exact .inl ⟨l, vs, rfl, .inl r1, post_new_list (σ := σ) ss (r2.cut lo hi) (Nat.le_trans (cutL_len ..) r3) p'⟩
        | tuple xs =>
          obtain ⟨l, vs, rfl, r1, r2, r3⟩ := q3.seqT ss
          refine .inr ⟨l, vs, rfl, .inl (.inl (ss _ _ r1)), fun hw => ?_, fun _ => post_new_tup (σ := σ) ss (r2.cut lo hi) (Nat.le_trans (cutL_len ..) r3) p'⟩
          have e4 : cutL xs lo hi = xs := by
            unfold cutL
            rw [sIx_eq, sIx_eq, ← r2.len, hw.1, hw.2, Nat.sub_zero, List.drop_zero, r2.len, List.take_length]
          have p3 : ∀ v Hd' H', Ext Hd3 H3 Hd' H' → Rp S.K Hd' v (.tuple (cutL xs lo hi)) → Q v H' := p'
          rw [e4] at p3
          exact p3 _ _ _ (Ext.refl ss) (Rp.tuple r1 r2 r3)
        | none => exact p'.elim
        | bool _ => exact p'.elim
        | int _ => exact p'.elim
        | str _ => exact p'.elim
        | dict _ => exact p'.elim

variable {ta tb tc : Rs Bool} {rest : List Expr}
theorem dw_and1 (h : DT S Γ a ta) : DW S Γ (.BoolOp .And [a] pos) ta := by
  obtain ⟨t, h1, h2⟩ := h
  exact ⟨t, fun X hX => pw_and1 (h1 X hX), h2⟩
theorem dw_or1 (h : DT S Γ a ta) : DW S Γ (.BoolOp .Or [a] pos) ta := by
  obtain ⟨t, h1, h2⟩ := h
  exact ⟨t, fun X hX => pw_or1 (h1 X hX), h2⟩
theorem dw_and (h : DT S Γ a ta) (k : DW S Γ (.BoolOp .And (b :: rest) pos) tb) : DW S Γ (.BoolOp .And (a :: b :: rest) pos) (andT ta tb) := by
  obtain ⟨t, h1, h2⟩ := h
  obtain ⟨u, k1, k2⟩ := k
  refine ⟨tAnd t u, fun X hX => pw_and (h1 X hX) (k1 X hX), fun σ Hd H Q s p => h2 σ Hd H _ s ?_⟩
  cases ta with
  | exc c => exact p
  | bad => exact p.elim
  | ok x =>
    intro Hd1 H1 e1
    cases x with
    | true => exact iteT (k2 σ Hd1 H1 Q (s.ext e1) (TPost.after e1 p))
    | false => exact iteF (p _ _ e1)
theorem dw_or (h : DT S Γ a ta) (k : DW S Γ (.BoolOp .Or (b :: rest) pos) tb) : DW S Γ (.BoolOp .Or (a :: b :: rest) pos) (orT ta tb) := by
  obtain ⟨t, h1, h2⟩ := h
  obtain ⟨u, k1, k2⟩ := k
  refine ⟨tOr t u, fun X hX => pw_or (h1 X hX) (k1 X hX), fun σ Hd H Q s p => h2 σ Hd H _ s ?_⟩
  cases ta with
  | exc c => exact p
  | bad => exact p.elim
  | ok x =>
    intro Hd1 H1 e1
    cases x with
    | false => exact iteF (k2 σ Hd1 H1 Q (s.ext e1) (TPost.after e1 p))
    | true => exact iteT (p _ _ e1)
theorem DW.t (h : DW S Γ e ta) : DT S Γ e ta := by
  obtain ⟨t, h1, h2⟩ := h
  exact ⟨t, fun X hX => (h1 X hX).pt, h2⟩
theorem dt_not (h : DT S Γ a ta) : DT S Γ (.UnaryOp .Not a pos) (notT ta) := by
  obtain ⟨t, h1, h2⟩ := h
  refine ⟨tNot t, fun X hX => pt_not (h1 X hX), fun σ Hd H Q s p => h2 σ Hd H _ s ?_⟩
  cases ta with
  | exc c => exact p
  | bad => exact p.elim
  | ok x => exact p
theorem de_one {op : BoolOp} (h : DE S Γ a ma) : DE S Γ (.BoolOp op [a] pos) ma := by
  obtain ⟨t, h1, h2⟩ := h
  exact ⟨t, fun X hX => pe_one (h1 X hX), h2⟩
/-- a bool out of a mirror -/
theorem bool_post {σ : L2.St} {Hd H : Hp} {Q : VK} {f : Bool → Rs D} : ∀ {m : Rs D}, EPost S (fun Hd _ => Rp S.K Hd) σ Hd H Q ((m.bind toB).bind f) →
    EPost S (fun Hd _ => Rp S.K Hd) σ Hd H (fun x H1 => ∃ c, x = .bl c ∧ ∃ Hd1, Ext Hd H Hd1 H1 ∧ EPost S (fun Hd _ => Rp S.K Hd) σ Hd1 H1 Q (f c)) m
  | .ok (.bool b), h => fun v Hd' H' e r => by
    cases r.1
    exact ⟨b, rfl, Hd', e, EPost.after e h⟩
  | .ok .none, h => h.elim
  | .ok (.int _), h => h.elim
  | .ok (.str _), h => h.elim
  | .ok (.list _), h => h.elim
  | .ok (.tuple _), h => h.elim
  | .ok (.dict _), h => h.elim
  | .exc c, h => h
  | .bad, h => h
/-- an expression's reading, its wish made weaker (only of those that the mirror allows) -/
theorem de_and (h : DE S Γ a ma) (k : DE S Γ (.BoolOp .And (b :: rest) pos) mb) : DE S Γ (.BoolOp .And (a :: b :: rest) pos) (andV ma mb) := by
  obtain ⟨t, h1, h2⟩ := h
  obtain ⟨u, k1, k2⟩ := k
  refine ⟨tAndV t u, fun X hX => pe_and (h1 X hX) (k1 X hX), fun σ Hd H Q s p => h2 σ Hd H _ s ?_⟩
  cases ma with
  | exc c => exact p
  | bad => exact p.elim
  | ok d =>
    intro v Hd1 H1 e1 r1
    cases d with
    | bool x =>
      cases r1.1
      refine ⟨x, rfl, ?_⟩
      cases x with
      | true => exact iteT (k2 σ Hd1 H1 Q (s.ext e1) (EPost.after e1 p))
      | false => exact iteF (p _ _ _ e1 Rp.bl)
    | none => exact p.elim
    | int _ => exact p.elim
    | str _ => exact p.elim
    | list _ => exact p.elim
    | tuple _ => exact p.elim
    | dict _ => exact p.elim
theorem de_or (h : DE S Γ a ma) (k : DE S Γ (.BoolOp .Or (b :: rest) pos) mb) : DE S Γ (.BoolOp .Or (a :: b :: rest) pos) (orV ma mb) := by
  obtain ⟨t, h1, h2⟩ := h
  obtain ⟨u, k1, k2⟩ := k
  refine ⟨tOrV t u, fun X hX => pe_or (h1 X hX) (k1 X hX), fun σ Hd H Q s p => h2 σ Hd H _ s ?_⟩
  cases ma with
  | exc c => exact p
  | bad => exact p.elim
  | ok d =>
    intro v Hd1 H1 e1 r1
    cases d with
    | bool x =>
      cases r1.1
      refine ⟨x, rfl, ?_⟩
      cases x with
      | false => exact iteF (k2 σ Hd1 H1 Q (s.ext e1) (EPost.after e1 p))
      | true => exact iteT (p _ _ _ e1 Rp.bl)
    | none => exact p.elim
    | int _ => exact p.elim
    | str _ => exact p.elim
    | list _ => exact p.elim
    | tuple _ => exact p.elim
    | dict _ => exact p.elim
theorem de_not (h : DE S Γ a ma) : DE S Γ (.UnaryOp .Not a pos) (notV ma) := by
  obtain ⟨t, h1, h2⟩ := h
  refine ⟨tNotV t, fun X hX => pe_not (h1 X hX), fun σ Hd H Q s p => h2 σ Hd H _ s ?_⟩
  cases ma with
  | exc c => exact p
  | bad => exact p.elim
  | ok d =>
    intro v Hd1 H1 e1 r1
    cases d with
    | bool x =>
      cases r1.1
      exact ⟨x, rfl, p _ _ _ e1 Rp.bl⟩
    | none => exact p.elim
    | int _ => exact p.elim
    | str _ => exact p.elim
    | list _ => exact p.elim
    | tuple _ => exact p.elim
    | dict _ => exact p.elim
theorem de_neg (h : DE S Γ a ma) : DE S Γ (.UnaryOp .USub a pos) (ma.bind pyNeg) := by
  obtain ⟨t, h1, h2⟩ := h
  refine ⟨tUn (rU fun i => .int (-i)) t, fun X hX => pe_un un_neg (h1 X hX), re_one h2 fun σ Hd H x d Q s r p => ?_⟩
  cases d with
  | int i =>
    cases r.1
    exact ⟨i, rfl, p _ _ _ (Ext.refl s.sub) Rp.int⟩
  | none => exact p.elim
  | bool _ => exact p.elim
  | str _ => exact p.elim
  | list _ => exact p.elim
  | tuple _ => exact p.elim
  | dict _ => exact p.elim
theorem de_if (hc : DT S Γ c tc) (h : DE S Γ a ma) (k : DE S Γ b mb) : DE S Γ (.IfExp c a b pos) (ifE tc ma mb) := by
  obtain ⟨t0, c1, c2⟩ := hc
  obtain ⟨t, h1, h2⟩ := h
  obtain ⟨u, k1, k2⟩ := k
  refine ⟨tIf t0 t u, fun X hX => pe_ifExp (c1 X hX) (h1 X hX) (k1 X hX), fun σ Hd H Q s p => c2 σ Hd H _ s ?_⟩
  cases tc with
  | exc c => exact p
  | bad => exact p.elim
  | ok x =>
    intro Hd1 H1 e1
    cases x with
    | true => exact iteT (h2 σ Hd1 H1 Q (s.ext e1) (EPost.after e1 p))
    | false => exact iteF (k2 σ Hd1 H1 Q (s.ext e1) (EPost.after e1 p))
/-- a op b op' c -/
theorem re_chain {r r' : L2.R2} {g g' : D → D → Rs D} {ta tb tc : TE} (o2 : ∀ σ Hd H x y d e Q, SS S Γ σ Hd H → Rq S.K Hd H x d → Rq S.K Hd H y e → EPost S (fun Hd _ => Rp S.K Hd) σ Hd H Q (g d e) → r x y H Q)
    (o2' : ∀ σ Hd H x y d e Q, SS S Γ σ Hd H → Rq S.K Hd H x d → Rq S.K Hd H y e → EPost S (fun Hd _ => Rp S.K Hd) σ Hd H Q (g' d e) → r' x y H Q)
    (a2 : RE S (Rq S.K) Γ ta ma) (b2 : RE S (Rq S.K) Γ tb mb) (c2 : RE S (Rq S.K) Γ tc mc) : RE S (fun Hd _ => Rp S.K Hd) Γ (tChain r r' ta tb tc) (chainV g g' ma mb mc) := fun σ Hd H Q s p => a2 σ Hd H _ s (by
  cases ma with
  | exc c => exact p
  | bad => exact p.elim
  | ok d =>
    intro x Hd1 H1 e1 r1
    refine b2 σ Hd1 H1 _ (s.ext e1) ?_
    cases mb with
    | exc c => exact fun Hd' H' e' => p Hd' H' (e1.trans e')
    | bad => exact p.elim
    | ok e =>
      intro y Hd2 H2 e2 r2
      have p' : EPost S (fun Hd _ => Rp S.K Hd) σ Hd2 H2 Q (((g d e).bind toB).bind fun k => if k = true then mc.bind fun z => g' e z else .ok (.bool false)) := EPost.after (e1.trans e2) p
      refine o2 σ Hd2 H2 x y d e _ ((s.ext e1).ext e2) (r1.mono e2) r2 ?_
      have q := bool_post p'
      cases hg : g d e with
      | exc c => rw [hg] at q; exact q
      | bad => rw [hg] at q; exact q.elim
      | ok z =>
        rw [hg] at q
        intro v Hd3 H3 e3 r3
        obtain ⟨k, rfl, Hd4, e4, q4⟩ := q v Hd3 H3 e3 r3
        refine ⟨k, rfl, ?_⟩
        have sx := ((s.ext e1).ext e2).ext e4
        cases k with
        | false => exact iteF (q4 _ _ _ (Ext.refl e4.s) Rp.bl)
        | true =>
          refine iteT (c2 σ Hd4 H3 _ sx ?_)
          cases mc with
          | exc c => exact q4
          | bad => exact q4.elim
          | ok f =>
            intro w Hd5 H5 e5 r5
            exact o2' σ Hd5 H5 y w e f Q (sx.ext e5) (r2.mono (e4.trans e5)) r5 (EPost.after e5 q4))
theorem de_chain {op op' : CmpOp} {g g' : D → D → Rs D} (o : OpD S (compareOp op) g) (o' : OpD S (compareOp op') g') (ha : DQ S Γ a ma) (hb : DQ S Γ b mb) (hc : DQ S Γ c mc) (hm : lastMarks [op, op'] [b, c] = false := by with_unfolding_all rfl) :
    DE S Γ (.Compare a [op, op'] [b, c] pos) (chainV g g' ma mb mc) := by
  obtain ⟨r, o1, o2⟩ := o
  obtain ⟨r', o1', o2'⟩ := o'
  obtain ⟨ta, a1, a2⟩ := ha
  obtain ⟨tb, b1, b2⟩ := hb
  obtain ⟨tc, c1, c2⟩ := hc
  exact ⟨tChain r r' ta tb tc, fun X hX => pe_chain (o1 X hX) (o1' X hX) (a1 X hX) (b1 X hX) (c1 X hX) hm, re_chain (o2 Γ) (o2' Γ) a2 b2 c2⟩
theorem dt_chain {op op' : CmpOp} {g g' : D → D → Rs D} (o : OpD S (compareOp op) g) (o' : OpD S (compareOp op') g') (ha : DQ S Γ a ma) (hb : DQ S Γ b mb) (hc : DQ S Γ c mc) (hm : lastMarks [op, op'] [b, c] = false := by with_unfolding_all rfl) :
    DT S Γ (.Compare a [op, op'] [b, c] pos) (tst (chainV g g' ma mb mc)) := by
  obtain ⟨r, o1, o2⟩ := o
  obtain ⟨r', o1', o2'⟩ := o'
  obtain ⟨ta, a1, a2⟩ := ha
  obtain ⟨tb, b1, b2⟩ := hb
  obtain ⟨tc, c1, c2⟩ := hc
  exact ⟨tTest (tChain r r' ta tb tc), fun X hX => pt_chain (o1 X hX) (o1' X hX) (a1 X hX) (b1 X hX) (c1 X hX) hm, fun σ Hd H Q s p => re_chain (o2 Γ) (o2' Γ) a2 b2 c2 σ Hd H _ s (tst_post p)⟩
end BG
namespace BG
open PySem PySem.Spec PyProof.Rows L2
variable {S : Sc} {Γ : Gam} {a b c e : Expr} {ma mb mc m : Rs D} {pos p : Pos}

def CallD1 (S : Sc) (f : Value) (g : D → Rs D) : Prop := ∃ r, (∀ X, Fits S X → CallR X f r) ∧ ∀ Γ σ Hd H v d Q, SS S Γ σ Hd H → Rq S.K Hd H v d → EPost S (fun Hd _ => Rp S.K Hd) σ Hd H Q (g d) → r [v] H Q
def CallF1 (S : Sc) (f : Value) (g : D → Rs (List D)) : Prop := ∃ r, (∀ X, Fits S X → CallR X f r) ∧ ∀ Γ σ Hd H v d Q, SS S Γ σ Hd H → Rq S.K Hd H v d → FPost S σ Hd H Q (g d) → r [v] H Q
/-- how a built-in's name is called -/
inductive Bl (x : Str) : Value → Prop
  | fn (id : String) : bootBuiltins x = some (.builtin id) → Bl x (.builtin id)
  | ty (T : String) : bootBuiltins x = some (.type T) → Bl x (.type T)
theorem pe_bl1 {X : Cx} (hX : Fits S X) {x : Str} {f : Value} {r : List V → Hp → VK → Prop} {t : TE} (bl : Bl x f) (hm : S.mg x = none) (hg : GlS S x) (hc : CallR X f r) (ha : PE X a t) (hs : NoStar a) (hn : x ≠ "__name__") (hd : (x == ("__debug__" : Str)) = false) :
    PE X (.Call (.Name x p) [a] [] pos) (tCB r (tCons t tNil)) := by
  have hm' : X.mg x = none := by rw [hX.mg]; exact hm
  cases bl with
  | fn id h => exact pe_callB hc (hg.gl hX) hm' h (pa_cons ha pa_nil (hs _ _)) hn hd (hs _ _)
  | ty T h => exact pe_callTy hc (hg.gl hX) hm' h (pa_cons ha pa_nil (hs _ _)) hn hd (hs _ _)
theorem de_b1 {x : Str} {f : Value} {g : D → Rs D} (bl : Bl x f) (hm : S.mg x = none) (hc : CallD1 S f g) (ha : DQ S Γ a ma) (hg : GlS S x := by rfl) (hs : NoStar a := by intro _ _; rfl) (hn : x ≠ "__name__" := by decide) (hd : (x == ("__debug__" : Str)) = false := by decide) :
    DE S Γ (.Call (.Name x p) [a] [] pos) (ma.bind g) := by
  obtain ⟨r, c1, c2⟩ := hc
  obtain ⟨t, a1, a2⟩ := ha
  refine ⟨tCB r (tCons t tNil), fun X hX => pe_bl1 hX bl hm hg (c1 X hX) (a1 X hX) hs hn hd, fun σ Hd H Q s p => a2 σ Hd H _ s ?_⟩
  cases ma with
  | exc c => exact p
  | bad => exact p.elim
  | ok d => exact fun v Hd1 H1 e1 r1 => c2 Γ σ Hd1 H1 v d Q (s.ext e1) r1 (EPost.after e1 p)
theorem df_b1 {x : Str} {f : Value} {g : D → Rs (List D)} (bl : Bl x f) (hm : S.mg x = none) (hc : CallF1 S f g) (ha : DQ S Γ a ma) (hg : GlS S x := by rfl) (hs : NoStar a := by intro _ _; rfl) (hn : x ≠ "__name__" := by decide) (hd : (x == ("__debug__" : Str)) = false := by decide) :
    DF S Γ (.Call (.Name x p) [a] [] pos) (ma.bind g) := by
  obtain ⟨r, c1, c2⟩ := hc
  obtain ⟨t, a1, a2⟩ := ha
  refine ⟨tCB r (tCons t tNil), fun X hX => pe_bl1 hX bl hm hg (c1 X hX) (a1 X hX) hs hn hd, fun σ Hd H Q s p => a2 σ Hd H _ s ?_⟩
  cases ma with
  | exc c => exact p
  | bad => exact p.elim
  | ok d => exact fun v Hd1 H1 e1 r1 => c2 Γ σ Hd1 H1 v d Q (s.ext e1) r1 (FPost.after e1 p)
theorem bl_len : Bl "len" (.builtin "len") := .fn _ PySem.boot_len
theorem bl_list : Bl "list" (.type "list") := .ty _ (by decide +kernel)
theorem bl_tuple : Bl "tuple" (.type "tuple") := .ty _ (by decide +kernel)
theorem bl_all : Bl "all" (.builtin "all") := .fn _ (by decide +kernel)
theorem bl_any : Bl "any" (.builtin "any") := .fn _ (by decide +kernel)
theorem bl_sum : Bl "sum" (.builtin "sum") := .fn _ (by decide +kernel)
theorem bl_max : Bl "max" (.builtin "max") := .fn _ (by decide +kernel)
theorem bl_min : Bl "min" (.builtin "min") := .fn _ (by decide +kernel)
theorem bl_sorted : Bl "sorted" (.builtin "sorted") := .fn _ (by decide +kernel)
theorem bl_isinstance : Bl "isinstance" (.builtin "isinstance") := .fn _ (by decide +kernel)
theorem cd_len : CallD1 S (.builtin "len") pyLen := by
  refine ⟨fun xs H Q => ∃ p ys, xs = [.ref p] ∧ (SqL S.K H p ys ∨ SqT S.K H p ys) ∧ Q (.int ys.length) H, fun X hX => hX.K ▸ call_len_seq, fun Γ σ Hd H v d Q s r q => ?_⟩
  cases d with
  | list ds =>
    obtain ⟨l, vs, rfl, h1, h2, _⟩ := r.seqL s.sub
    exact ⟨l, vs, rfl, .inl (.inl h1), by rw [h2.len]; exact q _ _ _ (Ext.refl s.sub) Rp.int⟩
  | tuple ds =>
    obtain ⟨l, vs, rfl, h1, h2, _⟩ := r.seqT s.sub
    exact ⟨l, vs, rfl, .inr (.inl (.inl (s.sub _ _ h1))), by rw [h2.len]; exact q _ _ _ (Ext.refl s.sub) Rp.int⟩
  | none => exact q.elim
  | bool _ => exact q.elim
  | int _ => exact q.elim
  | str _ => exact q.elim
  | dict _ => exact q.elim
theorem cf_list : CallF1 S (.type "list") pyList := by
  refine ⟨fun xs H Q => ∃ p ys, xs = [.ref p] ∧ (SqL S.K H p ys ∨ SqT S.K H p ys) ∧ ∀ l, H l = none → Q (.ref l) (upd H l (.lst ys)), fun X hX => hX.K ▸ call_list_of, fun Γ σ Hd H v d Q s r q => ?_⟩
  have fin : ∀ {vs : List V} {ds : List D}, RpA S.K Hd vs ds → ds.length ≤ sizeMax → FPost S σ Hd H Q (.ok ds) → ∀ l, H l = none → Q (.ref l) (upd H l (.lst vs)) := fun h2 h3 q l hn =>
    q l _ Hd _ (Ext.newOwn s.sub hn) hn upd_same (s.sub.free hn) h2 h3
  cases d with
  | list ds =>
    obtain ⟨l, vs, rfl, h1, h2, h3⟩ := r.seqL s.sub
    exact ⟨l, vs, rfl, .inl (.inl h1), fin h2 h3 q⟩
  | tuple ds =>
    obtain ⟨l, vs, rfl, h1, h2, h3⟩ := r.seqT s.sub
    exact ⟨l, vs, rfl, .inr (.inl (.inl (s.sub _ _ h1))), fin h2 h3 q⟩
  | none => exact q.elim
  | bool _ => exact q.elim
  | int _ => exact q.elim
  | str _ => exact q.elim
  | dict _ => exact q.elim
theorem cd_tuple : CallD1 S (.type "tuple") pyTuple := by
  refine ⟨fun xs H Q => ∃ p ys, xs = [.ref p] ∧ ((SqL S.K H p ys ∧ ∀ l, H l = none → Q (.ref l) (upd H l (.tup ys))) ∨ (SqT S.K H p ys ∧ Q (.ref p) H)), fun X hX => hX.K ▸ call_tuple_of, fun Γ σ Hd H v d Q s r q => ?_⟩
  cases d with
  | list ds =>
    obtain ⟨l, vs, rfl, h1, h2, h3⟩ := r.seqL s.sub
    exact ⟨l, vs, rfl, .inl ⟨.inl h1, post_new_tup (σ := σ) s.sub h2 h3 q⟩⟩
  | tuple ds =>
    obtain ⟨l, vs, rfl, h1, h2, h3⟩ := r.seqT s.sub
    exact ⟨l, vs, rfl, .inr ⟨.inl (.inl (s.sub _ _ h1)), q _ _ _ (Ext.refl s.sub) (Rp.tuple h1 h2 h3)⟩⟩
  | none => exact q.elim
  | bool _ => exact q.elim
  | int _ => exact q.elim
  | str _ => exact q.elim
  | dict _ => exact q.elim
theorem bools_vals {H : Hp} : ∀ {vs : List V} {ds : List D} {bs : List Bool}, DvA H vs ds → boolsOf ds = some bs → vs = bs.map V.bl
  | _, [], bs, .nil, h => by
    have h : some [] = some bs := h
    cases h; rfl
  | _, d :: ds, bs, .cons hv t, h => by
    cases d with
    | bool b =>
      have h : (boolsOf ds).map (b :: ·) = some bs := h
      obtain ⟨r, hr, rfl⟩ := Option.map_eq_some_iff.mp h
      cases hv
      rw [bools_vals t hr]
      rfl
    | none => exact nomatch (show (none : Option (List Bool)) = some bs from h)
    | int _ => exact nomatch (show (none : Option (List Bool)) = some bs from h)
    | str _ => exact nomatch (show (none : Option (List Bool)) = some bs from h)
    | list _ => exact nomatch (show (none : Option (List Bool)) = some bs from h)
    | tuple _ => exact nomatch (show (none : Option (List Bool)) = some bs from h)
    | dict _ => exact nomatch (show (none : Option (List Bool)) = some bs from h)
theorem ints_vals {H : Hp} : ∀ {vs : List V} {ds : List D} {bs : List Int}, DvA H vs ds → intsOf ds = some bs → vs = bs.map V.int
  | _, [], bs, .nil, h => by
    have h : some [] = some bs := h
    cases h; rfl
  | _, d :: ds, bs, .cons hv t, h => by
    cases d with
    | int b =>
      have h : (intsOf ds).map (b :: ·) = some bs := h
      obtain ⟨r, hr, rfl⟩ := Option.map_eq_some_iff.mp h
      cases hv
      rw [ints_vals t hr]
      rfl
    | none => exact nomatch (show (none : Option (List Int)) = some bs from h)
    | bool _ => exact nomatch (show (none : Option (List Int)) = some bs from h)
    | str _ => exact nomatch (show (none : Option (List Int)) = some bs from h)
    | list _ => exact nomatch (show (none : Option (List Int)) = some bs from h)
    | tuple _ => exact nomatch (show (none : Option (List Int)) = some bs from h)
    | dict _ => exact nomatch (show (none : Option (List Int)) = some bs from h)
theorem cd_all : CallD1 S (.builtin "all") pyAll := by
  refine ⟨rAll S.K, fun X hX => hX.K ▸ cr_all hX.calm, fun Γ σ Hd H v d Q s r q => ?_⟩
  cases d with
  | list ds =>
    obtain ⟨l, vs, rfl, h1, h2, _⟩ := r.seqL s.sub
    have q : EPost S _ σ Hd H Q (match boolsOf ds with | some bs => .ok (.bool (bs.all id)) | none => .bad) := q
    cases hb : boolsOf ds with
    | none => rw [hb] at q; exact q.elim
    | some bs =>
      rw [hb] at q
      exact ⟨l, bs, rfl, .inl (by rw [← bools_vals h2.1 hb]; exact h1), q _ _ _ (Ext.refl s.sub) Rp.bl⟩
  | none => exact q.elim
  | bool _ => exact q.elim
  | int _ => exact q.elim
  | str _ => exact q.elim
  | tuple _ => exact q.elim
  | dict _ => exact q.elim
theorem cd_any : CallD1 S (.builtin "any") pyAny := by
  refine ⟨rAny S.K, fun X hX => hX.K ▸ cr_any hX.calm, fun Γ σ Hd H v d Q s r q => ?_⟩
  cases d with
  | list ds =>
    obtain ⟨l, vs, rfl, h1, h2, _⟩ := r.seqL s.sub
    have q : EPost S _ σ Hd H Q (match boolsOf ds with | some bs => .ok (.bool (bs.any id)) | none => .bad) := q
    cases hb : boolsOf ds with
    | none => rw [hb] at q; exact q.elim
    | some bs =>
      rw [hb] at q
      exact ⟨l, bs, rfl, .inl (by rw [← bools_vals h2.1 hb]; exact h1), q _ _ _ (Ext.refl s.sub) Rp.bl⟩
  | none => exact q.elim
  | bool _ => exact q.elim
  | int _ => exact q.elim
  | str _ => exact q.elim
  | tuple _ => exact q.elim
  | dict _ => exact q.elim
theorem cd_sum : CallD1 S (.builtin "sum") pySum := by
  refine ⟨rSum S.K, fun X hX => hX.K ▸ cr_sum hX.calm, fun Γ σ Hd H v d Q s r q => ?_⟩
  cases d with
  | list ds =>
    obtain ⟨l, vs, rfl, h1, h2, _⟩ := r.seqL s.sub
    have q : EPost S _ σ Hd H Q (match intsOf ds with | some bs => .ok (.int bs.sum) | none => .bad) := q
    cases hb : intsOf ds with
    | none => rw [hb] at q; exact q.elim
    | some bs =>
      rw [hb] at q
      exact ⟨l, bs, rfl, .inl (by rw [← ints_vals h2.1 hb]; exact h1), q _ _ _ (Ext.refl s.sub) Rp.int⟩
  | none => exact q.elim
  | bool _ => exact q.elim
  | int _ => exact q.elim
  | str _ => exact q.elim
  | tuple _ => exact q.elim
  | dict _ => exact q.elim
theorem maxI_spec : ∀ (xs : List Int) (m k : Int), k ∈ m :: xs → (∀ y ∈ m :: xs, y ≤ k) → k = maxI m xs
  | [], m, k, h, _ => by simpa [maxI] using h
  | x :: xs, m, k, h, hb => by
    unfold maxI
    refine maxI_spec xs _ k ?_ ?_
    · have h1 := hb m (by simp)
      have h2 := hb x (by simp)
      rcases List.mem_cons.mp h with e | h
      · subst e
        by_cases c : k < x
        · omega
        · rw [if_neg c]; simp
      · rcases List.mem_cons.mp h with e | h
        · subst e
          by_cases c : m < k
          · rw [if_pos c]; simp
          · rw [if_neg c]
            have : k = m := by omega
            simp [this]
        · exact List.mem_cons_of_mem _ h
    · intro y hy
      rcases List.mem_cons.mp hy with e | hy
      · subst e
        split
        · exact hb x (by simp)
        · exact hb m (by simp)
      · exact hb y (by simp [hy])
theorem minI_spec : ∀ (xs : List Int) (m k : Int), k ∈ m :: xs → (∀ y ∈ m :: xs, k ≤ y) → k = minI m xs
  | [], m, k, h, _ => by simpa [minI] using h
  | x :: xs, m, k, h, hb => by
    unfold minI
    refine minI_spec xs _ k ?_ ?_
    · have h1 := hb m (by simp)
      have h2 := hb x (by simp)
      rcases List.mem_cons.mp h with e | h
      · subst e
        by_cases c : x < k
        · omega
        · rw [if_neg c]; simp
      · rcases List.mem_cons.mp h with e | h
        · subst e
          by_cases c : k < m
          · rw [if_pos c]; simp
          · rw [if_neg c]
            have : k = m := by omega
            simp [this]
        · exact List.mem_cons_of_mem _ h
    · intro y hy
      rcases List.mem_cons.mp hy with e | hy
      · subst e
        split
        · exact hb x (by simp)
        · exact hb m (by simp)
      · exact hb y (by simp [hy])
theorem cd_maxI : CallD1 S (.builtin "max") pyMaxI := by
  refine ⟨rMax S.K, fun X hX => hX.K ▸ cr_max hX.calm, fun Γ σ Hd H v d Q s r q => ?_⟩
  cases d with
  | list ds =>
    obtain ⟨l, vs, rfl, h1, h2, _⟩ := r.seqL s.sub
    have q : EPost S _ σ Hd H Q (match intsOf ds with | some (n :: ns) => .ok (.int (maxI n ns)) | _ => .bad) := q
    cases hb : intsOf ds with
    | none => rw [hb] at q; exact q.elim
    | some bs =>
      rw [hb] at q
      cases bs with
      | nil => exact q.elim
      | cons n ns => exact ⟨l, n :: ns, rfl, .inl (by rw [← ints_vals h2.1 hb]; exact h1), by simp, fun k hk hy => by rw [maxI_spec ns n k hk hy]; exact q _ _ _ (Ext.refl s.sub) Rp.int⟩
  | none => exact q.elim
  | bool _ => exact q.elim
  | int _ => exact q.elim
  | str _ => exact q.elim
  | tuple _ => exact q.elim
  | dict _ => exact q.elim
theorem cd_minI : CallD1 S (.builtin "min") pyMinI := by
  refine ⟨rMin S.K, fun X hX => hX.K ▸ cr_min hX.calm, fun Γ σ Hd H v d Q s r q => ?_⟩
  cases d with
  | list ds =>
    obtain ⟨l, vs, rfl, h1, h2, _⟩ := r.seqL s.sub
    have q : EPost S _ σ Hd H Q (match intsOf ds with | some (n :: ns) => .ok (.int (minI n ns)) | _ => .bad) := q
    cases hb : intsOf ds with
    | none => rw [hb] at q; exact q.elim
    | some bs =>
      rw [hb] at q
      cases bs with
      | nil => exact q.elim
      | cons n ns => exact ⟨l, n :: ns, rfl, .inl (by rw [← ints_vals h2.1 hb]; exact h1), by simp, fun k hk hy => by rw [minI_spec ns n k hk hy]; exact q _ _ _ (Ext.refl s.sub) Rp.int⟩
  | none => exact q.elim
  | bool _ => exact q.elim
  | int _ => exact q.elim
  | str _ => exact q.elim
  | tuple _ => exact q.elim
  | dict _ => exact q.elim
theorem dv_ty {K : PySem.W.Frag} {H : Hp} {v : V} {d : D} (h : Dv H v d) : ∃ t, tyName d = some t ∧ TyX K H v (.type t) := by
  cases h with
  | non => exact ⟨_, rfl, .base .non⟩
  | bl b => exact ⟨_, rfl, .base (.bl b)⟩
  | int i => exact ⟨_, rfl, .base (.int i)⟩
  | str x => exact ⟨_, rfl, .base (.str x)⟩
  | lst hs _ =>
    rcases hs with h | ⟨o, h⟩
    · exact ⟨_, rfl, .base (.lst h)⟩
    · exact ⟨_, rfl, .base (.frz h)⟩
  | tup hs _ => exact ⟨_, rfl, .base (.tup hs)⟩
/-- the table of the types that are asked -/
def TyTab (T : String) : Prop := kitB "NoneType" T = some (isT T .none) ∧ kitB "bool" T = some (isT T (.bool true)) ∧ kitB "int" T = some (isT T (.int 0)) ∧ kitB "str" T = some (isT T (.str Str.empty)) ∧
  kitB "list" T = some (isT T (.list [])) ∧ kitB "tuple" T = some (isT T (.tuple []))
theorem tt_int : TyTab "int" := by unfold TyTab; decide +kernel
theorem tt_bool : TyTab "bool" := by unfold TyTab; decide +kernel
theorem tt_str : TyTab "str" := by unfold TyTab; decide +kernel
theorem tt_list : TyTab "list" := by unfold TyTab; decide +kernel
theorem tt_tuple : TyTab "tuple" := by unfold TyTab; decide +kernel
theorem TyTab.of {T : String} (h : TyTab T) {d : D} {t : String} (e : tyName d = some t) : kitB t T = some (isT T d) := by
  obtain ⟨h1, h2, h3, h4, h5, h6⟩ := h
  cases d with
  | none => cases e; exact h1
  | bool _ => cases e; exact h2
  | int _ => cases e; exact h3
  | str _ => cases e; exact h4
  | list _ => cases e; exact h5
  | tuple _ => cases e; exact h6
  | dict _ => cases e
theorem de_isT {T : String} {x : Str} {p2 : Pos} (tt : TyTab T) (hmi : S.mg "isinstance" = none) (hmT : S.mg x = none) (hT : bootBuiltins x = some (.type T)) (ha : DQ S Γ a ma) (hg : GlS S "isinstance" := by rfl) (hgT : GlS S x := by rfl)
    (hs : NoStar a := by intro _ _; rfl) (hn : x ≠ "__name__" := by decide) (hd : (x == ("__debug__" : Str)) = false := by decide) : DE S Γ (.Call (.Name "isinstance" p) [a, .Name x p2] [] pos) (ma.bind (pyIsT T)) := by
  obtain ⟨t, a1, a2⟩ := ha
  have hs2 : NoStar (.Name x p2) := fun _ _ => rfl
  refine ⟨tCB (rIsi S.K) (tCons t (tCons (tC (.ty T)) tNil)), fun X hX => ?_, fun σ Hd H Q s p => a2 σ Hd H _ s ?_⟩
  · have hm' : X.mg "isinstance" = none := by rw [hX.mg]; exact hmi
    have hmT' : X.mg x = none := by rw [hX.mg]; exact hmT
    exact pe_callB (hX.K ▸ call_isi) (hg.gl hX) hm' (by decide +kernel) (pa_cons (a1 X hX) (pa_cons (pe_bltn (hgT.gl hX) hmT' hT rfl hn hd) pa_nil (hs2 _ _)) (hs _ _)) (by decide) (by decide) (hs _ _) (by rw [hs2]; rfl)
  · cases ma with
    | exc c => exact p
    | bad => exact p.elim
    | ok d =>
      intro v Hd1 H1 e1 r1
      obtain ⟨t, h1, h2⟩ := dv_ty (K := S.K) (r1.dv e1.s)
      have h3 := tt.of h1
      refine ⟨v, .ty T, .type t, .type T, isT T d, rfl, .ty T, h2, kit_ty h3, ?_⟩
      have p : EPost S (fun Hd _ => Rp S.K Hd) σ Hd H Q (pyIsT T d) := p
      cases d with
      | dict _ => cases h1
      | none => exact p _ _ _ e1 Rp.bl
      | bool _ => exact p _ _ _ e1 Rp.bl
      | int _ => exact p _ _ _ e1 Rp.bl
      | str _ => exact p _ _ _ e1 Rp.bl
      | list _ => exact p _ _ _ e1 Rp.bl
      | tuple _ => exact p _ _ _ e1 Rp.bl
def spD (K : PySem.W.Frag) (n : Nat) (m : List D → Rs D) : Sp := fun vs H Q E => vs.length = n ∧ ∃ ds Hd, Same Hd H ∧ RpA K Hd vs ds ∧ match m ds with
  | .ok d => ∀ v Hd' H', Ext Hd H Hd' H' → Rp K Hd' v d → Q v H'
  | .exc c => ∀ Hd' H', Ext Hd H Hd' H' → E (.ref (He.ga K c)) none H'
  | .bad => False
/-- a def of the module, callable at level k -/
def Cal (P : Program) (w : World) (K : PySem.W.Frag) (mg : Str → Option Value) (base : Heap) (x : Str) (k n : Nat) (m : List D → Rs D) : Prop :=
  ∃ f fd ps, FnOk P w K mg base (L2.CX P w) k f fd ps (spD K n m) ∧ mg x = some (.ref f) ∧ PySem.W.keepIn K (.ref f) = true ∧ Binds K fd ps []
abbrev CalS (S : Sc) (x : Str) (k n : Nat) (m : List D → Rs D) : Prop := Cal S.P S.w S.K S.mg S.base x k n m
theorem de_call {x : Str} {k n : Nat} {m : List D → Rs D} {es : List Expr} {mr : Rs (List D)} (C : CalS S x k n m) (hk : k ≤ S.k) (ha : DA S Γ (a :: es) mr) (hl : (a :: es).length = n := by rfl) (hs : NoStar a := by intro _ _; rfl)
    (hp : ∀ (pos : Pos) env, (backTo pos (starEach es env)).any (·.1) = false := by intro _ _; rfl) (hg : GlS S x := by rfl) (hd : (x == ("__debug__" : Str)) = false := by decide)
    (hlen : ∀ ds, mr = .ok ds → ds.length = n) : DE S Γ (.Call (.Name x p) (a :: es) [] pos) (mr.bind m) := by
  obtain ⟨f, fd, ps, F, h1, h2, h3⟩ := C
  obtain ⟨t, a1, a2⟩ := ha
  refine ⟨tCallS (spD S.K n m) (WE S.W) t, fun X hX => ?_, fun σ Hd H Q s p => a2 σ Hd H _ s ?_⟩
  · have F' : FnOk X.prog X.w X.K X.mg X.base (L2.CX X.prog X.w) k f fd ps (spD S.K n m) := by
      rw [hX.P, hX.w, hX.K, hX.mg, hX.base]
      exact F
    exact pe_callS F' (hX.room.mono hk) (hg.gl hX) (by rw [hX.mg]; exact h1) (by rw [hX.K]; exact h2) (by rw [hX.K]; exact h3) (fun σ => passAt hX.takes σ) (a1 X hX) hd (hs _ _) (hp _ _)
  · cases mr with
    | exc c => exact p
    | bad => exact p.elim
    | ok ds =>
      intro vs Hd1 H1 e1 r1
      refine ⟨by rw [r1.len]; exact hlen ds rfl, ds, Hd1, e1.s, r1, ?_⟩
      have p : EPost S (fun Hd _ => Rp S.K Hd) σ Hd1 H1 Q (m ds) := EPost.after e1 p
      cases hm : m ds with
      | ok d => rw [hm] at p; exact p
      | exc c => rw [hm] at p; exact p
      | bad => rw [hm] at p; exact p
end BG
namespace BG
open PySem PySem.Spec PyProof.Rows L2
variable {S : Sc} {Γ : Gam} {a b c e tg : Expr} {ma mb mc m : Rs D} {pos p : Pos}

theorem de_call1 {x : Str} {k : Nat} {f : D → Rs D} (C : CalS S x k 1 (lift1 f)) (hk : k ≤ S.k := by decide) (ha : DE S Γ a ma) (hs : NoStar a := by intro _ _; rfl) (hg : GlS S x := by rfl) (hd : (x == ("__debug__" : Str)) = false := by decide) :
    DE S Γ (.Call (.Name x p) [a] [] pos) (ma.bind f) := by
  have h := de_call (p := p) (pos := pos) C hk (da_cons ha da_nil hs) rfl hs (fun _ _ => rfl) hg hd (fun ds hds => by
    cases ma with
    | ok d => cases hds; rfl
    | exc c => cases hds
    | bad => cases hds)
  have e : ((ma.bind fun d => (Rs.ok []).bind fun ds => .ok (d :: ds)).bind (lift1 f)) = ma.bind f := by
    cases ma <;> rfl
  rw [e] at h
  exact h
theorem de_call2 {x : Str} {k : Nat} {f : D → D → Rs D} (C : CalS S x k 2 (lift2 f)) (hk : k ≤ S.k := by decide) (ha : DE S Γ a ma) (hb : DE S Γ b mb) (hs : NoStar a := by intro _ _; rfl) (hs2 : NoStar b := by intro _ _; rfl) (hg : GlS S x := by rfl) (hd : (x == ("__debug__" : Str)) = false := by decide) :
    DE S Γ (.Call (.Name x p) [a, b] [] pos) (ma.bind fun d => mb.bind fun e => f d e) := by
  have h := de_call (p := p) (pos := pos) C hk (da_cons ha (da_cons hb da_nil hs2) hs) rfl hs (fun _ _ => by rw [hs2]; rfl) hg hd (fun ds hds => by
    cases ma with
    | ok d => cases mb with
      | ok d => cases hds; rfl
      | exc c => cases hds
      | bad => cases hds
    | exc c => cases hds
    | bad => cases hds)
  have e : ((ma.bind fun d => (mb.bind fun d => (Rs.ok []).bind fun ds => .ok (d :: ds)).bind fun ds => .ok (d :: ds)).bind (lift2 f)) = ma.bind fun d => mb.bind fun e => f d e := by
    cases ma <;> cases mb <;> rfl
  rw [e] at h
  exact h
theorem de_call3 {x : Str} {k : Nat} {f : D → D → D → Rs D} (C : CalS S x k 3 (lift3 f)) (hk : k ≤ S.k := by decide) (ha : DE S Γ a ma) (hb : DE S Γ b mb) (hc : DE S Γ c mc) (hs : NoStar a := by intro _ _; rfl) (hs2 : NoStar b := by intro _ _; rfl) (hs3 : NoStar c := by intro _ _; rfl)
    (hg : GlS S x := by rfl) (hd : (x == ("__debug__" : Str)) = false := by decide) :
    DE S Γ (.Call (.Name x p) [a, b, c] [] pos) (ma.bind fun d => mb.bind fun e => mc.bind fun g => f d e g) := by
  have h := de_call (p := p) (pos := pos) C hk (da_cons ha (da_cons hb (da_cons hc da_nil hs3) hs2) hs) rfl hs (fun _ _ => by rw [hs2, hs3]; rfl) hg hd (fun ds hds => by
    cases ma with
    | ok d => cases mb with
      | ok d => cases mc with
        | ok d => cases hds; rfl
        | exc c => cases hds
        | bad => cases hds
      | exc c => cases hds
      | bad => cases hds
    | exc c => cases hds
    | bad => cases hds)
  have e : ((ma.bind fun d => (mb.bind fun d => (mc.bind fun d => (Rs.ok []).bind fun ds => .ok (d :: ds)).bind fun ds => .ok (d :: ds)).bind fun ds => .ok (d :: ds)).bind (lift3 f)) = ma.bind fun d => mb.bind fun e => mc.bind fun g => f d e g := by
    cases ma <;> cases mb <;> cases mc <;> rfl
  rw [e] at h
  exact h
theorem de_call4 {d : Expr} {md : Rs D} {x : Str} {k : Nat} {f : D → D → D → D → Rs D} (C : CalS S x k 4 (lift4 f)) (hk : k ≤ S.k := by decide) (ha : DE S Γ a ma) (hb : DE S Γ b mb) (hc : DE S Γ c mc) (hd' : DE S Γ d md) (hs : NoStar a := by intro _ _; rfl) (hs2 : NoStar b := by intro _ _; rfl) (hs3 : NoStar c := by intro _ _; rfl)
    (hs4 : NoStar d := by intro _ _; rfl) (hg : GlS S x := by rfl) (hd : (x == ("__debug__" : Str)) = false := by decide) :
    DE S Γ (.Call (.Name x p) [a, b, c, d] [] pos) (ma.bind fun d => mb.bind fun e => mc.bind fun g => md.bind fun h => f d e g h) := by
  have h := de_call (p := p) (pos := pos) C hk (da_cons ha (da_cons hb (da_cons hc (da_cons hd' da_nil hs4) hs3) hs2) hs) rfl hs (fun _ _ => by rw [hs2, hs3, hs4]; rfl) hg hd (fun ds hds => by
    cases ma with
    | ok d => cases mb with
      | ok d => cases mc with
        | ok d => cases md with
          | ok d => cases hds; rfl
          | exc c => cases hds
          | bad => cases hds
        | exc c => cases hds
        | bad => cases hds
      | exc c => cases hds
      | bad => cases hds
    | exc c => cases hds
    | bad => cases hds)
  have e : ((ma.bind fun d => (mb.bind fun d => (mc.bind fun d => (md.bind fun d => (Rs.ok []).bind fun ds => .ok (d :: ds)).bind fun ds => .ok (d :: ds)).bind fun ds => .ok (d :: ds)).bind fun ds => .ok (d :: ds)).bind (lift4 f)) = ma.bind fun d => mb.bind fun e => mc.bind fun g => md.bind fun h => f d e g h := by
    cases ma <;> cases mb <;> cases mc <;> cases md <;> rfl
  rw [e] at h
  exact h

structure Goes (K : PySem.W.Frag) (J : It) (Hs Hd : Hp) (ds : List D) : Prop where
  go : ∀ H' (i : Nat), Same Hs H' → i < ds.length → J.go i H'
  yld : ∀ Hd' H' (i : Nat) d x H'', Same Hs H' → Same Hd Hd' → Same Hd' H' → ds[i]? = some d → J.yld i H' x H'' → ∃ Hd'', Ext Hd' H' Hd'' H'' ∧ Rp K Hd'' x d
  stop : ∀ H' (i : Nat), Same Hs H' → ds.length ≤ i → J.stop i H'
theorem Goes.sub {K : PySem.W.Frag} {J : It} {Hs Hs' Hd : Hp} {ds : List D} (g : Goes K J Hs Hd ds) (s : Same Hs Hs') : Goes K J Hs' Hd ds :=
  ⟨fun H' i e => g.go H' i (s.trans e), fun Hd' H' i d x H'' e => g.yld Hd' H' i d x H'' (s.trans e), fun H' i e => g.stop H' i (s.trans e)⟩
/-- q: the source's own heap is the data heap (false: the whole heap) -/
def IPost (S : Sc) (q : Bool) (σ : L2.St) (Hd H : Hp) (R : It → Hp → Prop) : Rs (List D) → Prop
  | .ok ds => ∀ J Hd' H', Ext Hd H Hd' H' → Goes S.K J (if q = true then Hd' else H') Hd' ds → ds.length ≤ sizeMax → szA ds = true → R J H'
  | .exc c => ∀ Hd' H', Ext Hd H Hd' H' → S.W (.ref (He.ga S.K c)) none σ H'
  | .bad => False
def DI (S : Sc) (q : Bool) (Γ : Gam) (tg e : Expr) (m : Rs (List D)) : Prop := ∃ wi : TI, (∀ X, Fits S X → PI X tg e wi) ∧ ∀ σ Hd H R, SS S Γ σ Hd H → IPost S q σ Hd H R m → wi σ H R
theorem DI.q {m : Rs (List D)} (h : DI S true Γ tg e m) : DI S false Γ tg e m := by
  obtain ⟨wi, h1, h2⟩ := h
  refine ⟨wi, h1, fun σ Hd H R s p => h2 σ Hd H R s ?_⟩
  cases m with
  | ok ds => exact fun J Hd' H' e' g => p J Hd' H' e' (g.sub e'.s)
  | exc c => exact p
  | bad => exact p
theorem goes_list {K : PySem.W.Frag} {Hs Hd : Hp} {l : Addr} {vs : List V} {ds : List D} (h : Rd Hs l (.lst vs)) (r : RpA K Hd vs ds) : Goes K (Itl K l) Hs Hd ds where
  go := fun H' i e hi => ⟨vs, vs[i]'(by rw [r.len]; exact hi), .inl (rd_mono e h), List.getElem?_eq_getElem _⟩
  yld := fun Hd' H' i d x H'' e e1 e2 hd hy => by
    obtain ⟨rfl, hy⟩ := hy
    obtain ⟨v, hv, rv⟩ := r.get hd
    have := hy vs (.inl (rd_mono e h))
    rw [hv] at this
    cases this
    exact ⟨Hd', Ext.refl e2, rv.mono e1⟩
  stop := fun H' i e hi => ⟨vs, .inl (rd_mono e h), by rw [r.len]; exact hi⟩
theorem goes_tup {K : PySem.W.Frag} {Hs Hd : Hp} {l : Addr} {vs : List V} {ds : List D} (h : Hs l = some (.tup vs)) (r : RpA K Hd vs ds) : Goes K (Itt K l) Hs Hd ds where
  go := fun H' i e hi => ⟨vs, vs[i]'(by rw [r.len]; exact hi), .inl (.inl (e _ _ h)), List.getElem?_eq_getElem _⟩
  yld := fun Hd' H' i d x H'' e e1 e2 hd hy => by
    obtain ⟨rfl, hy⟩ := hy
    obtain ⟨v, hv, rv⟩ := r.get hd
    have := hy vs (.inl (.inl (e _ _ h)))
    rw [hv] at this
    cases this
    exact ⟨Hd', Ext.refl e2, rv.mono e1⟩
  stop := fun H' i e hi => ⟨vs, .inl (.inl (e _ _ h)), by rw [r.len]; exact hi⟩
theorem goes_range {K : PySem.W.Frag} {Hs Hd : Hp} {lo : Int} {n : Nat} : Goes K (Itr lo n) Hs Hd (intsD lo n) where
  go := fun H' i e hi => by
    have : (intsD lo n).length = n := by unfold intsD; simp
    exact this ▸ hi
  yld := fun Hd' H' i d x H'' e e1 e2 hd hy => by
    obtain ⟨rfl, rfl⟩ := hy
    unfold intsD at hd
    rw [List.getElem?_map] at hd
    obtain ⟨j, hj, rfl⟩ := Option.map_eq_some_iff.mp hd
    obtain ⟨_, hj⟩ := List.getElem?_eq_some_iff.mp hj
    have : i = j := by simpa using hj
    subst this
    exact ⟨Hd', Ext.refl e2, Rp.int⟩
  stop := fun H' i e hi => by
    have : (intsD lo n).length = n := by unfold intsD; simp
    exact this ▸ hi
theorem szA_ints {lo : Int} {n : Nat} : szA (intsD lo n) = true := szA_of fun d hd => by
  unfold intsD at hd
  obtain ⟨i, _, rfl⟩ := List.mem_map.mp hd
  simp [szD]
/-- a list or tuple that is data: one of two readings, by what it is -/
theorem pi_or {X : Cx} {w1 w2 : TI} (h1 : PI X tg e w1) (h2 : PI X tg e w2) : PI X tg e (fun σ H R => w1 σ H R ∨ w2 σ H R) := ⟨fun pins s σ H R I q => q.elim (h1.run pins s σ H R I) (h2.run pins s σ H R I)⟩
/-- a value that is a list or a tuple, walked -/
def iSeq (K : PySem.W.Frag) (tl : TE) : TI := fun σ H R => tl σ H fun x H1 => ∃ a, x = .ref a ∧ ((∃ xs, SqL K H1 a xs) ∧ R (Itl K a) H1 ∨ (∃ xs, SqT K H1 a xs) ∧ R (Itt K a) H1)
theorem pi_seq {X : Cx} {tl : TE} (hl : PE X e tl) : PI X tg e (iSeq X.K tl) := by
  refine ⟨fun pins s σ H R I h => ?_⟩
  refine thn (hl.run pins s σ H _ I h) fun v s1 ⟨x, H1, I1, r1, q1⟩ => ?_
  obtain ⟨a, ex, q⟩ := q1
  subst ex
  cases r1
  have fr : ∀ {h' : Heap}, FpOk X pins H1 s1.heap.objs.size := fun {_} => I1.fpOk (Nat.le_refl _) (I1.hok.fresh (Nat.le_refl _))
  have on : ∀ b ∈ [s1.heap.objs.size], FpOk X pins H1 b := fun b hb => by
    have : b = s1.heap.objs.size := by simpa using hb
    rw [this]
    exact fr (h' := s1.heap)
  rcases q with ⟨⟨xs, hq⟩, q⟩ | ⟨⟨xs, hq⟩, q⟩
  · obtain ⟨its, rv, pl, hz⟩ := I1.list hq
    exact wpAny_pyIter_list pl.isList ⟨_, [s1.heap.objs.size], _, _, H1, rfl, I1.kept (t' := s1.toks) fun b o e => Heap.get?_push_of_some _ e, turn_list a _, ⟨_, Heap.get?_push_size _ rfl, rfl, rfl⟩, on, q⟩
  · obtain ⟨its, rv, pl, hz⟩ := I1.tuple hq
    exact wpAny_pyIter_tuple (show s1.heap.IsTuple a its.toArray from pl) ⟨_, [s1.heap.objs.size], _, _, H1, rfl, I1.kept (t' := s1.toks) fun b o e => Heap.get?_push_of_some _ e, turn_tuple a _, ⟨_, Heap.get?_push_size _ rfl, rfl, rfl⟩, on, q⟩
theorem di_seq (h : DE S Γ e m) : DI S true Γ tg e (m.bind ofSeq) := by
  obtain ⟨t, h1, h2⟩ := h
  refine ⟨iSeq S.K t, fun X hX => hX.K ▸ pi_seq (h1 X hX), fun σ Hd H R s p => h2 σ Hd H _ s ?_⟩
  cases m with
  | exc c => exact p
  | bad => exact p.elim
  | ok d =>
    intro v Hd' H' e' r
    cases d with
    | list ds =>
      obtain ⟨r1, r2⟩ := r
      cases r1 with
      | @lst a xs _ hs ha => exact ⟨a, rfl, .inl ⟨⟨xs, .inl (rd_mono e'.s hs)⟩, p _ Hd' H' e' (goes_list hs ⟨ha, (szD_list.mp r2).2⟩) (szD_list.mp r2).1 (szD_list.mp r2).2⟩⟩
    | tuple ds =>
      obtain ⟨r1, r2⟩ := r
      cases r1 with
      | @tup a xs _ hs ha => exact ⟨a, rfl, .inr ⟨⟨xs, .inl (.inl (e'.s _ _ hs))⟩, p _ Hd' H' e' (goes_tup hs ⟨ha, (szD_tuple.mp r2).2⟩) (szD_tuple.mp r2).1 (szD_tuple.mp r2).2⟩⟩
    | none => exact p.elim
    | bool _ => exact p.elim
    | int _ => exact p.elim
    | str _ => exact p.elim
    | dict _ => exact p.elim
theorem di_seqQ (h : DQ S Γ e m) : DI S false Γ tg e (m.bind ofSeq) := by
  obtain ⟨t, h1, h2⟩ := h
  refine ⟨iSeq S.K t, fun X hX => hX.K ▸ pi_seq (h1 X hX), fun σ Hd H R s p => h2 σ Hd H _ s ?_⟩
  cases m with
  | exc c => exact p
  | bad => exact p.elim
  | ok d =>
    intro v Hd' H' e' r
    cases d with
    | list ds =>
      obtain ⟨l, vs, rfl, h1, h2, h3⟩ := r.seqL e'.s
      exact ⟨l, rfl, .inl ⟨⟨vs, .inl h1⟩, p _ Hd' H' e' (goes_list h1 h2) h3 h2.2⟩⟩
    | tuple ds =>
      obtain ⟨l, vs, rfl, h1, h2, h3⟩ := r.seqT e'.s
      exact ⟨l, rfl, .inr ⟨⟨vs, .inl (.inl (e'.s _ _ h1))⟩, p _ Hd' H' e' (goes_tup (e'.s _ _ h1) h2) h3 h2.2⟩⟩
    | none => exact p.elim
    | bool _ => exact p.elim
    | int _ => exact p.elim
    | str _ => exact p.elim
    | dict _ => exact p.elim
theorem range_ok {σ : L2.St} {q : Bool} {Hd H Hd' H' : Hp} {R : It → Hp → Prop} {i j : Int} (e' : Ext Hd H Hd' H') (p : IPost S q σ Hd H R (pyRange (.int i) (.int j))) : (-(2 ^ 62) ≤ i ∧ i < 2 ^ 62 ∧ -(2 ^ 62) ≤ j ∧ j < 2 ^ 62) ∧ R (Itr i (j - i).toNat) H' := by
  have p : IPost S q σ Hd H R (if -(2 ^ 61) < i ∧ i < 2 ^ 61 ∧ -(2 ^ 61) < j ∧ j < 2 ^ 61 ∧ j - i ≤ sizeMax then .ok (intsD i (j - i).toNat) else .bad) := p
  split at p
  · rename_i hc
    refine ⟨⟨by omega, by omega, by omega, by omega⟩, p _ Hd' H' e' goes_range ?_ szA_ints⟩
    have : (intsD i (j - i).toNat).length = (j - i).toNat := by unfold intsD; simp
    rw [this]
    omega
  · exact p.elim
theorem di_range1 (hm : S.mg "range" = none) (ha : DE S Γ a ma) (hg : GlS S "range" := by rfl) (hs : NoStar a := by intro _ _; rfl) : DI S true Γ tg (.Call (.Name "range" p) [a] [] pos) (ma.bind fun d => pyRange (.int 0) d) := by
  obtain ⟨t, h1, h2⟩ := ha
  refine ⟨iRng1 (tCons t tNil), fun X hX => pi_range1 (hg.gl hX) (by rw [hX.mg]; exact hm) (pa_cons (h1 X hX) pa_nil (hs _ _)) (hs _ _), fun σ Hd H R s p => h2 σ Hd H _ s ?_⟩
  cases ma with
  | exc c => exact p
  | bad => exact p.elim
  | ok d =>
    intro v Hd' H' e' r
    cases d with
    | int j =>
      cases r.1
      obtain ⟨⟨_, _, h3, h4⟩, q⟩ := range_ok e' p
      rw [Int.sub_zero] at q
      exact ⟨j, rfl, h3, h4, q⟩
    | none => exact p.elim
    | bool _ => exact p.elim
    | str _ => exact p.elim
    | list _ => exact p.elim
    | tuple _ => exact p.elim
    | dict _ => exact p.elim
theorem di_range2 (hm : S.mg "range" = none) (ha : DE S Γ a ma) (hb : DE S Γ b mb) (hg : GlS S "range" := by rfl) (hs : NoStar a := by intro _ _; rfl) (hs2 : NoStar b := by intro _ _; rfl) : DI S true Γ tg (.Call (.Name "range" p) [a, b] [] pos) (ma.bind fun d => mb.bind fun e => pyRange d e) := by
  obtain ⟨t, h1, h2⟩ := ha
  obtain ⟨u, k1, k2⟩ := hb
  refine ⟨iRng2 (tCons t (tCons u tNil)), fun X hX => pi_range2 (hg.gl hX) (by rw [hX.mg]; exact hm) (pa_cons (h1 X hX) (pa_cons (k1 X hX) pa_nil (hs2 _ _)) (hs _ _)) (by rw [hs, hs2]; rfl) (hs2 _ _), fun σ Hd H R s p => h2 σ Hd H _ s ?_⟩
  cases ma with
  | exc c => exact p
  | bad => exact p.elim
  | ok d =>
    intro v Hd1 H1 e1 r1
    refine k2 σ Hd1 H1 _ (s.ext e1) ?_
    cases mb with
    | exc c => exact fun Hd' H' e' => p Hd' H' (e1.trans e')
    | bad => exact p.elim
    | ok e =>
      intro w Hd2 H2 e2 r2
      cases d with
      | int i =>
        cases e with
        | int j =>
          cases r1.1
          cases r2.1
          obtain ⟨h3, q⟩ := range_ok (e1.trans e2) p
          exact ⟨i, j, rfl, h3, q⟩
        | none => exact p.elim
        | bool _ => exact p.elim
        | str _ => exact p.elim
        | list _ => exact p.elim
        | tuple _ => exact p.elim
        | dict _ => exact p.elim
      | none => exact p.elim
      | bool _ => exact p.elim
      | str _ => exact p.elim
      | list _ => exact p.elim
      | tuple _ => exact p.elim
      | dict _ => exact p.elim
end BG
namespace BG
open PySem PySem.Spec PyProof.Rows L2
variable {S : Sc} {Γ : Gam} {a b c e tg : Expr} {ma mb mc m : Rs D} {pos p : Pos}

def Sle : Slot → Slot → Prop
  | .no, _ => True
  | x, y => x = y
/-- Γ' says no more than Γ -/
def Wk (Γ Γ' : Gam) : Prop := Γ'.length = Γ.length ∧ ∀ (i : Nat) s, Γ'[i]? = some s → s = .no ∨ Γ[i]? = some s
theorem Wk.refl (Γ : Gam) : Wk Γ Γ := ⟨rfl, fun _ _ h => .inr h⟩
theorem SS.weak {σ : L2.St} {Hd H : Hp} {Γ' : Gam} (s : SS S Γ σ Hd H) (w : Wk Γ Γ') : SS S Γ' σ Hd H where
  len := w.1.trans s.len
  sub := s.sub
  b1 := s.b1
  b2 := s.b2
  b3 := s.b3
  dat := fun i d h => by
    rcases w.2 i _ h with e | e
    · cases e
    · exact s.dat i d e
  own := fun i d h => by
    rcases w.2 i _ h with e | e
    · cases e
    · exact s.own i d e
  sep := fun i j ds es l hij h1 h2 => by
    rcases w.2 i _ h1 with e | e
    · cases e
    · rcases w.2 j _ h2 with e' | e'
      · cases e'
      · exact s.sep i j ds es l hij e e'
/-- decidable check for literal contexts -/
theorem Wk.of_set (Γ : Gam) (i : Nat) : Wk Γ (Γ.set i .no) := ⟨by simp, fun j s h => by
  by_cases e : i = j
  · subst e
    by_cases hi : i < Γ.length
    · rw [List.getElem?_set_self hi] at h
      cases h
      exact .inl rfl
    · rw [List.getElem?_eq_none (by simpa using hi)] at h
      cases h
  · rw [List.getElem?_set_ne e] at h
    exact .inr h⟩
theorem Wk.trans {Γ Γ1 Γ2 : Gam} (a : Wk Γ Γ1) (b : Wk Γ1 Γ2) : Wk Γ Γ2 := ⟨b.1.trans a.1, fun i s h => by
  rcases b.2 i s h with e | e
  · exact .inl e
  · exact a.2 i s e⟩
def wipeG (Γ : Gam) : List Nat → Gam
  | [] => Γ
  | v :: vs => (wipeG Γ vs).set v .no
theorem wipeG_weak (Γ : Gam) : ∀ vs, Wk Γ (wipeG Γ vs)
  | [] => Wk.refl Γ
  | v :: vs => (wipeG_weak Γ vs).trans (Wk.of_set _ v)
/-- a slot is stored -/
theorem SS.set {σ : L2.St} {Hd H : Hp} (s : SS S Γ σ Hd H) (i : Nat) {v : V} {d : D} (r : Rp S.K Hd v d) : SS S (Γ.set i (.dat d)) (σ.set i (some v)) Hd H where
  len := by simpa using s.len
  sub := s.sub
  b1 := s.b1
  b2 := s.b2
  b3 := s.b3
  dat := fun j e h => by
    by_cases q : i = j
    · subst q
      by_cases hi : i < Γ.length
      · rw [List.getElem?_set_self hi] at h
        cases h
        exact ⟨v, List.getElem?_set_self (by rw [← s.len]; exact hi), r⟩
      · rw [List.getElem?_eq_none (by simpa using hi)] at h
        cases h
    · rw [List.getElem?_set_ne q] at h
      rw [List.getElem?_set_ne q]
      exact s.dat j e h
  own := fun j e h => by
    by_cases q : i = j
    · subst q
      by_cases hi : i < Γ.length
      · rw [List.getElem?_set_self hi] at h
        cases h
      · rw [List.getElem?_eq_none (by simpa using hi)] at h
        cases h
    · rw [List.getElem?_set_ne q] at h
      rw [List.getElem?_set_ne q]
      exact s.own j e h
  sep := fun j k ds es l hjk h1 h2 => by
    have ne : ∀ j ds, (Γ.set i (.dat d))[j]? = some (.own ds) → i ≠ j ∧ Γ[j]? = some (.own ds) := fun j ds h => by
      by_cases q : i = j
      · subst q
        by_cases hi : i < Γ.length
        · rw [List.getElem?_set_self hi] at h
          cases h
        · rw [List.getElem?_eq_none (by simpa using hi)] at h
          cases h
      · rw [List.getElem?_set_ne q] at h
        exact ⟨q, h⟩
    obtain ⟨n1, e1⟩ := ne j ds h1
    obtain ⟨n2, e2⟩ := ne k es h2
    rw [List.getElem?_set_ne n1, List.getElem?_set_ne n2]
    exact s.sep j k ds es l hjk e1 e2
/-- slots of σ that Γ does not speak of may be forgotten -/
theorem SS.wiped {σ : L2.St} {Hd H : Hp} (s : SS S Γ σ Hd H) (vs : List Nat) : SS S (wipeG Γ vs) (wipe σ vs) Hd H := by
  induction vs with
  | nil => exact s
  | cons v vs ih =>
    refine ⟨by show ((wipeG Γ vs).set v .no).length = ((wipe σ vs).set v none).length; simpa using ih.len, ih.sub, ih.b1, ih.b2, ih.b3, ?_, ?_, ?_⟩
    all_goals
      have ne : ∀ j (x : Slot), ((wipeG Γ vs).set v .no)[j]? = some x → x ≠ .no → v ≠ j ∧ (wipeG Γ vs)[j]? = some x := fun j x h hx => by
        by_cases q : v = j
        · subst q
          by_cases hi : v < (wipeG Γ vs).length
          · rw [List.getElem?_set_self hi] at h
            cases h
            exact absurd rfl hx
          · rw [List.getElem?_eq_none (by simpa using hi)] at h
            cases h
        · rw [List.getElem?_set_ne q] at h
          exact ⟨q, h⟩
    · intro i d h
      obtain ⟨n, q⟩ := ne i _ h (by simp)
      show ∃ w, ((wipe σ vs).set v none)[i]? = _ ∧ _
      rw [List.getElem?_set_ne n]
      exact ih.dat i d q
    · intro i d h
      obtain ⟨n, q⟩ := ne i _ h (by simp)
      show ∃ l w, ((wipe σ vs).set v none)[i]? = _ ∧ _
      rw [List.getElem?_set_ne n]
      exact ih.own i d q
    · intro i j ds es l hij h1 h2
      obtain ⟨n1, q1⟩ := ne i _ h1 (by simp)
      obtain ⟨n2, q2⟩ := ne j _ h2 (by simp)
      show ((wipe σ vs).set v none)[i]? = _ → ((wipe σ vs).set v none)[j]? ≠ _
      rw [List.getElem?_set_ne n1, List.getElem?_set_ne n2]
      exact ih.sep i j ds es l hij q1 q2

/-- the target takes a datum: A says how the slots are then (none: it does not fit); vs: its slots -/
def DG (S : Sc) (vs : List Nat) (tg : Expr) (A : D → Option (Gam → Gam)) : Prop := ∃ g : TG, (∀ X, Fits S X → PG X tg g) ∧
  ∀ Γ σ Hd H v d F (Q : L2.St → Hp → Prop), SS S Γ σ Hd H → Rp S.K Hd v d → A d = some F → (∀ σ', SS S (F Γ) σ' Hd H → wipe σ' vs = wipe σ vs → Q σ' H) → g v σ H Q
def tgN (i : Nat) : D → Option (Gam → Gam) := fun d => some fun Γ => Γ.set i (.dat d)
def tg2 (i j : Nat) : D → Option (Gam → Gam)
  | .tuple [a, b] => some fun Γ => (Γ.set i (.dat a)).set j (.dat b)
  | _ => none
theorem fit_name {X : Cx} (hX : Fits S X) {x : Str} {i : Nat} (hN : S.N[i]? = some x) (hl : Loc S.sc x) (hst : S.st x = true) : PG X (.Name x pos) (gName i) :=
  pg_name hX.nd (by rw [hX.N]; exact hN) (by rw [hX.sc]; exact hl) (hX.st x hst)
theorem wipe_set_mem (σ : L2.St) (v : Option V) (i : Nat) : ∀ vs : List Nat, i ∈ vs → wipe (σ.set i v) vs = wipe σ vs
  | w :: vs, h => by
    show (wipe (σ.set i v) vs).set w none = (wipe σ vs).set w none
    by_cases q : i ∈ vs
    · rw [wipe_set_mem σ v i vs q]
    · have e : w = i := by
        rcases List.mem_cons.mp h with e | e
        · exact e.symm
        · exact absurd e q
      subst e
      have g : ∀ us : List Nat, w ∉ us → wipe (σ.set w v) us = (wipe σ us).set w v := by
        intro us
        induction us with
        | nil => intro _; rfl
        | cons u us ih =>
          intro hn
          have h1 : w ≠ u := fun e => hn (by simp [e])
          have h2 : w ∉ us := fun e => hn (by simp [e])
          show (wipe (σ.set w v) us).set u none = ((wipe σ us).set u none).set w v
          rw [ih h2, List.set_comm _ _ h1]
      rw [g vs q, List.set_set]
theorem dg_name (i : Nat) {x : Str} (hN : S.N[i]? = some x := by rfl) (hl : Loc S.sc x := by first | exact Or.inl rfl | exact Or.inr rfl) (hst : S.st x = true := by rfl) : DG S [i] (.Name x pos) (tgN i) := by
  refine ⟨gName i, fun X hX => fit_name hX hN hl hst, fun Γ σ Hd H v d F Q s r e k => ?_⟩
  cases e
  exact k _ (s.set i r) (wipe_set_mem _ _ _ _ (by simp))
theorem dg_pair (i j : Nat) {x y : Str} {px py : Pos} {kk : Nat} (hN : S.N[i]? = some x := by rfl) (hl : Loc S.sc x := by first | exact Or.inl rfl | exact Or.inr rfl) (hst : S.st x = true := by rfl)
    (hN2 : S.N[j]? = some y := by rfl) (hl2 : Loc S.sc y := by first | exact Or.inl rfl | exact Or.inr rfl) (hst2 : S.st y = true := by rfl) : DG S [i, j] (.Tuple [.Name x px, .Name y py] kk pos) (tg2 i j) := by
  refine ⟨gTup S.K 2 (gCons (gName i) (gCons (gName j) gNil)), fun X hX => hX.K ▸ pg_tup hX.calm (pgs_cons (fit_name hX hN hl hst) (pgs_cons (fit_name hX hN2 hl2 hst2) pgs_nil)), fun Γ σ Hd H v d F Q s r e k => ?_⟩
  unfold tg2 at e
  split at e
  · rename_i a b
    cases e
    obtain ⟨r1, r2⟩ := r
    cases r1 with
    | @tup l xs _ hs ha =>
      cases ha with
      | cons h1 t =>
        cases t with
        | cons h2 t2 =>
          cases t2
          have z := (szD_tuple.mp r2).2
          have z1 : szD a = true := szA_mem z (by simp)
          have z2 : szD b = true := szA_mem z (by simp)
          refine ⟨l, _, rfl, .inl (.inl (s.sub _ _ hs)), rfl, _, _, rfl, _, _, rfl, rfl, k _ ((s.set i ⟨h1, z1⟩).set j ⟨h2, z2⟩) ?_⟩
          rw [wipe_set_mem _ _ _ _ (by simp), wipe_set_mem _ _ _ _ (by simp)]
  · cases e

def Sc.blk (S : Sc) (scope : Scope) : Sc := { S with sc := relS scope S.sc, st := fun x => scope.names.lookup x == some .cell || (relS scope S.sc).names.lookup x == some .local, W := fun _ _ _ _ => False, top := false }
theorem Fits.blk {X : Cx} (hX : Fits S X) {scope : Scope} (hk : scope.kind = .function) (s : Shared) (H : Hp) (C : Addr) (cl : List (Str × Addr)) (fp : List Addr) : Fits (S.blk scope) (X.blk s H scope (compEnvC scope cl C X.env) fp) where
  P := hX.P
  w := hX.w
  K := hX.K
  mg := hX.mg
  base := hX.base
  N := hX.N
  sc := by
    show relS scope X.env.scope = relS scope S.sc
    rw [hX.sc]
  st := fun x h => by
    have h : (scope.names.lookup x == some .cell || (relS scope S.sc).names.lookup x == some .local) = true := h
    rcases Bool.or_eq_true_iff.mp h with q | q
    · exact .inl q
    · refine .inr ?_
      show (relS scope X.env.scope).names.lookup x = some .local
      rw [hX.sc]
      exact eq_of_beq q
  nd := hX.nd
  kind := hk
  calm := hX.calm
  room := hX.room
  takes := takes0
  own := PassesOwn.never
  top := fun h => nomatch h
/-- the tests of a clause -/
def DTs (S : Sc) (Γ : Gam) (ifs : List Expr) (m : Rs Bool) : Prop := ∃ t, (∀ X, Fits S X → PTs X ifs t) ∧ RT S Γ t m
theorem dts_nil : DTs S Γ [] (.ok true) := ⟨tYes, fun _ _ => pts_nil, fun σ Hd H Q s p => p Hd H (Ext.refl s.sub)⟩
theorem dts_one {m : Rs Bool} (h : DT S Γ a m) : DTs S Γ [a] m := by
  obtain ⟨t, h1, h2⟩ := h
  exact ⟨t, fun X hX => pts_one (h1 X hX), h2⟩
/-- one item of a comprehension -/
def itemO (A : D → Option (Gam → Gam)) (mt : D → Rs Bool) (me : D → Rs D) (d : D) : Rs (Option D) := match A d with
  | some _ => eltO (mt d) (me d)
  | none => .bad
/-- the loop's invariant: what is behind i items -/
theorem compO_split {f : D → Rs (Option D)} : ∀ {xs : List D} {r : List D}, compO f xs = .ok r → ∀ i, i ≤ xs.length → ∃ r1 r2, compO f (xs.take i) = .ok r1 ∧ compO f (xs.drop i) = .ok r2 ∧ r = r1 ++ r2
  | xs, r, h, 0, _ => ⟨[], r, rfl, h, rfl⟩
  | [], r, h, i + 1, hi => by simp at hi
  | x :: xs, r, h, i + 1, hi => by
    unfold compO at h
    cases q : f x with
    | exc c => rw [q] at h; cases h
    | bad => rw [q] at h; cases h
    | ok o =>
      cases o with
      | none =>
        rw [q] at h
        obtain ⟨r1, r2, h1, h2, h3⟩ := compO_split (xs := xs) h i (by simpa using hi)
        refine ⟨r1, r2, ?_, h2, h3⟩
        rw [List.take_succ_cons]
        unfold compO
        rw [q]
        exact h1
      | some d =>
        rw [q] at h
        cases q2 : compO f xs with
        | exc c => rw [q2] at h; cases h
        | bad => rw [q2] at h; cases h
        | ok r' =>
          rw [q2] at h
          have h : Rs.ok (d :: r') = Rs.ok r := h
          cases h
          obtain ⟨r1, r2, h1, h2, h3⟩ := compO_split (xs := xs) q2 i (by simpa using hi)
          refine ⟨d :: r1, r2, ?_, h2, by rw [h3]; rfl⟩
          rw [List.take_succ_cons]
          unfold compO
          rw [q, h1]
          rfl
theorem compO_next {f : D → Rs (Option D)} {x : D} {xs r : List D} (h : compO f (x :: xs) = .ok r) : (∃ d r', f x = .ok (some d) ∧ compO f xs = .ok r' ∧ r = d :: r') ∨ (f x = .ok none ∧ compO f xs = .ok r) := by
  unfold compO at h
  cases q : f x with
  | exc c => rw [q] at h; cases h
  | bad => rw [q] at h; cases h
  | ok o =>
    cases o with
    | none => rw [q] at h; exact .inr ⟨rfl, h⟩
    | some d =>
      rw [q] at h
      cases q2 : compO f xs with
      | exc c => rw [q2] at h; cases h
      | bad => rw [q2] at h; cases h
      | ok r' =>
        rw [q2] at h
        have h : Rs.ok (d :: r') = Rs.ok r := h
        cases h
        exact .inl ⟨d, r', rfl, rfl, rfl⟩
theorem compO_len {f : D → Rs (Option D)} : ∀ {xs r : List D}, compO f xs = .ok r → r.length ≤ xs.length
  | [], r, h => by
    have h : Rs.ok [] = Rs.ok r := h
    cases h
    simp
  | x :: xs, r, h => by
    rcases compO_next h with ⟨d, r', _, h2, rfl⟩ | ⟨_, h2⟩
    · have := compO_len h2
      simp
      omega
    · have := compO_len h2
      simp
      omega
theorem compO_bad {f : D → Rs (Option D)} : ∀ {xs : List D} {c : Str}, compO f xs ≠ .exc c
  | [], c => fun h => by cases h
  | x :: xs, c => fun h => by
    unfold compO at h
    cases q : f x with
    | exc c => rw [q] at h; cases h
    | bad => rw [q] at h; cases h
    | ok o =>
      cases o with
      | none => rw [q] at h; exact compO_bad h
      | some d =>
        rw [q] at h
        cases q2 : compO f xs with
        | exc c' => exact compO_bad q2
        | bad => rw [q2] at h; cases h
        | ok r' => rw [q2] at h; cases h

/-- as DF, and stored at a name on one line -/
def DFL (S : Sc) (Γ : Gam) (e : Expr) (m : Rs (List D)) : Prop := ∃ t, (∀ X, Fits S X → PE X e t) ∧ (∀ X, Fits S X → ∀ (i : Nat) (y : Str) (py spos : Pos), X.N[i]? = some y → X.env.scope.names.lookup y = some .local → swapsWith e (some (.Name y py)) spos.line X.env = pure true →
  PS X (.Assign [.Name y py] e spos) (tAsg t (gName i))) ∧ RF S Γ t m
theorem DFL.df {m : Rs (List D)} (h : DFL S Γ e m) : DF S Γ e m := by
  obtain ⟨t, h1, _, h3⟩ := h
  exact ⟨t, h1, h3⟩
theorem df_comp {elt iter : Expr} {ifs : List Expr} {scope : Scope} {own : List (Str × Nat)} {mi : Rs (List D)} {A : D → Option (Gam → Gam)} {mt : D → Rs Bool} {me : D → Rs D}
    (hi : DI S false Γ tg iter mi) (ok : blkC S.N S.sc scope own = true) (hg : DG (S.blk scope) (own.map (·.2)) tg A)
    (ht : ∃ t, (∀ X, Fits (S.blk scope) X → PTs X ifs t) ∧ ∀ d F, A d = some F → RT (S.blk scope) (F (wipeG Γ (own.map (·.2)))) t (mt d))
    (he : ∃ t, (∀ X, Fits (S.blk scope) X → PE X elt t) ∧ ∀ d F, A d = some F → RE (S.blk scope) (fun Hd _ => Rp S.K Hd) (F (wipeG Γ (own.map (·.2)))) t (me d))
    (hs : ∀ (env : Env) x, foldedSetIterable iter env x = pure x := by intro _ _; rfl) :
    DFL S Γ (.ListComp elt [⟨tg, iter, ifs, 0⟩] scope pos) (comp mi (itemO A mt me)) := by
  obtain ⟨wi, i1, i2⟩ := hi
  obtain ⟨g, g1, g2⟩ := hg
  obtain ⟨tt, t1, t2⟩ := ht
  obtain ⟨te, e1, e2⟩ := he
  have hk : scope.kind = .function := (blkOk_by ok).kind
  refine ⟨tLc wi g tt te (own.map (·.2)), fun X hX => ?_, fun X hX i y py spos hi hy hw => ?_, fun σ Hd H Q s p => i2 σ Hd H _ s ?_⟩
  · exact pe_lc hX.calm hX.nd (i1 X hX) (by rw [hX.N, hX.sc]; exact blkOk_by ok) (fun s H C cl fp => g1 _ (hX.blk hk s H C cl fp)) (fun s H C cl fp => t1 _ (hX.blk hk s H C cl fp)) (fun s H C cl fp => e1 _ (hX.blk hk s H C cl fp)) (hs _)
  · exact ps_setLc hX.calm hX.nd hi hy hw (i1 X hX) (by rw [hX.N, hX.sc]; exact blkOk_by ok) (fun s H C cl fp => g1 _ (hX.blk hk s H C cl fp)) (fun s H C cl fp => t1 _ (hX.blk hk s H C cl fp)) (fun s H C cl fp => e1 _ (hX.blk hk s H C cl fp)) (hs _)
  · cases mi with
    | exc c => exact p
    | bad => exact p.elim
    | ok xs =>
      intro J Hd1 H1 x1 G hz1 hz2 l hl
      have G : Goes S.K J H1 Hd1 xs := G
      have p : FPost S σ Hd H Q (compO (itemO A mt me) xs) := p
      cases hr : compO (itemO A mt me) xs with
      | exc c => exact absurd hr compO_bad
      | bad => rw [hr] at p; exact p.elim
      | ok r =>
        rw [hr] at p
        have hdl : Hd1 l = none := x1.s.free hl
        have nl : ∀ {b : Addr} {o : HO}, H1 b = some o → b ≠ l := fun q => ne_of_none q hl
        -- the invariant behind i items
        refine ⟨fun i n H' => n = xs.length - i ∧ i ≤ xs.length ∧ ∃ Hd' acc r1 r2, compO (itemO A mt me) (xs.drop i) = .ok r2 ∧ r = r1 ++ r2 ∧ r1.length ≤ i ∧ Ext Hd1 H1 Hd' H' ∧ Hd' l = none ∧ H' l = some (.lst acc) ∧ RpA S.K Hd' acc r1, ⟨xs.length, by simp, Nat.zero_le _, Hd1, [], [], r, by simpa using hr, rfl, Nat.le_refl _, Ext.newOwn x1.s hl, hdl, upd_same, RpA.nil⟩, ?_⟩
        rintro i n H' ⟨rfl, hi, Hd', acc, r1, r2, k1, k2, k3, k4, k5, k6, k7⟩
        by_cases hlt : i < xs.length
        · refine .inr ⟨G.go H' i k4.a hlt, fun H2 => ∃ Hd2 acc r1 r2, compO (itemO A mt me) (xs.drop (i + 1)) = .ok r2 ∧ r = r1 ++ r2 ∧ r1.length ≤ i + 1 ∧ Ext Hd1 H1 Hd2 H2 ∧ Hd2 l = none ∧ H2 l = some (.lst acc) ∧ RpA S.K Hd2 acc r1,
            fun H2 q => ⟨xs.length - (i + 1), by omega, rfl, hlt, q⟩, fun x H2 hy => ?_⟩
          have hxi : xs[i]? = some xs[i] := List.getElem?_eq_getElem hlt
          obtain ⟨Hd2, y1, y2⟩ := G.yld Hd' H' i _ x H2 k4.a k4.d k4.s hxi hy
          have hsp : xs.drop i = xs[i] :: xs.drop (i + 1) := List.drop_eq_getElem_cons hlt
          rw [hsp] at k1
          have X2 : Ext Hd1 H1 Hd2 H2 := k4.trans y1
          have l2 : H2 l = some (.lst acc) := y1.a _ _ k6
          have d2 : Hd2 l = none := y1.o l (by rw [k6]; simp) k5
          have s2 : SS (S.blk scope) (wipeG Γ (own.map (·.2))) (wipe σ (own.map (·.2))) Hd2 H2 := by
            have z := ((s.ext x1).ext X2).wiped (own.map (·.2))
            exact ⟨z.len, z.sub, z.b1, z.b2, z.b3, z.dat, z.own, z.sep⟩
          -- the item's mirror
          cases hA : A xs[i] with
          | none =>
            exfalso
            have hit : itemO A mt me xs[i] = .bad := by unfold itemO; rw [hA]
            rcases compO_next k1 with ⟨d, r', q1, _⟩ | ⟨q1, _⟩
            · rw [hit] at q1; cases q1
            · rw [hit] at q1; cases q1
          | some F =>
            have hit : itemO A mt me xs[i] = eltO (mt xs[i]) (me xs[i]) := by unfold itemO; rw [hA]
            refine g2 _ _ Hd2 H2 x _ F _ s2 y2 hA fun σ3 s3 hw => ⟨hw.trans ?_, ?_⟩
            · -- wiping twice
              have : ∀ vs : List Nat, wipe (wipe σ vs) vs = wipe σ vs := by
                intro vs
                apply List.ext_getElem?
                intro j
                by_cases hj : j ∈ vs
                · have n1 : ∀ (τ : L2.St), j < τ.length → (wipe τ vs)[j]? = some none := fun τ hτ => by
                    cases q : (wipe τ vs)[j]? with
                    | none =>
                      have := List.getElem?_eq_none_iff.mp q
                      rw [wipe_length] at this
                      omega
                    | some o =>
                      cases o with
                      | none => rfl
                      | some v => exact absurd hj (wipe_some q).2
                  by_cases hl : j < σ.length
                  · rw [n1 _ (by rw [wipe_length]; exact hl), n1 _ hl]
                  · rw [List.getElem?_eq_none (by rw [wipe_length, wipe_length]; omega), List.getElem?_eq_none (by rw [wipe_length]; omega)]
                · rw [wipe_out hj, wipe_out hj]
              exact this _
            · refine t2 _ F hA σ3 Hd2 H2 _ s3 ?_
              cases hm : mt xs[i] with
              | exc c =>
                exfalso
                rw [hm] at hit
                rcases compO_next k1 with ⟨d, r', q1, _⟩ | ⟨q1, _⟩ <;> (rw [hit] at q1; cases q1)
              | bad =>
                exfalso
                rw [hm] at hit
                rcases compO_next k1 with ⟨d, r', q1, _⟩ | ⟨q1, _⟩ <;> (rw [hit] at q1; cases q1)
              | ok tb =>
                rw [hm] at hit
                intro Hd3 H3 x3
                have d3 : Hd3 l = none := x3.o l (by rw [l2]; simp) d2
                cases tb with
                | false =>
                  refine iteF ?_
                  rcases compO_next k1 with ⟨d, r', q1, _⟩ | ⟨q1, q2⟩
                  · rw [hit] at q1; cases q1
                  · exact ⟨Hd3, acc, r1, r2, q2, k2, by omega, X2.trans x3, d3, x3.a _ _ l2, k7.mono (y1.d.trans x3.d)⟩
                | true =>
                  refine iteT (e2 _ F hA σ3 Hd3 H3 _ (s3.ext x3) ?_)
                  cases hme : me xs[i] with
                  | exc c =>
                    exfalso
                    rw [hme] at hit
                    rcases compO_next k1 with ⟨d, r', q1, _⟩ | ⟨q1, _⟩ <;> (rw [hit] at q1; cases q1)
                  | bad =>
                    exfalso
                    rw [hme] at hit
                    rcases compO_next k1 with ⟨d, r', q1, _⟩ | ⟨q1, _⟩ <;> (rw [hit] at q1; cases q1)
                  | ok d =>
                    rw [hme] at hit
                    intro y Hd4 H4 x4 r4
                    rcases compO_next k1 with ⟨d', r', q1, q2, q3⟩ | ⟨q1, _⟩
                    · rw [hit] at q1
                      cases q1
                      have l4 : H4 l = some (.lst acc) := x4.a _ _ (x3.a _ _ l2)
                      have d4 : Hd4 l = none := x4.o l (by rw [x3.a _ _ l2]; simp) d3
                      have X4 : Ext Hd1 H1 Hd4 H4 := (X2.trans x3).trans x4
                      have rr : RpA S.K Hd4 (acc ++ [y]) (r1 ++ [d]) := (k7.mono ((y1.d.trans x3.d).trans x4.d)).append (RpA.cons r4 RpA.nil)
                      refine ⟨acc, l4, ?_, Hd4, acc ++ [y], r1 ++ [d], r', q2, by rw [k2, q3]; simp, by simp; omega, ?_, d4, upd_same, rr⟩
                      · have a1 := k7.len
                        rw [← sizeMax_eq]
                        omega
                      · refine ⟨fun b o q => ?_, X4.d, fun b o q => ?_, X4.o⟩
                        · rw [upd_ne (nl q)]
                          exact X4.a b o q
                        · rw [upd_ne (ne_of_none q d4)]
                          exact X4.s b o q
                    · rw [hit] at q1; cases q1
        · have hie : i = xs.length := by omega
          subst hie
          refine .inl ⟨G.stop H' _ k4.a (Nat.le_refl _), ?_⟩
          rw [List.drop_length] at k1
          have k1 : Rs.ok [] = Rs.ok r2 := k1
          cases k1
          rw [List.append_nil] at k2
          subst k2
          exact p l acc Hd' H' (x1.trans k4) (x1.a.free hl) k6 k5 k7 (Nat.le_trans k3 hz1)
end BG
namespace BG
open PySem PySem.Spec PyProof.Rows L2
variable {S : Sc} {Γ : Gam} {a b c e tg : Expr} {ma mb mc m : Rs D} {pos p : Pos}

def wpE (S : Sc) (e : Expr) : TE := fun σ H Q => ∃ t, (∀ X, Fits S X → PE X e t) ∧ t σ H Q
theorem pe_wp {X : Cx} (hX : Fits S X) : PE X e (wpE S e) := ⟨fun pins s σ H Q I ⟨t, h1, h2⟩ => (h1 X hX).run pins s σ H Q I h2⟩
theorem DE.wp (h : DE S Γ e m) : RE S (fun Hd _ => Rp S.K Hd) Γ (wpE S e) m := fun σ Hd H Q s p => by
  obtain ⟨t, h1, h2⟩ := h
  exact ⟨t, h1, h2 σ Hd H Q s p⟩
def wpTs (S : Sc) (ifs : List Expr) : TT := fun σ H Q => ∃ t, (∀ X, Fits S X → PTs X ifs t) ∧ t σ H Q
theorem pts_wp {X : Cx} {ifs : List Expr} (hX : Fits S X) : PTs X ifs (wpTs S ifs) := ⟨fun pins s σ H Q I ⟨t, h1, h2⟩ => (h1 X hX).run pins s σ H Q I h2⟩
theorem DTs.wp {ifs : List Expr} {m : Rs Bool} (h : DTs S Γ ifs m) : RT S Γ (wpTs S ifs) m := fun σ Hd H Q s p => by
  obtain ⟨t, h1, h2⟩ := h
  exact ⟨t, h1, h2 σ Hd H Q s p⟩
def wpT (S : Sc) (e : Expr) : TT := fun σ H Q => ∃ t, (∀ X, Fits S X → PT X e t) ∧ t σ H Q
theorem pt_wp {X : Cx} (hX : Fits S X) : PT X e (wpT S e) := ⟨fun pins s σ H Q I ⟨t, h1, h2⟩ => (h1 X hX).run pins s σ H Q I h2⟩
theorem DT.wp {m : Rs Bool} (h : DT S Γ e m) : RT S Γ (wpT S e) m := fun σ Hd H Q s p => by
  obtain ⟨t, h1, h2⟩ := h
  exact ⟨t, h1, h2 σ Hd H Q s p⟩
/-- [elt for x in iter if ..], x in slot i -/
theorem df_compN (i : Nat) {x : Str} {px : Pos} {elt iter : Expr} {ifs : List Expr} {scope : Scope} {mi : Rs (List D)} {mt : D → Rs Bool} {me : D → Rs D}
    (hi : DI S false Γ (.Name x px) iter mi) (ok : blkC S.N S.sc scope [(x, i)] = true) (ht : ∀ d, DTs (S.blk scope) ((wipeG Γ [i]).set i (.dat d)) ifs (mt d)) (he : ∀ d, DE (S.blk scope) ((wipeG Γ [i]).set i (.dat d)) elt (me d))
    (hN : S.N[i]? = some x := by rfl) (hl : Loc (S.blk scope).sc x := by first | exact Or.inl rfl | exact Or.inr rfl) (hst : (S.blk scope).st x = true := by rfl) (hs : ∀ (env : Env) x, foldedSetIterable iter env x = pure x := by intro _ _; rfl) :
    DFL S Γ (.ListComp elt [⟨.Name x px, iter, ifs, 0⟩] scope pos) (comp mi fun d => eltO (mt d) (me d)) :=
  df_comp (A := tgN i) (own := [(x, i)]) hi ok (dg_name (S := S.blk scope) i hN hl hst) ⟨wpTs (S.blk scope) ifs, fun X hX => pts_wp hX, fun d F hA => by cases hA; exact (ht d).wp⟩ ⟨wpE (S.blk scope) elt, fun X hX => pe_wp hX, fun d F hA => by cases hA; exact (he d).wp⟩ hs
theorem item_two {i j : Nat} {mt : D → D → Rs Bool} {me : D → D → Rs D} : ∀ d, itemO (tg2 i j) (fun d => un2 d mt) (fun d => un2 d me) d = un2 d fun u v => eltO (mt u v) (me u v)
  | .tuple [_, _] => rfl
  | .tuple [] => rfl
  | .tuple [_] => rfl
  | .tuple (_ :: _ :: _ :: _) => rfl
  | .none => rfl
  | .bool _ => rfl
  | .int _ => rfl
  | .str _ => rfl
  | .list _ => rfl
  | .dict _ => rfl
/-- [elt for x, y in iter if ..], x and y in the slots i and j -/
theorem df_comp2 (i j : Nat) {x y : Str} {px py pt : Pos} {kk : Nat} {elt iter : Expr} {ifs : List Expr} {scope : Scope} {mi : Rs (List D)} {mt : D → D → Rs Bool} {me : D → D → Rs D}
    (hi : DI S false Γ (.Tuple [.Name x px, .Name y py] kk pt) iter mi) (ok : blkC S.N S.sc scope [(x, i), (y, j)] = true) (ht : ∀ d e, DTs (S.blk scope) (((wipeG Γ [i, j]).set i (.dat d)).set j (.dat e)) ifs (mt d e))
    (he : ∀ d e, DE (S.blk scope) (((wipeG Γ [i, j]).set i (.dat d)).set j (.dat e)) elt (me d e))
    (hN : S.N[i]? = some x := by rfl) (hl : Loc (S.blk scope).sc x := by first | exact Or.inl rfl | exact Or.inr rfl) (hst : (S.blk scope).st x = true := by rfl)
    (hN2 : S.N[j]? = some y := by rfl) (hl2 : Loc (S.blk scope).sc y := by first | exact Or.inl rfl | exact Or.inr rfl) (hst2 : (S.blk scope).st y = true := by rfl) (hs : ∀ (env : Env) x, foldedSetIterable iter env x = pure x := by intro _ _; rfl) :
    DFL S Γ (.ListComp elt [⟨.Tuple [.Name x px, .Name y py] kk pt, iter, ifs, 0⟩] scope pos) (comp mi fun d => un2 d fun u v => eltO (mt u v) (me u v)) := by
  have h := df_comp (S := S) (Γ := Γ) (pos := pos) (A := tg2 i j) (own := [(x, i), (y, j)]) (mt := fun d => un2 d mt) (me := fun d => un2 d me) hi ok (dg_pair (S := S.blk scope) i j hN hl hst hN2 hl2 hst2)
    ⟨wpTs (S.blk scope) ifs, fun X hX => pts_wp hX, fun d F hA => by
      unfold tg2 at hA
      split at hA
      · cases hA; exact (ht _ _).wp
      · cases hA⟩
    ⟨wpE (S.blk scope) elt, fun X hX => pe_wp hX, fun d F hA => by
      unfold tg2 at hA
      split at hA
      · cases hA; exact (he _ _).wp
      · cases hA⟩ hs
  rw [show (itemO (tg2 i j) (fun d => un2 d mt) fun d => un2 d me) = fun d => un2 d fun u v => eltO (mt u v) (me u v) from funext item_two] at h
  exact h

def noG (n : Nat) : Gam := List.replicate n .no
theorem wk_no (Γ : Gam) : Wk Γ (noG Γ.length) := ⟨by simp [noG], fun i s h => by
  unfold noG at h
  rw [List.getElem?_replicate] at h
  split at h
  · cases h; exact .inl rfl
  · cases h⟩
def BPost {A : Type} (S : Sc) (n : Nat) (Hd : Hp) (G : A → Gam) (E : Ends) : Rs (Out A) → Prop
  | .ok (.nx a) => ∀ σ' Hd' H', SS S (G a) σ' Hd' H' → Same Hd Hd' → E.nx σ' H'
  | .ok (.rt d) => ∀ v Hd' H', Ext S.Bd S.Bh Hd' H' → Rp S.K Hd' v d → E.rt v H'
  | .exc c => ∀ σ' Hd' H', SS S (noG n) σ' Hd' H' → S.W (.ref (He.ga S.K c)) none σ' H'
  | .bad => False
def RB {A : Type} (S : Sc) (Γ : Gam) (t : TS) (G : A → Gam) (m : Rs (Out A)) : Prop := ∀ σ Hd H E, SS S Γ σ Hd H → BPost S Γ.length Hd G E m → t E σ H
def DB {A : Type} (S : Sc) (Γ : Gam) (ss : List Stmt) (G : A → Gam) (m : Rs (Out A)) : Prop := ∃ t, (∀ X, Fits S X → PSs X ss t) ∧ RB S Γ t G m
def wpB (S : Sc) (ss : List Stmt) : TS := fun E σ H => ∃ t, (∀ X, Fits S X → PSs X ss t) ∧ t E σ H
theorem ps_wp {X : Cx} {ss : List Stmt} (hX : Fits S X) : PSs X ss (wpB S ss) := ⟨fun pins s σ H E I ⟨t, h1, h2⟩ => (h1 X hX).run pins s σ H E I h2⟩
theorem DB.wp {A : Type} {ss : List Stmt} {G : A → Gam} {m : Rs (Out A)} (h : DB S Γ ss G m) : RB S Γ (wpB S ss) G m := fun σ Hd H E s p => by
  obtain ⟨t, h1, h2⟩ := h
  exact ⟨t, h1, h2 σ Hd H E s p⟩
theorem SS.base {σ : L2.St} {Hd H : Hp} (s : SS S Γ σ Hd H) : Ext S.Bd S.Bh Hd H := ⟨s.b1, s.b2, s.sub, s.b3⟩
variable {A : Type} {G : A → Gam} {ss rest : List Stmt}
theorem BPost.after {A : Type} {n : Nat} {Hd Hd1 : Hp} {G : A → Gam} {E : Ends} (e : Same Hd Hd1) : ∀ {m : Rs (Out A)}, BPost S n Hd G E m → BPost S n Hd1 G E m
  | .ok (.nx a), h => fun σ' Hd' H' s' e' => h σ' Hd' H' s' (e.trans e')
  | .ok (.rt d), h => h
  | .exc c, h => h
  | .bad, h => h
theorem exc_post {σ : L2.St} {Hd H : Hp} {E : Ends} {c : Str} (s : SS S Γ σ Hd H) (p : BPost S Γ.length Hd G E (.exc c)) : ∀ Hd' H', Ext Hd H Hd' H' → S.W (.ref (He.ga S.K c)) none σ H' := fun Hd' H' e =>
  p σ Hd' H' ((s.ext e).weak (wk_no Γ))
theorem db_nil {x : A} (w : Wk Γ (G x)) : DB S Γ [] G (.ok (.nx x)) := ⟨tNext, fun _ _ => pss_nil, fun σ Hd H E s p => p σ Hd H (s.weak w) (Same.refl _)⟩
theorem db_ret (h : DE S Γ e m) : DB S Γ (.Return (some e) pos :: rest) G (m.bind fun d => .ok (.rt d)) := by
  obtain ⟨t, h1, h2⟩ := h
  refine ⟨tSeq (tRet t) tNever, fun X hX => pss_cons (ps_ret (h1 X hX)) pss_never, fun σ Hd H E s p => h2 σ Hd H _ s ?_⟩
  cases m with
  | ok d => exact fun v Hd' H' e' r => p v Hd' H' ((s.ext e').base) r
  | exc c => exact exc_post s p
  | bad => exact p.elim
theorem db_set (i : Nat) {x : Str} {px : Pos} {f : D → Rs (Out A)} (h : DE S Γ e m) (k : ∀ d, DB S (Γ.set i (.dat d)) rest G (f d)) (hs : ∀ (env : Env) (line : Nat), swapsWith e (some (.Name x px)) line env = pure false := by intro _ _; rfl)
    (hN : S.N[i]? = some x := by rfl) (hl : Loc S.sc x := by first | exact Or.inl rfl | exact Or.inr rfl) (hst : S.st x = true := by rfl) : DB S Γ (.Assign [.Name x px] e pos :: rest) G (m.bind f) := by
  obtain ⟨t, h1, h2⟩ := h
  refine ⟨tSeq (tAsg t (gName i)) (wpB S rest), fun X hX => pss_cons (ps_set hX.nd (by rw [hX.N]; exact hN) (by rw [hX.sc]; exact hl) (h1 X hX) (hs _ _) (hX.st x hst)) (ps_wp hX), fun σ Hd H E s p => h2 σ Hd H _ s ?_⟩
  cases m with
  | ok d => exact fun v Hd' H' e' r => (k d).wp _ Hd' H' E ((s.ext e').set i r) (by rw [List.length_set]; exact p.after e'.d)
  | exc c => exact exc_post s p
  | bad => exact p.elim
theorem db_expr {f : Rs (Out A)} (h : DE S Γ e m) (k : DB S Γ rest G f) (hs : ∀ (env : Env) (line : Nat), swapsWith e none line env = pure false := by intro _ _; rfl) : DB S Γ (.Expr e pos :: rest) G (m.bind fun _ => f) := by
  obtain ⟨t, h1, h2⟩ := h
  refine ⟨tSeq (tDrop t) (wpB S rest), fun X hX => pss_cons (ps_expr (h1 X hX) (hs _ _)) (ps_wp hX), fun σ Hd H E s p => h2 σ Hd H _ s ?_⟩
  cases m with
  | ok d => exact fun v Hd' H' e' r => k.wp _ Hd' H' E (s.ext e') (p.after e'.d)
  | exc c => exact exc_post s p
  | bad => exact p.elim
/-- what follows a part that goes on with a state -/
theorem BPost.seq {B : Type} {GB : B → Gam} {E : Ends} {n : Nat} {Hd : Hp} {m : Rs (Out B)} {f : B → Rs (Out A)} {t : TS} (hl : ∀ x, (GB x).length = n) (k : ∀ x, RB S (GB x) t G (f x)) (p : BPost S n Hd G E (m.go f)) : BPost S n Hd GB { E with nx := t E } m := by
  cases m with
  | ok o =>
    cases o with
    | nx x => exact fun σ' Hd' H' s' e' => k x σ' Hd' H' E s' (by rw [hl x]; exact p.after e')
    | rt d => exact p
  | exc c => exact p
  | bad => exact p
theorem db_if {B : Type} {GB : B → Gam} {tc : Rs Bool} {xs ys : List Stmt} {m1 m2 : Rs (Out B)} {f : B → Rs (Out A)} (hc : DT S Γ c tc) (h1 : DB S Γ xs GB m1) (h2 : DB S Γ ys GB m2) (k : ∀ x, DB S (GB x) rest G (f x)) (hl : ∀ x, (GB x).length = Γ.length := by intro _; rfl) :
    DB S Γ (.If c xs ys pos :: rest) G ((tc.bind fun b => if b = true then m1 else m2).go f) := by
  obtain ⟨t0, c1, c2⟩ := hc
  obtain ⟨t1, a1, a2⟩ := h1
  obtain ⟨t2, b1, b2⟩ := h2
  refine ⟨tSeq (tIfS t0 t1 t2) (wpB S rest), fun X hX => pss_cons (ps_if (c1 X hX) (a1 X hX) (b1 X hX)) (ps_wp hX), fun σ Hd H E s p => c2 σ Hd H _ s ?_⟩
  have p := BPost.seq (t := wpB S rest) hl (fun x => (k x).wp) p
  cases tc with
  | exc c => exact exc_post s p
  | bad => exact p.elim
  | ok x =>
    intro Hd' H' e'
    cases x with
    | true => exact iteT (a2 σ Hd' H' _ (s.ext e') (p.after e'.d))
    | false => exact iteF (b2 σ Hd' H' _ (s.ext e') (p.after e'.d))
theorem forO_go {f : A → D → Rs (Out A)} {x : D} {xs : List D} {s : A} : forO f (x :: xs) s = (f s x).go fun s' => forO f xs s' := rfl
theorem rb_for {GA : A → Gam} {At : D → Option (Gam → Gam)} {vs : List Nat} {wi : TI} {g : TG} {tb : TS} {mi : Rs (List D)} {f : A → D → Rs (Out A)} {s0 : A}
    (i2 : ∀ σ Hd H R, SS S Γ σ Hd H → IPost S true σ Hd H R mi → wi σ H R)
    (g2 : ∀ Γ σ Hd H v d F (Q : L2.St → Hp → Prop), SS S Γ σ Hd H → Rp S.K Hd v d → At d = some F → (∀ σ', SS S (F Γ) σ' Hd H → wipe σ' vs = wipe σ vs → Q σ' H) → g v σ H Q)
    (hb : ∀ s d F, At d = some F → RB S (F (GA s)) tb GA (f s d)) (hn : ∀ s d, At d = none → f s d = .bad) (hF : ∀ s d F, At d = some F → (F (GA s)).length = Γ.length) (w0 : Wk Γ (GA s0)) (hl : ∀ s, (GA s).length = Γ.length) :
    RB S Γ (tFor wi g tb) GA (mi.bind fun xs => forO f xs s0) := fun σ Hd H E s p => i2 σ Hd H _ s (by
  cases mi with
  | exc c => exact exc_post s p
  | bad => exact p.elim
  | ok xs =>
    intro J Hd1 H1 x1 Gs hz1 hz2
    have Gs : Goes S.K J Hd1 Hd1 xs := Gs
    have p : BPost S Γ.length Hd1 GA E (forO f xs s0) := p.after x1.d
    refine ⟨fun i n σ' H' => n = xs.length - i ∧ i ≤ xs.length ∧ ∃ Hd' a, SS S (GA a) σ' Hd' H' ∧ Same Hd1 Hd' ∧ BPost S Γ.length Hd1 GA E (forO f (xs.drop i) a), ⟨xs.length, by simp, Nat.zero_le _, Hd1, s0, (s.ext x1).weak w0, Same.refl _, by simpa using p⟩, ?_⟩
    rintro i n σ' H' ⟨rfl, hi, Hd', x, s1, e1, p1⟩
    by_cases hlt : i < xs.length
    · refine .inr ⟨Gs.go H' i (e1.trans s1.sub) hlt, fun σ2 H2 => ∃ Hd' a, SS S (GA a) σ2 Hd' H2 ∧ Same Hd1 Hd' ∧ BPost S Γ.length Hd1 GA E (forO f (xs.drop (i + 1)) a), fun σ2 H2 q => ⟨xs.length - (i + 1), by omega, rfl, hlt, q⟩, fun v H2 hy => ?_⟩
      have hxi : xs[i]? = some xs[i] := List.getElem?_eq_getElem hlt
      obtain ⟨Hd2, y1, y2⟩ := Gs.yld Hd' H' i _ v H2 (e1.trans s1.sub) e1 s1.sub hxi hy
      have hsp : xs.drop i = xs[i] :: xs.drop (i + 1) := List.drop_eq_getElem_cons hlt
      rw [hsp, forO_go] at p1
      cases hA : At xs[i] with
      | none =>
        rw [hn _ _ hA] at p1
        exact p1.elim
      | some F =>
        refine g2 _ σ' Hd2 H2 v _ F _ (s1.ext y1) y2 hA fun σ3 s3 _ => hb x _ F hA σ3 Hd2 H2 _ s3 ?_
        cases hm : f x xs[i] with
        | exc c =>
          rw [hm] at p1
          rw [hF x _ F hA]
          exact p1
        | bad =>
          rw [hm] at p1
          exact p1
        | ok o =>
          cases o with
          | nx x' =>
            rw [hm] at p1
            intro σ4 Hd4 H4 s4 e4
            exact ⟨Hd4, x', s4, (e1.trans y1.d).trans e4, p1⟩
          | rt d =>
            rw [hm] at p1
            exact p1
    · have hie : i = xs.length := by omega
      subst hie
      rw [List.drop_length] at p1
      exact .inl ⟨Gs.stop H' _ (e1.trans s1.sub) (Nat.le_refl _), p1 σ' Hd' H' s1 e1⟩)
end BG
namespace BG
open PySem PySem.Spec PyProof.Rows L2
variable {S : Sc} {Γ : Gam} {a b c e tg : Expr} {ma mb mc m : Rs D} {pos p : Pos} {A : Type} {G : A → Gam} {ss rest : List Stmt}

theorem db_forN (i : Nat) {B : Type} {GB : B → Gam} {x : Str} {px : Pos} {iter : Expr} {body : List Stmt} {mi : Rs (List D)} {f : B → D → Rs (Out B)} {s0 : B} {k : B → Rs (Out A)} (hi : DI S true Γ (.Name x px) iter mi)
    (hb : ∀ s d, DB S ((GB s).set i (.dat d)) body GB (f s d)) (hk : ∀ s, DB S (GB s) rest G (k s)) (w0 : Wk Γ (GB s0)) (hl : ∀ s, (GB s).length = Γ.length := by intro _; rfl)
    (hN : S.N[i]? = some x := by rfl) (hlc : Loc S.sc x := by first | exact Or.inl rfl | exact Or.inr rfl) (hst : S.st x = true := by rfl) (hs : ∀ (env : Env) x, foldedSetIterable iter env x = pure x := by intro _ _; rfl) :
    DB S Γ (.For (.Name x px) iter body [] pos :: rest) G ((mi.bind fun xs => forO f xs s0).go k) := by
  obtain ⟨wi, i1, i2⟩ := hi
  obtain ⟨g, g1, g2⟩ := dg_name (S := S) (pos := px) i hN hlc hst
  refine ⟨tSeq (tFor wi g (wpB S body)) (wpB S rest), fun X hX => pss_cons (ps_for hX.own hX.calm (i1 X hX) (g1 X hX) (ps_wp hX) (hs _)) (ps_wp hX), fun σ Hd H E s p => ?_⟩
  exact rb_for (GA := GB) i2 g2 (fun s d F hA => by cases hA; exact (hb s d).wp) (fun s d hA => by cases hA) (fun s d F hA => by cases hA; rw [List.length_set, hl]) w0 hl σ Hd H _ s (BPost.seq hl (fun x => (hk x).wp) p)
theorem un2_none {i j : Nat} {α : Type} {f : D → D → Rs α} : ∀ {d : D}, tg2 i j d = none → un2 d f = .bad
  | .tuple [_, _], h => nomatch h
  | .tuple [], _ => rfl
  | .tuple [_], _ => rfl
  | .tuple (_ :: _ :: _ :: _), _ => rfl
  | .none, _ => rfl
  | .bool _, _ => rfl
  | .int _, _ => rfl
  | .str _, _ => rfl
  | .list _, _ => rfl
  | .dict _, _ => rfl
theorem db_for2 (i j : Nat) {B : Type} {GB : B → Gam} {x y : Str} {px py pt : Pos} {kk : Nat} {iter : Expr} {body : List Stmt} {mi : Rs (List D)} {f : B → D → D → Rs (Out B)} {s0 : B} {k : B → Rs (Out A)} (hi : DI S true Γ (.Tuple [.Name x px, .Name y py] kk pt) iter mi)
    (hb : ∀ s d e, DB S (((GB s).set i (.dat d)).set j (.dat e)) body GB (f s d e)) (hk : ∀ s, DB S (GB s) rest G (k s)) (w0 : Wk Γ (GB s0)) (hl : ∀ s, (GB s).length = Γ.length := by intro _; rfl)
    (hN : S.N[i]? = some x := by rfl) (hlc : Loc S.sc x := by first | exact Or.inl rfl | exact Or.inr rfl) (hst : S.st x = true := by rfl)
    (hN2 : S.N[j]? = some y := by rfl) (hlc2 : Loc S.sc y := by first | exact Or.inl rfl | exact Or.inr rfl) (hst2 : S.st y = true := by rfl) (hs : ∀ (env : Env) x, foldedSetIterable iter env x = pure x := by intro _ _; rfl) :
    DB S Γ (.For (.Tuple [.Name x px, .Name y py] kk pt) iter body [] pos :: rest) G ((mi.bind fun xs => forO (fun s d => un2 d (f s)) xs s0).go k) := by
  obtain ⟨wi, i1, i2⟩ := hi
  obtain ⟨g, g1, g2⟩ := dg_pair (S := S) (px := px) (py := py) (kk := kk) (pos := pt) i j hN hlc hst hN2 hlc2 hst2
  refine ⟨tSeq (tFor wi g (wpB S body)) (wpB S rest), fun X hX => pss_cons (ps_for hX.own hX.calm (i1 X hX) (g1 X hX) (ps_wp hX) (hs _)) (ps_wp hX), fun σ Hd H E s p => ?_⟩
  refine rb_for (GA := GB) (At := tg2 i j) i2 g2 (fun s d F hA => ?_) (fun s d hA => ?_) (fun s d F hA => ?_) w0 hl σ Hd H _ s (BPost.seq hl (fun x => (hk x).wp) p)
  · unfold tg2 at hA
    split at hA
    · cases hA; exact (hb s _ _).wp
    · cases hA
  · exact un2_none hA
  · unfold tg2 at hA
    split at hA
    · cases hA; rw [List.length_set, List.length_set, hl]
    · cases hA
theorem db_while {B : Type} {GB : B → Gam} {body : List Stmt} {mt : B → Rs Bool} {f : B → Rs (Out B)} {s0 : B} {k : B → Rs (Out A)} (n : Nat) (hc : ∀ s, DT S (GB s) c (mt s)) (hb : ∀ s, DB S (GB s) body GB (f s)) (hk : ∀ s, DB S (GB s) rest G (k s)) (w0 : Wk Γ (GB s0)) (hl : ∀ s, (GB s).length = Γ.length := by intro _; rfl) :
    DB S Γ (.While c body [] pos :: rest) G ((whileO mt f n s0).go k) := by
  refine ⟨tSeq (tWhile (wpT S c) (wpB S body)) (wpB S rest), fun X hX => pss_cons (ps_while hX.own (pt_wp hX) (ps_wp hX)) (ps_wp hX), fun σ Hd H E s p => ?_⟩
  have p := BPost.seq (t := wpB S rest) hl (fun x => (hk x).wp) p
  show tWhile _ _ { E with nx := wpB S rest E } σ H
  refine ⟨fun m σ' H' => ∃ Hd' x, SS S (GB x) σ' Hd' H' ∧ Same Hd Hd' ∧ BPost S Γ.length Hd GB { E with nx := wpB S rest E } (whileO mt f m x), ⟨n, Hd, s0, s.weak w0, Same.refl _, p⟩, ?_⟩
  rintro m σ' H' ⟨Hd', x, s1, e1, p1⟩
  cases m with
  | zero => exact p1.elim
  | succ m =>
    have p1 : BPost S Γ.length Hd GB { E with nx := wpB S rest E } ((mt x).bind fun b => if b = true then (f x).go fun a' => whileO mt f m a' else .ok (.nx x)) := p1
    refine (hc x).wp σ' Hd' H' _ s1 ?_
    cases hm : mt x with
    | exc c =>
      rw [hm] at p1
      refine exc_post (G := GB) (E := E) s1 ?_
      rw [hl x]
      exact p1
    | bad => rw [hm] at p1; exact p1.elim
    | ok b =>
      rw [hm] at p1
      intro Hd2 H2 e2
      cases b with
      | false => exact iteF (p1 σ' Hd2 H2 (s1.ext e2) (e1.trans e2.d))
      | true =>
        have p1 : BPost S Γ.length Hd GB { E with nx := wpB S rest E } ((f x).go fun a' => whileO mt f m a') := p1
        refine iteT ⟨fun σ3 H3 => ∃ Hd3 y, SS S (GB y) σ3 Hd3 H3 ∧ Same Hd Hd3 ∧ BPost S Γ.length Hd GB { E with nx := wpB S rest E } (whileO mt f m y), fun σ3 H3 q => ⟨m, Nat.lt_succ_self m, q⟩, ?_⟩
        refine (hb x).wp σ' Hd2 H2 _ (s1.ext e2) ?_
        cases hf : f x with
        | exc c =>
          rw [hf] at p1
          rw [hl x]
          exact p1
        | bad => rw [hf] at p1; exact p1
        | ok o =>
          rw [hf] at p1
          cases o with
          | nx y => exact fun σ3 Hd3 H3 s3 e3 => ⟨Hd3, y, s3, (e1.trans e2.d).trans e3, p1⟩
          | rt d => exact p1
def slotOk : Slot → Slot → Bool
  | .no, _ => true
  | _, _ => false
theorem wk_set (Γ : Gam) (i : Nat) : Wk Γ (Γ.set i .no) := Wk.of_set Γ i
/-- Γ' is Γ with some slots forgotten: vs lists them -/
theorem wk_by (vs : List Nat) {Γ' : Gam} (h : Γ' = wipeG Γ vs := by rfl) : Wk Γ Γ' := by
  rw [h]
  exact wipeG_weak Γ vs

theorem SS.setOwn {σ : L2.St} {Hd H Hd' H' : Hp} (s : SS S Γ σ Hd H) (e : Ext Hd H Hd' H') (i : Nat) {l : Addr} {vs : List V} {ds : List D} (hn : H l = none) (hl : H' l = some (.lst vs)) (hd : Hd' l = none) (r : RpA S.K Hd' vs ds) (hz : ds.length ≤ sizeMax) :
    SS S (Γ.set i (.own ds)) (σ.set i (some (.ref l))) Hd' H' := by
  have s' := s.ext e
  have ne : ∀ (j : Nat) (x : Slot), (Γ.set i (.own ds))[j]? = some x → (i = j ∧ x = .own ds ∧ i < Γ.length) ∨ (i ≠ j ∧ Γ[j]? = some x) := fun j x h => by
    by_cases q : i = j
    · subst q
      by_cases hi : i < Γ.length
      · rw [List.getElem?_set_self hi] at h
        cases h
        exact .inl ⟨rfl, rfl, hi⟩
      · rw [List.getElem?_eq_none (by simpa using hi)] at h
        cases h
    · rw [List.getElem?_set_ne q] at h
      exact .inr ⟨q, h⟩
  refine ⟨by simpa using s.len, s'.sub, s'.b1, s'.b2, s'.b3, fun j d h => ?_, fun j d h => ?_, fun j k as bs q hjk h1 h2 g1 => ?_⟩
  · rcases ne j _ h with ⟨_, z, _⟩ | ⟨n, z⟩
    · cases z
    · rw [List.getElem?_set_ne n]
      exact s'.dat j d z
  · rcases ne j _ h with ⟨rfl, z, hi⟩ | ⟨n, z⟩
    · cases z
      exact ⟨l, vs, List.getElem?_set_self (by rw [← s.len]; exact hi), hl, hd, s.b1.free hn, r, hz⟩
    · rw [List.getElem?_set_ne n]
      exact s'.own j d z
  · rcases ne j _ h1 with ⟨rfl, z1, hi1⟩ | ⟨n1, z1⟩
    · rcases ne k _ h2 with ⟨rfl, _, _⟩ | ⟨n2, z2⟩
      · exact absurd rfl hjk
      · rw [List.getElem?_set_self (by rw [← s.len]; exact hi1)] at g1
        cases g1
        rw [List.getElem?_set_ne n2]
        intro g2
        obtain ⟨l', vs', k1, k2, _⟩ := s.own k bs z2
        rw [g2] at k1
        cases k1
        rw [hn] at k2
        cases k2
    · rw [List.getElem?_set_ne n1] at g1
      rcases ne k _ h2 with ⟨rfl, z2, hi2⟩ | ⟨n2, z2⟩
      · rw [List.getElem?_set_self (by rw [← s.len]; exact hi2)]
        intro g2
        cases g2
        obtain ⟨l', vs', k1, k2, _⟩ := s.own j as z1
        rw [g1] at k1
        cases k1
        rw [hn] at k2
        cases k2
      · rw [List.getElem?_set_ne n2]
        exact s.sep j k as bs q hjk z1 z2 g1
/-- the list of slot i is changed -/
theorem SS.mut {σ : L2.St} {Hd H : Hp} (s : SS S Γ σ Hd H) (i : Nat) {l : Addr} {ds ds' : List D} {vs' : List V} (hΓ : Γ[i]? = some (.own ds)) (hσ : σ[i]? = some (some (.ref l))) (r : RpA S.K Hd vs' ds') (hz : ds'.length ≤ sizeMax) :
    SS S (Γ.set i (.own ds')) σ Hd (upd H l (.lst vs')) := by
  obtain ⟨l0, vs, k1, k2, k3, k4, k5, k6⟩ := s.own i ds hΓ
  rw [hσ] at k1
  cases k1
  have hi : i < Γ.length := (List.getElem?_eq_some_iff.mp hΓ).1
  have ne : ∀ (j : Nat) (x : Slot), (Γ.set i (.own ds'))[j]? = some x → (i = j ∧ x = .own ds') ∨ (i ≠ j ∧ Γ[j]? = some x) := fun j x h => by
    by_cases q : i = j
    · subst q
      rw [List.getElem?_set_self hi] at h
      cases h
      exact .inl ⟨rfl, rfl⟩
    · rw [List.getElem?_set_ne q] at h
      exact .inr ⟨q, h⟩
  refine ⟨by simpa using s.len, fun b o q => ?_, fun b o q => ?_, s.b2, s.b3, fun j d h => ?_, fun j d h => ?_, fun j k as bs q hjk h1 h2 g1 => ?_⟩
  · rw [upd_ne (ne_of_none q k3)]
    exact s.sub b o q
  · rw [upd_ne (ne_of_none q k4)]
    exact s.b1 b o q
  · rcases ne j _ h with ⟨_, z⟩ | ⟨n, z⟩
    · cases z
    · exact s.dat j d z
  · rcases ne j _ h with ⟨rfl, z⟩ | ⟨n, z⟩
    · cases z
      exact ⟨l, vs', hσ, upd_same, k3, k4, r, hz⟩
    · obtain ⟨l2, vs2, q1, q2, q3⟩ := s.own j d z
      refine ⟨l2, vs2, q1, ?_, q3⟩
      rw [upd_ne (fun e => s.sep i j ds d l n hΓ z hσ (by rw [q1, e]))]
      exact q2
  · have f : ∀ (j : Nat) (as : List D), (Γ.set i (.own ds'))[j]? = some (Slot.own as) → ∃ as', Γ[j]? = some (Slot.own as') := fun j as h => by
      rcases ne j _ h with ⟨rfl, z⟩ | ⟨n, z⟩
      · exact ⟨ds, hΓ⟩
      · exact ⟨as, z⟩
    obtain ⟨x1, z1⟩ := f j as h1
    obtain ⟨x2, z2⟩ := f k bs h2
    exact s.sep j k x1 x2 q hjk z1 z2 g1
/-- from here on the list is a datum -/
theorem db_freeze (i : Nat) {ds : List D} {m : Rs (Out A)} (hΓ : Γ[i]? = some (.own ds)) (k : DB S (Γ.set i (.dat (.list ds))) ss G m) : DB S Γ ss G m := by
  obtain ⟨t, h1, h2⟩ := k
  refine ⟨t, h1, fun σ Hd H E s p => ?_⟩
  obtain ⟨l, vs, k1, k2, k3, k4, k5, k6⟩ := s.own i ds hΓ
  have hi : i < Γ.length := (List.getElem?_eq_some_iff.mp hΓ).1
  have e1 : Same Hd (upd Hd l (.lst vs)) := same_new k3
  have ne : ∀ (j : Nat) (x : Slot), (Γ.set i (.dat (.list ds)))[j]? = some x → (i = j ∧ x = .dat (.list ds)) ∨ (i ≠ j ∧ Γ[j]? = some x) := fun j x h => by
    by_cases q : i = j
    · subst q
      rw [List.getElem?_set_self hi] at h
      cases h
      exact .inl ⟨rfl, rfl⟩
    · rw [List.getElem?_set_ne q] at h
      exact .inr ⟨q, h⟩
  refine h2 σ (upd Hd l (.lst vs)) H E ⟨by simpa using s.len, fun b o q => ?_, s.b1, s.b2.trans e1, fun b h3 h4 => ?_, fun j d h => ?_, fun j d h => ?_, fun j k as bs q hjk g1 g2 => ?_⟩ (by rw [List.length_set]; exact p.after e1)
  · by_cases hb : b = l
    · subst hb
      rw [upd_same] at q
      cases q
      exact k2
    · rw [upd_ne hb] at q
      exact s.sub b o q
  · rw [upd_ne (fun z => h3 (by rw [z]; exact k4))]
    exact s.b3 b h3 h4
  · rcases ne j _ h with ⟨rfl, z⟩ | ⟨n, z⟩
    · cases z
      exact ⟨.ref l, k1, Rp.list upd_same (k5.mono e1) k6⟩
    · obtain ⟨v, q1, q2⟩ := s.dat j d z
      exact ⟨v, q1, q2.mono e1⟩
  · rcases ne j _ h with ⟨_, z⟩ | ⟨n, z⟩
    · cases z
    · obtain ⟨l2, vs2, q1, q2, q3, q4, q5, q6⟩ := s.own j d z
      refine ⟨l2, vs2, q1, q2, ?_, q4, q5.mono e1, q6⟩
      rw [upd_ne (fun e => s.sep i j ds d l n hΓ z k1 (by rw [q1, e]))]
      exact q3
  · rcases ne j _ g1 with ⟨_, z⟩ | ⟨n, z⟩
    · cases z
    · rcases ne k _ g2 with ⟨_, z'⟩ | ⟨n', z'⟩
      · cases z'
      · exact s.sep j k as bs q hjk z z'
/-- x = a new list, which is changed later -/
theorem db_setOwn (i : Nat) {x : Str} {px : Pos} {m : Rs (List D)} {f : List D → Rs (Out A)} (h : DF S Γ e m) (k : ∀ ds, DB S (Γ.set i (.own ds)) rest G (f ds)) (hs : ∀ (env : Env) (line : Nat), swapsWith e (some (.Name x px)) line env = pure false := by intro _ _; rfl)
    (hN : S.N[i]? = some x := by rfl) (hl : Loc S.sc x := by first | exact Or.inl rfl | exact Or.inr rfl) (hst : S.st x = true := by rfl) : DB S Γ (.Assign [.Name x px] e pos :: rest) G (m.bind f) := by
  obtain ⟨t, h1, h2⟩ := h
  refine ⟨tSeq (tAsg t (gName i)) (wpB S rest), fun X hX => pss_cons (ps_set hX.nd (by rw [hX.N]; exact hN) (by rw [hX.sc]; exact hl) (h1 X hX) (hs _ _) (hX.st x hst)) (ps_wp hX), fun σ Hd H E s p => h2 σ Hd H _ s ?_⟩
  cases m with
  | ok d => exact fun l vs Hd' H' e' q1 q2 q3 r hz => (k d).wp _ Hd' H' E (s.setOwn e' i q1 q2 q3 r hz) (by rw [List.length_set]; exact p.after e'.d)
  | exc c => exact exc_post s p
  | bad => exact p.elim
/-- x = [.. for ..] on one line, x a local -/
theorem db_setLc (i : Nat) {x : Str} {px lp : Pos} {elt : Expr} {gs : List Comprehension} {scope : Scope} {m : Rs (List D)} {f : List D → Rs (Out A)} (h : DFL S Γ (.ListComp elt gs scope lp) m) (k : ∀ ds, DB S (Γ.set i (.dat (.list ds))) rest G (f ds))
    (hN : S.N[i]? = some x := by rfl) (hl : S.sc.names.lookup x = some .local := by rfl) (hline : (px.line == lp.line) = true := by rfl) (ha : (scope.names.any fun (n, k) => n == x && (k == .local || k == .cell)) = false := by rfl) :
    DB S Γ (.Assign [.Name x px] (.ListComp elt gs scope lp) pos :: rest) G (m.bind f) := by
  obtain ⟨t, h1, h3, h2⟩ := h
  refine ⟨tSeq (tAsg t (gName i)) (wpB S rest), fun X hX => pss_cons (h3 X hX i x px pos (by rw [hX.N]; exact hN) (by rw [hX.sc]; exact hl) (sw_true hX.kind (by rw [hX.sc]; exact hl) hline ha)) (ps_wp hX), fun σ Hd H E s p => h2 σ Hd H _ s ?_⟩
  cases m with
  | ok d =>
    intro l vs Hd' H' e' q1 q2 q3 r hz
    have e2 := upd_data e' q1 q2 q3
    exact (k d).wp _ _ H' E ((s.ext e2).set i (Rp.list upd_same (r.mono (same_new q3)) hz)) (by rw [List.length_set]; exact p.after e2.d)
  | exc c => exact exc_post s p
  | bad => exact p.elim
/-- x.append(e) -/
theorem db_append (i : Nat) {x : Str} {px ap cp : Pos} {ds : List D} {f : D → Rs (Out A)} (hΓ : Γ[i]? = some (.own ds)) (h : DE S Γ e m) (k : ∀ d, DB S (Γ.set i (.own (ds ++ [d]))) rest G (f d)) (hN : S.N[i]? = some x := by rfl)
    (hv : Vis S.sc x := by first | exact Or.inl rfl | exact Or.inr (Or.inl rfl)) (hline : (ap.endLine == cp.line) = true := by rfl) (hst : NoStar e := by intro _ _; rfl) (hd : (x == ("__debug__" : Str)) = false := by decide) (hcd : (x == ("__classdict__" : Str)) = false := by decide)
    (hb : ∀ env : Env, attributeBase (.Name x px) "append" env (eval (.Name x px) env) = eval (.Name x px) env := by intro _; rfl) (hsw : ∀ (env : Env) (line : Nat), swapsWith (.Call (.Attribute (.Name x px) "append" ap) [e] [] cp) none line env = pure false := by intro _ _; rfl) :
    DB S Γ (.Expr (.Call (.Attribute (.Name x px) "append" ap) [e] [] cp) pos :: rest) G (m.bind fun d => if ds.length < sizeMax then f d else .bad) := by
  obtain ⟨t, h1, h2⟩ := h
  refine ⟨tSeq (tDrop (tBM S.K "list" rAppend (tVar i) (tCons t tNil))) (wpB S rest), fun X hX => ?_, fun σ Hd H E s p => ?_⟩
  · have q := pe_bm (X := X) (apos := ap) (cpos := cp) PySem.F.plainAttrs_list PySem.F.slot_list_append PySem.F.type_list_append mt_append (fit_var (pos := px) hX hN hv hd hcd) (pa_cons (h1 X hX) pa_nil (hst _ _)) (hb _) (by rw [hst]; rfl) hline (hst _ _)
    rw [hX.K] at q
    exact pss_cons (ps_expr q (hsw _ _)) (ps_wp hX)
  · obtain ⟨l, vs, k1, k2, k3, k4, k5, k6⟩ := s.own i ds hΓ
    refine ⟨.ref l, k1, .inl ⟨rfl, _, .inl (.inl k2)⟩, h2 σ Hd H _ s ?_⟩
    cases m with
    | exc c => exact exc_post s p
    | bad => exact p.elim
    | ok d =>
      intro v Hd' H' e' r
      have p : BPost S Γ.length Hd G E (if ds.length < sizeMax then f d else .bad) := p
      split at p
      · rename_i hz
        have s' := s.ext e'
        refine ⟨l, vs, v, rfl, rfl, e'.a _ _ k2, by rw [k5.len, ← sizeMax_eq]; exact hz, ?_⟩
        exact (k d).wp _ Hd' _ E (s'.mut i hΓ k1 ((k5.mono e'.d).append (RpA.cons r RpA.nil)) (by simp; omega)) (by rw [List.length_set]; exact p.after e'.d)
      · exact p.elim
/-- what is known of an exception class of the module -/
structure ExcK (K : PySem.W.Frag) (mg : Str → Option Value) (x : Str) : Prop where
  g : mg x = some (.ref (He.ga K x))
  i : PySem.W.excIn K (He.ga K x) He.veBase "ValueError.__new__" = true
  k : PySem.W.keepIn K (.ref (He.ga K x)) = true
  b : PySem.W.subIn K (.ref (He.ga K x)) (.type "BaseException") = some true
  t : PySem.W.typeIn K (.ref (He.ga K x)) = some (.type "type")
theorem db_raise {x t : Str} {j : Nat} {p1 p2 p3 : Pos} (h : ExcK S.K S.mg x) (hg : GlS S x := by rfl) (hd : (x == ("__debug__" : Str)) = false := by decide) : DB S Γ (.Raise (some (.Call (.Name x p1) [.Constant (.str t) j p2] [] p3)) none pos :: rest) G (.exc x) := by
  refine ⟨tSeq (fun _ σ H => S.W (.ref (He.ga S.K x)) none σ H) tNever, fun X hX => ?_, fun σ Hd H E s p => p σ Hd H (s.weak (wk_no Γ))⟩
  have hm := hX.mg
  have hK := hX.K
  have q := pmk_own (X := X) (C := He.ga S.K x) (m := t) (j := j) (p := p1) (p2 := p2) (pos := p3) PySem.F.excBase_ValueError (by rw [hK]; exact h.i) (by rw [hm]; exact h.g) (by rw [hK]; exact h.k) (raises_own (by rw [hK]; exact h.b) (by rw [hK]; exact h.t)) (hg.gl hX) hd
  exact pss_cons (ps_raise hX.calm hX.takes q) pss_never
end BG
namespace BG
open PySem PySem.Spec PyProof.Rows L2

def gam0 (n : Nat) (ds : List D) : Gam := ds.map Slot.dat ++ List.replicate (n - ds.length) .no
theorem gam0_len {n : Nat} {ds : List D} (h : ds.length ≤ n) : (gam0 n ds).length = n := by
  unfold gam0
  simp
  omega
theorem ss_start {S : Sc} {N : List Str} {vs : List V} {ds : List D} (r : RpA S.K S.Bd vs ds) (sb : Same S.Bd S.Bh) : SS S (gam0 N.length ds) (L2.start N vs) S.Bd S.Bh := by
  have hl := r.len
  have noown : ∀ (i : Nat) (x : List D), (gam0 N.length ds)[i]? ≠ some (.own x) := fun i x h => by
    unfold gam0 at h
    rw [List.getElem?_append] at h
    split at h
    · rw [List.getElem?_map] at h
      obtain ⟨_, _, q⟩ := Option.map_eq_some_iff.mp h
      cases q
    · rw [List.getElem?_replicate] at h
      split at h
      · cases h
      · cases h
  refine ⟨by unfold gam0 L2.start; simp; omega, sb, Same.refl _, Same.refl _, fun _ _ h => h, fun i d h => ?_, fun i x h => absurd h (noown i x), fun i j x y l _ h => absurd h (noown i x)⟩
  unfold gam0 at h
  rw [List.getElem?_append] at h
  split at h
  · rw [List.getElem?_map] at h
    obtain ⟨z, hz, q⟩ := Option.map_eq_some_iff.mp h
    cases q
    obtain ⟨v, hv, rv⟩ := r.get hz
    refine ⟨v, ?_, rv⟩
    unfold L2.start
    rw [List.getElem?_append, if_pos (by rw [List.length_map]; exact (List.getElem?_eq_some_iff.mp hv).1), List.getElem?_map, hv]
    rfl
  · rw [List.getElem?_replicate] at h
    split at h
    · cases h
    · cases h
section
variable {P : Program} {w : World} {K : PySem.W.Frag} {mg : Str → Option Value} {base : Heap}
/-- what a def's body is asked: for every frame -/
def BodyOk (P : Program) (w : World) (K : PySem.W.Frag) (mg : Str → Option Value) (base : Heap) (N : List Str) (sc : Scope) (body : List Stmt) (k n : Nat) (mb : List D → Rs (Out Unit)) : Prop :=
  ∀ (W : WX) (Bd Bh : Hp) (ds : List D), ds.length = n → DB (⟨P, w, K, mg, base, N, sc, fun _ => true, k, W, Bd, Bh, true⟩ : Sc) (gam0 N.length ds) body (fun _ : Unit => noG N.length) (mb ds)
theorem fn_of {x y : Str} {params : Arguments} {body : List Stmt} {sc : Scope} {fd : FuncData} {N ps : List Str} {k n : Nat} {mb : List D → Rs (Out Unit)} (F : FunD K y y params body sc [] [] (He.ga K x) fd) (Z : FnScope N ps sc) (hn : ps.length = n) (hnN : n ≤ N.length)
    (h : BodyOk P w K mg base N sc body k n mb) : FnOk P w K mg base (L2.CX P w) (k + 1) (He.ga K x) fd ps (spD K n fun ds => (mb ds).fin) := by
  refine F.ok Z (fun vs H Q E q => by rw [q.1, hn]) (fun cdv A outer s H vs Q E hr q => ?_)
  obtain ⟨hl, ds, Hd, sb, r, q⟩ := q
  let S0 : Sc := ⟨P, w, K, mg, base, N, sc, fun _ => true, k, fun cls d _ H => E cls d H, Hd, H, true⟩
  obtain ⟨t, t1, t2⟩ := h (fun cls d _ H => E cls d H) Hd H ds (by rw [← r.len]; exact hl)
  have fit : Fits S0 (cxOf (L2.CX P w) P w K mg base N y sc (He.ga K x) cdv A outer s H E) :=
    ⟨rfl, rfl, rfl, rfl, rfl, rfl, rfl, fun _ _ => .inl rfl, Z.nd, Z.kind, rfl, hr, takes_of rfl rfl rfl rfl, passes_of rfl, fun _ => ⟨rfl, rfl⟩⟩
  refine ⟨t, t1 _ fit, t2 _ Hd H _ (ss_start (S := S0) r sb) ?_⟩
  have len : (gam0 N.length ds).length = N.length := gam0_len (by rw [← r.len, hl]; exact hnN)
  rw [len]
  dsimp only at q
  cases hm : mb ds with
  | bad =>
    rw [hm] at q
    exact q
  | exc c =>
    rw [hm] at q
    exact fun σ' Hd' H' s' => q Hd' H' s'.base
  | ok o =>
    rw [hm] at q
    cases o with
    | nx a => exact fun σ' Hd' H' s' _ => q _ Hd' H' s'.base Rp.non
    | rt d => exact fun v Hd' H' e' rr => q v Hd' H' e' rr
theorem cal_of {x y : Str} {params : Arguments} {body : List Stmt} {sc : Scope} {fd : FuncData} {N ps : List Str} {k n : Nat} {mb : List D → Rs (Out Unit)} (F : FunD K y y params body sc [] [] (He.ga K x) fd) (Z : FnScope N ps sc) (hn : ps.length = n) (hnN : n ≤ N.length)
    (g : mg x = some (.ref (He.ga K x))) (hb : Binds K fd ps []) (h : BodyOk P w K mg base N sc body k n mb) : Cal P w K mg base x (k + 1) n fun ds => (mb ds).fin :=
  ⟨He.ga K x, fd, ps, fn_of F Z hn hnN h, g, F.kp, hb⟩
theorem fn_eq {f : Addr} {fd : FuncData} {ps : List Str} {k n : Nat} {m m' : List D → Rs D} (F : FnOk P w K mg base (L2.CX P w) k f fd ps (spD K n m)) (h : ∀ ds, ds.length = n → m ds = m' ds) : FnOk P w K mg base (L2.CX P w) k f fd ps (spD K n m') :=
  F.imp fun vs H Q E z => by
    obtain ⟨hl, ds, Hd, sb, r, z⟩ := z
    refine ⟨hl, ds, Hd, sb, r, ?_⟩
    rw [h ds (by rw [← r.len]; exact hl)]
    exact z
theorem cal_eq {x : Str} {k n : Nat} {m m' : List D → Rs D} (C : Cal P w K mg base x k n m) (h : ∀ ds, ds.length = n → m ds = m' ds) : Cal P w K mg base x k n m' := by
  obtain ⟨f, fd, ps, F, q⟩ := C
  refine ⟨f, fd, ps, F.imp fun vs H Q E z => ?_, q⟩
  obtain ⟨hl, ds, Hd, sb, r, z⟩ := z
  refine ⟨hl, ds, Hd, sb, r, ?_⟩
  rw [h ds (by rw [← r.len]; exact hl)]
  exact z
theorem Cal.mono {x : Str} {j k n : Nat} {m : List D → Rs D} (C : Cal P w K mg base x j n m) (h : j ≤ k) : Cal P w K mg base x k n m := by
  obtain ⟨f, fd, ps, F, q⟩ := C
  exact ⟨f, fd, ps, F.mono h, q⟩
end
end BG
namespace BG
open PySem PySem.Spec PyProof.Rows L2
variable {S : Sc} {Γ : Gam} {a b c e : Expr} {ma mb mc m : Rs D} {pos p : Pos}

theorem lt_ltL : ∀ xs ys : List Int, decide (xs < ys) = ltL xs ys
  | [], [] => by simp [ltL]
  | [], _ :: _ => by simp [ltL]
  | _ :: _, [] => by simp [ltL]
  | x :: xs, y :: ys => by
    rw [ltL, ← lt_ltL xs ys]
    simp only [List.cons_lt_cons_iff]
    rw [Bool.eq_iff_iff]
    simp
theorem dataLt_tupI (xs ys : List Int) : PySem.W.dataLt (tupI xs) (tupI ys) = ltL xs ys := by
  rw [← lt_ltL, ← PySem.W.dataLt_ints]
  unfold tupI
  rw [PySem.W.dataLt_tuple]
  rfl
theorem intsOf_map : ∀ ns : List Int, intsOf (ns.map .int) = some ns
  | [] => rfl
  | n :: ns => by
    show (intsOf (ns.map .int)).map (n :: ·) = _
    rw [intsOf_map ns]
    rfl
theorem intsOf_eq : ∀ {ds : List D} {ns : List Int}, intsOf ds = some ns → ds = ns.map .int
  | [], ns, h => by
    have h : some [] = some ns := h
    cases h; rfl
  | d :: ds, ns, h => by
    cases d with
    | int b =>
      have h : (intsOf ds).map (b :: ·) = some ns := h
      obtain ⟨r, hr, rfl⟩ := Option.map_eq_some_iff.mp h
      rw [intsOf_eq hr]
      rfl
    | none => exact nomatch (show (none : Option (List Int)) = some ns from h)
    | bool _ => exact nomatch (show (none : Option (List Int)) = some ns from h)
    | str _ => exact nomatch (show (none : Option (List Int)) = some ns from h)
    | list _ => exact nomatch (show (none : Option (List Int)) = some ns from h)
    | tuple _ => exact nomatch (show (none : Option (List Int)) = some ns from h)
    | dict _ => exact nomatch (show (none : Option (List Int)) = some ns from h)
theorem tupsOf_eq : ∀ {ds : List D} {ls : List (List Int)}, tupsOf ds = some ls → ds = ls.map tupI
  | [], ns, h => by
    have h : some [] = some ns := h
    cases h; rfl
  | d :: ds, ns, h => by
    cases d with
    | tuple b =>
      have h : ((intsOf b).bind fun ns => (tupsOf ds).map (ns :: ·)) = some ns := h
      obtain ⟨r, hr, q⟩ := Option.bind_eq_some_iff.mp h
      obtain ⟨t, ht, rfl⟩ := Option.map_eq_some_iff.mp q
      rw [tupsOf_eq ht, intsOf_eq hr]
      rfl
    | none => exact nomatch (show (none : Option (List (List Int))) = some ns from h)
    | bool _ => exact nomatch (show (none : Option (List (List Int))) = some ns from h)
    | str _ => exact nomatch (show (none : Option (List (List Int))) = some ns from h)
    | list _ => exact nomatch (show (none : Option (List (List Int))) = some ns from h)
    | int _ => exact nomatch (show (none : Option (List (List Int))) = some ns from h)
    | dict _ => exact nomatch (show (none : Option (List (List Int))) = some ns from h)

abbrev leD : V × D → V × D → Bool := PySem.W.dataLe false (fun p : V × D => p.2)
def rSortD : List V → Hp → VK → Prop := fun vs H Q => ∃ a xs ds, vs = [V.ref a] ∧ Rd H a (.lst xs) ∧ DvA H xs ds ∧ PySem.W.AllAlike ds ∧ PySem.W.Sortable ds ∧ (∀ d ∈ ds, PyData.depth d ≤ 60) ∧
  ∀ p, H p = none → Q (.ref p) (upd H p (.lst (((xs.zip ds).mergeSort leD).map (·.1))))
theorem zip_snd {α β : Type} : ∀ {xs : List α} {ys : List β}, xs.length = ys.length → (xs.zip ys).map (·.2) = ys
  | [], [], _ => rfl
  | x :: xs, y :: ys, h => by
    show y :: (xs.zip ys).map (·.2) = _
    rw [zip_snd (by simpa using h)]
theorem zip_fst {α β : Type} : ∀ {xs : List α} {ys : List β}, xs.length = ys.length → (xs.zip ys).map (·.1) = xs
  | [], [], _ => rfl
  | x :: xs, y :: ys, h => by
    show x :: (xs.zip ys).map (·.1) = _
    rw [zip_fst (by simpa using h)]
theorem each_vals : ∀ {xs : List V} {ds : List D} {us : List Value}, Vals xs us → xs.length = ds.length → PySem.W.EachIs (fun u (p : V × D) => RelV p.1 u) us (xs.zip ds)
  | _, [], _, .nil, _ => .nil
  | _, d :: ds, _, .cons r t, h => .cons r (each_vals t (by simpa using h))
theorem vals_each : ∀ {bs : List (V × D)} {us : List Value}, PySem.W.EachIs (fun u (p : V × D) => RelV p.1 u) us bs → Vals (bs.map (·.1)) us
  | _, _, .nil => .nil
  | _, _, .cons r t => .cons r (vals_each t)
theorem each_reads {X : Cx} {pins : List (Addr × Obj)} {σ : L2.St} {H : Hp} {s : Shared} (I : Inv X pins σ H s) : ∀ {xs : List V} {ds : List D} {us : List Value}, DvA H xs ds → Vals xs us → PySem.W.EachIs (fun u (p : V × D) => ∃ as, Reads s.heap u p.2 as) us (xs.zip ds)
  | _, _, _, .nil, .nil => .nil
  | _, _, _, .cons h t, .cons r q => .cons (Dp.reads I _ _ _ h.dp r) (each_reads I t q)
theorem cr_sortD {X : Cx} (hu : X.A.units + 64 < cLine) : CallR X (.builtin "sorted") rSortD := by
  intro pins s σ H vs us Q I r h
  obtain ⟨a, xs, ds, rfl, ha, hd, al, so, dp, q⟩ := h
  rw [Vals.ref1 r]
  obtain ⟨hz, its, n, rv, e⟩ := ha.ok I.hok
  have hlen := hd.length
  have lz : (xs.zip ds).length = xs.length := by rw [List.length_zip]; omega
  have e2 : (xs.zip ds).map (fun p : V × D => p.2) = ds := zip_snd hlen
  refine PySem.W.sorted_data (vs := its) (bs := xs.zip ds) (enc := fun p : V × D => p.2) (R := fun u (p : V × D) => RelV p.1 u) ⟨_, e, rfl, n, rfl⟩ (each_vals rv hlen) (each_reads I hd rv) (by rw [e2]; exact al) (by rw [e2]; exact so) (by rw [lz]; exact hz)
    (fun b hb => ?_) fun out ho eo => ?_
  · have hm : b.2 ∈ ds := by rw [← e2]; exact List.mem_map.mpr ⟨b, hb, rfl⟩
    have := dp b.2 hm
    omega
  · obtain ⟨c, hc⟩ := sortedAll_at s.heap its (List.toArray out)
    have hn : H (s.heap.objs.size + 1) = none := I.hok.fresh (Nat.le_succ _)
    have vv := vals_each eo
    have ll : (((xs.zip ds).mergeSort leD).map (·.1)).length ≤ sizeLine := by
      rw [List.length_map, List.length_mergeSort, lz]
      exact hz
    exact ⟨.ref _, _, I.laid (t' := s.toks) (o := .lst (((xs.zip ds).mergeSort leD).map (·.1))) (fun b o q => sortedAll_old q) (Nat.le_succ _) ⟨ll, out, c, vv, hc⟩, rfl, q _ hn⟩
/-- what the sorted pairs are -/
theorem sort_pairs {K : PySem.W.Frag} {Hd : Hp} {xs : List V} {ds : List D} (r : RpA K Hd xs ds) : RpA K Hd (((xs.zip ds).mergeSort leD).map (·.1)) (((xs.zip ds).mergeSort leD).map (·.2)) := by
  have key : ∀ l : List (V × D), (∀ p ∈ l, Rp K Hd p.1 p.2) → RpA K Hd (l.map (·.1)) (l.map (·.2)) := by
    intro l
    induction l with
    | nil => intro _; exact RpA.nil
    | cons p l ih => intro h; exact RpA.cons (h p (by simp)) (ih fun q hq => h q (List.mem_cons_of_mem _ hq))
  refine key _ fun p hp => ?_
  have hm : p ∈ xs.zip ds := (List.mergeSort_perm _ _).mem_iff.mp hp
  obtain ⟨i, hi, hpi⟩ := List.getElem_of_mem hm
  rw [List.getElem_zip] at hpi
  have h1 : xs[i]? = some p.1 := by rw [← hpi]; exact List.getElem?_eq_getElem _
  have h2 : ds[i]? = some p.2 := by rw [← hpi]; exact List.getElem?_eq_getElem _
  obtain ⟨v, hv, rv⟩ := r.get h2
  rw [h1] at hv
  cases hv
  exact rv
theorem leD_eq (p q : V × D) : leD p q = !PySem.W.dataLt q.2 p.2 := by
  show PySem.W.dataLe false (fun p : V × D => p.2) p q = _
  rw [PySem.W.dataLe_eq]
  rfl
theorem sort_data {α : Type} {lt : α → α → Bool} (o : StrictO lt) {enc : α → D} {dec : D → α} (inv : ∀ a, dec (enc a) = a) (hlt : ∀ a b, PySem.W.dataLt (enc a) (enc b) = lt a b) {xs : List V} {ns : List α} (hl : xs.length = ns.length) :
    ((xs.zip (ns.map enc)).mergeSort leD).map (·.2) = (isort lt ns).map enc := by
  have hl' : xs.length = (ns.map enc).length := by simpa using hl
  -- the pairs are those of ns
  have e : xs.zip (ns.map enc) = (xs.zip ns).map fun p => (p.1, enc p.2) := by
    rw [List.zip_map_right]
    rfl
  have pm : (((xs.zip (ns.map enc)).mergeSort leD).map (·.2)).Perm (ns.map enc) := by
    have := (List.mergeSort_perm (xs.zip (ns.map enc)) leD).map (fun p : V × D => p.2)
    rw [zip_snd hl'] at this
    exact this
  have tot : ∀ p q : V × D, p ∈ xs.zip (ns.map enc) → q ∈ xs.zip (ns.map enc) → True := fun _ _ _ _ => trivial
  have sw : ((xs.zip (ns.map enc)).mergeSort leD).Pairwise (fun p q => leD p q = true) := by
    -- carry the order over to ns
    have e3 : (xs.zip (ns.map enc)).mergeSort leD = ((xs.zip ns).mergeSort fun p q => !lt q.2 p.2).map fun p => (p.1, enc p.2) := by
      rw [e]
      refine (List.map_mergeSort ?_).symm
      intro p _ q _
      rw [leD_eq]
      simp only [hlt]
    rw [e3]
    refine List.pairwise_map.mpr ?_
    have := List.pairwise_mergeSort (le := fun p q : V × α => !lt q.2 p.2) (fun p q r h1 h2 => ?_) (fun p q => ?_) (xs.zip ns)
    · refine this.imp fun {p q} h => ?_
      rw [leD_eq]
      simp only [hlt]
      exact h
    · simp only [Bool.not_eq_true'] at *
      cases q1 : lt r.2 p.2 with
      | false => rfl
      | true =>
        cases q2 : lt r.2 q.2 with
        | true => rw [q2] at h2; cases h2
        | false =>
          cases q3 : lt q.2 r.2 with
          | true =>
            have := o.tr _ _ _ q3 q1
            rw [this] at h1
            cases h1
          | false =>
            have z := o.tri _ _ q3 q2
            rw [z, q1] at h1
            cases h1
    · cases q1 : lt q.2 p.2 with
      | false => simp
      | true => simp [o.asym q1]
  -- back to α
  have back : ∀ l : List D, (∀ d ∈ l, ∃ a, d = enc a) → ∃ as : List α, l = as.map enc := by
    intro l
    induction l with
    | nil => intro _; exact ⟨[], rfl⟩
    | cons d l ih =>
      intro h
      obtain ⟨a, ha⟩ := h d (by simp)
      obtain ⟨as, has⟩ := ih fun d hd => h d (List.mem_cons_of_mem _ hd)
      exact ⟨a :: as, by rw [ha, has]; rfl⟩
  obtain ⟨as, has⟩ := back _ fun d hd => by
    obtain ⟨a, _, rfl⟩ := List.mem_map.mp (pm.mem_iff.mp hd)
    exact ⟨a, rfl⟩
  rw [has] at pm ⊢
  have pa : as.Perm ns := by
    have q := pm.map dec
    rw [List.map_map, List.map_map] at q
    have i : dec ∘ enc = id := funext inv
    rw [i, List.map_id, List.map_id] at q
    exact q
  have sa : as.Pairwise (fun a b => lt b a = false) := by
    have h1 : (((xs.zip (ns.map enc)).mergeSort leD).map (·.2)).Pairwise (fun d e => PySem.W.dataLt e d = false) := by
      refine List.pairwise_map.mpr (sw.imp fun {p q} h => ?_)
      rw [leD_eq] at h
      simpa using h
    rw [has] at h1
    exact (List.pairwise_map.mp h1).imp fun {a b} h => by rw [hlt] at h; exact h
  rw [isort_is o sa pa]
/-- the int, the ints back -/
def toI : D → Int
  | .int i => i
  | _ => 0
def toL : D → List Int
  | .tuple xs => xs.map toI
  | _ => []
theorem toL_tupI (l : List Int) : toL (tupI l) = l := by
  show (l.map PyData.int).map toI = l
  rw [List.map_map]
  exact List.map_id l
theorem alike_tupI (a b : List Int) : PySem.W.alike (tupI a) (tupI b) = true := by
  show PySem.W.alike (.tuple (a.map .int)) (.tuple (b.map .int)) = true
  rw [PySem.W.alike]
  exact PySem.W.alike_ints a b
theorem depth_tupI (a : List Int) : PyData.depth (tupI a) ≤ 60 := by
  show PyData.depth (.tuple (a.map .int)) ≤ 60
  rw [PyData.depth, PySem.W.depth_ints]
  decide
theorem szA_ints' (ns : List Int) : szA (ns.map PyData.int) = true := szA_of fun d hd => by
  obtain ⟨i, _, rfl⟩ := List.mem_map.mp hd
  simp [szD]
theorem cf_sorted : CallF1 S (.builtin "sorted") pySorted := by
  refine ⟨rSortD, fun X hX => cr_sortD (units64 hX), fun Γ σ Hd H v d Q s r q => ?_⟩
  cases d with
  | list ds =>
    obtain ⟨l, vs, rfl, h1, h2, h3⟩ := r.seqL s.sub
    have sp := sort_pairs h2
    have fin : ∀ out : List D, (((vs.zip ds).mergeSort leD).map (·.2)) = out → FPost S σ Hd H Q (.ok out) → ∀ p, H p = none → Q (.ref p) (upd H p (.lst (((vs.zip ds).mergeSort leD).map (·.1)))) := fun out eo q p hn => by
      rw [eo] at sp
      refine q p _ Hd _ (Ext.newOwn s.sub hn) hn upd_same (s.sub.free hn) sp ?_
      rw [← eo, List.length_map, List.length_mergeSort, List.length_zip]
      omega
    have q2 : FPost S σ Hd H Q (match intsOf ds with | some ns => .ok ((isort ltI ns).map .int) | none => match tupsOf ds with | some ls => if ∀ l ∈ ls, l ≠ [] then .ok ((isort ltL ls).map tupI) else .bad | none => .bad) := q
    cases hi : intsOf ds with
    | some ns =>
      rw [hi] at q2
      have e := intsOf_eq hi
      subst e
      refine ⟨l, vs, _, rfl, h1, h2.1.mono s.sub, PySem.W.AllAlike.of fun _ _ => by simp [PySem.W.alike], PySem.W.Sortable.others (enc := PyData.int) (fun _ => And.intro (fun h => nomatch h) fun _ h => nomatch h), fun d hd => ?_, fin _ (sort_data (dec := toI) ltI_o (fun _ => rfl) (fun a b => PySem.W.dataLt_int a b) (by rw [h2.len]; simp)) q2⟩
      obtain ⟨i, _, rfl⟩ := List.mem_map.mp hd
      simp [PyData.depth]
    | none =>
      rw [hi] at q2
      cases ht : tupsOf ds with
      | none => rw [ht] at q2; exact q2.elim
      | some ls =>
        rw [ht] at q2
        have q3 : FPost S σ Hd H Q (if ∀ l ∈ ls, l ≠ [] then .ok ((isort ltL ls).map tupI) else .bad) := q2
        split at q3
        · rename_i hne
          have e := tupsOf_eq ht
          subst e
          refine ⟨l, vs, _, rfl, h1, h2.1.mono s.sub, PySem.W.AllAlike.of alike_tupI, .inl fun d hd => ?_, fun d hd => ?_, fin _ (sort_data (dec := toL) ltL_o toL_tupI dataLt_tupI (by rw [h2.len]; simp)) q3⟩
          · obtain ⟨k, hk, rfl⟩ := List.mem_map.mp hd
            cases k with
            | nil => exact absurd rfl (hne _ hk)
            | cons x xs => exact ⟨.int x, xs.map .int, rfl⟩
          · obtain ⟨k, hk, rfl⟩ := List.mem_map.mp hd
            exact depth_tupI k
        · exact q3.elim
  | none => exact q.elim
  | bool _ => exact q.elim
  | int _ => exact q.elim
  | str _ => exact q.elim
  | tuple _ => exact q.elim
  | dict _ => exact q.elim
end BG
namespace PySem
open PySem.Spec PyProof.Rows L2
section
variable {P : Program} {w : World} {A : Around} {E : Value → Shared → Prop} {s : Shared}
abbrev bgSet0 (w : World) : Obj := { cls := .type "set", dict := none, data := .set #[] 0 (.fresh 0 0 (!w.params.followText "set-order")) }
set_option maxHeartbeats 4000000 in
theorem bg_set_list {l : Addr} {items : Array Value} (ns : List Int) {Q : Value → Shared → Prop} (hh : A.handled = none) (hl : s.heap.IsList l items) (hit : IntsAre items.toList ns) (hb : ns.length + 1 < scanBound)
    (h : ∀ (h' : Heap) (tk c : Nat), SetR w h' s.heap.objs.size (fun j => decide (j ∈ ns)) c → c ≤ ns.length → (∀ b o, s.heap.get? b = some o → h'.get? b = some o) → Q (.ref s.heap.objs.size) { s with heap := h', toks := tk }) :
    wpAny (model P w) A (call (.type "set") [.ref l]) Q E s := by
  have sz : items.size = ns.length := by simpa using IntsAre.length hit
  obtain ⟨c, tl, hmro⟩ := F.called_set.mro; have hmade := F.called_set.made; have hsub := F.called_set.sub
  refine wpAny_call (codeAny_of_tree ?_); show wpAny _ _ (callAny (.type "set") _) _ _ _
  refine wpAny_pure ⟨Code.quiet_builtin _ (by decide +kernel), codeAny_builtin F.entry_type_call ?_⟩; rw [Around.under_plain (weight_type_call_type "set" [.ref l] []) rfl]
  have h1 := F.called_set.notType; have h2 := F.called_set.canCreate; have hct := F.typeCall_set_1 (.ref l)
  repeat (any_goals (first | assumption | wp_step))
  refine codeAny_mono (code_set_led1 (.ref l) (E := E) (Q₁ := fun ob s1 => ob = .ref s.heap.objs.size ∧ s1 = { s with heap := s.heap.push (bgSet0 w) }) ⟨rfl, rfl⟩) fun r s1 hr => ?_
  cases r with
  | error e => exact hr
  | ok fl =>
    cases fl with
    | next => exact hr.elim
    | brk => exact hr.elim
    | cont => exact hr.elim
    | ret ob =>
      obtain ⟨rfl, rfl⟩ := hr
      have gS : (s.heap.push (bgSet0 w)).get? s.heap.objs.size = some (bgSet0 w) := Heap.get?_push_size _ rfl
      have tS : Shared.TypeIs { s with heap := s.heap.push (bgSet0 w) } (.ref s.heap.objs.size) "set" := ⟨_, gS, rfl⟩
      have hli := F.called_set.init.lookup; have hbi := F.called_set.init.bind (.ref s.heap.objs.size)
      repeat (any_goals (first | assumption | wp_step))
      refine codeAny_mono (codeAny_call_builtin (R := wants (fun r s2 => r = .none ∧ ∃ h' tk c, s2 = { s with heap := h', toks := tk } ∧ SetR w h' s.heap.objs.size (fun j => decide (j ∈ ns)) c ∧ c ≤ ns.length ∧ ∀ b o, s.heap.get? b = some o → h'.get? b = some o) E)
        F.called_set.init.plain F.entry_set_init (check_set_init_1 tS ?_)) fun r2 s2 hr2 => ?_
      · obtain ⟨⟨oc, od, odt, osl⟩, go, hcl, nl, hdl⟩ := hl; simp only at hcl hdl; subst hcl; subst hdl
        have go' : (s.heap.push (bgSet0 w)).get? l = some { cls := .type "list", dict := od, data := .seq items nl, slots := osl } := Heap.get?_push_of_some _ go
        have z1 := F.sub_list_set; have z2 := F.sub_list_frozenset
        have z3 : (Value.type "list" == Value.type "dict") = false := by decide
        have il : (s.heap.push (bgSet0 w)).IsList l items := ⟨_, go', rfl, nl, rfl⟩
        unfold Builtin.«set.__init__» noKeywords Builtin.Frozenset.updateFrom; generalize hPI : pyIter = PI; wp_walk; subst hPI
        refine wpAny_pyIter_list il (wpAny_bind (wpAny_runValue ?_))
        have lS : l < s.heap.objs.size := Heap.lt_size go
        have h3 : A.in1.in1.in1.handled = none := by simp [hh]
        have nI : l ≠ (s.heap.push (bgSet0 w)).objs.size := by rw [Heap.size_push]; exact Nat.ne_of_lt (Nat.lt_succ_of_lt lS)
        have nS : s.heap.objs.size ∉ [(s.heap.push (bgSet0 w)).objs.size, l] := by
          rw [Heap.size_push]; simp only [List.mem_cons, List.not_mem_nil, or_false, not_or]; exact ⟨Nat.ne_of_lt (Nat.lt_succ_self _), Nat.ne_of_gt lS⟩
        have hval : ∀ (i : Nat) (v : Value), items[i]? = some v → ∃ k t, ns[i]? = some k ∧ v = .int k t := fun i v hv => by
          have hi : i < ns.length := by rw [← sz]; exact (Array.getElem?_eq_some_iff.mp hv).1
          obtain ⟨t, e⟩ := PyProof.Rows.IntsAre.int_at hit i v (by rw [Array.getElem?_toList]; exact hv)
          exact ⟨ns[i], t, List.getElem?_eq_getElem hi, by rw [e, List.getD_eq_getElem?_getD, List.getElem?_eq_getElem hi] <;> rfl⟩
        refine set_update_ints ((Walks.list h3 _ l nI items).toS) s.heap.objs.size nS ns sz hb hval (items.size - 0) 0 _ (by omega) (Nat.zero_le _) ⟨⟨_, Heap.get?_push_size _ rfl, rfl, rfl⟩, il.push _⟩ ⟨0, Nat.le_refl 0, setR_new_at (Heap.get?_push_of_some _ gS)⟩ ?_
        rintro ⟨h', g2, d', tk', os'⟩ c' hm hc' hS'
        obtain rfl : g2 = s.gens := hm.gens
        obtain rfl : d' = s.drawn := hm.drawn
        obtain rfl : os' = s.os := hm.os
        refine wpAny_pure (wpAny_pure ⟨rfl, h', tk', c', rfl, hS', by rw [← sz]; exact hc', fun b o e => ?_⟩)
        have b0 : b < s.heap.objs.size := Heap.lt_size e
        refine hm.heap b o ?_ (Heap.get?_push_of_some _ (Heap.get?_push_of_some _ e))
        simp only [List.mem_cons, List.not_mem_nil, or_false, not_or]
        exact ⟨Nat.ne_of_lt b0, by rw [Heap.size_push]; exact Nat.ne_of_lt (Nat.lt_succ_of_lt b0)⟩
      · cases r2 with
        | error e => exact hr2
        | ok fl2 =>
          cases fl2 with
          | next => exact hr2.elim
          | brk => exact hr2.elim
          | cont => exact hr2.elim
          | ret r =>
            obtain ⟨rfl, h', tk, c', rfl, hS', hc', hk'⟩ := hr2
            repeat (any_goals (first | assumption | wp_step))
            exact h _ _ _ hS' hc' hk'
end
end PySem
namespace BG
open PySem PySem.Spec PyProof.Rows L2
variable {S : Sc} {Γ : Gam} {a b c e : Expr} {ma mb mc m : Rs D} {pos p : Pos}

/-- set(xs), xs a list of ints -/
def rSetI (K : PySem.W.Frag) (w : World) : List V → Hp → VK → Prop := fun vs H Q => ∃ (l : Addr) (ns : List Int), vs = [V.ref l] ∧ SqL K H l (ns.map V.int) ∧ ns.length < 1000 ∧ ∀ x n, H x = none → n ≤ ns.length → Q (.ref x) (upd H x (SetO w x (fun j => decide (j ∈ ns)) n))
theorem cr_setI {X : Cx} (hc : X.calm = true) : CallR X (.type "set") (rSetI X.K X.w) := by
  intro pins s σ H xs us Q I r h
  obtain ⟨l, ns, rfl, hl, hf, q⟩ := h
  rw [Vals.ref1 r]
  obtain ⟨its, rv, pl, hz⟩ := I.list hl
  refine bg_set_list (P := X.prog) (w := X.w) ns (I.ok.hd hc) pl.isList (by simpa using rv.ints) (by unfold scanBound; omega) fun h' tk n R hn k => ?_
  exact ⟨.ref _, upd H s.heap.objs.size (SetO X.w s.heap.objs.size (fun j => decide (j ∈ ns)) n), I.laid (t' := tk) k (Nat.le_refl _) (setO_new R), rfl, q _ n (I.hok.fresh (Nat.le_refl _)) hn⟩
/-- sorted(a set of tuples of ints, none empty) -/
def rSortST (K : PySem.W.Frag) (P : Program) (w : World) : List V → Hp → VK → Prop := fun vs H Q => ∃ (x : Addr) (L : List (Addr × List Int)), vs = [V.ref x] ∧ H x = some (SetTO P w x L) ∧ (∀ p ∈ L, SqT K H p.1 (p.2.map V.int)) ∧ (∀ p ∈ L, p.2 ≠ []) ∧
  ∀ (L' : List (Addr × List Int)) (p : Addr), L'.Perm L → (L'.map (·.2)).Pairwise (fun a b => ltL a b = true) → H p = none → Q (.ref p) (upd H p (.lst (L'.map fun q => V.ref q.1)))
theorem each_refs {R : Value → (Addr × List Int) → Prop} : ∀ {L : List (Addr × List Int)}, (∀ q ∈ L, R (.ref q.1) q) → PySem.W.EachIs R (L.map fun q => Value.ref q.1) L
  | [], _ => .nil
  | q :: L, h => .cons (h q (by simp)) (each_refs fun r hr => h r (List.mem_cons_of_mem _ hr))
theorem refs_each : ∀ {L : List (Addr × List Int)} {us : List Value}, PySem.W.EachIs (fun u (q : Addr × List Int) => u = .ref q.1) us L → us = L.map fun q => Value.ref q.1
  | _, _, .nil => rfl
  | _, _, .cons h t => by rw [refs_each t, h]; rfl
theorem reads_tupI {h : Heap} {k : List Int} {x : Addr} (t : TS.TupInts h (.ref x) k) : ∃ as, Reads h (.ref x) (tupI k) as := by
  obtain ⟨b, items, e, ⟨o, ho, hc, n, hd⟩, hi⟩ := t
  cases e
  have : ∀ (k : List Int) (us : List Value), IntsAre us k → ∃ as, ReadsAll h us (k.map .int) as := by
    intro k us hk
    induction hk with
    | nil => exact ⟨[], .nil⟩
    | cons i t _ ih =>
      obtain ⟨as, q⟩ := ih
      exact ⟨_, .cons (.int i t) q⟩
  obtain ⟨as, q⟩ := this k items.toList hi
  exact ⟨_, Reads.tuple ho hc (by simpa using hd) q⟩
theorem sort_pairsL (L : List (Addr × List Int)) : (L.mergeSort (PySem.W.dataLe false fun q : Addr × List Int => tupI q.2)).Pairwise (fun p q => ltL q.2 p.2 = false) := by
  have e : (PySem.W.dataLe false fun q : Addr × List Int => tupI q.2) = fun p q => !ltL q.2 p.2 := by
    rw [PySem.W.dataLe_eq]
    funext p q
    show (!PySem.W.dataLt (tupI q.2) (tupI p.2)) = _
    rw [dataLt_tupI]
  rw [e]
  refine (List.pairwise_mergeSort (le := fun p q : Addr × List Int => !ltL q.2 p.2) (fun p q r h1 h2 => ?_) (fun p q => ?_) L).imp fun {p q} h => by simpa using h
  · simp only [Bool.not_eq_true'] at *
    cases q1 : ltL r.2 p.2 with
    | false => rfl
    | true =>
      cases q3 : ltL q.2 r.2 with
      | true => rw [ltL_tr _ _ _ q3 q1] at h1; cases h1
      | false => rw [ltL_tri _ _ q3 h2, q1] at h1; cases h1
  · cases q1 : ltL q.2 p.2 with
    | false => simp
    | true => simp [ltL_o.asym q1]
theorem cr_sortST {X : Cx} (hc : X.calm = true) (hu : X.A.units + 64 < cLine) : CallR X (.builtin "sorted") (rSortST X.K X.prog X.w) := by
  intro pins s σ H vs us Q I r h
  obtain ⟨x, L, rfl, hx, hk, hne, q⟩ := h
  have R0 : SetT0 X.prog X.w s.heap x L := (I.hok x _ hx).1
  obtain ⟨es, ep, t, R⟩ := R0.full fun p hp => I.isT (hk p hp)
  rw [Vals.ref1 r]
  obtain ⟨o, ho, hex, hd⟩ := R.ob
  have hsz := R.size; have hfew := R.few
  refine Calls.call_function_entry kind_sorted plain_sorted entry_sorted (args_sorted1 _) ?_
  unfold Builtin.«sorted»
  refine wpAny_bind (m := checkCount "sorted" 1 1 _) (wpAny_pure ?_)
  refine wpAny_bind (collect_set (A := X.A.in1) (I.ok.hd hc) ⟨o, ho, hex.1, hd⟩ R.fits (by unfold scanBound; omega) R.tab.ris R.led fun s1 ws k1 hz g1 o1 pm => ?_)
  have hes : es.toList.map (·.2) = L.map fun q => Value.ref q.1 := by rw [R.rows]; unfold rowsOf; rw [List.map_map] <;> rfl
  rw [hes] at pm
  -- the collected values as rows of L
  have uniq : ∀ q ∈ L, ∀ z ∈ L, q.1 = z.1 → q = z := fun q hq z hz' e => by
    have a1 := R.tup q hq
    rw [e] at a1
    exact Prod.ext e (a1.inj (R.tup z hz'))
  have rows : ∀ vs : List Value, (∀ v ∈ vs, ∃ q ∈ L, v = Value.ref q.1) → ∃ L1 : List (Addr × List Int), vs = L1.map (fun q => Value.ref q.1) ∧ ∀ q ∈ L1, q ∈ L := by
    intro vs
    induction vs with
    | nil => exact fun _ => ⟨[], rfl, fun q hq => nomatch hq⟩
    | cons v vs ih =>
      intro hv
      obtain ⟨q, hq, ev⟩ := hv v (by simp)
      obtain ⟨L1, e1, hs⟩ := ih fun u hu' => hv u (List.mem_cons_of_mem _ hu')
      exact ⟨q :: L1, by rw [List.map_cons, ev, e1], fun z hz' => (List.mem_cons.mp hz').elim (fun y => y ▸ hq) (hs z)⟩
  have nL : L.Nodup := nodup_of_map R.nd
  have nref : (L.map fun q => Value.ref q.1).Nodup := List.pairwise_map.mpr (List.Pairwise.imp_of_mem (fun {q z} hq hz' hn e => hn (uniq q hq z hz' (by injection e))) nL)
  obtain ⟨L1, e1, s1L⟩ := rows ws fun v hv => by
    obtain ⟨q, hq, e⟩ := List.mem_map.mp (pm.mem_iff.mp hv)
    exact ⟨q, hq, e.symm⟩
  rw [e1] at pm
  have pL : L1.Perm L := by
    refine (List.perm_ext_iff_of_nodup (nodup_of_map (pm.nodup_iff.mpr nref)) nL).mpr fun q => ⟨s1L q, fun hq => ?_⟩
    obtain ⟨z, hz', e⟩ := List.mem_map.mp (pm.mem_iff.mpr (List.mem_map.mpr ⟨q, hq, rfl⟩))
    injection e with e
    rw [← uniq z (s1L z hz') q hq e]
    exact hz'
  subst e1
  have wl : (L1.map fun q => Value.ref q.1).length < 64 := by rw [List.length_map, pL.length_eq]; exact hfew
  refine wpAny_bind (wpAny_newList ?_ (by rw [sizeLine_eq]; omega))
  have gN : (s1.heap.push (seqObj "list" (L1.map fun q => Value.ref q.1).toArray 0)).get? s1.heap.objs.size = some (seqObj "list" (L1.map fun q => Value.ref q.1).toArray 0) := Heap.get?_push_size _ rfl
  have tk : ∀ q ∈ L1, TS.TupInts (s1.heap.push (seqObj "list" (L1.map fun q => Value.ref q.1).toArray 0)) (.ref q.1) q.2 := fun q hq =>
    tupInts_of (P := X.prog) (w := X.w) (isT_keep (R.tup q (s1L q hq)) fun b u e => Heap.get?_push_of_some _ (k1 b u e))
  have noSelf : ∀ (d : List Int) (v : Value) (as : List Addr), Reads (s1.heap.push (seqObj "list" (L1.map fun q => Value.ref q.1).toArray 0)) v (tupI d) as → s1.heap.objs.size ∉ as := by
    intro d v as hr
    have all : ∀ (k : List Int) (us : List Value) (bs : List Addr), ReadsAll (s1.heap.push (seqObj "list" (L1.map fun q => Value.ref q.1).toArray 0)) us (k.map .int) bs → bs = [] := by
      intro k
      induction k with
      | nil => intro us bs h; cases h; rfl
      | cons i k ih =>
        intro us bs h
        cases h with
        | cons h1 h2 =>
          cases h1
          rw [ih _ _ h2]
          rfl
    cases hr with
    | tuple h1 h2 h3 h4 =>
      rw [all d _ _ h4]
      simp
  refine wpAny_bind (wpAny_holding (PySem.W.list_sort_data (s := { s1 with heap := s1.heap.push (seqObj "list" (L1.map fun q => Value.ref q.1).toArray 0) }) (bs := L1) (enc := fun q => tupI q.2) (R := fun u q => u = .ref q.1) gN (each_refs fun q hq => rfl)
    (each_refs fun q hq => by obtain ⟨as, ha⟩ := reads_tupI (tk q hq); exact ⟨as, ha, noSelf _ _ _ ha⟩) (PySem.W.AllAlike.of fun p q => alike_tupI p.2 q.2) (.inl fun d hd => ?_) (by rw [pL.length_eq, sizeLine_eq]; omega) (fun b hb => ?_) fun out ol eo => ?_))
  · obtain ⟨k, hk', rfl⟩ := List.mem_map.mp hd
    have := hne k (s1L k hk')
    obtain ⟨k1', k2⟩ := k
    cases k2 with
    | nil => exact absurd rfl this
    | cons y ys => exact ⟨.int y, ys.map .int, rfl⟩
  · have d60 := depth_tupI b.2
    show X.A.in1.units + 1 + _ < cLine
    have : X.A.in1.units = X.A.units + 1 := rfl
    have d1 : PyData.depth (tupI b.2) ≤ 1 := by
      show PyData.depth (.tuple (b.2.map .int)) ≤ 1
      rw [PyData.depth, PySem.W.depth_ints]
      decide
    omega
  · have eo' := refs_each eo
    obtain ⟨c', hc'⟩ := sortedHeap_at (vs := L1.map fun q => Value.ref q.1) (out := List.toArray out) gN
    have pS := (List.mergeSort_perm L1 (PySem.W.dataLe false fun q : Addr × List Int => tupI q.2)).trans pL
    have hn : H s1.heap.objs.size = none := I.hok.fresh hz
    have keep : ∀ b u, s.heap.get? b = some u → (sortedHeap (s1.heap.push (seqObj "list" (L1.map fun q => Value.ref q.1).toArray 0)) s1.heap.objs.size (L1.map fun q => Value.ref q.1) (List.toArray out)).get? b = some u := fun b u e => by
      have q1 := k1 b u e
      have lt := Heap.lt_size q1
      rw [sortedHeap_old (Nat.ne_of_lt lt) (by rw [size_push']; exact Nat.lt_succ_of_lt lt)]
      exact Heap.get?_push_of_some _ q1
    generalize hL' : L1.mergeSort (PySem.W.dataLe false fun q : Addr × List Int => tupI q.2) = L' at pS eo'
    have ll : (L'.map fun q => V.ref q.1).length ≤ sizeLine := by rw [List.length_map, pS.length_eq, sizeLine_eq]; omega
    have J : Inv X pins σ (upd H s1.heap.objs.size (.lst (L'.map fun q => V.ref q.1))) { s with heap := sortedHeap (s1.heap.push (seqObj "list" (L1.map fun q => Value.ref q.1).toArray 0)) s1.heap.objs.size (L1.map fun q => Value.ref q.1) (List.toArray out), gens := s1.gens, drawn := s1.drawn, toks := s1.toks } :=
      I.call (ch := []) (Un.laid keep hz hn) (I.hok.laid keep hz ⟨ll, out, c', by rw [eo']; exact vals_of_refs L', hc'⟩) (by rw [g1]; exact I.bare) (fun _ z => nomatch z)
    refine wpAny_pure ⟨_, rfl, .ref s1.heap.objs.size, _, ?_, rfl, q L' _ pS ?_ hn⟩
    · have ez : ({ s1 with heap := sortedHeap (s1.heap.push (seqObj "list" (L1.map fun q => Value.ref q.1).toArray 0)) s1.heap.objs.size (L1.map fun q => Value.ref q.1) (List.toArray out) } : Shared) = { s with heap := sortedHeap (s1.heap.push (seqObj "list" (L1.map fun q => Value.ref q.1).toArray 0)) s1.heap.objs.size (L1.map fun q => Value.ref q.1) (List.toArray out), gens := s1.gens, drawn := s1.drawn, toks := s1.toks } := by
        cases s1
        cases s
        cases o1
        rfl
      rw [ez]
      exact J
    · have sp := sort_pairsL L1
      rw [hL'] at sp
      have nd : (L'.map (·.2)).Nodup := (pS.map (·.2)).nodup_iff.mpr R.nd
      have : (L'.map (·.2)).Pairwise (fun a b => ltL b a = false ∧ a ≠ b) := (List.pairwise_map.mpr sp).and nd
      refine this.imp fun {a b} h => ?_
      cases q1 : ltL a b with
      | true => rfl
      | false => exact absurd (ltL_tri _ _ q1 h.1) h.2
end BG
namespace BG
open PySem PySem.Spec PyProof.Rows L2
variable {S : Sc} {Γ : Gam} {a b c e : Expr} {ma mb mc m : Rs D} {pos p : Pos}

theorem callr_or {X : Cx} {f : Value} {r r' : List V → Hp → VK → Prop} (h : CallR X f r) (h' : CallR X f r') : CallR X f (fun xs H Q => r xs H Q ∨ r' xs H Q) := fun pins s σ H xs us Q I rx q =>
  q.elim (h pins s σ H xs us Q I rx) (h' pins s σ H xs us Q I rx)
/-- tuples of ints, by their addresses -/
theorem rows_of {Hd : Hp} : ∀ {vs : List V} {ls : List (List Int)}, DvA Hd vs (ls.map tupI) → ∃ ks : List (Addr × List Int), vs = ks.map (fun q => V.ref q.1) ∧ ls = ks.map (·.2) ∧ ∀ q ∈ ks, Hd q.1 = some (.tup (q.2.map V.int))
  | _, [], .nil => ⟨[], rfl, rfl, fun q h => nomatch h⟩
  | _, l :: ls, h => by
    have h : DvA Hd _ (tupI l :: ls.map tupI) := h
    cases h with
    | cons h1 h2 =>
      obtain ⟨ks, e1, e2, h3⟩ := rows_of h2
      cases h1 with
      | @tup x xs _ hs ha =>
        have ex : xs = l.map V.int := ints_vals ha (intsOf_map l)
        refine ⟨(x, l) :: ks, by rw [e1]; rfl, by rw [e2]; rfl, fun q hq => ?_⟩
        rcases List.mem_cons.mp hq with e | e
        · rw [e, ← ex]; exact hs
        · exact h3 q e
theorem dvA_ints {Hd : Hp} : ∀ ns : List Int, DvA Hd (ns.map V.int) (ns.map .int)
  | [] => .nil
  | n :: ns => .cons (.int n) (dvA_ints ns)
theorem rpA_ints {K : PySem.W.Frag} {Hd : Hp} (ns : List Int) : RpA K Hd (ns.map V.int) (ns.map .int) := ⟨dvA_ints ns, szA_ints' ns⟩
theorem df_sortedSet {p2 q2 : Pos} (hms : S.mg "sorted" = none) (hmt : S.mg "set" = none) (ha : DQ S Γ a ma) (hg1 : GlS S "sorted" := by rfl) (hg2 : GlS S "set" := by rfl) (hs : NoStar a := by intro _ _; rfl) :
    DF S Γ (.Call (.Name "sorted" p) [.Call (.Name "set" p2) [a] [] q2] [] pos) (ma.bind pySortedSet) := by
  obtain ⟨t, a1, a2⟩ := ha
  have hs2 : NoStar (.Call (.Name "set" p2) [a] [] q2) := fun _ _ => rfl
  refine ⟨tCB (fun xs H Q => rSortedSet S.w xs H Q ∨ rSortST S.K S.P S.w xs H Q) (tCons (tCB (fun xs H Q => rSetI S.K S.w xs H Q ∨ rSetOfT S.K S.P S.w xs H Q) (tCons t tNil)) tNil), fun X hX => ?_, fun σ Hd H Q s p => a2 σ Hd H _ s ?_⟩
  · have c1 : CallR X (.type "set") (fun xs H Q => rSetI S.K S.w xs H Q ∨ rSetOfT S.K S.P S.w xs H Q) := by
      have := callr_or (cr_setI hX.calm) (cr_setOfT hX.calm (units64 hX))
      rw [hX.K, hX.w, hX.P] at this
      exact this
    have c2 : CallR X (.builtin "sorted") (fun xs H Q => rSortedSet S.w xs H Q ∨ rSortST S.K S.P S.w xs H Q) := by
      have := callr_or (cr_sortedSet hX.calm) (cr_sortST hX.calm (units64 hX))
      rw [hX.K, hX.w, hX.P] at this
      exact this
    exact pe_bl1 hX bl_sorted hms hg1 c2 (pe_bl1 hX (.ty _ PyProof.Rows.boot_set) hmt hg2 c1 (a1 X hX) hs (by decide) (by decide)) hs2 (by decide) (by decide)
  · cases ma with
    | exc c => exact p
    | bad => exact p.elim
    | ok d =>
      intro v Hd1 H1 e1 r1
      have p2 : FPost S σ Hd1 H1 Q (pySortedSet d) := FPost.after e1 p
      clear p
      cases d with
      | none => exact p2.elim
      | bool _ => exact p2.elim
      | int _ => exact p2.elim
      | str _ => exact p2.elim
      | tuple _ => exact p2.elim
      | dict _ => exact p2.elim
      | list ds =>
        obtain ⟨l, vs, rfl, h1, h2, h3⟩ := r1.seqL e1.s
        have p3 : FPost S σ Hd1 H1 Q (match intsOf ds with | some ns => if ns.length < 64 then .ok ((usort ltI ns).map .int) else .bad | none => match tupsOf ds with | some ls => if ls.length < 64 ∧ (∀ l ∈ ls, l ≠ []) then .ok ((usort ltL ls).map tupI) else .bad | none => .bad) := p2
        clear p2
        cases hi : intsOf ds with
        | some ns =>
          rw [hi] at p3
          have p4 : FPost S σ Hd1 H1 Q (if ns.length < 64 then .ok ((usort ltI ns).map .int) else .bad) := p3
          clear p3
          split at p4
          · rename_i hn
            refine .inl ⟨l, ns, rfl, .inl (by rw [← ints_vals h2.1 hi]; exact h1), by omega, fun x n hx hxn => .inl ⟨x, _, n, rfl, upd_same, by omega, fun ns' q pw mem len hq => ?_⟩⟩
            have nqx : q ≠ x := fun z => by rw [z, upd_same] at hq; cases hq
            have hq' : H1 q = none := by rw [upd_ne nqx] at hq; exact hq
            have en : ns' = usort ltI ns := usort_is ltI_o (pw.imp fun {a b} h => by simpa [ltI] using h) fun z => by rw [mem z]; simp
            subst en
            have x1 : Ext Hd1 H1 Hd1 (upd (upd H1 x (SetO S.w x (fun j => decide (j ∈ ns)) n)) q (.lst ((usort ltI ns).map V.int))) := (Ext.newOwn e1.s hx).trans (Ext.newOwn (e1.s.trans (same_new hx)) hq)
            exact p4 q _ Hd1 _ x1 hq' upd_same (e1.s.free hq') (rpA_ints _) (by rw [List.length_map]; have := usort_length ltI_o ns; unfold sizeMax; omega)
          · exact p4.elim
        | none =>
          rw [hi] at p3
          cases ht : tupsOf ds with
          | none => rw [ht] at p3; exact p3.elim
          | some ls =>
            rw [ht] at p3
            have p4 : FPost S σ Hd1 H1 Q (if ls.length < 64 ∧ (∀ l ∈ ls, l ≠ []) then .ok ((usort ltL ls).map tupI) else .bad) := p3
            clear p3
            split at p4
            · rename_i hc
              have e := tupsOf_eq ht
              subst e
              obtain ⟨ks, k1, k2, k3⟩ := rows_of h2.1
              subst k1
              refine .inr ⟨l, ks, rfl, .inl h1, fun q hq => .inl (.inl (e1.s _ _ (k3 q hq))), by have := hc.1; rw [k2, List.length_map] at this; exact this, fun x L hx sub all => ?_⟩
              have sx := same_new (o := SetTO S.P S.w x L) hx
              refine .inr ⟨x, L, rfl, upd_same, fun q hq => .inl (.inl (sx _ _ (e1.s _ _ (k3 q (sub q hq))))), fun q hq => hc.2 _ (by rw [k2]; exact List.mem_map.mpr ⟨q, sub q hq, rfl⟩), fun L' q pm pw hq => ?_⟩
              have nqx : q ≠ x := fun z => by rw [z, upd_same] at hq; cases hq
              have hq' : H1 q = none := by rw [upd_ne nqx] at hq; exact hq
              have en : L'.map (·.2) = usort ltL ls := usort_is ltL_o pw fun z => by
                rw [k2]
                constructor
                · intro hz
                  obtain ⟨y, hy, rfl⟩ := List.mem_map.mp hz
                  exact List.mem_map.mpr ⟨y, sub y (pm.mem_iff.mp hy), rfl⟩
                · intro hz
                  obtain ⟨y, hy, rfl⟩ := List.mem_map.mp hz
                  obtain ⟨u, hu, eu⟩ := List.mem_map.mp (all y hy)
                  exact List.mem_map.mpr ⟨u, pm.mem_iff.mpr hu, eu⟩
              have x1 : Ext Hd1 H1 Hd1 (upd (upd H1 x (SetTO S.P S.w x L)) q (.lst (L'.map fun q => V.ref q.1))) := (Ext.newOwn e1.s hx).trans (Ext.newOwn (e1.s.trans sx) hq)
              have rr : RpA S.K Hd1 (L'.map fun q => V.ref q.1) ((L'.map (·.2)).map tupI) := by
                have key : ∀ l : List (Addr × List Int), (∀ q ∈ l, q ∈ ks) → RpA S.K Hd1 (l.map fun q => V.ref q.1) ((l.map (·.2)).map tupI) := by
                  intro l
                  induction l with
                  | nil => intro _; exact RpA.nil
                  | cons y l ih =>
                    intro h
                    refine RpA.cons ⟨.tup (k3 y (h y (by simp))) (dvA_ints _), ?_⟩ (ih fun z hz => h z (List.mem_cons_of_mem _ hz))
                    exact szA_mem h2.2 (by rw [k2]; exact List.mem_map.mpr ⟨y.2, List.mem_map.mpr ⟨y, h y (by simp), rfl⟩, rfl⟩)
                exact key L' fun q hq => sub q (pm.mem_iff.mp hq)
              rw [en] at rr
              refine p4 q _ Hd1 _ x1 hq' upd_same (e1.s.free hq') rr ?_
              rw [List.length_map]
              have := usort_length ltL_o ls
              have := hc.1
              unfold sizeMax
              omega
            · exact p4.elim
theorem firstMet_mem (ns : List Int) : ∀ i, i ≤ ns.length → (∀ z, z ∈ firstMet (fun i => ns.getD i 0) i ↔ z ∈ ns.take i) ∧ (firstMet (fun i => ns.getD i 0) i).Nodup
  | 0, _ => by rw [firstMet_zero]; simp
  | i + 1, hi => by
    obtain ⟨h1, h2⟩ := firstMet_mem ns i (by omega)
    have e : ns.getD i 0 = ns[i] := by simp [List.getD_eq_getElem?_getD, List.getElem?_eq_getElem (show i < ns.length by omega)]
    rw [firstMet_succ]
    have tk : ns.take (i + 1) = ns.take i ++ [ns[i]] := by simp
    unfold step_dedup
    by_cases c : (firstMet (fun i => ns.getD i 0) i).any (· == ns.getD i 0) = true
    · rw [if_pos c]
      refine ⟨fun z => ?_, h2⟩
      rw [tk, List.mem_append, List.mem_singleton, h1]
      constructor
      · exact fun h => .inl h
      · rintro (h | h)
        · exact h
        · obtain ⟨y, hy, ey⟩ := List.any_eq_true.mp c
          rw [h, ← e, ← beq_iff_eq.mp ey]
          exact (h1 y).mp hy
    · rw [if_neg c]
      refine ⟨fun z => ?_, ?_⟩
      · rw [tk, List.mem_append, List.mem_append, h1, List.mem_singleton, List.mem_singleton, e]
      · refine List.nodup_append.mpr ⟨h2, by simp, fun y hy z hz => ?_⟩
        rw [List.mem_singleton] at hz
        intro q
        refine c (List.any_eq_true.mpr ⟨y, hy, ?_⟩)
        rw [q, hz]
        simp
theorem firstMet_len (ns : List Int) : (firstMet (fun i => ns.getD i 0) ns.length).length = distinctI ns := by
  obtain ⟨h1, h2⟩ := firstMet_mem ns ns.length (Nat.le_refl _)
  unfold distinctI
  refine ((List.perm_ext_iff_of_nodup h2 (usort_nodup ltI_o ns)).mpr fun z => ?_).length_eq
  rw [h1, List.take_length, mem_usort ltI_o]
def tLenSetG (K : PySem.W.Frag) (ta : TE) : TE := fun σ H Q => ta σ H fun x H1 => ∃ (l : Addr) (ns : List Int), x = V.ref l ∧ SqL K H1 l (ns.map V.int) ∧ ns.length < 1000 ∧ Q (.int (distinctI ns)) H1
theorem pe_lenSetG {X : Cx} {ta : TE} {p2 q : Pos} (hc : X.calm = true) (hg : Gl X "len") (hm : X.mg "len" = none) (hg2 : Gl X "set") (hm2 : X.mg "set" = none) (ha : PE X a ta) (na : NoStar a) :
    PE X (.Call (.Name "len" p) [.Call (.Name "set" p2) [a] [] q] [] pos) (tLenSetG X.K ta) := by
  refine ⟨fun pins s σ H Q I h => Call_ (ld_blt I hg hm PySem.boot_len (PyProof.Rows.callWith_builtin1 (PyProof.Rows.args_cons (Call_ (ld_blt I hg2 hm2 PyProof.Rows.boot_set ?_)) rfl) rfl rfl))⟩
  refine PyProof.Rows.callWith_type1 (PyProof.Rows.args_cons (thn (ha.run pins s σ H _ I h) fun v s1 ⟨x, H1, I1, r1, q1⟩ => PyProof.Rows.args_nil ?_) (na _ _)) (na _ _) rfl
  obtain ⟨l, ns, rfl, hq, h1, q1⟩ := q1
  cases r1
  obtain ⟨its, r, pl, hz⟩ := I1.list hq
  have hl : its.toArray.size = ns.length := by rw [List.size_toArray, ← r.length, List.length_map]
  refine call_set_list (I1.ok.hd hc) pl.isList (ns := ns) (by simpa using r.ints) (by unfold scanBound; omega) fun h' tk hS hk => PyProof.Rows.args_nil ?_
  rw [hl] at hS
  obtain ⟨o, es, ep, t, ho, hex, hd, _, _, _, hf, hn⟩ := hS
  rw [firstMet_len] at hn
  have I2 : Inv X pins σ H1 { s1 with heap := h', toks := tk } := I1.kept fun b o e => hk b o (Heap.lt_size e) e
  have hle : distinctI ns ≤ ns.length := by unfold distinctI; exact usort_length ltI_o ns
  exact call_len_set ho hex hd hf (by rw [hn] <;> omega) ⟨.int (distinctI ns), H1, I2.tok _, ⟨_, by rw [hn]⟩, q1⟩
theorem de_lenSet {p2 q2 : Pos} (hms : S.mg "len" = none) (hmt : S.mg "set" = none) (ha : DQ S Γ a ma) (hg1 : GlS S "len" := by rfl) (hg2 : GlS S "set" := by rfl) (hs : NoStar a := by intro _ _; rfl) :
    DE S Γ (.Call (.Name "len" p) [.Call (.Name "set" p2) [a] [] q2] [] pos) (ma.bind pyLenSet) := by
  obtain ⟨t, a1, a2⟩ := ha
  refine ⟨tLenSetG S.K t, fun X hX => ?_, fun σ Hd H Q s p => a2 σ Hd H _ s ?_⟩
  · have := pe_lenSetG (p := p) (pos := pos) (p2 := p2) (q := q2) hX.calm (hg1.gl hX) (by rw [hX.mg]; exact hms) (hg2.gl hX) (by rw [hX.mg]; exact hmt) (a1 X hX) hs
    rw [hX.K] at this
    exact this
  · cases ma with
    | exc c => exact p
    | bad => exact p.elim
    | ok d =>
      intro v Hd1 H1 e1 r1
      have p2 : EPost S (fun Hd _ => Rp S.K Hd) σ Hd1 H1 Q (pyLenSet d) := EPost.after e1 p
      clear p
      cases d with
      | none => exact p2.elim
      | bool _ => exact p2.elim
      | int _ => exact p2.elim
      | str _ => exact p2.elim
      | tuple _ => exact p2.elim
      | dict _ => exact p2.elim
      | list ds =>
        obtain ⟨l, vs, rfl, h1, h2, h3⟩ := r1.seqL e1.s
        have p3 : EPost S (fun Hd _ => Rp S.K Hd) σ Hd1 H1 Q (match intsOf ds with | some ns => if ns.length < 100 then .ok (.int (distinctI ns)) else .bad | none => .bad) := p2
        clear p2
        cases hi : intsOf ds with
        | none => rw [hi] at p3; exact p3.elim
        | some ns =>
          rw [hi] at p3
          have p4 : EPost S (fun Hd _ => Rp S.K Hd) σ Hd1 H1 Q (if ns.length < 100 then .ok (.int (distinctI ns)) else .bad) := p3
          split at p4
          · exact ⟨l, ns, rfl, .inl (by rw [← ints_vals h2.1 hi]; exact h1), by omega, p4 _ _ _ (Ext.refl e1.s) Rp.int⟩
          · exact p4.elim
end BG
namespace BG
open PySem PySem.Spec PyProof.Rows L2
variable {S : Sc} {Γ : Gam} {a b c e : Expr} {ma mb mc m : Rs D} {pos p : Pos} {A : Type} {G : A → Gam} {ss rest : List Stmt}

theorem od_div : OpD S (binaryOp .FloorDiv) pyDiv := opd_i (k := fun i j => .int (i / j)) (C := CDivW) (fun X => op_fdivW) (fun _ _ _ _ => Rp.int) fun d e => by
  unfold pyDiv; split
  · split
    · rename_i i j h
      refine .inl ⟨_, _, rfl, rfl, wide_div h.1 (b := 64) ?_ (by decide) (by decide), rfl⟩
      have := h.2
      omega
    · exact .inr rfl
  · exact .inr rfl
theorem rep_flat : ∀ (n : Nat) {K : PySem.W.Frag} {H : Hp} {vs : List V} {ds : List D}, RpA K H vs ds → RpA K H (List.replicate n vs).flatten (List.replicate n ds).flatten
  | 0, _, _, _, _, _ => by simpa using RpA.nil
  | n + 1, K, H, vs, ds, h => by
    rw [List.replicate_succ, List.replicate_succ, List.flatten_cons, List.flatten_cons]
    exact h.append (rep_flat n h)
theorem len_rep {α : Type} (n : Nat) (xs : List α) : (List.replicate n xs).flatten.length = xs.length * n := by
  induction n with
  | zero => simp
  | succ n ih =>
    rw [List.replicate_succ, List.flatten_cons, List.length_append, ih, Nat.mul_succ]
    omega
def rRepL : L2.R2 := fun x y H Q => ∃ l k xs, x = .ref l ∧ y = .int k ∧ H l = some (.lst xs) ∧ -(2 ^ 63) ≤ k ∧ k < 2 ^ 63 ∧ xs.length * k.toNat ≤ sizeLine ∧ ∀ p, H p = none → Q (.ref p) (upd H p (.lst (List.replicate k.toNat xs).flatten))
/-- [..] * n: the left side a list that was just made (or is data, tracked) -/
theorem df_rep {ml : Rs (List D)} (ha : DF S Γ a ml) (hb : DE S Γ b mb) : DF S Γ (.BinOp a .Mult b pos) (ml.bind fun ds => mb.bind fun e => repL ds e) := by
  obtain ⟨ta, a1, a2⟩ := ha
  obtain ⟨tb, b1, b2⟩ := hb
  refine ⟨tOp rRep ta tb, fun X hX => pe_op op_rep (a1 X hX) (b1 X hX), fun σ Hd H Q s p => a2 σ Hd H _ s ?_⟩
  cases ml with
  | exc c => exact p
  | bad => exact p.elim
  | ok ds =>
    intro l vs Hd1 H1 e1 hn hl hd r hz
    refine b2 σ Hd1 H1 _ (s.ext e1) ?_
    cases mb with
    | exc c => exact fun Hd' H' e' => p Hd' H' (e1.trans e')
    | bad => exact p.elim
    | ok d =>
      intro v Hd2 H2 e2 r2
      have p2 : FPost S σ Hd H Q (repL ds d) := p
      clear p
      cases d with
      | int j =>
        have p3 : FPost S σ Hd H Q (if 0 ≤ j ∧ j < 2 ^ 31 ∧ ds.length * j.toNat ≤ sizeMax then .ok (List.replicate j.toNat ds).flatten else .bad) := p2
        clear p2
        split at p3
        · rename_i hc
          cases r2.1
          refine ⟨l, j, vs, rfl, rfl, e2.a _ _ hl, by omega, by omega, by rw [r.len, ← sizeMax_eq]; exact hc.2.2, fun q hq => ?_⟩
          have e12 := e1.trans e2
          exact p3 q _ Hd2 _ (e12.trans (Ext.newOwn e2.s hq)) (e12.a.free hq) upd_same (e2.s.free hq) (rep_flat _ (r.mono e2.d)) (by rw [len_rep]; exact hc.2.2)
        · exact p3.elim
      | none => exact p2.elim
      | bool _ => exact p2.elim
      | str _ => exact p2.elim
      | list _ => exact p2.elim
      | tuple _ => exact p2.elim
      | dict _ => exact p2.elim

theorem SS.setOwn' {σ : L2.St} {Hd H : Hp} (s : SS S Γ σ Hd H) (i : Nat) {l : Addr} {vs : List V} {ds : List D} (hl : H l = some (.lst vs)) (hd : Hd l = none) (hB : S.Bh l = none) (hnew : ∀ (j : Nat) as, Γ[j]? = some (.own as) → σ[j]? ≠ some (some (.ref l))) (r : RpA S.K Hd vs ds) (hz : ds.length ≤ sizeMax) :
    SS S (Γ.set i (.own ds)) (σ.set i (some (.ref l))) Hd H := by
  have ne : ∀ (j : Nat) (x : Slot), (Γ.set i (.own ds))[j]? = some x → (i = j ∧ x = .own ds ∧ i < Γ.length) ∨ (i ≠ j ∧ Γ[j]? = some x) := fun j x h => by
    by_cases q : i = j
    · subst q
      by_cases hi : i < Γ.length
      · rw [List.getElem?_set_self hi] at h
        cases h
        exact .inl ⟨rfl, rfl, hi⟩
      · rw [List.getElem?_eq_none (by simpa using hi)] at h
        cases h
    · rw [List.getElem?_set_ne q] at h
      exact .inr ⟨q, h⟩
  refine ⟨by simpa using s.len, s.sub, s.b1, s.b2, s.b3, fun j d h => ?_, fun j d h => ?_, fun j k as bs q hjk h1 h2 g1 => ?_⟩
  · rcases ne j _ h with ⟨_, z, _⟩ | ⟨n, z⟩
    · cases z
    · rw [List.getElem?_set_ne n]
      exact s.dat j d z
  · rcases ne j _ h with ⟨rfl, z, hi⟩ | ⟨n, z⟩
    · cases z
      exact ⟨l, vs, List.getElem?_set_self (by rw [← s.len]; exact hi), hl, hd, hB, r, hz⟩
    · rw [List.getElem?_set_ne n]
      exact s.own j d z
  · rcases ne j _ h1 with ⟨rfl, z1, hi1⟩ | ⟨n1, z1⟩
    · rcases ne k _ h2 with ⟨rfl, _, _⟩ | ⟨n2, z2⟩
      · exact absurd rfl hjk
      · rw [List.getElem?_set_self (by rw [← s.len]; exact hi1)] at g1
        cases g1
        rw [List.getElem?_set_ne n2]
        exact hnew k bs z2
    · rw [List.getElem?_set_ne n1] at g1
      rcases ne k _ h2 with ⟨rfl, z2, hi2⟩ | ⟨n2, z2⟩
      · rw [List.getElem?_set_self (by rw [← s.len]; exact hi2)]
        intro g2
        cases g2
        exact hnew j as z1 g1
      · rw [List.getElem?_set_ne n2]
        exact s.sep j k as bs q hjk z1 z2 g1
/-- what one side of such an assignment gives: a datum, a new list -/
inductive Kd : Type → Type 1
  | dat : Kd D
  | own : Kd (List D)
def Kd.sl : {α : Type} → Kd α → α → Slot
  | _, .dat, d => .dat d
  | _, .own, ds => .own ds
/-- v holds x; it was made behind the heap H0 -/
def Kd.holds (S : Sc) : {α : Type} → Kd α → Hp → Hp → Hp → V → α → Prop
  | _, .dat, _, Hd, _, v, d => Rp S.K Hd v d
  | _, .own, H0, Hd, H, v, ds => ∃ l vs, v = .ref l ∧ H0 l = none ∧ H l = some (.lst vs) ∧ Hd l = none ∧ RpA S.K Hd vs ds ∧ ds.length ≤ sizeMax
def KPost {α : Type} (S : Sc) (κ : Kd α) (σ : L2.St) (Hd H : Hp) (Q : VK) : Rs α → Prop
  | .ok x => ∀ v Hd' H', Ext Hd H Hd' H' → κ.holds S H Hd' H' v x → Q v H'
  | .exc c => ∀ Hd' H', Ext Hd H Hd' H' → S.W (.ref (He.ga S.K c)) none σ H'
  | .bad => False
def DK {α : Type} (S : Sc) (Γ : Gam) (κ : Kd α) (e : Expr) (m : Rs α) : Prop := ∃ t, (∀ X, Fits S X → PE X e t) ∧ ∀ σ Hd H Q, SS S Γ σ Hd H → KPost S κ σ Hd H Q m → t σ H Q
theorem DE.k (h : DE S Γ e m) : DK S Γ .dat e m := by
  obtain ⟨t, h1, h2⟩ := h
  refine ⟨t, h1, fun σ Hd H Q s p => h2 σ Hd H Q s ?_⟩
  cases m with
  | ok d => exact p
  | exc c => exact p
  | bad => exact p
theorem DF.k {m : Rs (List D)} (h : DF S Γ e m) : DK S Γ .own e m := by
  obtain ⟨t, h1, h2⟩ := h
  refine ⟨t, h1, fun σ Hd H Q s p => h2 σ Hd H Q s ?_⟩
  cases m with
  | ok d => exact fun l vs Hd' H' e' q1 q2 q3 q4 q5 => p _ Hd' H' e' ⟨l, vs, rfl, q1, q2, q3, q4, q5⟩
  | exc c => exact p
  | bad => exact p
theorem Kd.mono {α : Type} {κ : Kd α} {H0 Hd H Hd' H' : Hp} {v : V} {x : α} (e : Ext Hd H Hd' H') (h : κ.holds S H0 Hd H v x) : κ.holds S H0 Hd' H' v x := by
  cases κ with
  | dat => exact Rp.mono (K := S.K) e.d h
  | own =>
    obtain ⟨l, vs, h1, h2, h3, h4, h5, h6⟩ := h
    exact ⟨l, vs, h1, h2, e.a _ _ h3, e.o l (by rw [h3]; simp) h4, h5.mono e.d, h6⟩
/-- how the statement runs: its two values, then the slots -/
def Two (S : Sc) (st : Stmt) (a b : Expr) (i j : Nat) : Prop := ∃ Qf : Ends → L2.St → List V → Hp → Prop, (∀ X, Fits S X → ∀ ta, PA X [a, b] ta → PS X st (fun E σ H => ta σ H (Qf E σ))) ∧
  ∀ E σ v w H1, (∀ H2, (H2 = H1 ∨ ∃ p, H1 p = none ∧ H2 = upd H1 p (.tup [v, w])) → E.nx ((σ.set i (some v)).set j (some w)) H2) → Qf E σ [v, w] H1
theorem two_loc {x y : Str} {i j : Nat} {px py pt pt2 : Pos} {kt k2 : Nat} (hN : S.N[i]? = some x := by rfl) (hN2 : S.N[j]? = some y := by rfl) (hij : i ≠ j := by decide) (hx : S.sc.names.lookup x = some .local := by rfl) (hy : S.sc.names.lookup y = some .local := by rfl)
    (hw : ∀ env : Env, env.scope = S.sc → swappedStores [.Tuple [.Name x px, .Name y py] kt pt] (.Tuple [a, b] k2 pt2) env = pure (some [x, y]) := by intro env h; obtain ⟨⟩ := env; cases h; rfl)
    (hs : ∀ (env : Env) line, swapsWithSole [.Tuple [.Name x px, .Name y py] kt pt] (.Tuple [a, b] k2 pt2) line env = pure false := by intro _ _; rfl) :
    Two S (.Assign [.Tuple [.Name x px, .Name y py] kt pt] (.Tuple [a, b] k2 pt2) pos) a b i j :=
  ⟨fun E σ vs H1 => ∃ v w, vs = [v, w] ∧ E.nx ((σ.set i (some v)).set j (some w)) H1, fun X hX ta h =>
    ps_par hX.calm hX.nd (by rw [hX.N]; exact hN) (by rw [hX.N]; exact hN2) hij (by rw [hX.sc]; exact hx) (by rw [hX.sc]; exact hy) h (hw _ hX.sc) (hs _ _), fun E σ v w H1 h => ⟨v, w, rfl, h H1 (.inl rfl)⟩⟩
theorem two_any {x y : Str} {i j : Nat} {px py pt pt2 : Pos} {kt k2 : Nat} (hN : S.N[i]? = some x := by rfl) (hN2 : S.N[j]? = some y := by rfl) (hx : Loc S.sc x := by first | exact Or.inl rfl | exact Or.inr rfl) (hy : Loc S.sc y := by first | exact Or.inl rfl | exact Or.inr rfl) (sx : S.st x = true := by rfl) (sy : S.st y = true := by rfl)
    (hw : ∀ env : Env, env.scope = S.sc → swappedStores [.Tuple [.Name x px, .Name y py] kt pt] (.Tuple [a, b] k2 pt2) env = pure none := by intro env h; obtain ⟨⟩ := env; cases h; rfl)
    (hs : ∀ (env : Env) line, swapsWithSole [.Tuple [.Name x px, .Name y py] kt pt] (.Tuple [a, b] k2 pt2) line env = pure false := by intro _ _; rfl) :
    Two S (.Assign [.Tuple [.Name x px, .Name y py] kt pt] (.Tuple [a, b] k2 pt2) pos) a b i j :=
  ⟨fun E σ vs H1 => vs.length ≤ sizeLine ∧ ∀ p, H1 p = none → gTup S.K 2 (gCons (gName i) (gCons (gName j) gNil)) (.ref p) σ (upd H1 p (.tup vs)) E.nx, fun X hX ta h => by
    have g : PG X (.Tuple [.Name x px, .Name y py] kt pt) (gTup S.K 2 (gCons (gName i) (gCons (gName j) gNil))) := hX.K ▸ pg_tup hX.calm (pgs_cons (fit_name hX hN hx sx) (pgs_cons (fit_name hX hN2 hy sy) pgs_nil))
    exact ps_asg (pe_tup h) g (hs _ _) (hw _ hX.sc), fun E σ v w H1 h => ⟨by show 2 ≤ sizeLine; decide, fun p hp => ⟨p, [v, w], rfl, .inl (.inl upd_same), rfl, v, [w], rfl, w, [], rfl, rfl, h _ (.inr ⟨p, hp, rfl⟩)⟩⟩⟩
theorem db_two (i j : Nat) {α β : Type} (κ : Kd α) (μ : Kd β) {st : Stmt} {m1 : Rs α} {m2 : Rs β} {f : α → β → Rs (Out A)} (T : Two S st a b i j) (ha : DK S Γ κ a m1) (hb : DK S Γ μ b m2) (k : ∀ x y, DB S ((Γ.set i (κ.sl x)).set j (μ.sl y)) rest G (f x y))
    (n1 : NoStar a := by intro _ _; rfl) (n2 : NoStar b := by intro _ _; rfl) : DB S Γ (st :: rest) G (m1.bind fun x => m2.bind fun y => f x y) := by
  obtain ⟨Qf, q1, q2⟩ := T
  obtain ⟨ta, a1, a2⟩ := ha
  obtain ⟨tb, b1, b2⟩ := hb
  refine ⟨tSeq (fun E σ H => (tCons ta (tCons tb tNil)) σ H (Qf E σ)) (wpB S rest), fun X hX => pss_cons (q1 X hX _ (pa_cons (a1 X hX) (pa_cons (b1 X hX) pa_nil (n2 _ _)) (n1 _ _))) (ps_wp hX), fun σ Hd H E s p => a2 σ Hd H _ s ?_⟩
  cases m1 with
  | exc c => exact exc_post s p
  | bad => exact p.elim
  | ok x =>
    intro v Hd1 H1 e1 h1
    refine b2 σ Hd1 H1 _ (s.ext e1) ?_
    cases m2 with
    | exc c => exact exc_post (G := G) (E := E) (s.ext e1) p
    | bad => exact p.elim
    | ok y =>
      intro w Hd2 H2 e2 h2
      have p : BPost S Γ.length Hd G E (f x y) := p
      have h1' := h1
      have h1 := Kd.mono (κ := κ) e2 h1
      have e12 := e1.trans e2
      refine q2 _ σ v w H2 fun H3 hH => ?_
      have e3 : Ext Hd2 H2 Hd2 H3 := by
        rcases hH with rfl | ⟨q, hq, rfl⟩
        · exact Ext.refl e2.s
        · exact Ext.newOwn e2.s hq
      have e13 := e12.trans e3
      have S3 : SS S Γ σ Hd2 H3 := s.ext e13
      refine (k x y).wp _ Hd2 H3 E ?_ (by rw [List.length_set, List.length_set]; exact p.after e13.d)
      have h1 := Kd.mono (κ := κ) e3 h1
      have h2 := Kd.mono (κ := μ) e3 h2
      -- an own slot's list stood before
      have old : ∀ (n : Nat) as l, Γ[n]? = some (.own as) → σ[n]? = some (some (.ref l)) → H l ≠ none := fun n as l g1 g2 q => by
        obtain ⟨l', vs', z1, z2, _⟩ := s.own n as g1
        rw [g2] at z1
        cases z1
        rw [q] at z2
        cases z2
      cases κ with
      | dat =>
        have s1 : SS S (Γ.set i (.dat x)) (σ.set i (some v)) Hd2 H3 := S3.set i h1
        cases μ with
        | dat => exact s1.set j h2
        | own =>
          obtain ⟨l, vs, rfl, k1, k2, k3, k4, k5⟩ := h2
          refine s1.setOwn' j k2 k3 (s.b1.free (e1.a.free k1)) (fun n as g1 g2 => ?_) k4 k5
          by_cases hin : i = n
          · subst hin
            by_cases hi : i < Γ.length
            · rw [List.getElem?_set_self hi] at g1; cases g1
            · rw [List.getElem?_eq_none (by simpa using hi)] at g1; cases g1
          · rw [List.getElem?_set_ne hin] at g1 g2
            exact old n as l g1 g2 (e1.a.free k1)
      | own =>
        obtain ⟨l, vs, rfl, k1, k2, k3, k4, k5⟩ := h1
        have s1 : SS S (Γ.set i (.own x)) (σ.set i (some (.ref l))) Hd2 H3 := S3.setOwn' i k2 k3 (s.b1.free k1) (fun n as g1 g2 => old n as l g1 g2 k1) k4 k5
        cases μ with
        | dat => exact s1.set j h2
        | own =>
          obtain ⟨l2, vs2, rfl, j1, j2, j3, j4, j5⟩ := h2
          refine s1.setOwn' j j2 j3 (s.b1.free (e1.a.free j1)) (fun n as g1 g2 => ?_) j4 j5
          by_cases hin : i = n
          · subst hin
            by_cases hi : i < σ.length
            · rw [List.getElem?_set_self hi] at g2
              cases g2
              obtain ⟨l', vs', z, z1, z2, _⟩ := h1'
              cases z
              rw [j1] at z2
              cases z2
            · rw [List.getElem?_eq_none (by simpa using hi)] at g2; cases g2
          · rw [List.getElem?_set_ne hin] at g1 g2
            exact old n as l2 g1 g2 (e1.a.free j1)
end BG
namespace BG
open PySem PySem.Spec PyProof.Rows L2
theorem bg_extend_tup (l : Addr) (items : Array Value) (n : Nat) (b : Addr) (items2 : Array Value) (n2 : Nat) (dd : Option Addr) (sl : Array (Option Value)) (h0 : ¬(!items.isEmpty && Builtin.List.listTooLong (items.size + items2.size)) = true) (h1 : items.size ≤ sizeLine) (h2 : items.size + items2.size ≤ sizeLine + 1) :
    Meets (Builtin.«list.extend» ⟨[.ref l, .ref b], []⟩) (fun _ R s => s.heap.get? l = some { cls := .type "list", dict := none, data := .seq items n, slots := #[] } ∧ s.heap.get? b = some { cls := .type "tuple", dict := dd, data := .seq items2 n2, slots := sl } ∧
      R (.ok (.ret Value.none)) { s with heap := s.heap.update l (Obj.mapSeq fun x => x ++ items2), toks := s.toks }) :=
  .of_wp fun prog w A R s h => by
    obtain ⟨hp, g, d, tk, os⟩ := s
    obtain ⟨hl, hb, h⟩ := h
    have f1 := AutoSeq1.idx_int; have f2 := AutoSeq1.sub_tuple_tuple; have f3 := AutoSeq1.sub_list_list; have f4 := AutoSeq1.sub_tuple_list; have f5 := AutoSeq1.sub_list_tuple
    have hz : (items ++ items2).size ≤ sizeLine + 1 := by rw [Array.size_append]; exact h2
    wp_walk using (wpAny_updateSeq hl rfl (hz := h1) (_hz' := hz)), wpAny_loadPart' hl, wpAny_loadPart' hb
    exact ⟨_, rfl, h⟩
variable {S : Sc} {Γ : Gam} {a b c e : Expr} {ma mb mc m : Rs D} {pos p : Pos} {A : Type} {G : A → Gam} {ss rest : List Stmt}
def rExtQ : V → List V → Hp → VK → Prop := fun x vs H Q => ∃ l b xs zs, x = .ref l ∧ vs = [.ref b] ∧ H l = some (.lst xs) ∧ (Rd H b (.lst zs) ∨ H b = some (.tup zs)) ∧ xs.length + zs.length ≤ sizeLine ∧ Q .non (upd H l (.lst (xs ++ zs)))
theorem mt_extQ {X : Cx} : MtR X "list.extend" rExtQ := by
  intro pins s σ H x vs v us Q I rx rv h
  obtain ⟨l, b, xs, zs, rfl, rfl, hH, hB, hz, q⟩ := h
  cases rx
  obtain ⟨u, rfl, ru⟩ := rv.one
  cases ru
  obtain ⟨z, its, n, r, hl, e⟩ := I.lstM hH
  have fin : ∀ {its2 : List Value}, Vals zs its2 → EP X pins σ Q Value.none { s with heap := s.heap.update l (Obj.mapSeq fun x => x ++ its2.toArray), toks := s.toks } := fun {its2} r2 =>
    ⟨.non, _, I.lset (t' := s.toks) (f := fun x => x ++ its2.toArray) (its' := its ++ its2) hH e (by simp) (r.append r2) (by rw [List.length_append]; exact hz), rfl, q⟩
  have small : ∀ {its2 : List Value}, Vals zs its2 → its.toArray.size + its2.toArray.size ≤ sizeLine := fun {its2} r2 => by
    have := r2.length
    simp
    omega
  have door : ∀ {its2 : List Value}, Vals zs its2 → ¬ (!its.toArray.isEmpty && Builtin.List.listTooLong (its.toArray.size + its2.toArray.size)) = true := fun {its2} r2 => by
    rw [notLongL (small r2), Bool.and_false]
    exact Bool.false_ne_true
  have hi : its.toArray.size ≤ sizeLine := by simp; omega
  rcases hB with hB | hB
  · obtain ⟨z2, its2, n2, r2, e2⟩ := hB.ok I.hok
    exact call_meets F.slot_list_extend ⟨_, e, rfl⟩ F.entry_list_extend (F.args_list_extend_2 _ _) (AutoSeq1.list_extend_list_list_0 l its.toArray n b its2.toArray n2 (door r2) hi (Nat.le_succ_of_le (small r2))) ⟨e, e2, fin r2⟩
  · obtain ⟨z2, its2, r2, ⟨⟨oc, od, odt, osl⟩, e2, hc, n2, hd⟩⟩ := I.hok b _ hB
    simp only at hc hd
    subst hc; subst hd
    exact call_meets F.slot_list_extend ⟨_, e, rfl⟩ F.entry_list_extend (F.args_list_extend_2 _ _) (bg_extend_tup l its.toArray n b its2.toArray n2 od osl (door r2) hi (Nat.le_succ_of_le (small r2))) ⟨e, e2, fin r2⟩
/-- x.extend(e) -/
theorem db_extend (i : Nat) {x : Str} {px ap cp : Pos} {ds : List D} {f : List D → Rs (Out A)} (hΓ : Γ[i]? = some (.own ds)) (h : DQ S Γ e m) (k : ∀ es, DB S (Γ.set i (.own (ds ++ es))) rest G (f es)) (hN : S.N[i]? = some x := by rfl)
    (hv : Vis S.sc x := by first | exact Or.inl rfl | exact Or.inr (Or.inl rfl)) (hline : (ap.endLine == cp.line) = true := by rfl) (hst : NoStar e := by intro _ _; rfl) (hd : (x == ("__debug__" : Str)) = false := by decide) (hcd : (x == ("__classdict__" : Str)) = false := by decide)
    (hb : ∀ env : Env, attributeBase (.Name x px) "extend" env (eval (.Name x px) env) = eval (.Name x px) env := by intro _; rfl) (hsw : ∀ (env : Env) (line : Nat), swapsWith (.Call (.Attribute (.Name x px) "extend" ap) [e] [] cp) none line env = pure false := by intro _ _; rfl) :
    DB S Γ (.Expr (.Call (.Attribute (.Name x px) "extend" ap) [e] [] cp) pos :: rest) G (m.bind fun d => (ofSeq d).bind fun es => if ds.length + es.length ≤ sizeMax then f es else .bad) := by
  obtain ⟨t, h1, h2⟩ := h
  refine ⟨tSeq (tDrop (tBM S.K "list" rExtQ (tVar i) (tCons t tNil))) (wpB S rest), fun X hX => ?_, fun σ Hd H E s p => ?_⟩
  · have q := pe_bm (X := X) (apos := ap) (cpos := cp) PySem.F.plainAttrs_list PySem.F.slot_list_extend PySem.F.type_list_extend mt_extQ (fit_var (pos := px) hX hN hv hd hcd) (pa_cons (h1 X hX) pa_nil (hst _ _)) (hb _) (by rw [hst]; rfl) hline (hst _ _)
    rw [hX.K] at q
    exact pss_cons (ps_expr q (hsw _ _)) (ps_wp hX)
  · obtain ⟨l, vs, k1, k2, k3, k4, k5, k6⟩ := s.own i ds hΓ
    refine ⟨.ref l, k1, .inl ⟨rfl, _, .inl (.inl k2)⟩, h2 σ Hd H _ s ?_⟩
    cases m with
    | exc c => exact exc_post s p
    | bad => exact p.elim
    | ok d =>
      intro v Hd' H' e' r
      have s' := s.ext e'
      have fin : ∀ {zs : List V} {es : List D} {bb : Addr}, BPost S Γ.length Hd G E (if ds.length + es.length ≤ sizeMax then f es else .bad) → RpA S.K Hd' zs es → (Rd H' bb (.lst zs) ∨ H' bb = some (.tup zs)) → rExtQ (.ref l) [.ref bb] H' (fun _ H1 => wpB S rest E σ H1) := by
        intro zs es bb p rz hB
        split at p
        · rename_i hz
          refine ⟨l, bb, vs, zs, rfl, rfl, e'.a _ _ k2, hB, by rw [k5.len, rz.len, ← sizeMax_eq]; exact hz, ?_⟩
          exact (k es).wp _ Hd' _ E (s'.mut i hΓ k1 ((k5.mono e'.d).append rz) (by simpa using hz)) (by rw [List.length_set]; exact p.after e'.d)
        · exact p.elim
      cases d with
      | list es =>
        obtain ⟨bb, zs, rfl, q1, q2, q3⟩ := r.seqL e'.s
        exact fin p q2 (.inl q1)
      | tuple es =>
        obtain ⟨bb, zs, rfl, q1, q2, q3⟩ := r.seqT e'.s
        exact fin p q2 (.inr (e'.s _ _ q1))
      | none => exact p.elim
      | bool _ => exact p.elim
      | int _ => exact p.elim
      | str _ => exact p.elim
      | dict _ => exact p.elim
theorem DvA.set {H : Hp} : ∀ {vs : List V} {ds : List D} (n : Nat) {v : V} {d : D}, DvA H vs ds → Dv H v d → DvA H (vs.set n v) (ds.set n d)
  | _, _, _, _, _, .nil, _ => .nil
  | _, _, 0, _, _, .cons _ t, h => .cons h t
  | _, _, n + 1, _, _, .cons g t, h => .cons g (DvA.set n t h)
theorem RpA.set {K : PySem.W.Frag} {H : Hp} {vs : List V} {ds : List D} (n : Nat) {v : V} {d : D} (r : RpA K H vs ds) (h : Rp K H v d) : RpA K H (vs.set n v) (ds.set n d) :=
  ⟨r.1.set n h.1, szA_of fun x hx => by
    rcases List.mem_or_eq_of_mem_set hx with q | q
    · exact szA_mem r.2 q
    · rw [q]; exact h.2⟩
/-- x[idx] = e -/
theorem db_setItem (i : Nat) {x : Str} {px ip : Pos} {ix : Expr} {mi : Rs D} {ds : List D} {f : Nat → D → Rs (Out A)} (hΓ : Γ[i]? = some (.own ds)) (h : DE S Γ e m) (hi : DE S Γ ix mi) (k : ∀ n d, DB S (Γ.set i (.own (ds.set n d))) rest G (f n d)) (hN : S.N[i]? = some x := by rfl)
    (hv : Vis S.sc x := by first | exact Or.inl rfl | exact Or.inr (Or.inl rfl)) (hd : (x == ("__debug__" : Str)) = false := by decide) (hcd : (x == ("__classdict__" : Str)) = false := by decide)
    (ha : ∀ (env : Env) v, assign (.Subscript (.Name x px) ix ip) env v = (do
      let ov ← holding [v] (eval (.Name x px) env)
      let iv ← holding [v, ov] (eval ix env)
      standAt ip
      holding [v, ov, iv] (setItem ov iv v)
      release [v, ov, iv] []) := by intro _ _; rfl)
    (hs : ∀ (env : Env) line, swapsWithSole [.Subscript (.Name x px) ix ip] e line env = pure false := by intro _ _; rfl) (hw : ∀ env : Env, swappedStores [.Subscript (.Name x px) ix ip] e env = pure none := by intro _; rfl)
    (h1 : ∀ env : Env, (assignEach [.Subscript (.Name x px) ix ip] env).map (·.2) = [assign (.Subscript (.Name x px) ix ip) env] := by intro _; rfl) :
    DB S Γ (.Assign [.Subscript (.Name x px) ix ip] e pos :: rest) G (m.bind fun d => mi.bind fun j => setIx ds j fun n => f n d) := by
  obtain ⟨t, t1, t2⟩ := h
  obtain ⟨ti, i1, i2⟩ := hi
  refine ⟨tSeq (tAsg t (gSub (tVar i) ti rSetL)) (wpB S rest), fun X hX => pss_cons (ps_asg (t1 X hX) (pg_sub (fit_var hX hN hv hd hcd) (i1 X hX) set_list (ha _)) (hs _ _) (hw _) (h1 _)) (ps_wp hX), fun σ Hd H E s p => t2 σ Hd H _ s ?_⟩
  cases m with
  | exc c => exact exc_post s p
  | bad => exact p.elim
  | ok d =>
    intro v Hd1 H1 e1 r1
    obtain ⟨l, vs, k1, k2, k3, k4, k5, k6⟩ := s.own i ds hΓ
    refine ⟨.ref l, k1, i2 σ Hd1 H1 _ (s.ext e1) ?_⟩
    cases mi with
    | exc c => exact exc_post (G := G) (E := E) (s.ext e1) p
    | bad => exact p.elim
    | ok jd =>
      intro w Hd2 H2 e2 r2
      cases jd with
      | int j =>
        have p : BPost S Γ.length Hd G E (match ixOf ds.length j with | some n => f n d | none => .bad) := p
        cases r2.1
        cases hix : ixOf ds.length j with
        | none => rw [hix] at p; exact p.elim
        | some n =>
          rw [hix] at p
          have e12 := e1.trans e2
          refine ⟨l, vs, j, n, rfl, rfl, e12.a _ _ k2, by rw [k5.len, ← ixOf_ixN]; exact hix, ?_⟩
          exact (k n d).wp _ Hd2 _ E ((s.ext e12).mut i hΓ k1 ((k5.mono e12.d).set n (r1.mono e2.d)) (by simpa using k6)) (by rw [List.length_set]; exact p.after e12.d)
      | none => exact p.elim
      | bool _ => exact p.elim
      | str _ => exact p.elim
      | list _ => exact p.elim
      | tuple _ => exact p.elim
      | dict _ => exact p.elim
end BG
namespace BG
open PySem PySem.Spec PyProof.Rows L2
variable {S : Sc} {Γ : Gam} {a b c e tg : Expr} {ma mb mc m : Rs D} {pos p : Pos}

theorem compF_next {f : D → Rs (List D)} {x : D} {xs r : List D} (h : compF f (x :: xs) = .ok r) : ∃ r1 r2, f x = .ok r1 ∧ compF f xs = .ok r2 ∧ r = r1 ++ r2 := by
  unfold compF at h
  cases q : f x with
  | exc c => rw [q] at h; cases h
  | bad => rw [q] at h; cases h
  | ok r1 =>
    rw [q] at h
    cases q2 : compF f xs with
    | exc c => rw [q2] at h; cases h
    | bad => rw [q2] at h; cases h
    | ok r2 =>
      rw [q2] at h
      have h : Rs.ok (r1 ++ r2) = Rs.ok r := h
      cases h
      exact ⟨r1, r2, rfl, rfl, rfl⟩
theorem compF_bad {f : D → Rs (List D)} : ∀ {xs : List D} {c : Str}, compF f xs ≠ .exc c
  | [], c => fun h => by cases h
  | x :: xs, c => fun h => by
    unfold compF at h
    cases q : f x with
    | exc c => rw [q] at h; cases h
    | bad => rw [q] at h; cases h
    | ok o =>
      rw [q] at h
      cases q2 : compF f xs with
      | exc c' => exact compF_bad q2
      | bad => rw [q2] at h; cases h
      | ok r' => rw [q2] at h; cases h

/-- [elt for x in it0 for y in it1 if ..] -/
theorem df_compNN (i j : Nat) {x y : Str} {px py : Pos} {elt it0 it1 : Expr} {ifs : List Expr} {scope : Scope} {mi : Rs (List D)} {mj : D → Rs (List D)} {mt : D → D → Rs Bool} {me : D → D → Rs D}
    (hi : DI S false Γ (.Name x px) it0 mi) (ok : blkC S.N S.sc scope [(x, i), (y, j)] = true) (hj : ∀ d, DI (S.blk scope) true ((wipeG Γ [i, j]).set i (.dat d)) (.Name y py) it1 (mj d))
    (ht : ∀ d e, DTs (S.blk scope) ((wipeG ((wipeG Γ [i, j]).set i (.dat d)) [j]).set j (.dat e)) ifs (mt d e))
    (he : ∀ d e, DE (S.blk scope) ((wipeG ((wipeG Γ [i, j]).set i (.dat d)) [j]).set j (.dat e)) elt (me d e))
    (hN : S.N[i]? = some x := by rfl) (hl : Loc (S.blk scope).sc x := by first | exact Or.inl rfl | exact Or.inr rfl) (hst : (S.blk scope).st x = true := by rfl)
    (hN2 : S.N[j]? = some y := by rfl) (hl2 : Loc (S.blk scope).sc y := by first | exact Or.inl rfl | exact Or.inr rfl) (hst2 : (S.blk scope).st y = true := by rfl) (hij : i ≠ j := by decide)
    (hs : ∀ (env : Env) x, foldedSetIterable it0 env x = pure x := by intro _ _; rfl) (hs1 : ∀ (env : Env) x, foldedSetIterable it1 env x = pure x := by intro _ _; rfl) :
    DFL S Γ (.ListComp elt [⟨.Name x px, it0, [], 0⟩, ⟨.Name y py, it1, ifs, 0⟩] scope pos) (comp2 mi fun d => comp (mj d) fun e => eltO (mt d e) (me d e)) := by
  obtain ⟨wi, i1, i2⟩ := hi
  have hk : scope.kind = .function := (blkOk_by ok).kind
  let wpI : TI := fun σ H R => ∃ t : TI, (∀ X, Fits (S.blk scope) X → PI X (.Name y py) it1 t) ∧ t σ H R
  have pi_wp : ∀ X, Fits (S.blk scope) X → PI X (.Name y py) it1 wpI := fun X hX => ⟨fun pins s σ H Q I ⟨t, h1, h2⟩ => (h1 X hX).run pins s σ H Q I h2⟩
  refine ⟨tLc2 wi (gName i) tYes wpI (gName j) (wpTs (S.blk scope) ifs) (wpE (S.blk scope) elt) ([(x, i), (y, j)].map (·.2)) [j], fun X hX => ?_, fun X hX i' y' py' spos hi' hy' hw => ?_, fun σ Hd H Q s p => i2 σ Hd H _ s ?_⟩
  · exact pe_lc2 hX.calm hX.nd (i1 X hX) (by rw [hX.N, hX.sc]; exact blkOk_by ok) (by simp) (fun s H C cl fp => fit_name (hX.blk hk s H C cl fp) hN hl hst) (fun s H C cl fp => pts_nil) (fun s H C cl fp => pi_wp _ (hX.blk hk s H C cl fp)) (fun s H C cl fp => fit_name (hX.blk hk s H C cl fp) hN2 hl2 hst2) (fun s H C cl fp => pts_wp (hX.blk hk s H C cl fp)) (fun s H C cl fp => pe_wp (hX.blk hk s H C cl fp)) (hs _) hs1
  · exact ps_setLc2 hX.calm hX.nd hi' hy' hw (i1 X hX) (by rw [hX.N, hX.sc]; exact blkOk_by ok) (by simp) (fun s H C cl fp => fit_name (hX.blk hk s H C cl fp) hN hl hst) (fun s H C cl fp => pts_nil) (fun s H C cl fp => pi_wp _ (hX.blk hk s H C cl fp)) (fun s H C cl fp => fit_name (hX.blk hk s H C cl fp) hN2 hl2 hst2) (fun s H C cl fp => pts_wp (hX.blk hk s H C cl fp)) (fun s H C cl fp => pe_wp (hX.blk hk s H C cl fp)) (hs _) hs1
  · cases mi with
    | exc c => exact p
    | bad => exact p.elim
    | ok xs =>
      intro J Hd1 H1 x1 Gs hz1 hz2 l hl'
      have Gs : Goes S.K J H1 Hd1 xs := Gs
      generalize hf : (fun d => comp (mj d) fun e => eltO (mt d e) (me d e)) = f at p
      have p : FPost S σ Hd H Q ((compF f xs).bind mkLst) := p
      cases hr : compF f xs with
      | exc c => exact absurd hr compF_bad
      | bad => rw [hr] at p; exact p.elim
      | ok r =>
        rw [hr] at p
        have p : FPost S σ Hd H Q (mkLst r) := p
        unfold mkLst at p
        split at p
        case isFalse => exact p.elim
        rename_i hrz
        have hdl : Hd1 l = none := x1.s.free hl'
        have nl : ∀ {b : Addr} {o : HO}, H1 b = some o → b ≠ l := fun q => ne_of_none q hl'
        have base : ∀ Hd2 H2, Ext Hd1 H1 Hd2 H2 → SS (S.blk scope) (wipeG Γ [i, j]) (wipe σ [i, j]) Hd2 H2 := fun Hd2 H2 X2 => by
          have z := ((s.ext x1).ext X2).wiped [i, j]
          exact ⟨z.len, z.sub, z.b1, z.b2, z.b3, z.dat, z.own, z.sep⟩
        have updX : ∀ {Hd4 H4 : Hp} {o : HO}, Ext Hd1 H1 Hd4 H4 → Hd4 l = none → Ext Hd1 H1 Hd4 (upd H4 l o) := fun {Hd4 H4 o} X4 d4 => by
          refine ⟨fun b o q => ?_, X4.d, fun b o q => ?_, X4.o⟩
          · rw [upd_ne (nl q)]
            exact X4.a b o q
          · rw [upd_ne (ne_of_none q d4)]
            exact X4.s b o q
        refine ⟨fun i n H' => n = xs.length - i ∧ i ≤ xs.length ∧ ∃ Hd' acc r1 r2, compF f (xs.drop i) = .ok r2 ∧ r = r1 ++ r2 ∧ Ext Hd1 H1 Hd' H' ∧ Hd' l = none ∧ H' l = some (.lst acc) ∧ RpA S.K Hd' acc r1, ⟨xs.length, by simp, Nat.zero_le _, Hd1, [], [], r, by simpa using hr, rfl, Ext.newOwn x1.s hl', hdl, upd_same, RpA.nil⟩, ?_⟩
        rintro n1 n H' ⟨rfl, hi, Hd', acc, r1, r2, k1, k2, k4, k5, k6, k7⟩
        by_cases hlt : n1 < xs.length
        · refine .inr ⟨Gs.go H' n1 k4.a hlt, fun H2 => ∃ Hd2 acc r1 r2, compF f (xs.drop (n1 + 1)) = .ok r2 ∧ r = r1 ++ r2 ∧ Ext Hd1 H1 Hd2 H2 ∧ Hd2 l = none ∧ H2 l = some (.lst acc) ∧ RpA S.K Hd2 acc r1,
            fun H2 q => ⟨xs.length - (n1 + 1), by omega, rfl, hlt, q⟩, fun xv H2 hy => ?_⟩
          have hxi : xs[n1]? = some xs[n1] := List.getElem?_eq_getElem hlt
          obtain ⟨Hd2, y1, y2⟩ := Gs.yld Hd' H' n1 _ xv H2 k4.a k4.d k4.s hxi hy
          have hsp : xs.drop n1 = xs[n1] :: xs.drop (n1 + 1) := List.drop_eq_getElem_cons hlt
          rw [hsp] at k1
          obtain ⟨q1, q2, f1, f2, f3⟩ := compF_next k1
          rw [← hf] at f1
          have X2 : Ext Hd1 H1 Hd2 H2 := k4.trans y1
          have l2 : H2 l = some (.lst acc) := y1.a _ _ k6
          have d2 : Hd2 l = none := y1.o l (by rw [k6]; simp) k5
          have s2 : SS (S.blk scope) ((wipeG Γ [i, j]).set i (.dat xs[n1])) ((wipe σ [i, j]).set i (some xv)) Hd2 H2 := (base _ _ X2).set i y2
          refine ⟨?_, ?_⟩
          · show wipe ((wipe σ [i, j]).set i (some xv)) [i, j] = wipe σ [i, j]
            rw [wipe_set_mem _ _ _ _ (by simp)]
            show (((((σ.set j none).set i none).set j none).set i none : L2.St)) = (σ.set j none).set i none
            rw [List.set_comm _ _ (fun e => hij e.symm : j ≠ i), List.set_set, List.set_comm _ _ hij, List.set_set]
          unfold tYes
          refine iteT ?_
          -- the inner loop
          obtain ⟨tj, j1, j2⟩ := hj xs[n1]
          refine ⟨tj, j1, j2 _ Hd2 H2 _ s2 ?_⟩
          have f1 : comp (mj xs[n1]) (fun e => eltO (mt xs[n1] e) (me xs[n1] e)) = .ok q1 := f1
          cases hmj : mj xs[n1] with
          | exc c => rw [hmj] at f1; cases f1
          | bad => rw [hmj] at f1; cases f1
          | ok ys =>
            rw [hmj] at f1
            have f1 : compO (fun e => eltO (mt xs[n1] e) (me xs[n1] e)) ys = .ok q1 := f1
            intro J1 Hd3 H3 x3 G1 hy1 hy2
            have G1 : Goes S.K J1 Hd3 Hd3 ys := G1
            have X3 : Ext Hd1 H1 Hd3 H3 := X2.trans x3
            refine ⟨fun jj k H' => k = ys.length - jj ∧ jj ≤ ys.length ∧ ∃ Hd' acc a1 a2, compO (fun e => eltO (mt xs[n1] e) (me xs[n1] e)) (ys.drop jj) = .ok a2 ∧ q1 = a1 ++ a2 ∧ Ext Hd1 H1 Hd' H' ∧ Same Hd3 Hd' ∧ Hd' l = none ∧ H' l = some (.lst acc) ∧ RpA S.K Hd' acc (r1 ++ a1),
              ⟨ys.length, by simp, Nat.zero_le _, Hd3, acc, [], q1, by simpa using f1, rfl, X3, Same.refl _, x3.o l (by rw [l2]; simp) d2, x3.a _ _ l2, by rw [List.append_nil]; exact k7.mono (y1.d.trans x3.d)⟩, ?_⟩
            rintro jj k H4 ⟨rfl, hjj, Hd4, acc4, a1, a2, w1, w2, w3, w4, w5, w6, w7⟩
            by_cases hjl : jj < ys.length
            · refine .inr ⟨G1.go H4 jj (w4.trans w3.s) hjl, fun H' => ∃ Hd' acc a1 a2, compO (fun e => eltO (mt xs[n1] e) (me xs[n1] e)) (ys.drop (jj + 1)) = .ok a2 ∧ q1 = a1 ++ a2 ∧ Ext Hd1 H1 Hd' H' ∧ Same Hd3 Hd' ∧ Hd' l = none ∧ H' l = some (.lst acc) ∧ RpA S.K Hd' acc (r1 ++ a1),
                fun H' q => ⟨ys.length - (jj + 1), by omega, rfl, hjl, q⟩, fun yv H5 hyy => ?_⟩
              have hyi : ys[jj]? = some ys[jj] := List.getElem?_eq_getElem hjl
              obtain ⟨Hd5, z1, z2⟩ := G1.yld Hd4 H4 jj _ yv H5 (w4.trans w3.s) w4 w3.s hyi hyy
              have hsp1 : ys.drop jj = ys[jj] :: ys.drop (jj + 1) := List.drop_eq_getElem_cons hjl
              rw [hsp1] at w1
              have X5 : Ext Hd1 H1 Hd5 H5 := w3.trans z1
              have l5 : H5 l = some (.lst acc4) := z1.a _ _ w6
              have d5 : Hd5 l = none := z1.o l (by rw [w6]; simp) w5
              have e25 : Same Hd2 Hd5 := (x3.d.trans w4).trans z1.d
              have s5 : SS (S.blk scope) ((wipeG ((wipeG Γ [i, j]).set i (.dat xs[n1])) [j]).set j (.dat ys[jj])) ((wipe ((wipe σ [i, j]).set i (some xv)) [j]).set j (some yv)) Hd5 H5 :=
                ((((base _ _ X5).set i (y2.mono e25)).wiped [j]).set j z2)
              refine ⟨?_, ?_⟩
              · show wipe ((wipe ((wipe σ [i, j]).set i (some xv)) [j]).set j (some yv)) [j] = wipe ((wipe σ [i, j]).set i (some xv)) [j]
                rw [wipe_set_mem _ _ _ _ (by simp)]
                show (((((wipe σ [i, j]).set i (some xv)).set j none).set j none : L2.St)) = _
                rw [List.set_set]
                rfl
              refine (ht xs[n1] ys[jj]).wp _ Hd5 H5 _ s5 ?_
              have a17 := w7.len
              cases hm : mt xs[n1] ys[jj] with
              | exc c =>
                exfalso
                rcases compO_next w1 with ⟨d, r', q1, _⟩ | ⟨q1, _⟩ <;> (rw [hm] at q1; cases q1)
              | bad =>
                exfalso
                rcases compO_next w1 with ⟨d, r', q1, _⟩ | ⟨q1, _⟩ <;> (rw [hm] at q1; cases q1)
              | ok tb =>
                intro Hd6 H6 x6
                have d6 : Hd6 l = none := x6.o l (by rw [l5]; simp) d5
                cases tb with
                | false =>
                  refine iteF ?_
                  rcases compO_next w1 with ⟨d, r', u1, _⟩ | ⟨u1, u2⟩
                  · rw [hm] at u1; cases u1
                  · exact ⟨Hd6, acc4, a1, a2, u2, w2, X5.trans x6, (w4.trans z1.d).trans x6.d, d6, x6.a _ _ l5, w7.mono (z1.d.trans x6.d)⟩
                | true =>
                  refine iteT ((he xs[n1] ys[jj]).wp _ Hd6 H6 _ (s5.ext x6) ?_)
                  cases hme : me xs[n1] ys[jj] with
                  | exc c =>
                    exfalso
                    rcases compO_next w1 with ⟨d, r', q1, _⟩ | ⟨q1, _⟩ <;> (rw [hm, hme] at q1; cases q1)
                  | bad =>
                    exfalso
                    rcases compO_next w1 with ⟨d, r', q1, _⟩ | ⟨q1, _⟩ <;> (rw [hm, hme] at q1; cases q1)
                  | ok d =>
                    intro yy Hd7 H7 x7 r7
                    rcases compO_next w1 with ⟨d', r', u1, u2, u3⟩ | ⟨u1, _⟩
                    · rw [hm, hme] at u1
                      cases u1
                      have l7 : H7 l = some (.lst acc4) := x7.a _ _ (x6.a _ _ l5)
                      have d7 : Hd7 l = none := x7.o l (by rw [x6.a _ _ l5]; simp) d6
                      have X7 : Ext Hd1 H1 Hd7 H7 := (X5.trans x6).trans x7
                      have rr : RpA S.K Hd7 (acc4 ++ [yy]) (r1 ++ (a1 ++ [d])) := by
                        rw [← List.append_assoc]
                        exact (w7.mono ((z1.d.trans x6.d).trans x7.d)).append (RpA.cons r7 RpA.nil)
                      refine ⟨acc4, l7, ?_, Hd7, acc4 ++ [yy], a1 ++ [d], r', u2, by rw [w2, u3]; simp, updX X7 d7, ((w4.trans z1.d).trans x6.d).trans x7.d, d7, upd_same, rr⟩
                      rw [← sizeMax_eq]
                      rw [k2, f3, w2, u3] at hrz
                      simp at hrz a17
                      omega
                    · rw [hm, hme] at u1; cases u1
            · have hie : jj = ys.length := by omega
              subst hie
              refine .inl ⟨G1.stop H4 _ (w4.trans w3.s) (Nat.le_refl _), ?_⟩
              rw [List.drop_length] at w1
              have w1 : Rs.ok [] = Rs.ok a2 := w1
              cases w1
              rw [List.append_nil] at w2
              subst w2
              exact ⟨Hd4, acc4, r1 ++ q1, q2, f2, by rw [k2, f3]; simp, w3, w5, w6, w7⟩
        · have hie : n1 = xs.length := by omega
          subst hie
          refine .inl ⟨Gs.stop H' _ k4.a (Nat.le_refl _), ?_⟩
          rw [List.drop_length] at k1
          have k1 : Rs.ok [] = Rs.ok r2 := k1
          cases k1
          rw [List.append_nil] at k2
          subst k2
          exact p l acc Hd' H' (x1.trans k4) (x1.a.free hl') k6 k5 k7 hrz
end BG
namespace BG
open PySem PySem.Spec PyProof.Rows L2
variable {S : Sc} {Γ : Gam} {a b c e tg : Expr} {ma mb mc m : Rs D} {pos p : Pos} {A : Type} {G : A → Gam} {ss rest : List Stmt}

/-- what is known of the classes cs of the module, all below B -/
structure ExcT (K : PySem.W.Frag) (mg : Str → Option Value) (B : Str) (cs : List Str) : Prop where
  b : mg B = some (.ref (He.ga K B))
  g : ∀ c ∈ cs, mg c = some (.ref (He.ga K c))
  m : ∀ c ∈ cs, PySem.W.exmOne K (.ref (He.ga K c)) (.ref (He.ga K B)) = some true
  c : ∀ c ∈ cs, ExcC K (He.ga K c)
  k : ∀ c ∈ cs, ∀ y ∈ cs, PySem.W.kitOne K (.ref (He.ga K c)) (.ref (He.ga K y)) = some (decide (y = c))
theorem ixS_mem {c : Str} : ∀ {cs : List Str} {n i : Nat}, ixS c cs n = some i → c ∈ cs
  | [], n, i, h => by cases h
  | x :: xs, n, i, h => by
    unfold ixS at h
    split at h
    · rename_i e; rw [e]; simp
    · exact List.mem_cons_of_mem _ (ixS_mem h)
def Sc.withW (S : Sc) (W : WX) : Sc := { S with W := W }
theorem SS.withW {W : WX} {σ : L2.St} {Hd H : Hp} (s : SS S Γ σ Hd H) : SS (S.withW W) Γ σ Hd H := ⟨s.len, s.sub, s.b1, s.b2, s.b3, s.dat, s.own, s.sep⟩
theorem SS.ofW {W : WX} {σ : L2.St} {Hd H : Hp} (s : SS (S.withW W) Γ σ Hd H) : SS S Γ σ Hd H := ⟨s.len, s.sub, s.b1, s.b2, s.b3, s.dat, s.own, s.sep⟩
theorem Fits.tr {X : Cx} (hX : Fits S X) {W : WX} (pn : List (Addr × Obj)) (xe : Value → Shared → Prop) (tk : Takes (X.tr pn xe) W) (ow : PassesOwn (model X.prog X.w) X.A X.env xe) : Fits (S.withW W) (X.tr pn xe) :=
  ⟨hX.P, hX.w, hX.K, hX.mg, hX.base, hX.N, hX.sc, hX.st, hX.nd, hX.kind, hX.calm, hX.room, tk, ow, hX.top⟩
/-- the reading of the suite -/
def tIs3 (K : PySem.W.Frag) (i : Nat) (a1 a2 a3 : Str) (a : Addr) (c : Str) : TS :=
  tSeq (tRet (tBM K "list" (rIndexD K) (tLst (tCons (tCB (rIsE K (He.ga K c) a) (tCons (tVar i) (tCons (tC (.ref (He.ga K a1))) tNil))) (tCons (tCB (rIsE K (He.ga K c) a) (tCons (tVar i) (tCons (tC (.ref (He.ga K a2))) tNil)))
    (tCons (tCB (rIsE K (He.ga K c) a) (tCons (tVar i) (tCons (tC (.ref (He.ga K a3))) tNil))) tNil)))) (tCons (tC (.bl true)) tNil))) tNext
abbrev isCall (n x : Str) (p1 p2 p3 p4 : Pos) : Expr := .Call (.Name "isinstance" p1) [.Name n p2, .Name x p3] [] p4
theorem pe_isE {X : Cx} {oe : Obj} {pn : List (Addr × Obj)} {a : Addr} {i : Nat} {n x c : Str} {p1 p2 p3 p4 : Pos} (hX : Fits S X) (C : ExcC S.K (He.ga S.K c)) (hz : Zc (.ref (He.ga S.K c)) none oe) (hf : ∃ vs, oe.data = .fields vs) (hN : S.N[i]? = some n) (hv : Vis S.sc n) (hd : (n == ("__debug__" : Str)) = false) (hcd : (n == ("__classdict__" : Str)) = false)
    (hm : S.mg "isinstance" = none) (hmx : S.mg x = some (.ref (He.ga S.K x))) (hg : GlS S "isinstance") (hgx : GlS S x) (hdx : (x == ("__debug__" : Str)) = false) : PE (X.suite a ((a, oe) :: pn)) (isCall n x p1 p2 p3 p4) (tCB (rIsE S.K (He.ga S.K c) a) (tCons (tVar i) (tCons (tC (.ref (He.ga S.K x))) tNil))) := by
  have cr := call_isE (X := X) (a := a) (pn := pn) (hX.K.symm ▸ C) hz hf
  rw [hX.K] at cr
  refine pe_callB cr (show X.env.scope.names.lookup _ = _ by rw [hX.sc]; exact hg) (show X.mg _ = _ by rw [hX.mg]; exact hm) (by decide +kernel) (pa_cons ?_ (pa_cons ?_ pa_nil rfl) rfl)
  · exact pe_var (show X.N[i]? = _ by rw [hX.N]; exact hN) (show Vis X.env.scope n by rw [hX.sc]; exact hv) hd hcd
  · exact pe_glob (show X.env.scope.names.lookup _ = _ by rw [hX.sc]; exact hgx) (show X.mg _ = _ by rw [hX.mg]; exact hmx) rfl hdx
theorem db_try3 {B : Type} {GB : B → Gam} (i : Nat) {n x a1 a2 a3 : Str} {np ap cp lp rp pos' p1 p2 p3 p4 q1 q2 q3 q4 r1 r2 r3 r4 p5 : Pos} {j5 : Nat} {body : List Stmt} {m : Rs (Out B)} {f : B → Rs (Out A)}
    (T : ExcT S.K S.mg x [a1, a2, a3]) (hb : ∀ W, DB (S.withW W) Γ body GB m) (k : ∀ b, DB S (GB b) rest G (f b)) (hm : S.mg "isinstance" = none) (top : S.top = true) (hl : ∀ x, (GB x).length = Γ.length := by intro _; rfl) (hi : (Γ[i]?).isSome = true := by rfl)
    (hN : S.N[i]? = some n := by rfl) (hloc : S.sc.names.lookup n = some .local := by rfl) (hgx : GlS S x := by rfl) (hdx : (x == ("__debug__" : Str)) = false := by decide)
    (hd : (n == ("__debug__" : Str)) = false := by decide) (hcd : (n == ("__classdict__" : Str)) = false := by decide) (hg : GlS S "isinstance" := by rfl)
    (hg1 : GlS S a1 := by rfl) (hg2 : GlS S a2 := by rfl) (hg3 : GlS S a3 := by rfl) (hd1 : (a1 == ("__debug__" : Str)) = false := by decide) (hd2 : (a2 == ("__debug__" : Str)) = false := by decide) (hd3 : (a3 == ("__debug__" : Str)) = false := by decide)
    (hline : (ap.endLine == cp.line) = true := by rfl)
    (hbase : ∀ env : Env, attributeBase (.List [isCall n a1 p1 p2 p3 p4, isCall n a2 q1 q2 q3 q4, isCall n a3 r1 r2 r3 r4] lp) "index" env (eval (.List [isCall n a1 p1 p2 p3 p4, isCall n a2 q1 q2 q3 q4, isCall n a3 r1 r2 r3 r4] lp) env) = eval (.List [isCall n a1 p1 p2 p3 p4, isCall n a2 q1 q2 q3 q4, isCall n a3 r1 r2 r3 r4] lp) env := by intro _; rfl) :
    DB S Γ (.Try body [.ExceptHandler (some (.Name x np)) (some n) [.Return (some (.Call (.Attribute (.List [isCall n a1 p1 p2 p3 p4, isCall n a2 q1 q2 q3 q4, isCall n a3 r1 r2 r3 r4] lp) "index" ap) [.Constant (.bool true) j5 p5] [] cp)) rp] pos'] [] [] pos :: rest) G
      (tryO m (excIx [a1, a2, a3]) f) := by
  let ts : Addr → Value → Option Addr → TS := fun a cls d E σ H => ∃ c, c ∈ [a1, a2, a3] ∧ cls = .ref (He.ga S.K c) ∧ d = none ∧ tIs3 S.K i a1 a2 a3 a c E σ H
  have hvis : Vis S.sc n := .inl hloc
  refine ⟨tSeq (fun D σ H => wpB (S.withW (wAs S.K (.ref (He.ga S.K x)) i ts S.W D)) body D σ H) (wpB S rest), fun X hX => pss_cons ?_ (ps_wp hX), fun σ Hd H E s p => ?_⟩
  · have q := ps_try_as (X := X) (x := x) (n := n) (c := .ref (He.ga S.K x)) (i := i) (body := body) (np := np) (pos := pos) (pos' := pos') (tb := fun W => wpB (S.withW W) body) (ts := ts) (Wout := S.W)
      (b₀ := .Return (some (.Call (.Attribute (.List [isCall n a1 p1 p2 p3 p4, isCall n a2 q1 q2 q3 q4, isCall n a3 r1 r2 r3 r4] lp) "index" ap) [.Constant (.bool true) j5 p5] [] cp)) rp) (suite := []) (hX.top top).1 (hX.top top).2 hX.nd (by rw [hX.N]; exact hN) (show X.env.scope.names.lookup n = _ by rw [hX.sc]; exact hloc)
      ⟨hgx.gl hX, hdx, .inl (by rw [hX.mg]; exact T.b)⟩ hX.takes (fun W pn xe tk ow => ps_wp (hX.tr pn xe tk ow)) (fun a oe cls d pn hz hfl => ⟨fun pins s' σ' H' E' I h => ?_⟩)
    · rw [hX.K] at q
      exact q
    · obtain ⟨c, hc, rfl, rfl, h⟩ := h
      have is : ∀ {y : Str} {u1 u2 u3 u4 : Pos}, y ∈ [a1, a2, a3] → GlS S y → (y == ("__debug__" : Str)) = false → PE (X.suite a ((a, oe) :: pn)) (isCall n y u1 u2 u3 u4) (tCB (rIsE S.K (He.ga S.K c) a) (tCons (tVar i) (tCons (tC (.ref (He.ga S.K y))) tNil))) :=
        fun hy hgy hdy => pe_isE hX (T.c c hc) hz hfl hN hvis hd hcd hm (T.g _ hy) hg hgy hdy
      have hu0 : X.A.units + 65 < cLine := units65 hX
      have hu : (X.suite a ((a, oe) :: pn)).A.units + 65 < cLine := hu0
      have mt := mt_indexD hu
      have q := pe_bm (X := X.suite a ((a, oe) :: pn)) (apos := ap) (cpos := cp) PySem.F.plainAttrs_list PySem.F.slot_list_index PySem.F.type_list_index mt (pe_lst (pos := lp) (pa_cons (is (u1 := p1) (u2 := p2) (u3 := p3) (u4 := p4) (by simp) hg1 hd1) (pa_cons (is (u1 := q1) (u2 := q2) (u3 := q3) (u4 := q4) (by simp) hg2 hd2) (pa_cons (is (u1 := r1) (u2 := r2) (u3 := r3) (u4 := r4) (by simp) hg3 hd3) pa_nil rfl) rfl) rfl))
        (pa_cons (pe_bl (b := true) (j := j5) (pos := p5)) pa_nil rfl) (hbase _) rfl hline rfl rfl
      have q2 := pss_cons (ps_ret (pos := rp) q) pss_nil
      have q2 : PSs (X.suite a ((a, oe) :: pn)) _ (tSeq (tRet (tBM X.K "list" (rIndexD X.K) _ _)) tNext) := q2
      rw [hX.K] at q2
      exact q2.run pins s' σ' H' E' I h
  · show wpB _ body _ σ H
    refine (hb _).wp σ Hd H _ s.withW ?_
    cases m with
    | bad => exact p.elim
    | ok o =>
      cases o with
      | nx x => exact fun σ' Hd' H' s' e' => (k x).wp σ' Hd' H' E s'.ofW (by rw [hl x]; exact BPost.after e' p)
      | rt d => exact p
    | exc c =>
      intro σ' Hd' H' s'
      have p : BPost S Γ.length Hd G E (excIx [a1, a2, a3] c) := p
      unfold excIx at p
      cases hix : ixS c [a1, a2, a3] 0 with
      | none => rw [hix] at p; exact p.elim
      | some jx =>
        rw [hix] at p
        have hc := ixS_mem hix
        have s' := s'.ofW
        refine ⟨true, T.m c hc, fun _ a ha => ⟨c, hc, rfl, rfl, ?_⟩, fun z => nomatch z⟩
        have hσ : (σ'.set i (some (V.ref a)))[i]? = some (some (.ref a)) := by
          refine List.getElem?_set_self ?_
          rw [← s'.len]
          unfold noG
          rw [List.length_replicate]
          obtain ⟨z, hz⟩ := Option.isSome_iff_exists.mp hi
          exact (List.getElem?_eq_some_iff.mp hz).1
        have one : ∀ {y : Str}, y ∈ [a1, a2, a3] → ∀ {H1 : Hp} {Q : VK}, Q (.bl (decide (y = c))) H1 → tCB (rIsE S.K (He.ga S.K c) a) (tCons (tVar i) (tCons (tC (.ref (He.ga S.K y))) tNil)) (σ'.set i (some (V.ref a))) H1 Q := fun {y} hy {H1 Q} q =>
          ⟨_, hσ, .ref (He.ga S.K y), .ref (He.ga S.K y), _, rfl, fun u r => r, T.k c hc y hy, q⟩
        refine one (by simp) (one (by simp) (one (by simp) ⟨by show 3 ≤ sizeLine; decide, fun l hn => ⟨.inl ⟨rfl, _, .inl (.inl upd_same)⟩, ?_⟩⟩))
        have sub := s'.sub
        have dl : Hd' l = none := sub.free hn
        have X1 : Ext S.Bd S.Bh Hd' (upd H' l (.lst [.bl (decide (a1 = c)), .bl (decide (a2 = c)), .bl (decide (a3 = c))])) := s'.base.trans (Ext.newOwn sub hn)
        have fin : ∀ (jj : Nat), jj = jx → E.rt (.int (jj : Nat)) (upd H' l (.lst [.bl (decide (a1 = c)), .bl (decide (a2 = c)), .bl (decide (a3 = c))])) := fun jj e => by
          subst e
          exact p _ _ _ X1 Rp.int
        have dvl : Dp S.K (upd H' l (.lst [.bl (decide (a1 = c)), .bl (decide (a2 = c)), .bl (decide (a3 = c))])) (V.ref l) (.list [.bool (decide (a1 = c)), .bool (decide (a2 = c)), .bool (decide (a3 = c))]) :=
          (Dv.lst (.inl upd_same) (.cons (.bl _) (.cons (.bl _) (.cons (.bl _) .nil)))).dp
        unfold ixS ixS ixS ixS at hix
        by_cases e1 : a1 = c
        · rw [if_pos e1] at hix
          cases hix
          exact ⟨l, .bl true, .bool true, [.bool (decide (a1 = c)), .bool (decide (a2 = c)), .bool (decide (a3 = c))], 0, .bool (decide (a1 = c)), rfl, rfl, dvl, .bl true, rfl, rfl, rfl, by rw [decide_eq_true e1]; rfl, fun mm z h => absurd h (Nat.not_lt_zero _), fin 0 rfl⟩
        · rw [if_neg e1] at hix
          by_cases e2 : a2 = c
          · rw [if_pos e2] at hix
            cases hix
            exact ⟨l, .bl true, .bool true, [.bool (decide (a1 = c)), .bool (decide (a2 = c)), .bool (decide (a3 = c))], 1, .bool (decide (a2 = c)), rfl, rfl, dvl, .bl true, rfl, rfl, rfl, by rw [decide_eq_true e2]; rfl, fun mm z h hz => by
              have : mm = 0 := by omega
              subst this
              cases hz
              rw [decide_eq_false e1]; rfl, fin 1 rfl⟩
          · rw [if_neg e2] at hix
            by_cases e3 : a3 = c
            · rw [if_pos e3] at hix
              cases hix
              exact ⟨l, .bl true, .bool true, [.bool (decide (a1 = c)), .bool (decide (a2 = c)), .bool (decide (a3 = c))], 2, .bool (decide (a3 = c)), rfl, rfl, dvl, .bl true, rfl, rfl, rfl, by rw [decide_eq_true e3]; rfl, fun mm z h hz => by
                have : mm = 0 ∨ mm = 1 := by omega
                rcases this with rfl | rfl
                · cases hz; rw [decide_eq_false e1]; rfl
                · cases hz; rw [decide_eq_false e2]; rfl, fin 2 rfl⟩
            · rw [if_neg e3] at hix
              cases hix
end BG
namespace BG
open PySem PySem.Spec PyProof.Rows L2
variable {S : Sc} {Γ : Gam} {a b c e tg : Expr} {ma mb mc m : Rs D} {pos p : Pos} {A : Type} {G : A → Gam} {ss rest : List Stmt}

theorem de_index {ap cp : Pos} (ha : DQ S Γ a ma) (hb : DE S Γ b mb) (hline : (ap.endLine == cp.line) = true := by rfl) (hst : NoStar b := by intro _ _; rfl)
    (hbase : ∀ env : Env, attributeBase a "index" env (eval a env) = eval a env := by intro _; rfl) :
    DE S Γ (.Call (.Attribute a "index" ap) [b] [] cp) (ma.bind fun d => (ofList d).bind fun ds => mb.bind fun e => pyIndex ds e) := by
  obtain ⟨ta, a1, a2⟩ := ha
  obtain ⟨tb, b1, b2⟩ := hb
  refine ⟨tBM S.K "list" (rIndexD S.K) ta (tCons tb tNil), fun X hX => ?_, fun σ Hd H Q s p => a2 σ Hd H _ s ?_⟩
  · have mt : MtR X "list.index" (rIndexD X.K) := mt_indexD (units65 hX)
    have q := pe_bm (X := X) (apos := ap) (cpos := cp) PySem.F.plainAttrs_list PySem.F.slot_list_index PySem.F.type_list_index mt (a1 X hX) (pa_cons (b1 X hX) pa_nil (hst _ _)) (hbase _) (by rw [hst]; rfl) hline (hst _ _)
    rw [hX.K] at q
    exact q
  · cases ma with
    | exc c => exact p
    | bad => exact p.elim
    | ok d =>
      intro v Hd1 H1 e1 r1
      have s1 := s.ext e1
      have p : EPost S (fun Hd _ => Rp S.K Hd) σ Hd1 H1 Q ((ofList d).bind fun ds => mb.bind fun e => pyIndex ds e) := EPost.after e1 p
      cases d with
      | list ds =>
        obtain ⟨l, vs, rfl, h1, h2, h3⟩ := r1.seqL s1.sub
        refine ⟨.inl ⟨rfl, _, .inl h1⟩, b2 σ Hd1 H1 _ s1 ?_⟩
        cases mb with
        | exc c => exact p
        | bad => exact p.elim
        | ok e =>
          intro y Hd2 H2 e2 r2
          have p : EPost S (fun Hd _ => Rp S.K Hd) σ Hd2 H2 Q (pyIndex ds e) := EPost.after e2 p
          have s2 := s1.ext e2
          unfold pyIndex at p
          split at p
          · rename_i hsh
            cases hix : ds.findIdx? (fun z => PyData.eqv z e) with
            | none => rw [hix] at p; exact p.elim
            | some j =>
              rw [hix] at p
              obtain ⟨hj, hz, hno⟩ := List.findIdx?_eq_some_iff_getElem.mp hix
              have dl : Dp S.K H2 (V.ref l) (.list ds) := (Dv.lst (rd_mono e2.a h1) ((h2.mono e2.d).1.mono s2.sub)).dp
              refine ⟨l, y, e, ds, j, ds[j], rfl, rfl, dl, (r2.1.mono s2.sub).dp, hsh.1, hsh.2, List.getElem?_eq_getElem hj, hz, fun mm z hm hz' => ?_, p _ _ _ (Ext.refl s2.sub) Rp.int⟩
              have hml : mm < ds.length := by omega
              rw [List.getElem?_eq_getElem hml] at hz'
              cases hz'
              have := hno mm hm
              simpa using this
          · exact p.elim
      | none => exact p.elim
      | bool _ => exact p.elim
      | int _ => exact p.elim
      | str _ => exact p.elim
      | tuple _ => exact p.elim
      | dict _ => exact p.elim

/-- the names of defs, each callable at level k with n arguments -/
inductive DFns (S : Sc) (k n : Nat) : List Expr → List (List D → Rs D) → Prop
  | nil : DFns S k n [] []
  | cons {x : Str} {px : Pos} {es : List Expr} {m : List D → Rs D} {ms : List (List D → Rs D)} {j : Nat} (C : CalS S x j n m) (hj : j ≤ k) (hg : GlS S x) (hd : (x == ("__debug__" : Str)) = false) (t : DFns S k n es ms) : DFns S k n (.Name x px :: es) (m :: ms)
/-- the function f keeps the promise of m -/
def Fnm (S : Sc) (k n : Nat) (m : List D → Rs D) (f : Addr) : Prop := ∃ fd ps, FnOk S.P S.w S.K S.mg S.base (L2.CX S.P S.w) k f fd ps (spD S.K n m) ∧ PySem.W.keepIn S.K (.ref f) = true ∧ Binds S.K fd ps []
theorem DFns.pa {k n : Nat} {es : List Expr} {ms : List (List D → Rs D)} (h : DFns S k n es ms) : ∃ fs : List Addr, fs.length = ms.length ∧ (∀ (i : Nat) f m, fs[i]? = some f → ms[i]? = some m → Fnm S k n m f) ∧ ∃ t : TA, (∀ X, Fits S X → PA X es t) ∧ ∀ σ H Q, Q (fs.map V.ref) H → t σ H Q := by
  induction h with
  | nil => exact ⟨[], rfl, fun i f m h => by simp at h, tNil, fun _ _ => pa_nil, fun σ H Q q => q⟩
  | @cons x px es m ms j C hj hg hd t ih =>
    obtain ⟨fs, h1, h2, t, h3, h4⟩ := ih
    obtain ⟨f, fd, ps, F, c1, c2, c3⟩ := C
    refine ⟨f :: fs, by simp [h1], fun i g m' hi hm => ?_, tCons (tC (.ref f)) t, fun X hX => pa_cons (pe_glob (hg.gl hX) (by rw [hX.mg]; exact c1) rfl hd) (h3 X hX) rfl, fun σ H Q q => h4 σ H _ q⟩
    cases i with
    | zero =>
      simp at hi hm
      subst hi hm
      exact ⟨fd, ps, F.mono hj, c2, c3⟩
    | succ i => exact h2 i g m' (by simpa using hi) (by simpa using hm)
def tCallX (S : Sc) (k n : Nat) (tf : TE) (t : TA) : TE := fun σ H Q => tf σ H fun y H1 => ∃ f m, y = .ref f ∧ Fnm S k n m f ∧ t σ H1 fun vs H2 => spD S.K n m vs H2 Q (WE S.W σ)
theorem pe_callX {X : Cx} {k n : Nat} {fe : Expr} {es : List Expr} {tf : TE} {t : TA} (hX : Fits S X) (hk : k ≤ S.k) (hf : PE X fe tf) (ha : PA X (e :: es) t)
    (ht : eval (.Call fe (e :: es) [] pos) X.env = (do callWith pos (← eval fe X.env) [] (backTo pos (starEach (e :: es) X.env)) (backToKw pos (keywordEach [] X.env))))
    (he : starEach (e :: es) X.env = (false, eval e X.env) :: starEach es X.env) (hpl : (backTo pos (starEach es X.env)).any (·.1) = false) : PE X (.Call fe (e :: es) [] pos) (tCallX S k n tf t) := by
  refine ⟨fun pins s σ H Q I h => ?_⟩
  refine Call_ (thn (hf.run pins s σ H _ I h) fun u s1 ⟨y, H1, I1, ry, f, m, ey, ⟨fd, ps, F, k2, k3⟩, q⟩ => ?_) ht
  subst ey
  obtain rfl : u = Value.ref f := ry
  have F' : FnOk X.prog X.w X.K X.mg X.base (L2.CX X.prog X.w) k f fd ps (spD S.K n m) := by
    rw [hX.P, hX.w, hX.K, hX.mg, hX.base]
    exact F
  refine PySem.W.callWith_K (h₀ := X.base) I.ok.mod.kin (by rw [hX.K]; exact k2) (thn (ha.run pos pins s1 σ H1 _ I1 q) fun us s2 ⟨vs, H2, I2, r, q2⟩ => ⟨I2.kIn, ?_⟩) he hpl
  exact run_fnS F' (hX.room.mono hk) (by rw [hX.K]; exact k3) (passAt hX.takes σ) I2 r q2
/-- [f, g, ..][i](a, ..) -/
theorem de_callIx {k n : Nat} {fs es : List Expr} {ms : List (List D → Rs D)} {mi : Rs D} {mr : Rs (List D)} {i : Expr} {lp sp : Pos} (hF : DFns S k n fs ms) (hk : k ≤ S.k) (hi : DE S Γ i mi) (ha : DA S Γ (a :: es) mr) (hms : ms.length ≤ 1000) (hl : (a :: es).length = n := by rfl) (hs : NoStar a := by intro _ _; rfl) (hsi : PlainIx i := by intro _ _; rfl)
    (hp : ∀ (pos : Pos) env, (backTo pos (starEach es env)).any (·.1) = false := by intro _ _; rfl) (hlen : ∀ ds, mr = .ok ds → ds.length = n)
    (ht : ∀ env : Env, eval (.Call (.Subscript (.List fs lp) i sp) (a :: es) [] pos) env = (do callWith pos (← eval (.Subscript (.List fs lp) i sp) env) [] (backTo pos (starEach (a :: es) env)) (backToKw pos (keywordEach [] env))) := by intro _; rfl) :
    DE S Γ (.Call (.Subscript (.List fs lp) i sp) (a :: es) [] pos) (mi.bind fun d => pickF ms d fun m => mr.bind m) := by
  obtain ⟨fs', f1, f2, tf, f3, f4⟩ := hF.pa
  obtain ⟨ti, i1, i2⟩ := hi
  obtain ⟨t, a1, a2⟩ := ha
  refine ⟨tCallX S k n (tOp (fun x y H Q => rIxL S.K x y H Q ∨ rIxT S.K x y H Q) (tLst tf) ti) t, fun X hX => pe_callX hX hk (pe_ix (ixr_or (hX.K ▸ ix_list) (hX.K ▸ ix_tup)) (pe_lst (f3 X hX)) (i1 X hX) hsi) (a1 X hX) (ht _) (hs _ _) (hp _ _), fun σ Hd H Q s p => ?_⟩
  refine f4 σ H _ ⟨by rw [List.length_map, f1]; have := sizeMax_eq; unfold sizeMax at this; omega, fun l hn => ?_⟩
  have dl : Hd l = none := s.sub.free hn
  have e0 : Ext Hd H Hd (upd H l (.lst (fs'.map V.ref))) := Ext.newOwn s.sub hn
  refine i2 σ Hd _ _ (s.ext e0) ?_
  cases mi with
  | exc c => exact EPost.after e0 p
  | bad => exact p.elim
  | ok d =>
    intro y Hd1 H1 e1 r1
    have e01 := e0.trans e1
    have p : EPost S (fun Hd _ => Rp S.K Hd) σ Hd1 H1 Q (pickF ms d fun m => mr.bind m) := EPost.after e01 p
    cases d with
    | int j =>
      have p : EPost S (fun Hd _ => Rp S.K Hd) σ Hd1 H1 Q (match (ixOf ms.length j).bind fun n => ms[n]? with | some m => mr.bind m | none => .bad) := p
      cases r1.1
      cases hq : (ixOf ms.length j).bind fun n => ms[n]? with
      | none => rw [hq] at p; exact p.elim
      | some m =>
        rw [hq] at p
        obtain ⟨kk, k1, k2⟩ := Option.bind_eq_some_iff.mp hq
        have hkl : kk < fs'.length := by rw [f1]; exact (List.getElem?_eq_some_iff.mp k2).1
        refine .inl ⟨l, fs'.map V.ref, j, .ref fs'[kk], rfl, rfl, .inl (.inl (e1.a _ _ upd_same)), ?_, fs'[kk], m, rfl, f2 kk _ m (List.getElem?_eq_getElem hkl) k2, a2 σ Hd1 H1 _ (s.ext e01) ?_⟩
        · unfold atI
          rw [List.length_map, f1, ← ixOf_ixN, k1]
          simp [hkl]
        · cases mr with
          | exc c => exact p
          | bad => exact p.elim
          | ok ds =>
            intro vs Hd2 H2 e2 r2
            refine ⟨by rw [r2.len]; exact hlen ds rfl, ds, Hd2, e2.s, r2, ?_⟩
            have p : EPost S (fun Hd _ => Rp S.K Hd) σ Hd2 H2 Q (m ds) := EPost.after e2 p
            cases hm : m ds with
            | ok d => rw [hm] at p; exact p
            | exc c => rw [hm] at p; exact p
            | bad => rw [hm] at p; exact p
    | none => exact p.elim
    | bool _ => exact p.elim
    | str _ => exact p.elim
    | list _ => exact p.elim
    | tuple _ => exact p.elim
    | dict _ => exact p.elim
end BG
namespace BG
open PySem PySem.Spec PyProof.Rows L2
variable {S : Sc} {Γ : Gam} {a b c e tg : Expr} {ma mb mc m : Rs D} {pos p : Pos} {A : Type} {G : A → Gam} {ss rest : List Stmt}

def Three (S : Sc) (st : Stmt) (a b c : Expr) (i j l : Nat) : Prop := ∃ Qf : Ends → L2.St → List V → Hp → Prop, (∀ X, Fits S X → ∀ ta, PA X [a, b, c] ta → PS X st (fun E σ H => ta σ H (Qf E σ))) ∧
  ∀ E σ u v w H1, (∀ H2, (H2 = H1 ∨ ∃ p, H1 p = none ∧ H2 = upd H1 p (.tup [u, v, w])) → E.nx (((σ.set i (some u)).set j (some v)).set l (some w)) H2) → Qf E σ [u, v, w] H1
theorem three_loc {x y z : Str} {i j l : Nat} {px py pz pt pt2 : Pos} {kt k2 : Nat} (hN : S.N[i]? = some x := by rfl) (hN2 : S.N[j]? = some y := by rfl) (hN3 : S.N[l]? = some z := by rfl) (hij : i ≠ j := by decide) (hil : i ≠ l := by decide) (hjl : j ≠ l := by decide) (hx : S.sc.names.lookup x = some .local := by rfl) (hy : S.sc.names.lookup y = some .local := by rfl) (hz : S.sc.names.lookup z = some .local := by rfl)
    (hw : ∀ env : Env, env.scope = S.sc → swappedStores [.Tuple [.Name x px, .Name y py, .Name z pz] kt pt] (.Tuple [a, b, c] k2 pt2) env = pure (some [x, y, z]) := by intro env h; obtain ⟨⟩ := env; cases h; rfl)
    (hs : ∀ (env : Env) line, swapsWithSole [.Tuple [.Name x px, .Name y py, .Name z pz] kt pt] (.Tuple [a, b, c] k2 pt2) line env = pure false := by intro _ _; rfl) :
    Three S (.Assign [.Tuple [.Name x px, .Name y py, .Name z pz] kt pt] (.Tuple [a, b, c] k2 pt2) pos) a b c i j l :=
  ⟨fun E σ vs H1 => ∃ u v w, vs = [u, v, w] ∧ E.nx (((σ.set i (some u)).set j (some v)).set l (some w)) H1, fun X hX ta h =>
    ps_par3 hX.calm hX.nd (by rw [hX.N]; exact hN) (by rw [hX.N]; exact hN2) (by rw [hX.N]; exact hN3) hij hil hjl (by rw [hX.sc]; exact hx) (by rw [hX.sc]; exact hy) (by rw [hX.sc]; exact hz) h (hw _ hX.sc) (hs _ _), fun E σ u v w H1 h => ⟨u, v, w, rfl, h H1 (.inl rfl)⟩⟩
theorem three_any {x y z : Str} {i j l : Nat} {px py pz pt pt2 : Pos} {kt k2 : Nat} (hN : S.N[i]? = some x := by rfl) (hN2 : S.N[j]? = some y := by rfl) (hN3 : S.N[l]? = some z := by rfl) (hx : Loc S.sc x := by first | exact Or.inl rfl | exact Or.inr rfl) (hy : Loc S.sc y := by first | exact Or.inl rfl | exact Or.inr rfl) (hz : Loc S.sc z := by first | exact Or.inl rfl | exact Or.inr rfl)
    (sx : S.st x = true := by rfl) (sy : S.st y = true := by rfl) (sz : S.st z = true := by rfl)
    (hw : ∀ env : Env, env.scope = S.sc → swappedStores [.Tuple [.Name x px, .Name y py, .Name z pz] kt pt] (.Tuple [a, b, c] k2 pt2) env = pure none := by intro env h; obtain ⟨⟩ := env; cases h; rfl)
    (hs : ∀ (env : Env) line, swapsWithSole [.Tuple [.Name x px, .Name y py, .Name z pz] kt pt] (.Tuple [a, b, c] k2 pt2) line env = pure false := by intro _ _; rfl) :
    Three S (.Assign [.Tuple [.Name x px, .Name y py, .Name z pz] kt pt] (.Tuple [a, b, c] k2 pt2) pos) a b c i j l :=
  ⟨fun E σ vs H1 => vs.length ≤ sizeLine ∧ ∀ p, H1 p = none → gTup S.K 3 (gCons (gName i) (gCons (gName j) (gCons (gName l) gNil))) (.ref p) σ (upd H1 p (.tup vs)) E.nx, fun X hX ta h => by
    have g : PG X (.Tuple [.Name x px, .Name y py, .Name z pz] kt pt) (gTup S.K 3 (gCons (gName i) (gCons (gName j) (gCons (gName l) gNil)))) := hX.K ▸ pg_tup hX.calm (pgs_cons (fit_name hX hN hx sx) (pgs_cons (fit_name hX hN2 hy sy) (pgs_cons (fit_name hX hN3 hz sz) pgs_nil)))
    exact ps_asg (pe_tup h) g (hs _ _) (hw _ hX.sc), fun E σ u v w H1 h => ⟨by show 3 ≤ sizeLine; decide, fun p hp => ⟨p, [u, v, w], rfl, .inl (.inl upd_same), rfl, u, [v, w], rfl, v, [w], rfl, w, [], rfl, rfl, h _ (.inr ⟨p, hp, rfl⟩)⟩⟩⟩
theorem db_three (i j l : Nat) {st : Stmt} {f : D → D → D → Rs (Out A)} (T : Three S st a b c i j l) (ha : DE S Γ a ma) (hb : DE S Γ b mb) (hc : DE S Γ c mc) (k : ∀ x y z, DB S (((Γ.set i (.dat x)).set j (.dat y)).set l (.dat z)) rest G (f x y z))
    (n1 : NoStar a := by intro _ _; rfl) (n2 : NoStar b := by intro _ _; rfl) (n3 : NoStar c := by intro _ _; rfl) : DB S Γ (st :: rest) G (ma.bind fun x => mb.bind fun y => mc.bind fun z => f x y z) := by
  obtain ⟨Qf, q1, q2⟩ := T
  obtain ⟨ta, a1, a2⟩ := da_cons ha (da_cons hb (da_cons hc da_nil n3) n2) n1
  refine ⟨tSeq (fun E σ H => ta σ H (Qf E σ)) (wpB S rest), fun X hX => pss_cons (q1 X hX _ (a1 X hX)) (ps_wp hX), fun σ Hd H E s p => a2 σ Hd H _ s ?_⟩
  cases ma with
  | exc c => exact exc_post s p
  | bad => exact p.elim
  | ok x =>
    cases mb with
    | exc c => exact exc_post s p
    | bad => exact p.elim
    | ok y =>
      cases mc with
      | exc c => exact exc_post s p
      | bad => exact p.elim
      | ok z =>
        intro vs Hd1 H1 e1 r1
        have p : BPost S Γ.length Hd G E (f x y z) := p
        obtain ⟨u, hu, ru⟩ := r1.get (i := 0) rfl
        obtain ⟨v, hv, rv⟩ := r1.get (i := 1) rfl
        obtain ⟨w, hw, rw'⟩ := r1.get (i := 2) rfl
        have hl := r1.len
        obtain rfl : vs = [u, v, w] := by
          match vs, hl with
          | [_, _, _], _ =>
            simp at hu hv hw
            rw [hu, hv, hw]
        refine q2 _ σ u v w H1 fun H2 hH => ?_
        have e2 : Ext Hd1 H1 Hd1 H2 := by
          rcases hH with rfl | ⟨q, hq, rfl⟩
          · exact Ext.refl e1.s
          · exact Ext.newOwn e1.s hq
        exact (k x y z).wp _ Hd1 H2 E (((((s.ext e1).ext e2).set i ru).set j rv).set l rw') (by simp only [List.length_set]; exact p.after e1.d)
/-- x, y = e: a pair taken apart -/
theorem db_unpack2 (i j : Nat) {x y : Str} {px py pt : Pos} {kt : Nat} {f : D → D → Rs (Out A)} (h : DE S Γ e m) (k : ∀ d d', DB S ((Γ.set i (.dat d)).set j (.dat d')) rest G (f d d'))
    (hN : S.N[i]? = some x := by rfl) (hl : Loc S.sc x := by first | exact Or.inl rfl | exact Or.inr rfl) (hst : S.st x = true := by rfl)
    (hN2 : S.N[j]? = some y := by rfl) (hl2 : Loc S.sc y := by first | exact Or.inl rfl | exact Or.inr rfl) (hst2 : S.st y = true := by rfl)
    (hs : ∀ (env : Env) line, swapsWithSole [.Tuple [.Name x px, .Name y py] kt pt] e line env = pure false := by intro _ _; rfl) (hw : ∀ env : Env, swappedStores [.Tuple [.Name x px, .Name y py] kt pt] e env = pure none := by intro _; rfl) :
    DB S Γ (.Assign [.Tuple [.Name x px, .Name y py] kt pt] e pos :: rest) G (m.bind fun d => un2 d f) := by
  obtain ⟨t, h1, h2⟩ := h
  obtain ⟨g, g1, g2⟩ := dg_pair (S := S) (px := px) (py := py) (kk := kt) (pos := pt) i j hN hl hst hN2 hl2 hst2
  refine ⟨tSeq (tAsg t g) (wpB S rest), fun X hX => pss_cons (ps_asg (h1 X hX) (g1 X hX) (hs _ _) (hw _)) (ps_wp hX), fun σ Hd H E s p => h2 σ Hd H _ s ?_⟩
  cases m with
  | exc c => exact exc_post s p
  | bad => exact p.elim
  | ok d =>
    intro v Hd' H' e' r
    have p : BPost S Γ.length Hd G E (un2 d f) := p
    cases hA : tg2 i j d with
    | none => rw [un2_none hA] at p; exact p.elim
    | some F =>
      refine g2 _ σ Hd' H' v d F _ (s.ext e') r hA fun σ' s' _ => ?_
      unfold tg2 at hA
      split at hA
      · cases hA
        exact (k _ _).wp σ' Hd' H' E s' (by simp only [List.length_set]; exact BPost.after e'.d p)
      · cases hA
/-- x = [.. for ..], x a cell -/
theorem db_setLcC (i : Nat) {x : Str} {px lp : Pos} {elt : Expr} {gs : List Comprehension} {scope : Scope} {m : Rs (List D)} {f : List D → Rs (Out A)} (h : DFL S Γ (.ListComp elt gs scope lp) m) (k : ∀ ds, DB S (Γ.set i (.dat (.list ds))) rest G (f ds))
    (hN : S.N[i]? = some x := by rfl) (hl : S.sc.names.lookup x = some .cell := by rfl) (hst : S.st x = true := by rfl) (hsw : ∀ env : Env, env.scope = S.sc → ∀ line, swapsWith (.ListComp elt gs scope lp) (some (.Name x px)) line env = pure false := by intro env h _; obtain ⟨⟩ := env; cases h; rfl) :
    DB S Γ (.Assign [.Name x px] (.ListComp elt gs scope lp) pos :: rest) G (m.bind f) := by
  obtain ⟨t, h1, h2⟩ := h.df
  refine ⟨tSeq (tAsg t (gName i)) (wpB S rest), fun X hX => pss_cons (ps_set hX.nd (by rw [hX.N]; exact hN) (by rw [hX.sc]; exact .inr hl) (h1 X hX) (hsw _ hX.sc _) (hX.st x hst)) (ps_wp hX), fun σ Hd H E s p => h2 σ Hd H _ s ?_⟩
  cases m with
  | ok d =>
    intro l vs Hd' H' e' q1 q2 q3 r hz
    have e2 := upd_data e' q1 q2 q3
    exact (k d).wp _ _ H' E ((s.ext e2).set i (Rp.list upd_same (r.mono (same_new q3)) hz)) (by rw [List.length_set]; exact p.after e2.d)
  | exc c => exact exc_post s p
  | bad => exact p.elim
/-- .. and changed later -/
theorem db_setOwnC (i : Nat) {x : Str} {px lp : Pos} {elt : Expr} {gs : List Comprehension} {scope : Scope} {m : Rs (List D)} {f : List D → Rs (Out A)} (h : DFL S Γ (.ListComp elt gs scope lp) m) (k : ∀ ds, DB S (Γ.set i (.own ds)) rest G (f ds))
    (hN : S.N[i]? = some x := by rfl) (hl : S.sc.names.lookup x = some .cell := by rfl) (hst : S.st x = true := by rfl) (hsw : ∀ env : Env, env.scope = S.sc → ∀ line, swapsWith (.ListComp elt gs scope lp) (some (.Name x px)) line env = pure false := by intro env h _; obtain ⟨⟩ := env; cases h; rfl) :
    DB S Γ (.Assign [.Name x px] (.ListComp elt gs scope lp) pos :: rest) G (m.bind f) := by
  obtain ⟨t, h1, h2⟩ := h.df
  refine ⟨tSeq (tAsg t (gName i)) (wpB S rest), fun X hX => pss_cons (ps_set hX.nd (by rw [hX.N]; exact hN) (by rw [hX.sc]; exact .inr hl) (h1 X hX) (hsw _ hX.sc _) (hX.st x hst)) (ps_wp hX), fun σ Hd H E s p => h2 σ Hd H _ s ?_⟩
  cases m with
  | ok d => exact fun l vs Hd' H' e' q1 q2 q3 r hz => (k d).wp _ Hd' H' E (s.setOwn e' i q1 q2 q3 r hz) (by rw [List.length_set]; exact p.after e'.d)
  | exc c => exact exc_post s p
  | bad => exact p.elim
/-- x = [.. for ..] on one line, x a local, changed later -/
theorem db_setLcO (i : Nat) {x : Str} {px lp : Pos} {elt : Expr} {gs : List Comprehension} {scope : Scope} {m : Rs (List D)} {f : List D → Rs (Out A)} (h : DFL S Γ (.ListComp elt gs scope lp) m) (k : ∀ ds, DB S (Γ.set i (.own ds)) rest G (f ds))
    (hN : S.N[i]? = some x := by rfl) (hl : S.sc.names.lookup x = some .local := by rfl) (hline : (px.line == lp.line) = true := by rfl) (ha : (scope.names.any fun (n, k) => n == x && (k == .local || k == .cell)) = false := by rfl) :
    DB S Γ (.Assign [.Name x px] (.ListComp elt gs scope lp) pos :: rest) G (m.bind f) := by
  obtain ⟨t, h1, h3, h2⟩ := h
  refine ⟨tSeq (tAsg t (gName i)) (wpB S rest), fun X hX => pss_cons (h3 X hX i x px pos (by rw [hX.N]; exact hN) (by rw [hX.sc]; exact hl) (sw_true hX.kind (by rw [hX.sc]; exact hl) hline ha)) (ps_wp hX), fun σ Hd H E s p => h2 σ Hd H _ s ?_⟩
  cases m with
  | ok d => exact fun l vs Hd' H' e' q1 q2 q3 r hz => (k d).wp _ Hd' H' E (s.setOwn e' i q1 q2 q3 r hz) (by rw [List.length_set]; exact p.after e'.d)
  | exc c => exact exc_post s p
  | bad => exact p.elim
end BG
namespace BG
open PySem PySem.Spec PyProof.Rows L2
section
variable {prog : Program} {w : World} {A : Around} {E : Value → Shared → Prop} {s : Shared}
theorem bg_adjust (n : Nat) : Builtin.Slice.sliceAdjust none none (-1) (n : Int) = ((n : Int) - 1, -1) := by
  unfold Builtin.Slice.sliceAdjust
  first
  | rfl
  | simp
theorem bg_places (n : Nat) : Builtin.Slice.slicePlaces ((n : Int) - 1) (-1) (-1) = n := by
  unfold Builtin.Slice.slicePlaces
  simp
  split <;> omega
theorem fm_congr {α β : Type} {f g : α → Option β} : ∀ {l : List α}, (∀ x ∈ l, f x = g x) → l.filterMap f = l.filterMap g
  | [], _ => rfl
  | x :: l, h => by
    have h1 := h x (by simp)
    have h2 := fm_congr (l := l) fun y hy => h y (by simp [hy])
    rw [List.filterMap_cons, List.filterMap_cons, h1, h2]
theorem bg_pick (xs : Array Value) : ((List.range xs.size).filterMap fun (m : Nat) => xs[(((xs.size : Int) - 1) + (m : Int) * (-1)).toNat]?).toArray = xs.toList.reverse.toArray := by
  have e : ((List.range xs.size).filterMap fun (m : Nat) => xs[(((xs.size : Int) - 1) + (m : Int) * (-1)).toNat]?) = (((List.range xs.size).map fun k => xs.size - 1 - k).filterMap (xs[·]?)) := by
    rw [List.filterMap_map]
    refine fm_congr fun m hm => ?_
    have := List.mem_range.mp hm
    have e2 : (((xs.size : Int) - 1) + (m : Int) * (-1)).toNat = xs.size - 1 - m := by omega
    rw [e2]
    rfl
  rw [e, PySem.W.krv_range, List.filterMap_reverse, PySem.W.krv_all]
theorem bg_applied {sl : Addr} {vl vu vk : Value} {n : Nat} {Q : Int × Int × Nat → Shared → Prop} (hs : s.heap.IsSliceOf sl vl vu vk) (pl : IsPart vl none) (pu : IsPart vu none) (pk : IsPart vk (some (-1)))
    (h : Q ((n : Int) - 1, -1, n) s) : wpAny (model prog w) A (Builtin.Slice.sliceApplied (.ref sl) (pure (n : Int))) Q E s := by
  obtain ⟨ob, hob, hc, hd⟩ := id hs
  unfold Builtin.Slice.sliceApplied Builtin.Slice.sliceFields
  refine wpAny_bind (wpAny_bind (wpAny_field hob hd (x := vl) rfl ?_))
  refine wpAny_bind (wpAny_field hob hd (x := vu) rfl ?_)
  refine wpAny_bind (wpAny_field hob hd (x := vk) rfl ?_)
  refine wpAny_pure ?_
  refine wpAny_bind (HT.slicePart_ pk ?_)
  show wpAny _ _ (if ((-1 : Int) == 0) = true then _ else _) _ _ s
  rw [if_neg (by decide)]
  refine wpAny_bind (HT.slicePart_ pl ?_)
  refine wpAny_bind (HT.slicePart_ pu ?_)
  refine wpAny_bind (wpAny_pure ?_)
  show wpAny _ _ (match Builtin.Slice.sliceAdjust none none (-1) (n : Int) with | (a, b) => pure (a, (-1 : Int), Builtin.Slice.slicePlaces a b (-1))) _ _ s
  rw [bg_adjust]
  show wpAny _ _ (pure ((n : Int) - 1, (-1 : Int), Builtin.Slice.slicePlaces ((n : Int) - 1) (-1) (-1))) _ _ s
  rw [bg_places]
  exact wpAny_pure h
theorem bg_tuple_rev {t sl : Addr} {items : Array Value} {vl vu vk : Value} {Q : Value → Shared → Prop} (ht : IsTup s.heap t items) (hs : s.heap.IsSliceOf sl vl vu vk) (pl : IsPart vl none) (pu : IsPart vu none) (pk : IsPart vk (some (-1)))
    (h : Q (.ref s.heap.objs.size) { s with heap := s.heap.push { cls := .type "tuple", data := .seq items.toList.reverse.toArray } }) (hz : items.size ≤ sizeLine) : wpAny (model prog w) A (getItem (.ref t) (.ref sl)) Q E s := by
  have fits : sizeOk (.seq items.toList.reverse.toArray) := by
    show items.toList.reverse.toArray.size ≤ sizeLine
    rw [List.size_toArray, List.length_reverse, Array.length_toList]
    exact hz
  obtain ⟨ob, hob, hc, hd⟩ := id hs
  have tyS : s.TypeIs (.ref sl) "slice" := ⟨ob, hob, hc⟩
  unfold getItem
  try with_reducible refine wpAny_holding ?_
  first
    | refine wpAny_bind (wpAny_pure ?_)
    | skip
  refine wpAny_bind (wpAny_sequenceKey ht.typeIs (by decide) ?_)
  refine wpAny_bind (wpAny_callSpecial?_slot (name := Str.ofString "__getitem__")
    ht.typeIs PyProof.Rows.slot_tuple_getitem (wpAny_call_entry
      PyProof.Rows.slot_tuple_getitem ht.typeIs entry_tuple_getitem ?_
      (args_tuple_getitem _ _)))
  show wpAny _ A.in1 (Builtin.Tuple.tupleItemsOf (.ref t) >>= _) _ _ s
  refine wpAny_bind (tupleItemsOf_ ht ?_)
  refine wpAny_bind (wpAny_typeOf tyS ?_)
  rw [if_pos (by decide)]
  refine wpAny_bind (bg_applied hs pl pu pk ?_)
  have no : ¬ ((((items.size : Int) - 1) == 0 && (-1 : Int) == 1 && items.size == items.size) = true) := by
    intro q
    rw [Bool.and_eq_true, Bool.and_eq_true] at q
    exact absurd q.1.2 (by decide)
  show wpAny _ A.in1 (if (((items.size : Int) - 1) == 0 && (-1 : Int) == 1 && items.size == items.size) = true then _ else _) _ _ s
  rw [if_neg no, bg_pick]
  first
    | exact wpAny_bind (m := Builtin.Tuple.tupleExact _)
        (wpAny_newObj_type (wpAny_pure ⟨_, rfl, wpAny_pure h⟩) fits)
    | exact wpAny_bind (m := Builtin.Tuple.tupleExact _)
        (wpAny_newObj_type (wpAny_bind (wpAny_pure (wpAny_pure ⟨_, rfl, wpAny_pure h⟩))) fits)
    | exact wpAny_bind (wpAny_bind (m := Builtin.Tuple.tupleExact _)
        (wpAny_newObj_type (wpAny_pure (wpAny_pure ⟨_, rfl, wpAny_pure h⟩)) fits))
    | exact wpAny_bind (wpAny_bind (m := Builtin.Tuple.tupleExact _)
        (wpAny_newObj_type (wpAny_pure ⟨_, rfl, wpAny_pure h⟩) fits))
end
section
variable {X : Cx}
def tRevT (K : PySem.W.Frag) (te : TE) : TE := fun σ H Q => te σ H fun x H1 => ∃ a xs, x = .ref a ∧ ((SqL K H1 a xs ∧ ∀ p, H1 p = none → Q (.ref p) (upd H1 p (.lst xs.reverse))) ∨ (SqT K H1 a xs ∧ ∀ p, H1 p = none → Q (.ref p) (upd H1 p (.tup xs.reverse))))
theorem pe_revT {e : Expr} {te : TE} {k : Nat} {p1 p2 p3 pos : Pos} (he : PE X e te) : PE X (.Subscript e (.Slice none none (some (.UnaryOp .USub (.Constant (.int 1) k p1) p2)) p3) pos) (tRevT X.K te) := by
  refine ⟨fun pins s σ H Q I h => ?_⟩
  refine Subscript_ (thn (he.run pins s σ H _ I h) fun v s1 ⟨x, H1, I1, r1, q1⟩ => ?_)
  obtain ⟨a, xs, ex, hx⟩ := q1
  subst ex
  cases r1
  have pstep : PO X (some (.UnaryOp .USub (.Constant (.int 1) k p1) p2)) (tPart (tUn (rU fun i => .int (-i)) (tC (.int 1)))) := po_some (pe_un un_neg pe_int)
  refine wpAny_Slice (thn (po_none.run pins s1 σ H1 (fun o H2 => o = none ∧ H2 = H1) I1 ⟨rfl, rfl⟩) fun vl s2 ⟨l, H2, I2, pl, el, e2⟩ => ?_)
  subst el e2
  refine thn (po_none.run pins s2 σ H2 (fun o H3 => o = none ∧ H3 = H2) I2 ⟨rfl, rfl⟩) fun vu s3 ⟨u, H3, I3, pu, eu, e3⟩ => ?_
  subst eu e3
  refine thn (pstep.run pins s3 σ H3 (fun o H4 => o = some (-1) ∧ H4 = H3) I3 ⟨1, rfl, -1, rfl, rfl, rfl⟩) fun vk s4 ⟨o, H4, I4, pk, eo, e4⟩ => ?_
  subst eo e4
  generalize hsl : ({ cls := .type "slice", data := .fields #[vl, vu, vk] } : Obj) = so
  have I5 : Inv X pins σ H4 { s4 with heap := s4.heap.push so } := I4.kept (t' := s4.toks) fun b ob q => Heap.get?_push_of_some _ q
  have hsl' : ({ s4 with heap := s4.heap.push so } : Shared).heap.IsSliceOf s4.heap.objs.size vl vu vk := by
    rw [← hsl]
    exact Heap.IsSliceOf.new _ vl vu vk
  show wpAny (model X.prog X.w) X.A (subscriptTail e (.Slice none none (some (.UnaryOp .USub (.Constant (.int 1) k p1) p2)) p3) (.ref a) (.ref s4.heap.objs.size)) (EP X pins σ Q) X.xe _
  rcases hx with ⟨hx, q⟩ | ⟨hx, q⟩
  · obtain ⟨its, r, ht, hz⟩ := I5.list hx
    have hlen := r.length
    refine tail_any (ops := [.ref a, .ref s4.heap.objs.size]) ht.isList.typeIs (PySem.slot_list_getitem.lookup) ?_ (by with_unfolding_all rfl)
    refine wpAny_getItem_list_slice ht.isList hsl' pl pu pk (by decide) ?_ (by rw [List.size_toArray]; omega)
    rw [PySem.W.krv_pick]
    exact ⟨.ref _, _, I5.laid (t' := s4.toks) (o := .lst xs.reverse) (fun b ob q => Heap.get?_push_of_some _ q) (Nat.le_refl _) ⟨by rw [List.length_reverse]; exact hz, _, 0, r.reverse, Heap.get?_push_size _ rfl⟩, rfl, q _ (I5.hok.fresh (Nat.le_refl _))⟩
  · obtain ⟨its, r, ht, hz⟩ := I5.tuple hx
    have hlen := r.length
    refine tail_any (ops := [.ref a, .ref s4.heap.objs.size]) ht.typeIs PyProof.Rows.slot_tuple_getitem.lookup ?_ (by with_unfolding_all rfl)
    refine bg_tuple_rev ht hsl' pl pu pk ?_ (by rw [List.size_toArray]; omega)
    exact ⟨.ref _, _, I5.laid (t' := s4.toks) (o := .tup xs.reverse) (fun b ob q => Heap.get?_push_of_some _ q) (Nat.le_refl _) ⟨by rw [List.length_reverse]; exact hz, _, r.reverse, IsTup.new _ _⟩, rfl, q _ (I5.hok.fresh (Nat.le_refl _))⟩
end
variable {S : Sc} {Γ : Gam} {a b c e tg : Expr} {ma mb mc m : Rs D} {pos p : Pos}
theorem DvA.reverse {H : Hp} : ∀ {vs : List V} {ds : List D}, DvA H vs ds → DvA H vs.reverse ds.reverse
  | _, _, .nil => .nil
  | _, _, .cons h t => by
    rw [List.reverse_cons, List.reverse_cons]
    exact (DvA.reverse t).append (.cons h .nil)
theorem szA_reverse {ds : List D} (h : szA ds = true) : szA ds.reverse = true := szA_of fun d hd => szA_mem h (List.mem_reverse.mp hd)
theorem de_rev {k : Nat} {p1 p2 p3 : Pos} (ha : DQ S Γ a ma) : DE S Γ (.Subscript a (.Slice none none (some (.UnaryOp .USub (.Constant (.int 1) k p1) p2)) p3) pos) (ma.bind pyRev) := by
  obtain ⟨t, h1, h2⟩ := ha
  refine ⟨tRevT S.K t, fun X hX => hX.K ▸ pe_revT (h1 X hX), fun σ Hd H Q s p => h2 σ Hd H _ s ?_⟩
  cases ma with
  | exc c => exact p
  | bad => exact p.elim
  | ok d =>
    intro v Hd1 H1 e1 r1
    have s1 := s.ext e1
    have p : EPost S (fun Hd _ => Rp S.K Hd) σ Hd1 H1 Q (pyRev d) := EPost.after e1 p
    cases d with
    | list ds =>
      obtain ⟨l, vs, rfl, q1, q2, q3⟩ := r1.seqL s1.sub
      have z : RpA S.K Hd1 vs.reverse ds.reverse := ⟨q2.1.reverse, szA_reverse q2.2⟩
      exact ⟨l, vs, rfl, .inl ⟨.inl q1, post_new_list (σ := σ) s1.sub z (by rw [List.length_reverse]; exact q3) p⟩⟩
    | tuple ds =>
      obtain ⟨l, vs, rfl, q1, q2, q3⟩ := r1.seqT s1.sub
      have z : RpA S.K Hd1 vs.reverse ds.reverse := ⟨q2.1.reverse, szA_reverse q2.2⟩
      exact ⟨l, vs, rfl, .inr ⟨.inl (.inl (s1.sub _ _ q1)), post_new_tup (σ := σ) s1.sub z (by rw [List.length_reverse]; exact q3) p⟩⟩
    | none => exact p.elim
    | bool _ => exact p.elim
    | int _ => exact p.elim
    | str _ => exact p.elim
    | dict _ => exact p.elim
end BG
namespace BG
open PySem PySem.Spec PyProof.Rows L2
variable {S : Sc} {Γ : Gam} {a b c e tg : Expr} {ma mb mc m : Rs D} {pos p : Pos}
theorem enumD_len (ds : List D) : (enumD ds).length = ds.length := by unfold enumD; simp
theorem enumD_get {ds : List D} {i : Nat} {d : D} (h : (enumD ds)[i]? = some d) : ∃ z, ds[i]? = some z ∧ d = .tuple [.int (i : Nat), z] := by
  have hi : i < ds.length := by have := (List.getElem?_eq_some_iff.mp h).1; rwa [enumD_len] at this
  refine ⟨ds[i], List.getElem?_eq_getElem hi, ?_⟩
  unfold enumD at h
  rw [List.getElem?_map, List.getElem?_range hi] at h
  simp [List.getD_eq_getElem?_getD, hi] at h
  exact h.symm
/-- a pair in a new tuple -/
theorem pair_new {K : PySem.W.Frag} {Hd H : Hp} {T : Addr} {u v : V} {x y : D} (s : Same Hd H) (h : H T = none) (hu : Rp K Hd u x) (hv : Rp K Hd v y) : Ext Hd H (upd Hd T (.tup [u, v])) (upd H T (.tup [u, v])) ∧ Rp K (upd Hd T (.tup [u, v])) (.ref T) (.tuple [x, y]) := by
  have e := Ext.new (o := .tup [u, v]) s h
  exact ⟨e, Rp.tuple upd_same (RpA.cons (hu.mono e.d) (RpA.cons (hv.mono e.d) RpA.nil)) (by unfold sizeMax; simp)⟩
theorem goes_enum {K : PySem.W.Frag} {Hs Hd : Hp} {l : Addr} {vs : List V} {ds : List D} (h : Rd Hs l (.lst vs)) (r : RpA K Hd vs ds) : Goes K (Ite K l) Hs Hd (enumD ds) where
  go := fun H' i e hi => ⟨vs, vs[i]'(by rw [r.len]; rwa [enumD_len] at hi), .inl (rd_mono e h), List.getElem?_eq_getElem _⟩
  yld := fun Hd' H' i d x H'' e e1 e2 hd hy => by
    obtain ⟨T, y, rfl, hT, rfl, hy⟩ := hy
    obtain ⟨z, hz, rfl⟩ := enumD_get hd
    obtain ⟨v, hv, rv⟩ := r.get hz
    have := hy vs (.inl (rd_mono e h))
    rw [hv] at this
    cases this
    exact ⟨_, pair_new e2 hT Rp.int (rv.mono e1)⟩
  stop := fun H' i e hi => ⟨vs, .inl (rd_mono e h), by rw [r.len]; rwa [enumD_len] at hi⟩
theorem szA_enum {ds : List D} (h : szA ds = true) : szA (enumD ds) = true := szA_of fun d hd => by
  obtain ⟨i, hi, rfl⟩ := List.getElem_of_mem hd
  obtain ⟨z, hz, e⟩ := enumD_get (List.getElem?_eq_getElem hi)
  rw [e]
  refine szD_tuple.mpr ⟨by unfold sizeMax; simp, szA_of fun x hx => ?_⟩
  rcases List.mem_cons.mp hx with rfl | hx
  · simp [szD]
  · rw [List.mem_singleton.mp hx]
    exact szA_mem h (List.mem_of_getElem? hz)
theorem di_enum {elts : List Expr} {kk : Nat} {tp : Pos} (hm : S.mg "enumerate" = none) (ha : DE S Γ a ma) (hg : GlS S "enumerate" := by rfl) (hs : NoStar a := by intro _ _; rfl) :
    DI S true Γ (.Tuple elts kk tp) (.Call (.Name "enumerate" p) [a] [] pos) (ma.bind fun d => (ofList d).bind fun ds => .ok (enumD ds)) := by
  obtain ⟨t, h1, h2⟩ := ha
  refine ⟨iEnum S.K (tCons t tNil), fun X hX => hX.K ▸ pi_enum (hg.gl hX) (by rw [hX.mg]; exact hm) (pa_cons (h1 X hX) pa_nil (hs _ _)) (hs _ _), fun σ Hd H R s p => h2 σ Hd H _ s ?_⟩
  cases ma with
  | exc c => exact p
  | bad => exact p.elim
  | ok d =>
    intro v Hd' H' e' r
    cases d with
    | list ds =>
      obtain ⟨r1, r2⟩ := r
      cases r1 with
      | @lst l xs _ hs ha => exact ⟨l, xs, rfl, .inl (rd_mono e'.s hs), p _ Hd' H' e' (goes_enum hs ⟨ha, (szD_list.mp r2).2⟩) (by rw [enumD_len]; exact (szD_list.mp r2).1) (szA_enum (szD_list.mp r2).2)⟩
    | tuple ds => exact p.elim
    | none => exact p.elim
    | bool _ => exact p.elim
    | int _ => exact p.elim
    | str _ => exact p.elim
    | dict _ => exact p.elim
theorem zipD_len (as bs : List D) : (zipD as bs).length = min as.length bs.length := by unfold zipD; simp
theorem zipD_get {as bs : List D} {i : Nat} {d : D} (h : (zipD as bs)[i]? = some d) : ∃ x y, as[i]? = some x ∧ bs[i]? = some y ∧ d = .tuple [x, y] := by
  unfold zipD at h
  rw [List.getElem?_map] at h
  obtain ⟨⟨x, y⟩, hz, e⟩ := Option.map_eq_some_iff.mp h
  obtain ⟨h1, h2⟩ := List.getElem?_zip_eq_some.mp hz
  exact ⟨x, y, h1, h2, e.symm⟩
theorem goes_zip {K : PySem.W.Frag} {Hs Hd : Hp} {l q : Addr} {vs us : List V} {as bs : List D} (h : Rd Hs l (.lst vs)) (r : RpA K Hd vs as) (h' : Rd Hs q (.lst us)) (r' : RpA K Hd us bs) : Goes K (Itz K l q) Hs Hd (zipD as bs) where
  go := fun H' i e hi => by
    rw [zipD_len] at hi
    exact ⟨vs, us, vs[i]'(by rw [r.len]; omega), us[i]'(by rw [r'.len]; omega), .inl (rd_mono e h), .inl (rd_mono e h'), List.getElem?_eq_getElem _, List.getElem?_eq_getElem _⟩
  yld := fun Hd' H' i d x H'' e e1 e2 hd hy => by
    obtain ⟨T, y, z, rfl, hT, rfl, hy, hz⟩ := hy
    obtain ⟨x1, x2, g1, g2, rfl⟩ := zipD_get hd
    obtain ⟨v, hv, rv⟩ := r.get g1
    obtain ⟨u, hu, ru⟩ := r'.get g2
    have k1 := hy vs (.inl (rd_mono e h))
    have k2 := hz us (.inl (rd_mono e h'))
    rw [hv] at k1
    rw [hu] at k2
    cases k1
    cases k2
    exact ⟨_, pair_new e2 hT (rv.mono e1) (ru.mono e1)⟩
  stop := fun H' i e hi => by
    rw [zipD_len] at hi
    exact ⟨vs, us, .inl (rd_mono e h), .inl (rd_mono e h'), by rw [r.len, r'.len]; omega⟩
theorem szA_zip {as bs : List D} (h : szA as = true) (h' : szA bs = true) : szA (zipD as bs) = true := szA_of fun d hd => by
  obtain ⟨i, hi, rfl⟩ := List.getElem_of_mem hd
  obtain ⟨x, y, g1, g2, e⟩ := zipD_get (List.getElem?_eq_getElem hi)
  rw [e]
  refine szD_tuple.mpr ⟨by unfold sizeMax; simp, szA_of fun z hz => ?_⟩
  rcases List.mem_cons.mp hz with rfl | hz
  · exact szA_mem h (List.mem_of_getElem? g1)
  · rw [List.mem_singleton.mp hz]
    exact szA_mem h' (List.mem_of_getElem? g2)
theorem di_zip {elts : List Expr} {kk : Nat} {tp : Pos} (hm : S.mg "zip" = none) (ha : DE S Γ a ma) (hb : DE S Γ b mb) (hg : GlS S "zip" := by rfl) (hs : NoStar a := by intro _ _; rfl) (hs2 : NoStar b := by intro _ _; rfl) :
    DI S true Γ (.Tuple elts kk tp) (.Call (.Name "zip" p) [a, b] [] pos) (ma.bind fun d => mb.bind fun e => (ofList d).bind fun as => (ofList e).bind fun bs => .ok (zipD as bs)) := by
  obtain ⟨t, h1, h2⟩ := ha
  obtain ⟨t', h1', h2'⟩ := hb
  refine ⟨iZip S.K (tCons t (tCons t' tNil)), fun X hX => hX.K ▸ pi_zip (hg.gl hX) (by rw [hX.mg]; exact hm) (pa_cons (h1 X hX) (pa_cons (h1' X hX) pa_nil (hs2 _ _)) (hs _ _)) (hs _ _) (by rw [hs2]; rfl), fun σ Hd H R s p => h2 σ Hd H _ s ?_⟩
  cases ma with
  | exc c => exact p
  | bad => exact p.elim
  | ok d =>
    intro v Hd1 H1 e1 r
    refine h2' σ Hd1 H1 _ (s.ext e1) ?_
    cases mb with
    | exc c => exact fun Hd' H' e' => p Hd' H' (e1.trans e')
    | bad => exact p.elim
    | ok d' =>
      intro u Hd2 H2 e2 r'
      have r := Rp.mono e2.d r
      cases d with
      | list ds =>
        cases d' with
        | list es =>
          obtain ⟨r1, r2⟩ := r
          obtain ⟨r1', r2'⟩ := r'
          cases r1 with
          | @lst l xs _ hs ha =>
            cases r1' with
            | @lst l' xs' _ hs' ha' => exact ⟨l, l', xs, xs', rfl, .inl (rd_mono e2.s hs), .inl (rd_mono e2.s hs'), p _ Hd2 H2 (e1.trans e2) (goes_zip hs ⟨ha, (szD_list.mp r2).2⟩ hs' ⟨ha', (szD_list.mp r2').2⟩) (by rw [zipD_len]; have := (szD_list.mp r2).1; omega) (szA_zip (szD_list.mp r2).2 (szD_list.mp r2').2)⟩
        | tuple ds => exact p.elim
        | none => exact p.elim
        | bool _ => exact p.elim
        | int _ => exact p.elim
        | str _ => exact p.elim
        | dict _ => exact p.elim
      | tuple ds => exact p.elim
      | none => exact p.elim
      | bool _ => exact p.elim
      | int _ => exact p.elim
      | str _ => exact p.elim
      | dict _ => exact p.elim
/-- xs[lo:hi], xs a list: a new list -/
theorem df_slice {l h : Option Expr} {ml mh : Rs (Option Int)} {p2 : Pos} (ha : DQ S Γ a ma) (hl : DO S Γ l ml) (hh : DO S Γ h mh) : DF S Γ (.Subscript a (.Slice l h none p2) pos) (ma.bind fun d => (ofList d).bind fun ds => ml.bind fun x => mh.bind fun y => .ok (cutL ds x y)) := by
  obtain ⟨ta, a1, a2⟩ := ha
  obtain ⟨tl, l1, l2⟩ := hl
  obtain ⟨th, h1, h2⟩ := hh
  refine ⟨tSl (rSlL S.K) ta tl th, fun X hX => pe_slice (hX.K ▸ sl_list) (a1 X hX) (l1 X hX) (h1 X hX), fun σ Hd H Q s p => ?_⟩
  refine a2 σ Hd H _ s ?_
  cases ma with
  | exc c => exact p
  | bad => exact p.elim
  | ok d =>
    intro x Hd1 H1 e1 q1
    cases d with
    | list xs =>
      refine l2 σ Hd1 H1 _ (s.ext e1) ?_
      cases ml with
      | exc c => exact fun Hd' H' e' => p Hd' H' (e1.trans e')
      | bad => exact p.elim
      | ok lo =>
        intro Hd2 H2 e2
        refine h2 σ Hd2 H2 _ ((s.ext e1).ext e2) ?_
        cases mh with
        | exc c => exact fun Hd' H' e' => p Hd' H' ((e1.trans e2).trans e')
        | bad => exact p.elim
        | ok hi =>
          intro Hd3 H3 e3
          have q3 := q1.mono (e2.trans e3)
          have e13 := (e1.trans e2).trans e3
          obtain ⟨l, vs, rfl, r1, r2, r3⟩ := q3.seqL e3.s
          refine ⟨l, vs, rfl, .inl r1, fun q hq => ?_⟩
          have p : FPost S σ Hd H Q (.ok (cutL xs lo hi)) := p
          exact p q _ Hd3 _ (e13.trans (Ext.newOwn e3.s hq)) (e13.a.free hq) upd_same (e3.s.free hq) (r2.cut lo hi) (Nat.le_trans (cutL_len ..) r3)
    | tuple ds => exact p.elim
    | none => exact p.elim
    | bool _ => exact p.elim
    | int _ => exact p.elim
    | str _ => exact p.elim
    | dict _ => exact p.elim
end BG
namespace BG
open PySem PySem.Spec PyProof.Rows L2
variable {S : Sc} {Γ : Gam} {a b c e tg : Expr} {ma mb mc m : Rs D} {pos p : Pos} {A : Type} {G : A → Gam} {ss rest : List Stmt}

theorem readsA_of {X : Cx} {pins : List (Addr × Obj)} {σ : L2.St} {H : Hp} {s : Shared} (I : Inv X pins σ H s) : ∀ {xs : List V} {ds : List D} {us : List Value}, DvA H xs ds → Vals xs us → ∃ as, ReadsAll s.heap us ds as
  | _, _, _, .nil, .nil => ⟨_, .nil⟩
  | _, _, _, .cons h t, .cons r q => by
    obtain ⟨as, h1⟩ := Dp.reads I _ _ _ h.dp r
    obtain ⟨bs, h2⟩ := readsA_of I t q
    exact ⟨_, .cons h1 h2⟩

def rMinD : List V → Hp → VK → Prop := fun vs H Q => ∃ a xs d ds, vs = [V.ref a] ∧ Rd H a (.lst xs) ∧ DvA H xs (d :: ds) ∧ alikeB (d :: ds) = true ∧ ∀ (i : Nat) v, xs[i]? = some v → (d :: ds)[i]? = some (PySem.W.minD d ds) → Q v H
theorem alikeB_ok {xs : List D} (h : alikeB xs = true) : PySem.W.AlikeAll xs ∧ PyData.depthAll xs ≤ 60 := by
  unfold alikeB at h
  obtain ⟨h12, h3⟩ := Bool.and_eq_true_iff.mp h
  obtain ⟨h1, h2⟩ := Bool.and_eq_true_iff.mp h12
  refine ⟨⟨fun x hx y hy => List.all_eq_true.mp (List.all_eq_true.mp h1 x hx) y hy, fun x hx e => ?_⟩, of_decide_eq_true h3⟩
  have := List.all_eq_true.mp h2 x hx
  rw [e] at this
  cases this
theorem cr_minD {X : Cx} (hc : X.calm = true) (hu : X.A.units + 64 < cLine) : CallR X (.builtin "min") rMinD := by
  intro pins s σ H vs us Q I r h
  obtain ⟨a, xs, d, ds, rfl, ha, hd, al, q⟩ := h
  rw [Vals.ref1 r]
  obtain ⟨hz, its, n, rv, e⟩ := ha.ok I.hok
  obtain ⟨as, hr⟩ := readsA_of I hd rv
  obtain ⟨al1, al2⟩ := alikeB_ok al
  refine PySem.W.min_list_data (I.ok.hd hc) ⟨_, e, rfl, n, rfl⟩ hr al1 (by omega) fun i v h' tk bs hv hm hk => ?_
  rw [← Array.getElem?_toList] at hv
  have hl := rv.length
  obtain ⟨hi, _⟩ := List.getElem?_eq_some_iff.mp hv
  have hi : i < its.length := hi
  have hx : xs[i]? = some (xs[i]'(by omega)) := List.getElem?_eq_getElem (by omega)
  obtain ⟨u, hu1, ru⟩ := rv.get hx
  have hv : its[i]? = some v := hv
  rw [hv] at hu1
  cases hu1
  obtain ⟨z, hz1, hz2⟩ := hd.get hx
  obtain ⟨cs, hr2⟩ := Dp.reads I _ _ _ hz2.dp ru
  have ez : z = PySem.W.minD d ds := (Reads.unique (Reads.keeps hk hr2) _ _ hm).1
  exact ⟨_, H, I.kept hk, ru, q i _ hx (by rw [hz1, ez])⟩
theorem cd_minD : CallD1 S (.builtin "min") pyMinD := by
  refine ⟨rMinD, fun X hX => cr_minD hX.calm (units64 hX), fun Γ σ Hd H v d Q s r q => ?_⟩
  cases d with
  | list ds =>
    cases ds with
    | nil => exact q.elim
    | cons x xs =>
      obtain ⟨l, vs, rfl, h1, h2, _⟩ := r.seqL s.sub
      have q : EPost S _ σ Hd H Q (if alikeB (x :: xs) = true then .ok (PySem.W.minD x xs) else .bad) := q
      split at q
      · rename_i hal
        refine ⟨l, vs, x, xs, rfl, h1, h2.1.mono s.sub, hal, fun i v hv hm => ?_⟩
        obtain ⟨w, hw, rw'⟩ := h2.get hm
        rw [hv] at hw
        cases hw
        exact q _ _ _ (Ext.refl s.sub) rw'
      · exact q.elim
  | none => exact q.elim
  | bool _ => exact q.elim
  | int _ => exact q.elim
  | str _ => exact q.elim
  | tuple _ => exact q.elim
  | dict _ => exact q.elim
theorem de_b2 {x : Str} {id : String} {g : D → D → Rs D} {k : Int → Int → Int} (hc : ∀ X, Fits S X → CallR X (.builtin id) (fun xs H Q => ∃ i j, xs = [.int i, .int j] ∧ Q (.int (k i j)) H)) (hm : S.mg x = none) (hb0 : bootBuiltins x = some (.builtin id))
    (hg2 : ∀ d e, (∃ i j, d = .int i ∧ e = .int j ∧ g d e = .ok (.int (k i j))) ∨ g d e = .bad) (ha : DE S Γ a ma) (hb : DE S Γ b mb) (hg : GlS S x := by rfl) (hs : NoStar a := by intro _ _; rfl) (hs2 : NoStar b := by intro _ _; rfl) (hn : x ≠ "__name__" := by decide) (hd : (x == ("__debug__" : Str)) = false := by decide) :
    DE S Γ (.Call (.Name x p) [a, b] [] pos) (ma.bind fun d => mb.bind fun e => g d e) := by
  obtain ⟨t, a1, a2⟩ := ha
  obtain ⟨u, b1, b2⟩ := hb
  refine ⟨_, fun X hX => pe_callB (hc X hX) (hg.gl hX) (by rw [hX.mg]; exact hm) hb0 (pa_cons (a1 X hX) (pa_cons (b1 X hX) pa_nil (hs2 _ _)) (hs _ _)) hn hd (hs _ _) (by rw [hs2]; rfl), fun σ Hd H Q s p => a2 σ Hd H _ s ?_⟩
  cases ma with
  | exc c => exact p
  | bad => exact p.elim
  | ok d =>
    intro v Hd1 H1 e1 r1
    refine b2 σ Hd1 H1 _ (s.ext e1) ?_
    cases mb with
    | exc c => exact fun Hd' H' e' => p Hd' H' (e1.trans e')
    | bad => exact p.elim
    | ok f =>
      intro w Hd2 H2 e2 r2
      have p : EPost S _ σ Hd H Q (g d f) := p
      rcases hg2 d f with ⟨i, j, rfl, rfl, q⟩ | q
      · rw [q] at p
        cases r1.1
        cases r2.1
        exact ⟨i, j, rfl, p _ _ _ (e1.trans e2) Rp.int⟩
      · rw [q] at p
        exact p.elim
theorem boot_max' : bootBuiltins ("max" : Str) = some (.builtin "max") := by decide +kernel
theorem boot_min' : bootBuiltins ("min" : Str) = some (.builtin "min") := by decide +kernel
theorem de_max2 (hm : S.mg "max" = none) (ha : DE S Γ a ma) (hb : DE S Γ b mb) (hg : GlS S "max" := by rfl) (hs : NoStar a := by intro _ _; rfl) (hs2 : NoStar b := by intro _ _; rfl) :
    DE S Γ (.Call (.Name "max" p) [a, b] [] pos) (ma.bind fun d => mb.bind fun e => pyMax2 d e) :=
  de_b2 (k := fun i j => if j > i then j else i) (fun X hX => call_max2 hX.calm) hm boot_max' (fun d e => by
    unfold pyMax2; split
    · exact .inl ⟨_, _, rfl, rfl, rfl⟩
    · exact .inr rfl) ha hb hg hs hs2
theorem de_min2 (hm : S.mg "min" = none) (ha : DE S Γ a ma) (hb : DE S Γ b mb) (hg : GlS S "min" := by rfl) (hs : NoStar a := by intro _ _; rfl) (hs2 : NoStar b := by intro _ _; rfl) :
    DE S Γ (.Call (.Name "min" p) [a, b] [] pos) (ma.bind fun d => mb.bind fun e => pyMin2 d e) :=
  de_b2 (k := fun i j => if j < i then j else i) (fun X hX => call_min2 hX.calm) hm boot_min' (fun d e => by
    unfold pyMin2; split
    · exact .inl ⟨_, _, rfl, rfl, rfl⟩
    · exact .inr rfl) ha hb hg hs hs2
theorem rgV_dva {H : Hp} (i j : Int) : DvA H (rgV i j) (intsD i (j - i).toNat) := DvA.of (by rw [rgV_length]; unfold intsD; simp) fun n v d h1 h2 => by
  unfold rgV at h1
  unfold intsD at h2
  rw [List.getElem?_map] at h1 h2
  obtain ⟨n1, q1, rfl⟩ := Option.map_eq_some_iff.mp h1
  obtain ⟨n2, q2, rfl⟩ := Option.map_eq_some_iff.mp h2
  rw [q1] at q2
  cases q2
  exact .int _
theorem rg_len (i : Int) (n : Nat) : (intsD i n).length = n := by unfold intsD; simp
theorem range_post {α : Type} {i j : Int} {P : Rs (List D) → Prop} (p : P (pyRange (.int i) (.int j))) (hb : ¬ P .bad) : RgOk i j ∧ (j - i).toNat ≤ sizeMax ∧ P (.ok (intsD i (j - i).toNat)) := by
  have p : P (if -(2 ^ 61) < i ∧ i < 2 ^ 61 ∧ -(2 ^ 61) < j ∧ j < 2 ^ 61 ∧ j - i ≤ sizeMax then .ok (intsD i (j - i).toNat) else .bad) := p
  split at p
  · rename_i h
    obtain ⟨h1, h2, h3, h4, h5⟩ := h
    have : (sizeMax : Int) = 16777216 := rfl
    refine ⟨⟨by omega, by omega, by omega, by omega, ?_⟩, ?_, p⟩
    · have : (2 : Nat) ^ 24 = 16777216 := by decide
      omega
    · show (j - i).toNat ≤ 16777216
      omega
  · exact absurd p hb
theorem df_listRg1 {p2 q : Pos} (hm1 : S.mg "list" = none) (hm : S.mg "range" = none) (ha : DE S Γ a ma) (hg1 : GlS S "list" := by rfl) (hg : GlS S "range" := by rfl) (hs : NoStar a := by intro _ _; rfl) :
    DF S Γ (.Call (.Name "list" p) [.Call (.Name "range" p2) [a] [] q] [] pos) (ma.bind fun d => pyRange (.int 0) d) := by
  obtain ⟨t, a1, a2⟩ := ha
  refine ⟨_, fun X hX => pe_listRg hX.calm (hg1.gl hX) (by rw [hX.mg]; exact hm1) (prg_1 (hg.gl hX) (by rw [hX.mg]; exact hm) (a1 X hX) (hs _ _)), fun σ Hd H Q s p => a2 σ Hd H _ s ?_⟩
  cases ma with
  | exc c => exact p
  | bad => exact p.elim
  | ok d =>
    intro v Hd1 H1 e1 r1
    have p : FPost S σ Hd H Q (pyRange (.int 0) d) := p
    cases d with
    | int j =>
      cases r1.1
      obtain ⟨h1, h2, p⟩ := range_post (α := Nat) p id
      exact ⟨j, rfl, h1, fun l hn => p l _ Hd1 _ (e1.trans (Ext.newOwn e1.s hn)) (e1.a.free hn) upd_same (e1.s.free hn) ⟨rgV_dva 0 j, szA_ints⟩ (by rw [rg_len]; exact h2)⟩
    | none => exact p.elim
    | bool _ => exact p.elim
    | str _ => exact p.elim
    | list _ => exact p.elim
    | tuple _ => exact p.elim
    | dict _ => exact p.elim
theorem df_listRg2 {p2 q : Pos} (hm1 : S.mg "list" = none) (hm : S.mg "range" = none) (ha : DE S Γ a ma) (hb : DE S Γ b mb) (hg1 : GlS S "list" := by rfl) (hg : GlS S "range" := by rfl) (hs : NoStar a := by intro _ _; rfl) (hs2 : NoStar b := by intro _ _; rfl) :
    DF S Γ (.Call (.Name "list" p) [.Call (.Name "range" p2) [a, b] [] q] [] pos) (ma.bind fun d => mb.bind fun e => pyRange d e) := by
  obtain ⟨t, a1, a2⟩ := ha
  obtain ⟨u, b1, b2⟩ := hb
  refine ⟨_, fun X hX => pe_listRg hX.calm (hg1.gl hX) (by rw [hX.mg]; exact hm1) (prg_2 (hg.gl hX) (by rw [hX.mg]; exact hm) (a1 X hX) (b1 X hX) (hs _ _) (hs2 _ _) (by rw [hs2]; rfl)), fun σ Hd H Q s p => a2 σ Hd H _ s ?_⟩
  cases ma with
  | exc c => exact p
  | bad => exact p.elim
  | ok d =>
    intro v Hd1 H1 e1 r1
    refine b2 σ Hd1 H1 _ (s.ext e1) ?_
    cases mb with
    | exc c => exact fun Hd' H' e' => p Hd' H' (e1.trans e')
    | bad => exact p.elim
    | ok f =>
      intro w Hd2 H2 e2 r2
      have p : FPost S σ Hd H Q (pyRange d f) := p
      have e12 := e1.trans e2
      unfold pyRange at p
      cases d with
      | int i =>
        cases f with
        | int j =>
          cases r1.1
          cases r2.1
          obtain ⟨h1, h2, p⟩ := range_post (α := Nat) (P := FPost S σ Hd H Q) p id
          exact ⟨i, j, rfl, rfl, h1, fun l hn => p l _ Hd2 _ (e12.trans (Ext.newOwn e2.s hn)) (e12.a.free hn) upd_same (e2.s.free hn) ⟨rgV_dva i j, szA_ints⟩ (by rw [rg_len]; exact h2)⟩
        | none => exact p.elim
        | bool _ => exact p.elim
        | str _ => exact p.elim
        | list _ => exact p.elim
        | tuple _ => exact p.elim
        | dict _ => exact p.elim
      | none => exact p.elim
      | bool _ => exact p.elim
      | str _ => exact p.elim
      | list _ => exact p.elim
      | tuple _ => exact p.elim
      | dict _ => exact p.elim
theorem DvA.eraseIdx {H : Hp} : ∀ {vs : List V} {ds : List D} (n : Nat), DvA H vs ds → DvA H (vs.eraseIdx n) (ds.eraseIdx n)
  | _, _, _, .nil => by simpa using DvA.nil
  | _, _, 0, .cons _ t => t
  | _, _, n + 1, .cons g t => .cons g (DvA.eraseIdx n t)
theorem RpA.eraseIdx {K : PySem.W.Frag} {H : Hp} {vs : List V} {ds : List D} (n : Nat) (r : RpA K H vs ds) : RpA K H (vs.eraseIdx n) (ds.eraseIdx n) := ⟨r.1.eraseIdx n, szA_of fun x hx => szA_mem r.2 (List.mem_of_mem_eraseIdx hx)⟩
theorem ixOf_seq {n k : Nat} {i : Int} (h : ixOf n i = some k) : seqIndex? i n = some k := by
  unfold ixOf at h
  unfold seqIndex?
  split at h
  · split at h
    · cases h
      rename_i h1 h2
      have h3 : ¬ (i < 0) := by omega
      simp [h1, h2, h3]
    · cases h
  · split at h
    · cases h
      rename_i h1 h2
      have h3 : i < 0 := by omega
      have h4 : i + (n : Int) < n := by omega
      simp [h2, h3, h4]
    · cases h
theorem db_appendPop (i j : Nat) {x y : Str} {px ap cp py bp dp : Pos} {ds es : List D} {f : D → List D → Rs (Out A)} (hΓ : Γ[i]? = some (.own ds)) (hΓ2 : Γ[j]? = some (.own es)) (h : DE S Γ e m) (k : ∀ d es', DB S ((Γ.set j (.own es')).set i (.own (ds ++ [d]))) rest G (f d es')) (hN : S.N[i]? = some x := by rfl) (hN2 : S.N[j]? = some y := by rfl) (hij : i ≠ j := by decide)
    (hv : Vis S.sc x := by first | exact Or.inl rfl | exact Or.inr (Or.inl rfl)) (hv2 : Vis S.sc y := by first | exact Or.inl rfl | exact Or.inr (Or.inl rfl)) (hline : (ap.endLine == cp.line) = true := by rfl) (hline2 : (bp.endLine == dp.line) = true := by rfl) (hst : NoStar e := by intro _ _; rfl)
    (hst2 : NoStar (.Call (.Attribute (.Name y py) "pop" bp) [e] [] dp) := by intro _ _; rfl) (hd : (x == ("__debug__" : Str)) = false := by decide) (hcd : (x == ("__classdict__" : Str)) = false := by decide) (hd2 : (y == ("__debug__" : Str)) = false := by decide) (hcd2 : (y == ("__classdict__" : Str)) = false := by decide)
    (hb : ∀ env : Env, attributeBase (.Name x px) "append" env (eval (.Name x px) env) = eval (.Name x px) env := by intro _; rfl) (hb2 : ∀ env : Env, attributeBase (.Name y py) "pop" env (eval (.Name y py) env) = eval (.Name y py) env := by intro _; rfl)
    (hsw : ∀ (env : Env) (line : Nat), swapsWith (.Call (.Attribute (.Name x px) "append" ap) [.Call (.Attribute (.Name y py) "pop" bp) [e] [] dp] [] cp) none line env = pure false := by intro _ _; rfl) :
    DB S Γ (.Expr (.Call (.Attribute (.Name x px) "append" ap) [.Call (.Attribute (.Name y py) "pop" bp) [e] [] dp] [] cp) pos :: rest) G (m.bind fun b => popIx es b fun d es' => if ds.length < sizeMax then f d es' else .bad) := by
  obtain ⟨t, h1, h2⟩ := h
  refine ⟨tSeq (tDrop (tBM S.K "list" rAppend (tVar i) (tCons (tBM S.K "list" rPopAt (tVar j) (tCons t tNil)) tNil))) (wpB S rest), fun X hX => ?_, fun σ Hd H E s p => ?_⟩
  · have q2 := pe_bm (X := X) (apos := bp) (cpos := dp) PySem.F.plainAttrs_list PySem.F.slot_list_pop PySem.F.type_list_pop mt_popAt (fit_var (pos := py) hX hN2 hv2 hd2 hcd2) (pa_cons (h1 X hX) pa_nil (hst _ _)) (hb2 _) (by rw [hst]; rfl) hline2 (hst _ _)
    have q := pe_bm (X := X) (apos := ap) (cpos := cp) PySem.F.plainAttrs_list PySem.F.slot_list_append PySem.F.type_list_append mt_append (fit_var (pos := px) hX hN hv hd hcd) (pa_cons q2 pa_nil (hst2 _ _)) (hb _) (by rw [hst2]; rfl) hline (hst2 _ _)
    rw [hX.K] at q
    exact pss_cons (ps_expr q (hsw _ _)) (ps_wp hX)
  · obtain ⟨l, vs, k1, k2, k3, k4, k5, k6⟩ := s.own i ds hΓ
    obtain ⟨l', us, u1, u2, u3, u4, u5, u6⟩ := s.own j es hΓ2
    have hne : l' ≠ l := fun q => s.sep i j ds es l hij hΓ hΓ2 k1 (by rw [u1, q])
    refine ⟨.ref l, k1, .inl ⟨rfl, _, .inl (.inl k2)⟩, .ref l', u1, .inl ⟨rfl, _, .inl (.inl u2)⟩, h2 σ Hd H _ s ?_⟩
    cases m with
    | exc c => exact exc_post s p
    | bad => exact p.elim
    | ok d =>
      intro v Hd' H' e' r
      have p : BPost S Γ.length Hd G E (popIx es d fun d es' => if ds.length < sizeMax then f d es' else .bad) := p
      have s' := s.ext e'
      unfold popIx at p
      cases d with
      | int z =>
        cases r.1
        have p : BPost S Γ.length Hd G E (if -(2 ^ 63) ≤ z ∧ z < 2 ^ 63 then (match ixOf es.length z with
          | some n => (match es[n]? with
            | some d => if ds.length < sizeMax then f d (es.eraseIdx n) else .bad
            | none => .bad)
          | none => .bad) else .bad) := p
        split at p
        · rename_i hb
          cases hix : ixOf es.length z with
          | none => rw [hix] at p; exact p.elim
          | some n =>
            rw [hix] at p
            cases hen : es[n]? with
            | none => simp only [hen] at p; exact p.elim
            | some d =>
              simp only [hen] at p
              split at p
              · rename_i hz
                obtain ⟨y', hy, ry⟩ := u5.get hen
                have em : ∀ {l : List D} (n : Nat), (l.eraseIdx n).length ≤ l.length := fun n => by
                  rw [List.length_eraseIdx]
                  split <;> omega
                have s2 := s'.mut j hΓ2 u1 ((u5.mono e'.d).eraseIdx n) (Nat.le_trans (em n) u6)
                refine ⟨l', us, z, n, y', rfl, rfl, e'.a _ _ u2, hb.1, hb.2, by rw [u5.len]; exact ixOf_seq hix, hy, ?_⟩
                refine ⟨l, vs, y', rfl, rfl, ?_, by rw [k5.len, ← sizeMax_eq]; exact hz, ?_⟩
                · rw [upd_ne (fun q => hne q.symm)]
                  exact e'.a _ _ k2
                · exact (k d _).wp _ Hd' _ E (s2.mut i (by rw [List.getElem?_set_ne (fun q => hij q.symm)]; exact hΓ) k1 ((k5.mono e'.d).append (RpA.cons (ry.mono e'.d) RpA.nil)) (by simp; omega)) (by rw [List.length_set, List.length_set]; exact p.after e'.d)
              · exact p.elim
        · exact p.elim
      | none => exact p.elim
      | bool _ => exact p.elim
      | str _ => exact p.elim
      | list _ => exact p.elim
      | tuple _ => exact p.elim
      | dict _ => exact p.elim
end BG
namespace BG
open PySem PySem.Spec PyProof.Rows L2
variable {S : Sc} {Γ : Gam} {a b c e tg : Expr} {ma mb mc m : Rs D} {pos p : Pos} {A : Type} {G : A → Gam} {ss rest : List Stmt}
theorem de_call5 {d e : Expr} {md me : Rs D} {x : Str} {k : Nat} {f : D → D → D → D → D → Rs D} (C : CalS S x k 5 (lift5 f)) (hk : k ≤ S.k := by decide) (ha : DE S Γ a ma) (hb : DE S Γ b mb) (hc : DE S Γ c mc) (hd' : DE S Γ d md) (he : DE S Γ e me) (hs : NoStar a := by intro _ _; rfl) (hs2 : NoStar b := by intro _ _; rfl) (hs3 : NoStar c := by intro _ _; rfl)
    (hs4 : NoStar d := by intro _ _; rfl) (hs5 : NoStar e := by intro _ _; rfl) (hg : GlS S x := by rfl) (hd : (x == ("__debug__" : Str)) = false := by decide) :
    DE S Γ (.Call (.Name x p) [a, b, c, d, e] [] pos) (ma.bind fun d => mb.bind fun e => mc.bind fun g => md.bind fun h => me.bind fun i => f d e g h i) := by
  have h := de_call (p := p) (pos := pos) C hk (da_cons ha (da_cons hb (da_cons hc (da_cons hd' (da_cons he da_nil hs5) hs4) hs3) hs2) hs) rfl hs (fun _ _ => by rw [hs2, hs3, hs4, hs5]; rfl) hg hd (fun ds hds => by
    cases ma with
    | ok d => cases mb with
      | ok d => cases mc with
        | ok d => cases md with
          | ok d => cases me with
            | ok d => cases hds; rfl
            | exc c => cases hds
            | bad => cases hds
          | exc c => cases hds
          | bad => cases hds
        | exc c => cases hds
        | bad => cases hds
      | exc c => cases hds
      | bad => cases hds
    | exc c => cases hds
    | bad => cases hds)
  have e : ((ma.bind fun d => (mb.bind fun d => (mc.bind fun d => (md.bind fun d => (me.bind fun d => (Rs.ok []).bind fun ds => .ok (d :: ds)).bind fun ds => .ok (d :: ds)).bind fun ds => .ok (d :: ds)).bind fun ds => .ok (d :: ds)).bind fun ds => .ok (d :: ds)).bind (lift5 f)) = ma.bind fun d => mb.bind fun e => mc.bind fun g => md.bind fun h => me.bind fun i => f d e g h i := by
    cases ma <;> cases mb <;> cases mc <;> cases md <;> cases me <;> rfl
  rw [e] at h
  exact h
/-- x, y, z = a, b, a new list that is changed later -/
theorem db_threeO (i j l : Nat) {st : Stmt} {m3 : Rs (List D)} {f : D → D → List D → Rs (Out A)} (T : Three S st a b c i j l) (ha : DE S Γ a ma) (hb : DE S Γ b mb) (hc : DF S Γ c m3) (k : ∀ x y z, DB S (((Γ.set i (.dat x)).set j (.dat y)).set l (.own z)) rest G (f x y z))
    (n1 : NoStar a := by intro _ _; rfl) (n2 : NoStar b := by intro _ _; rfl) (n3 : NoStar c := by intro _ _; rfl) : DB S Γ (st :: rest) G (ma.bind fun x => mb.bind fun y => m3.bind fun z => f x y z) := by
  obtain ⟨Qf, q1, q2⟩ := T
  obtain ⟨ta, a1, a2⟩ := ha
  obtain ⟨tb, b1, b2⟩ := hb
  obtain ⟨tc, c1, c2⟩ := hc
  refine ⟨tSeq (fun E σ H => (tCons ta (tCons tb (tCons tc tNil))) σ H (Qf E σ)) (wpB S rest), fun X hX => pss_cons (q1 X hX _ (pa_cons (a1 X hX) (pa_cons (b1 X hX) (pa_cons (c1 X hX) pa_nil (n3 _ _)) (n2 _ _)) (n1 _ _))) (ps_wp hX), fun σ Hd H E s p => a2 σ Hd H _ s ?_⟩
  cases ma with
  | exc c => exact exc_post s p
  | bad => exact p.elim
  | ok x =>
    intro u Hd1 H1 e1 ru
    refine b2 σ Hd1 H1 _ (s.ext e1) ?_
    cases mb with
    | exc c => exact exc_post (G := G) (E := E) (s.ext e1) p
    | bad => exact p.elim
    | ok y =>
      intro v Hd2 H2 e2 rv
      have e12 := e1.trans e2
      refine c2 σ Hd2 H2 _ (s.ext e12) ?_
      cases m3 with
      | exc c => exact exc_post (G := G) (E := E) (s.ext e12) p
      | bad => exact p.elim
      | ok z =>
        intro l' vs Hd3 H3 e3 h1 h2 h3 h4 h5
        have p : BPost S Γ.length Hd G E (f x y z) := p
        have e13 := e12.trans e3
        refine q2 _ σ u v (.ref l') H3 fun H4 hH => ?_
        have e4 : Ext Hd3 H3 Hd3 H4 := by
          rcases hH with rfl | ⟨q, hq, rfl⟩
          · exact Ext.refl e3.s
          · exact Ext.newOwn e3.s hq
        have S2 := ((s.ext e12).set i (ru.mono e2.d)).set j rv
        exact (k x y z).wp _ Hd3 H4 E (S2.setOwn (e3.trans e4) l h1 (e4.a _ _ h2) h3 h4 h5) (by simp only [List.length_set]; exact p.after e13.d)
/-- x[i], x[j] = a, b -/
theorem db_store2 (i : Nat) {x : Str} {px px' ip ip' pt pt2 : Pos} {kt k2 : Nat} {ix jx : Expr} {mi mj : Rs D} {ds : List D} {f : Nat → Nat → D → D → Rs (Out A)} (hΓ : Γ[i]? = some (.own ds)) (ha : DE S Γ a ma) (hb : DE S Γ b mb) (hi : DE S Γ ix mi) (hj : ∀ d, DE S (Γ.set i (.own d)) jx mj)
    (k : ∀ n n' d d', DB S (Γ.set i (.own ((ds.set n d).set n' d'))) rest G (f n n' d d')) (hN : S.N[i]? = some x := by rfl)
    (hv : Vis S.sc x := by first | exact Or.inl rfl | exact Or.inr (Or.inl rfl)) (hd : (x == ("__debug__" : Str)) = false := by decide) (hcd : (x == ("__classdict__" : Str)) = false := by decide)
    (h1 : ∀ (env : Env) v, assign (.Subscript (.Name x px) ix ip) env v = (do
      let ov ← holding [v] (eval (.Name x px) env)
      let iv ← holding [v, ov] (eval ix env)
      standAt ip
      holding [v, ov, iv] (setItem ov iv v)
      release [v, ov, iv] []) := by intro _ _; rfl)
    (h2 : ∀ (env : Env) v, assign (.Subscript (.Name x px') jx ip') env v = (do
      let ov ← holding [v] (eval (.Name x px') env)
      let iv ← holding [v, ov] (eval jx env)
      standAt ip'
      holding [v, ov, iv] (setItem ov iv v)
      release [v, ov, iv] []) := by intro _ _; rfl)
    (n1 : NoStar a := by intro _ _; rfl) (n2 : NoStar b := by intro _ _; rfl)
    (hs : ∀ (env : Env) line, swapsWithSole [.Tuple [.Subscript (.Name x px) ix ip, .Subscript (.Name x px') jx ip'] kt pt] (.Tuple [a, b] k2 pt2) line env = pure false := by intro _ _; rfl)
    (hw : ∀ env : Env, env.scope = S.sc → swappedStores [.Tuple [.Subscript (.Name x px) ix ip, .Subscript (.Name x px') jx ip'] kt pt] (.Tuple [a, b] k2 pt2) env = pure none := by intro env h; obtain ⟨⟩ := env; cases h; rfl) :
    DB S Γ (.Assign [.Tuple [.Subscript (.Name x px) ix ip, .Subscript (.Name x px') jx ip'] kt pt] (.Tuple [a, b] k2 pt2) pos :: rest) G
      (ma.bind fun d => mb.bind fun d' => mi.bind fun y => setIx ds y fun n => mj.bind fun z => setIx ds z fun n' => f n n' d d') := by
  obtain ⟨ta, a1, a2⟩ := ha
  obtain ⟨tb, b1, b2⟩ := hb
  obtain ⟨ti, i1, i2⟩ := hi
  refine ⟨tSeq (tAsg (tTup (tCons ta (tCons tb tNil))) (gTup S.K 2 (gCons (gSub (tVar i) ti rSetL) (gCons (gSub (tVar i) (wpE S jx) rSetL) gNil)))) (wpB S rest), fun X hX => ?_, fun σ Hd H E s p => a2 σ Hd H _ s ?_⟩
  · have g : PG X (.Tuple [.Subscript (.Name x px) ix ip, .Subscript (.Name x px') jx ip'] kt pt) (gTup S.K 2 (gCons (gSub (tVar i) ti rSetL) (gCons (gSub (tVar i) (wpE S jx) rSetL) gNil))) :=
      hX.K ▸ pg_tup hX.calm (pgs_cons (pg_sub (fit_var hX hN hv hd hcd) (i1 X hX) set_list (h1 _)) (pgs_cons (pg_sub (fit_var hX hN hv hd hcd) (pe_wp hX) set_list (h2 _)) pgs_nil))
    exact pss_cons (ps_asg (pe_tup (pa_cons (a1 X hX) (pa_cons (b1 X hX) pa_nil (n2 _ _)) (n1 _ _))) g (hs _ _) (hw _ hX.sc)) (ps_wp hX)
  cases ma with
  | exc c => exact exc_post s p
  | bad => exact p.elim
  | ok d =>
    intro u Hd1 H1 e1 ru
    refine b2 σ Hd1 H1 _ (s.ext e1) ?_
    cases mb with
    | exc c => exact exc_post (G := G) (E := E) (s.ext e1) p
    | bad => exact p.elim
    | ok d' =>
      intro v Hd2 H2 e2 rv
      have e12 := e1.trans e2
      refine ⟨by show 2 ≤ sizeLine; decide, fun q hq => ?_⟩
      have e3 : Ext Hd2 H2 Hd2 (upd H2 q (.tup [u, v])) := Ext.newOwn e2.s hq
      have e13 := e12.trans e3
      have s3 := s.ext e13
      obtain ⟨l, vs, k1, k2, k3, k4, k5, k6⟩ := s3.own i ds hΓ
      refine ⟨q, [u, v], rfl, .inl (.inl upd_same), rfl, u, [v], rfl, .ref l, k1, i2 σ Hd2 _ _ s3 ?_⟩
      cases mi with
      | exc c => exact exc_post (G := G) (E := E) s3 p
      | bad => exact p.elim
      | ok jd =>
        intro w Hd4 H4 e4 r4
        have e14 := e13.trans e4
        cases jd with
        | int z =>
          have p : BPost S Γ.length Hd G E (match ixOf ds.length z with | some n => mj.bind fun z => setIx ds z fun n' => f n n' d d' | none => .bad) := p
          cases r4.1
          cases hix : ixOf ds.length z with
          | none => rw [hix] at p; exact p.elim
          | some n =>
            rw [hix] at p
            have p : BPost S Γ.length Hd G E (mj.bind fun z => setIx ds z fun n' => f n n' d d') := p
            have ru4 : Rp S.K Hd4 u d := (ru.mono e2.d).mono e4.d
            have rv4 : Rp S.K Hd4 v d' := rv.mono e4.d
            have s5 := (s3.ext e4).mut i hΓ k1 ((k5.mono e4.d).set n ru4) (by simpa using k6)
            refine ⟨l, vs, z, n, rfl, rfl, e4.a _ _ k2, by rw [k5.len, ← ixOf_ixN]; exact hix, v, [], rfl, .ref l, k1, (hj _).wp σ Hd4 _ _ s5 ?_⟩
            have hi : i < Γ.length := (List.getElem?_eq_some_iff.mp hΓ).1
            cases mj with
            | exc c => exact exc_post (G := G) (E := E) s5 (by rw [List.length_set]; exact p)
            | bad => exact p.elim
            | ok jd =>
              intro w Hd6 H6 e6 r6
              cases jd with
              | int z' =>
                have p : BPost S Γ.length Hd G E (match ixOf ds.length z' with | some n' => f n n' d d' | none => .bad) := p
                cases r6.1
                cases hix' : ixOf ds.length z' with
                | none => rw [hix'] at p; exact p.elim
                | some n' =>
                  rw [hix'] at p
                  have s6 := s5.ext e6
                  have hΓ' : (Γ.set i (.own (ds.set n d)))[i]? = some (.own (ds.set n d)) := List.getElem?_set_self hi
                  obtain ⟨l', us, u1, u2, u3, u4, u5, u6⟩ := s6.own i _ hΓ'
                  rw [k1] at u1
                  cases u1
                  have s7 := s6.mut i hΓ' k1 (u5.set n' (rv4.mono e6.d)) (by simpa using k6)
                  rw [List.set_set] at s7
                  refine ⟨l, us, z', n', rfl, rfl, u2, by rw [u5.len, ← ixOf_ixN]; simpa using hix', rfl, ?_⟩
                  exact (k n n' d d').wp _ Hd6 _ E s7 (by rw [List.length_set]; exact p.after (e14.d.trans e6.d))
              | none => exact p.elim
              | bool _ => exact p.elim
              | str _ => exact p.elim
              | list _ => exact p.elim
              | tuple _ => exact p.elim
              | dict _ => exact p.elim
        | none => exact p.elim
        | bool _ => exact p.elim
        | str _ => exact p.elim
        | list _ => exact p.elim
        | tuple _ => exact p.elim
        | dict _ => exact p.elim
end BG
namespace BG
open PySem PySem.Spec PyProof.Rows L2
/-- enumerate(v), v begun as o -/
theorem bg_enum_new {v : Value} {ob : Obj} {Hp0 : Heap → Prop} (B : Begins v ob Hp0) :
    Meets (Builtin.«enumerate.__new__» ⟨[.type "enumerate", v], []⟩) (fun _ R st => Hp0 st.heap ∧
      R (.ok (.ret (.ref (st.heap.push ob).objs.size))) { st with heap := (st.heap.push ob).push ⟨.type "enumerate", none, .fields #[.none, .bool false, .ref st.heap.objs.size, rawInt 0, .none, .none], #[]⟩ }) :=
  .of_wp fun pr ww AA RR st hh => by
    obtain ⟨h0, gg, dr, tt, oo⟩ := st
    obtain ⟨g1, g2⟩ := hh
    have sb := sub_enumerate
    have q0 : ∀ {A' : Around} {E' : Value → Shared → Prop} {Q' : Value → Shared → Prop}, Q' (.ref h0.objs.size) ⟨h0.push ob, gg, dr, tt, oo⟩ → wpAny (model pr ww) A' (pyIter v) Q' E' ⟨h0, gg, dr, tt, oo⟩ := fun z => B.iter pr ww _ _ ⟨h0, gg, dr, tt, oo⟩ _ g1 z
    wp_walk using q0
    refine wpAny_stack_any fun frames => wpAny_pure ?_
    split
    · rename_i cc _ _ _ _ _
      cases (cc == Value.type "enumerate") <;> (wp_walk using q0; exact ⟨_, rfl, g2⟩)
    · wp_walk using q0
      exact ⟨_, rfl, g2⟩
section
variable {prog : Program} {w : World} {A : Around} {E : Value → Shared → Prop} {s : Shared}
theorem bg_enum_call {v : Value} {ob : Obj} {Hp0 : Heap → Prop} {Q : Value → Shared → Prop} (B : Begins v ob Hp0) (g1 : Hp0 s.heap)
    (fin : ∀ h', IsEnum h' (s.heap.objs.size + 1) s.heap.objs.size 0 .none → h'.get? s.heap.objs.size = some ob → (∀ b o, s.heap.get? b = some o → h'.get? b = some o) → Q (.ref (s.heap.objs.size + 1)) { s with heap := h' }) :
    wpAny (model prog w) A (call (.type "enumerate") [v]) Q E s := by
  refine callType_new F.called_enumerate (by decide) (F.typeCall_enumerate_1 _) (F.newCall_enumerate_1 _) (fun z => F.args_object_init_2 z _) F.entry_enumerate_new (bg_enum_new B) ⟨g1, ?_⟩
  have size1 : (s.heap.push ob).objs.size = s.heap.objs.size + 1 := Heap.size_push ..
  show _ ∧ _
  rw [size1]
  have en : IsEnum ((s.heap.push ob).push ⟨.type "enumerate", none, .fields #[.none, .bool false, .ref s.heap.objs.size, rawInt 0, .none, .none], #[]⟩) (s.heap.objs.size + 1) s.heap.objs.size 0 .none := by
    have z := Heap.get?_push_size (s.heap.push ob) (o := ⟨.type "enumerate", none, .fields #[.none, .bool false, .ref s.heap.objs.size, rawInt 0, .none, .none], #[]⟩) rfl
    rw [size1] at z
    exact z
  exact ⟨⟨_, en, rfl⟩, fin _ en (Heap.get?_push_of_some _ (Heap.get?_push_size _ B.free)) fun b o x => Heap.get?_push_of_some _ (Heap.get?_push_of_some _ x)⟩
end
section
variable {prog : Program} {w : World} {A : Around} {E : Value → Shared → Prop} {s : Shared}
theorem bg_enum_end {e it a : Addr} {i : Nat} {vs : Array Value} {z : Value} {Q : Option Value → Shared → Prop} (quiet : A.handled = none) (en : IsEnum s.heap e it i z) (ti : s.heap.IsTupleIter it a i) (tup : s.heap.IsTuple a vs) (none_ : vs[i]? = none) (n1 : a ≠ it)
    (fin : ∀ h', Heap.ExtBut it s.heap h' → Q none { s with heap := h' }) : wpAny (model prog w) A (pyNext (.ref e)) Q E s := by
  have ty : s.TypeIs (.ref e) "enumerate" := ⟨_, en, rfl⟩
  unfold pyNext
  refine wpAny_bind (wpAny_attempt (wpAny_callSpecial?_slot (name := Str.ofString "__next__") ty F.slot_enumerate_next (wpAny_call_entry F.slot_enumerate_next ty F.entry_enumerate_next ?_ (F.args_enumerate_next_1 _))))
  show wpAny _ _ (field (.ref e) 2 >>= fun _ => _) _ _ s
  refine wpAny_bind (wpAny_field en rfl (x := .ref it) rfl ?_)
  refine wpAny_bind (wpAny_nextOf_tuple_end (A := A.in1) quiet ti tup none_ fun h' x kp stop => ?_)
  obtain ⟨so, s1, s2⟩ := stop
  refine wpAny_bind (wpAny_isInstance (T := "StopIteration") (b := true) ⟨so, s1, s2⟩ isSubtype_stop (wpAny_pure (fin _ kp)))
end
/-- the tuple at a, each item in a new pair -/
def IteT (K : PySem.W.Frag) (a : Addr) : It where
  go := fun i H => ∃ (xs : List V) (x : V), SqT K H a xs ∧ xs[i]? = some x
  yld := fun i H v H' => ∃ T x, v = .ref T ∧ H T = none ∧ H' = upd H T (.tup [.int (i : Nat), x]) ∧ ∀ xs, SqT K H a xs → xs[i]? = some x
  stop := fun i H => ∃ xs : List V, SqT K H a xs ∧ xs.length ≤ i
theorem bg_turn {P : Program} {w : World} {K : PySem.W.Frag} {els : List Expr} {k0 : Nat} {tp : Pos} (a e it : Addr) :
    Turn P w K (.Tuple els k0 tp) (IteT K a) [e, it] e (fun i h => (∃ z, IsEnum h e it ((i : Nat) : Int) z) ∧ h.IsTupleIter it a i ∧ e ≠ it) where
  mem := List.mem_cons_self
  obj := fun i h ⟨⟨z, en⟩, ⟨o, o1, o2, o3⟩, _⟩ b hb => by
    rcases List.mem_cons.mp hb with q | q
    · rw [q]
      exact ⟨_, en, fun v y => nomatch y⟩
    · rw [List.mem_singleton.mp q]
      exact ⟨o, o1, fun v y => by rw [o3] at y; cases y⟩
  keep := fun i h h' ⟨⟨z, en⟩, ⟨o, o1, o2⟩, ne⟩ kp => ⟨⟨z, kp e (by simp) _ en⟩, ⟨o, kp it (by simp) o o1, o2⟩, ne⟩
  item := by
    intro X hP hw hK hc i pins s σ H E I hf st hg
    subst hP hw hK
    obtain ⟨⟨z, en⟩, ti, ne⟩ := st
    obtain ⟨xs, x, hq, hx⟩ := hg
    obtain ⟨its, rv, tup, _⟩ := I.tuple hq
    obtain ⟨u, hu, ru⟩ := rv.get hx
    have e1 : e < s.heap.objs.size := Heap.lt_size en
    have e2 : it < s.heap.objs.size := by
      obtain ⟨_, q, _⟩ := ti
      exact Heap.lt_size q
    have tup' : s.heap.IsTuple a its.toArray := tup
    have n1 : a ≠ it := fun q => by
      obtain ⟨o, o1, o2, _⟩ := ti
      obtain ⟨o', p1, p2, _⟩ := tup'
      rw [q, o1] at p1
      cases p1
      rw [o2] at p2
      injection p2 with p3
      exact absurd p3 (by decide)
    have n2 : e ≠ a := fun q => by
      obtain ⟨o', p1, p2, _⟩ := tup'
      have en' : s.heap.get? e = some _ := en
      rw [q, p1] at en'
      cases en'
      injection p2 with p3
      exact absurd p3 (by decide)
    have hlt : i < its.toArray.size := by
      have := (List.getElem?_eq_some_iff.mp hu).1
      simpa using this
    refine wpAny_pyNext_enum_itemD (Draws.tuple (A := X.A.in1) (I.ok.hd hc) it a n1 its.toArray) en ⟨ti, tup'⟩ hlt ne (by simp [ne, n2]) fun y h' tk hy ho ht hT hsz hk => ?_
    have hyu : y = u := by
      have q : its.toArray[i]? = some y := hy
      rw [← Array.getElem?_toList] at q
      have q : its[i]? = some y := q
      rw [hu] at q
      cases q
      rfl
    subst hyu
    refine ⟨_, rfl, wpAny_letOwnedTupleGo_enum (s := { s with heap := h', toks := tk + 1 }) ho fun h'' en' sb => ?_⟩
    have hT2 : h''.get? s.heap.objs.size = some { cls := .type "tuple", data := .seq #[.int i tk, y] } := (sb.2 _ (Nat.ne_of_gt e1)).trans hT
    have mk : ObjOk X.prog X.w (upd H s.heap.objs.size (.tup [.int (i : Nat), x])) h'' s.heap.objs.size (.tup [.int (i : Nat), x]) := ⟨(by show 2 ≤ sizeLine; decide), [.int i tk, y], .cons ⟨_, rfl⟩ (.cons ru .nil), ⟨_, hT2, rfl, _, rfl⟩⟩
    have I1 : Inv X pins σ (upd H s.heap.objs.size (.tup [.int (i : Nat), x])) { s with heap := h'', toks := tk + 1 } :=
      I.turnedNew (ch := [e, it]) (fun b o hb q => (sb.2 b (fun z => hb (by simp [z]))).trans (hk b o (fun z => hb (by simp [z])) (fun z => hb (by simp [z])) q)) hf (Nat.le_refl _) mk
    have ti' : h''.IsTupleIter it a (i + 1) := by
      obtain ⟨o, o1, o2⟩ := ht.1
      exact ⟨o, (sb.2 it (Ne.symm ne)).trans o1, o2⟩
    refine ⟨.ref s.heap.objs.size, _, I1, rfl, ⟨_, x, rfl, I.hok.fresh (Nat.le_refl _), rfl, fun ys hy => by rw [I.tuple_inj hy hq]; exact hx⟩, ⟨⟨y, ?_⟩, ti', ne⟩, fun b hb => ?_⟩
    · rw [show ((i + 1 : Nat) : Int) = (i : Int) + 1 from by omega]
      exact en'
    · have hb' : b < s.heap.objs.size := by
        rcases List.mem_cons.mp hb with q | q
        · rw [q]; exact e1
        · rw [List.mem_singleton.mp q]; exact e2
      rw [upd_ne (Nat.ne_of_lt hb')]
      exact (hf b hb).1
  done := by
    intro X hP hw hK hc i pins s σ H E I hf st hg
    subst hP hw hK
    obtain ⟨⟨z, en⟩, ti, ne⟩ := st
    obtain ⟨xs, hq, hx⟩ := hg
    obtain ⟨its, rv, tup, _⟩ := I.tuple hq
    obtain ⟨f0, f1, f2, f3, f4, f5⟩ := hf it (by simp)
    have tup' : s.heap.IsTuple a its.toArray := tup
    have n1 : a ≠ it := fun q => by
      obtain ⟨o, o1, o2, _⟩ := ti
      obtain ⟨o', p1, p2, _⟩ := tup'
      rw [q, o1] at p1
      cases p1
      rw [o2] at p2
      injection p2 with p3
      exact absurd p3 (by decide)
    exact bg_enum_end (I.ok.hd hc) en ti tup' (by have := rv.length; simp; omega) n1 fun h' eb => ⟨rfl, I.turned (t' := s.toks) (fun b o hb q => eb b o hb q) f0 f1 f3 f4 f5⟩
  self := fun A i s Q E ⟨⟨_, en⟩, _⟩ h => wpAny_pyIter_enum en h
def iEnumT (K : PySem.W.Frag) (t : TE) : TI := fun σ H R => t σ H fun v H1 => ∃ a, v = .ref a ∧ ((∃ xs, SqL K H1 a xs ∧ R (Ite K a) H1) ∨ (∃ xs, SqT K H1 a xs ∧ R (IteT K a) H1))
theorem pi_enumT {X : Cx} {e : Expr} {t : TE} {p pos tp : Pos} {els : List Expr} {k0 : Nat} (hg : Gl X "enumerate") (hm : X.mg "enumerate" = none) (ha : PE X e t) (ns : NoStar e) :
    PI X (.Tuple els k0 tp) (.Call (.Name "enumerate" p) [e] [] pos) (iEnumT X.K t) := by
  have L := pi_enum (X := X) (p := p) (pos := pos) (tpos := tp) (elts := els) (kk := k0) hg hm (pa_cons ha pa_nil (ns _ _)) (ns _ _)
  refine ⟨fun pins s σ H R I h => ?_⟩
  refine Call_ (ld_blt I hg hm boot_enumerate (PyProof.Rows.callWith_type1 (one_arg ha I h (fun v s1 x H1 I1 rx q => ?_) (ns _ _)) (ns _ _)))
  obtain ⟨a, rfl, q⟩ := q
  obtain rfl : v = Value.ref a := rx
  have fp : ∀ {h' : Heap}, Inv X pins σ H1 { s1 with heap := h' } → ∀ b ∈ [s1.heap.objs.size + 1, s1.heap.objs.size], FpOk X pins H1 b := fun _ b hb => by
    have le : s1.heap.objs.size ≤ b := by
      rcases List.mem_cons.mp hb with z | z
      · rw [z]; omega
      · rw [List.mem_singleton.mp z]; exact Nat.le_refl _
    exact I1.fpOk le (I1.hok.fresh le)
  rcases q with ⟨xs, hq, q⟩ | ⟨xs, hq, q⟩
  · obtain ⟨its, rv, lst, _⟩ := I1.list hq
    refine call_enumerate_list lst.isList fun h' en li _ kp => wpAny_pyIter_enum en ?_
    have I2 : Inv X pins σ H1 { s1 with heap := h' } := I1.kept (t' := s1.toks) kp
    exact ⟨_, [s1.heap.objs.size + 1, s1.heap.objs.size], _, _, H1, rfl, I2, turn_enum a _ _, ⟨⟨.none, en⟩, li, Nat.succ_ne_self _⟩, fp I2, q⟩
  · obtain ⟨its, rv, tup, _⟩ := I1.tuple hq
    have tup' : s1.heap.IsTuple a its.toArray := tup
    refine bg_enum_call (begins_tuple a its.toArray) tup' fun h' en ti kp => wpAny_pyIter_enum en ?_
    have I2 : Inv X pins σ H1 { s1 with heap := h' } := I1.kept (t' := s1.toks) kp
    exact ⟨_, [s1.heap.objs.size + 1, s1.heap.objs.size], _, _, H1, rfl, I2, bg_turn a _ _, ⟨⟨.none, en⟩, ⟨_, ti, rfl, rfl⟩, Nat.succ_ne_self _⟩, fp I2, q⟩
theorem goes_enumT {K : PySem.W.Frag} {Hs Hd : Hp} {l : Addr} {vs : List V} {ds : List D} (h : Hs l = some (.tup vs)) (r : RpA K Hd vs ds) : Goes K (IteT K l) Hs Hd (enumD ds) where
  go := fun H' i e hi => ⟨vs, vs[i]'(by rw [r.len]; rwa [enumD_len] at hi), .inl (.inl (e _ _ h)), List.getElem?_eq_getElem _⟩
  yld := fun Hd' H' i d x H'' e e1 e2 hd hy => by
    obtain ⟨T, y, rfl, hT, rfl, hy⟩ := hy
    obtain ⟨z, hz, rfl⟩ := enumD_get hd
    obtain ⟨v, hv, rv⟩ := r.get hz
    have := hy vs (.inl (.inl (e _ _ h)))
    rw [hv] at this
    cases this
    exact ⟨_, pair_new e2 hT Rp.int (rv.mono e1)⟩
  stop := fun H' i e hi => ⟨vs, .inl (.inl (e _ _ h)), by rw [r.len]; rwa [enumD_len] at hi⟩
section
variable {S : Sc} {Γ : Gam} {a b c e tg : Expr} {ma mb mc m : Rs D} {pos p : Pos}
/-- enumerate of a list or a tuple -/
theorem di_enumT {elts : List Expr} {kk : Nat} {tp : Pos} (hm : S.mg "enumerate" = none) (ha : DE S Γ a ma) (hg : GlS S "enumerate" := by rfl) (hs : NoStar a := by intro _ _; rfl) :
    DI S true Γ (.Tuple elts kk tp) (.Call (.Name "enumerate" p) [a] [] pos) (ma.bind fun d => (ofSeq d).bind fun ds => .ok (enumD ds)) := by
  obtain ⟨t, h1, h2⟩ := ha
  refine ⟨iEnumT S.K t, fun X hX => hX.K ▸ pi_enumT (hg.gl hX) (by rw [hX.mg]; exact hm) (h1 X hX) hs, fun σ Hd H R s p => h2 σ Hd H _ s ?_⟩
  cases ma with
  | exc c => exact p
  | bad => exact p.elim
  | ok d =>
    intro v Hd' H' e' r
    cases d with
    | list ds =>
      obtain ⟨r1, r2⟩ := r
      cases r1 with
      | @lst l xs _ hs ha => exact ⟨l, rfl, .inl ⟨xs, .inl (rd_mono e'.s hs), p _ Hd' H' e' (goes_enum hs ⟨ha, (szD_list.mp r2).2⟩) (by rw [enumD_len]; exact (szD_list.mp r2).1) (szA_enum (szD_list.mp r2).2)⟩⟩
    | tuple ds =>
      obtain ⟨r1, r2⟩ := r
      cases r1 with
      | @tup l xs _ hs ha => exact ⟨l, rfl, .inr ⟨xs, .inl (.inl (e'.s _ _ hs)), p _ Hd' H' e' (goes_enumT hs ⟨ha, (szD_tuple.mp r2).2⟩) (by rw [enumD_len]; exact (szD_tuple.mp r2).1) (szA_enum (szD_tuple.mp r2).2)⟩⟩
    | none => exact p.elim
    | bool _ => exact p.elim
    | int _ => exact p.elim
    | str _ => exact p.elim
    | dict _ => exact p.elim
end
end BG
namespace BG
open PySem PySem.Spec PyProof.Rows L2
variable {S : Sc} {Γ : Gam} {a b c e tg : Expr} {ma mb mc m : Rs D} {pos p : Pos} {A : Type} {G : A → Gam} {ss rest : List Stmt}
def rSetIT (K : PySem.W.Frag) (w : World) : List V → Hp → VK → Prop := fun vs H Q => ∃ (l : Addr) (ns : List Int), vs = [V.ref l] ∧ SqT K H l (ns.map V.int) ∧ ns.length < 1000 ∧ ∀ x n, H x = none → n ≤ ns.length → Q (.ref x) (upd H x (SetO w x (fun j => decide (j ∈ ns)) n))
theorem cr_setIT {X : Cx} (hc : X.calm = true) : CallR X (.type "set") (rSetIT X.K X.w) := by
  intro pins s σ H xs us Q I r h
  obtain ⟨l, ns, rfl, hl, hf, q⟩ := h
  rw [Vals.ref1 r]
  obtain ⟨its, rv, pl, hz⟩ := I.tuple hl
  refine call_set_tupI (P := X.prog) (w := X.w) ns (I.ok.hd hc) pl (by simpa using rv.ints) (by unfold scanBound; omega) fun h' tk n R hn k => ?_
  exact ⟨.ref _, upd H s.heap.objs.size (SetO X.w s.heap.objs.size (fun j => decide (j ∈ ns)) n), I.laid (t' := tk) k (Nat.le_refl _) (setO_new R), rfl, q _ n (I.hok.fresh (Nat.le_refl _)) hn⟩
theorem df_sortedSetT {p2 q2 : Pos} (hms : S.mg "sorted" = none) (hmt : S.mg "set" = none) (ha : DE S Γ a ma) (hg1 : GlS S "sorted" := by rfl) (hg2 : GlS S "set" := by rfl) (hs : NoStar a := by intro _ _; rfl) :
    DF S Γ (.Call (.Name "sorted" p) [.Call (.Name "set" p2) [a] [] q2] [] pos) (ma.bind pySortedSetT) := by
  obtain ⟨t, a1, a2⟩ := ha
  have hs2 : NoStar (.Call (.Name "set" p2) [a] [] q2) := fun _ _ => rfl
  refine ⟨tCB (rSortedSet S.w) (tCons (tCB (rSetIT S.K S.w) (tCons t tNil)) tNil), fun X hX => ?_, fun σ Hd H Q s p => a2 σ Hd H _ s ?_⟩
  · have c1 : CallR X (.type "set") (rSetIT S.K S.w) := by
      have := cr_setIT (X := X) hX.calm
      rw [hX.K, hX.w] at this
      exact this
    have c2 : CallR X (.builtin "sorted") (rSortedSet S.w) := by
      have := cr_sortedSet (X := X) hX.calm
      rw [hX.w] at this
      exact this
    exact pe_bl1 hX bl_sorted hms hg1 c2 (pe_bl1 hX (.ty _ PyProof.Rows.boot_set) hmt hg2 c1 (a1 X hX) hs (by decide) (by decide)) hs2 (by decide) (by decide)
  · cases ma with
    | exc c => exact p
    | bad => exact p.elim
    | ok d =>
      intro v Hd1 H1 e1 r1
      have p2 : FPost S σ Hd1 H1 Q (pySortedSetT d) := FPost.after e1 p
      clear p
      cases d with
      | none => exact p2.elim
      | bool _ => exact p2.elim
      | int _ => exact p2.elim
      | str _ => exact p2.elim
      | list _ => exact p2.elim
      | dict _ => exact p2.elim
      | tuple ds =>
        obtain ⟨r1, r2⟩ := r1
        cases r1 with
        | @tup l vs _ h1 h2 =>
          have p3 : FPost S σ Hd1 H1 Q (match intsOf ds with | some ns => if ns.length < 64 then .ok ((usort ltI ns).map .int) else .bad | none => .bad) := p2
          clear p2
          cases hi : intsOf ds with
          | none => rw [hi] at p3; exact p3.elim
          | some ns =>
            rw [hi] at p3
            have p4 : FPost S σ Hd1 H1 Q (if ns.length < 64 then .ok ((usort ltI ns).map .int) else .bad) := p3
            clear p3
            split at p4
            · rename_i hn
              refine ⟨l, ns, rfl, .inl (.inl (by rw [← ints_vals h2 hi]; exact e1.s _ _ h1)), by omega, fun x n hx hxn => ⟨x, _, n, rfl, upd_same, by omega, fun ns' q pw mem len hq => ?_⟩⟩
              have nqx : q ≠ x := fun z => by rw [z, upd_same] at hq; cases hq
              have hq' : H1 q = none := by rw [upd_ne nqx] at hq; exact hq
              have en : ns' = usort ltI ns := usort_is ltI_o (pw.imp fun {a b} h => by simpa [ltI] using h) fun z => by rw [mem z]; simp
              subst en
              have x1 : Ext Hd1 H1 Hd1 (upd (upd H1 x (SetO S.w x (fun j => decide (j ∈ ns)) n)) q (.lst ((usort ltI ns).map V.int))) := (Ext.newOwn e1.s hx).trans (Ext.newOwn (e1.s.trans (same_new hx)) hq)
              exact p4 q _ Hd1 _ x1 hq' upd_same (e1.s.free hq') (rpA_ints _) (by rw [List.length_map]; have := usort_length ltI_o ns; unfold sizeMax; omega)
            · exact p4.elim
theorem bg_range1 {X : Cx} : CallR X (.type "range") (fun vs H Q => ∃ j, vs = [V.int j] ∧ ∀ p, H p = none → Q (.ref p) (upd H p (.rng 0 j))) := by
  intro pins s σ H vs us Q I r h
  obtain ⟨j, rfl, q⟩ := h
  obtain ⟨u, rfl, ru⟩ := r.one
  obtain ⟨t, rfl⟩ := ru
  refine call_range_1 ⟨.ref s.heap.objs.size, upd H s.heap.objs.size (.rng 0 j), I.laid (t' := s.toks + 2) (fun b o z => Heap.get?_push_of_some _ z) (Nat.le_refl _) ?_, rfl, q _ (I.hok.fresh (Nat.le_refl _))⟩
  exact ⟨_, _, _, Heap.get?_push_size _ rfl⟩
theorem de_inRange1 {p2 q2 : Pos} (hm : S.mg "range" = none) (ha : DE S Γ a ma) (hb : DE S Γ b mb) (hg : GlS S "range" := by rfl) (hs : NoStar b := by intro _ _; rfl) (hk : behindInMarks .In (.Call (.Name "range" p2) [b] [] q2) = false := by first | exact nomark _ | with_unfolding_all rfl) :
    DE S Γ (.Compare a [.In] [.Call (.Name "range" p2) [b] [] q2] pos) (ma.bind fun x => mb.bind fun y => pyInRange x (.int 0) y) := by
  obtain ⟨t, a1, a2⟩ := ha
  obtain ⟨u, b1, b2⟩ := hb
  refine ⟨_, fun X hX => pe_cmpR op_in_rng (a1 X hX) (pe_bl1 hX (.ty _ PyProof.Rows.boot_range) hm hg bg_range1 (b1 X hX) hs (by decide) (by decide)) hk, fun σ Hd H Q s p => a2 σ Hd H _ s ?_⟩
  cases ma with
  | exc c => exact p
  | bad => exact p.elim
  | ok d =>
    intro v Hd1 H1 e1 r1
    refine b2 σ Hd1 H1 _ (s.ext e1) ?_
    cases mb with
    | exc c => exact fun Hd' H' e' => p Hd' H' (e1.trans e')
    | bad => exact p.elim
    | ok f =>
      intro w Hd2 H2 e2 r2
      have p : EPost S _ σ Hd H Q (pyInRange d (.int 0) f) := p
      cases d with
      | int i =>
        cases f with
        | int j =>
          cases r1.1
          cases r2.1
          refine ⟨j, rfl, fun x hx => ⟨i, x, 0, j, rfl, rfl, upd_same, ?_⟩⟩
          exact p _ Hd2 _ ((e1.trans e2).trans (Ext.newOwn e2.s hx)) Rp.bl
        | none => exact p.elim
        | bool _ => exact p.elim
        | str _ => exact p.elim
        | list _ => exact p.elim
        | tuple _ => exact p.elim
        | dict _ => exact p.elim
      | none => exact p.elim
      | bool _ => exact p.elim
      | str _ => exact p.elim
      | list _ => exact p.elim
      | tuple _ => exact p.elim
      | dict _ => exact p.elim
end BG
namespace BG
open PySem PySem.Spec PyProof.Rows L2 He
def excB (K : PySem.W.Frag) (x : Str) : Bool := eqO (PySem.W.findIn K (.ref (ga K x)) "__getattribute__") (some (some (.builtin "BaseException.__getattribute__"))) && (eqO (PySem.W.findIn K (.ref (ga K x)) "__getattr__") (some none) && (decide (PySem.W.subIn K (.ref (ga K x)) (.type "BaseException") = some true) &&
  (PySem.W.hasDictIn K (ga K x) && (eqO (PySem.W.findIn K (.ref (ga K x)) "__class__") (some (some (.builtin "object.__class__"))) && (eqO (PySem.W.specialIn K (.builtin "object.__class__") "__get__") (some (some (.builtin "getset_descriptor.__get__"))) &&
  (decide (PySem.W.takesIn K (.builtin "object.__class__") = some true) && decide (PySem.W.mroIn K (ga K x) (.type "object") = some true)))))))
theorem excB_ok {K : PySem.W.Frag} {x : Str} (h : excB K x = true) : ExcC K (ga K x) := by
  obtain ⟨h1, h⟩ := ba h
  obtain ⟨h2, h⟩ := ba h
  obtain ⟨h3, h⟩ := ba h
  obtain ⟨h4, h⟩ := ba h
  obtain ⟨h5, h⟩ := ba h
  obtain ⟨h6, h⟩ := ba h
  obtain ⟨h7, h8⟩ := ba h
  exact ⟨eqO_ok h1, eqO_ok h2, of_decide_eq_true h3, h4, eqO_ok h5, eqO_ok h6, of_decide_eq_true h7, of_decide_eq_true h8⟩
def kitAll (K : PySem.W.Frag) (cs : List Str) : Bool := cs.all fun c => excB K c && cs.all fun y => decide (PySem.W.kitOne K (.ref (ga K c)) (.ref (ga K y)) = some (decide (y = c)))
/-- no list is written down -/
def noLst (K : PySem.W.Frag) : Bool := K.all fun p => !decide (p.2.cls = .type "list")
def obsK (fa : List Fa) (fn : List DefD) (cs : List Str) (K : PySem.W.Frag) : AlD × Bool := (obsD fa fn K, kitAll K cs && noLst K)
def obsB (n : Nat) (fa : List Fa) (fn : List DefD) (cs : List Str) (g : Addr → Option Obj) : AlD × Bool := obsK fa fn cs (frG g (asD g n))
def SaysB (fa : List Fa) (fn : List DefD) (cs : List Str) (K : PySem.W.Frag) : Prop := SaysD fa fn K ∧ (kitAll K cs && noLst K) = true
def hookB (n : Nat) (fa : List Fa) (fn : List DefD) (cs : List Str) : PySem.W.Hook where
  α := AlD × Bool
  obs := fun s => obsB n fa fn cs s.heap.get?
  val := fun _ => (valD fn, true)
  says := fun _ h => ∃ K : PySem.W.Frag, K.In h ∧ SaysB fa fn cs K
  of := fun _ _ e => ⟨_, frG_in, congrArg (fun z : AlD × Bool => z.1) e, congrArg (fun z : AlD × Bool => z.2) e⟩
  keeps := fun _ _ _ ⟨K, hK, c⟩ k => ⟨K, PySem.W.Frag.In.keeps hK k, c⟩
theorem obsB_eq {n : Nat} {fa : List Fa} {fn : List DefD} {cs : List Str} {g : Addr → Option Obj} {s : Shared} (h : ∀ a, g a = s.heap.get? a) : obsB n fa fn cs g = (hookB n fa fn cs).obs s := by
  have e : g = s.heap.get? := funext h
  rw [e] <;> rfl
/-- what a walk leans on -/
def Fcs (fa : List Fa) (fn : List DefD) (cs : List Str) (K : PySem.W.Frag) (mg : Str → Option Value) : Prop := ∃ h : Heap, K.In h ∧ h.Ns mainGlobals mg ∧ SaysB fa fn cs K
section
variable {fa : List Fa} {fn : List DefD} {cs : List Str} {K : PySem.W.Frag} {mg : Str → Option Value}
theorem Fcs.glo (c : Fcs fa fn cs K mg) (i : Nat) {x : Str} (h : fa[i]? = some (.glo x) := by rfl) : mg x = some (.ref (ga K x)) := by
  obtain ⟨hp, X, G, c⟩ := c
  exact glo_ok X G (c.1.fact i h)
theorem Fcs.free (c : Fcs fa fn cs K mg) (i : Nat) {x : Str} (h : fa[i]? = some (.free x) := by rfl) : mg x = none := by
  obtain ⟨hp, X, G, c⟩ := c
  exact free_ok X G (c.1.fact i h)
theorem Fcs.int (c : Fcs fa fn cs K mg) (i : Nat) {x : Str} {z : Int} (h : fa[i]? = some (.int x z) := by rfl) : ∃ t, mg x = some (.int z t) := by
  obtain ⟨hp, X, G, c⟩ := c
  exact int_ok X G (c.1.fact i h)
theorem Fcs.str (c : Fcs fa fn cs K mg) (i : Nat) {x z : Str} (h : fa[i]? = some (.str x z) := by rfl) : ∃ t, mg x = some (.str z t) := by
  obtain ⟨hp, X, G, c⟩ := c
  exact str_ok X G (c.1.fact i h)
theorem Fcs.exc (c : Fcs fa fn cs K mg) (i j : Nat) {x : Str} (h : fa[i]? = some (.glo x) := by rfl) (h2 : fa[j]? = some (.exc x) := by rfl) : ExcK K mg x := by
  have g := c.glo i h
  obtain ⟨hp, X, G, c⟩ := c
  have q : (Fa.exc x).ok K = true := c.1.fact j h2
  obtain ⟨h1, q⟩ := ba q
  obtain ⟨h2, q⟩ := ba q
  obtain ⟨h3, h4⟩ := ba q
  exact ⟨g, h1, h2, of_decide_eq_true h3, of_decide_eq_true h4⟩
theorem Fcs.def_ (c : Fcs fa fn cs K mg) (i : Nat) {d : DefD} (h : fn[i]? = some d := by rfl) : ∃ fd, FunD K d.name d.qual d.params d.body d.scope (d.dvs K) (d.kws K) (fAd K d.at_) fd := by
  obtain ⟨hp, X, G, c⟩ := c
  exact c.1.def_ i h
theorem Fcs.three (c : Fcs fa fn cs K mg) {B a1 a2 a3 : Str} (iB i1 i2 i3 j1 j2 j3 : Nat) (hB : fa[iB]? = some (.glo B) := by rfl) (h1 : fa[i1]? = some (.glo a1) := by rfl) (h2 : fa[i2]? = some (.glo a2) := by rfl) (h3 : fa[i3]? = some (.glo a3) := by rfl)
    (e1 : fa[j1]? = some (.exm a1 B true) := by rfl) (e2 : fa[j2]? = some (.exm a2 B true) := by rfl) (e3 : fa[j3]? = some (.exm a3 B true) := by rfl) (k1 : a1 ∈ cs := by decide) (k2 : a2 ∈ cs := by decide) (k3 : a3 ∈ cs := by decide) : ExcT K mg B [a1, a2, a3] := by
  have g0 := c.glo iB hB
  have g1 := c.glo i1 h1
  have g2 := c.glo i2 h2
  have g3 := c.glo i3 h3
  obtain ⟨hp, X, G, c⟩ := c
  have m1 := exm_ok (c.1.fact j1 e1)
  have m2 := exm_ok (c.1.fact j2 e2)
  have m3 := exm_ok (c.1.fact j3 e3)
  have all := List.all_eq_true.mp (ba c.2).1
  have mem : ∀ y ∈ [a1, a2, a3], y ∈ cs := fun y hy => by
    rcases List.mem_cons.mp hy with rfl | hy
    · exact k1
    · rcases List.mem_cons.mp hy with rfl | hy
      · exact k2
      · rw [List.mem_singleton.mp hy]; exact k3
  refine ⟨g0, fun y hy => ?_, fun y hy => ?_, fun y hy => excB_ok (ba (all y (mem y hy))).1, fun y hy z hz => of_decide_eq_true (List.all_eq_true.mp (ba (all y (mem y hy))).2 z (mem z hz))⟩
  · rcases List.mem_cons.mp hy with rfl | hy
    · exact g1
    · rcases List.mem_cons.mp hy with rfl | hy
      · exact g2
      · rw [List.mem_singleton.mp hy]; exact g3
  · rcases List.mem_cons.mp hy with rfl | hy
    · exact m1
    · rcases List.mem_cons.mp hy with rfl | hy
      · exact m2
      · rw [List.mem_singleton.mp hy]; exact m3
theorem Fcs.noLst (c : Fcs fa fn cs K mg) : BG.noLst K = true := by
  obtain ⟨hp, X, G, c⟩ := c
  exact (ba c.2).2
end
theorem mem_of_lookup {a : Addr} {o : Obj} : ∀ {K : PySem.W.Frag}, K.lookup a = some o → (a, o) ∈ K
  | [], h => by cases h
  | (b, z) :: K, h => by
    by_cases e : a = b
    · subst e
      have q : List.lookup a ((a, z) :: K) = some z := by simp [List.lookup]
      rw [q] at h
      cases h
      exact List.mem_cons_self
    · have q : List.lookup a ((b, z) :: K) = List.lookup a K := by
        show (match a == b with | true => some z | false => List.lookup a K) = _
        rw [beq_false_of_ne e]
      rw [q] at h
      exact List.mem_cons_of_mem _ (mem_of_lookup h)
theorem dva_ints {H : Hp} : ∀ ns : List Int, DvA H (ns.map V.int) (ns.map PyData.int)
  | [] => .nil
  | n :: ns => .cons (.int n) (dva_ints ns)
theorem szA_intsL : ∀ ns : List Int, szA (ns.map PyData.int) = true
  | [] => rfl
  | n :: ns => by
    show (szD (.int n) && szA (ns.map PyData.int)) = true
    rw [szA_intsL ns]
    simp [szD]
theorem end_of {l : PySem.W.OpenLaw} {n k : Nat} {q : Program} {loose : List Str} {XP : (Str → Option Value) → Heap → Prop} {YP : World → Heap → Prop} {d : DefRec} {x : Str} (hn : l.most = some n) (hn2 : n ≤ sizeLine) (hdf : d.params.defaults = []) (hr : Room k callerA) {m : D → Rs D}
    (T : ∀ ns : List Int, ns.length ≤ n → m (.list (ns.map PyData.int)) = .ok (.bool true))
    (F : ∀ (w : World) (mg : Str → Option Value) (fa : Addr) (h : Heap), YP w h → h.Ns mainGlobals mg → mg d.name = some (.ref fa) → ∃ (K : PySem.W.Frag) (fd : FuncData), K.In h ∧ noLst K = true ∧ (∀ (s : Shared) (u : Value), BindsTo s fd ⟨[u], []⟩ [(x, u)]) ∧
      ∀ base : Heap, K.In base → base.Ns mainGlobals mg → FnOk l.prog w K mg base (L2.CX l.prog w) k fa fd [x] (spD K 1 (lift1 m))) :
    PySem.W.WalkO q loose XP YP l.row.toRowW d [] (fun f vs => PySem.call f vs) :=
  Att.attach_call hn hdf fun w s₀ s₁ mg mb fa o pm cd doc a vs ns G Y ho hd hcd hmg hobj hints hlen hg => by
    obtain ⟨K, fd, KX, nl, hb, hF⟩ := F w mg fa _ Y G.T.g hmg
    refine law_call (sp := spD K 1 (lift1 m)) KX G.T.g G.T.b G.T.builtins G.T.nolimit hg hobj hints (Nat.le_trans hlen hn2) hr hF hb (fun H hO hS => ?_) (fun H e s' z => ?_)
    · have rd : Rd H a (.lst (ns.map V.int)) := by
        rcases hS with h | ⟨ob, its, nn, h1, h2, _⟩
        · exact h
        · have z := List.all_eq_true.mp nl _ (mem_of_lookup h1)
          have z : (!decide (ob.cls = .type "list")) = true := z
          rw [decide_eq_true h2] at z
          cases z
      refine ⟨rfl, [.list (ns.map PyData.int)], H, Same.refl H, ⟨.cons (.lst rd (dva_ints ns)) .nil, ?_⟩, ?_⟩
      · unfold szA szA
        rw [szD_list.mpr ⟨by rw [List.length_map, sizeMax_eq]; exact Nat.le_trans hlen hn2, szA_intsL ns⟩]
        rfl
      · show (match m (.list (ns.map PyData.int)) with
          | .ok d => ∀ v Hd' H', Ext H H Hd' H' → Rp K Hd' v d → v = .bl true
          | .exc c => ∀ Hd' H', Ext H H Hd' H' → False
          | .bad => False)
        rw [T ns hlen]
        intro v Hd' H' _ r
        cases r.1
        rfl
    · obtain ⟨_, _, _, _, _, _, _, _, _, _, _, _, hE⟩ := z
      exact hE
end BG
namespace BG
open PySem
def b_is_int (a_value a_least a_most : D) : Rs (Out Unit) := ((andV ((Rs.ok a_value).bind (pyIsT "int")) (andV (notV ((Rs.ok a_value).bind (pyIsT "bool"))) (chainV pyLe pyLe (Rs.ok a_least) (Rs.ok a_value) (Rs.ok a_most)))).bind fun x1 => Rs.ok (Out.rt x1))
def m_is_int (a_value a_least a_most : D) : Rs D := (b_is_int a_value a_least a_most).fin
def b_fields (a_card : D) : Rs (Out Unit) := ((lstD (comp2 ((Rs.ok a_card).bind ofSeq) fun d1 => comp ((Rs.ok d1).bind ofSeq) fun d2 => eltO (Rs.ok true) (Rs.ok d2))).bind fun x3 => Rs.ok (Out.rt x3))
def m_fields (a_card : D) : Rs D := (b_fields a_card).fin
def b_check_rule (a_value : D) : Rs (Out Unit) := (((orT (notT (tst ((Rs.ok a_value).bind (pyIsT "str")))) (tst ((Rs.ok a_value).bind fun x13 => (((Rs.ok (PyData.str "rows")).bind fun x11 => ((Rs.ok (PyData.str "lines")).bind fun x9 => ((Rs.ok (PyData.str "all")).bind fun x7 => (Rs.ok []).bind fun x8 => Rs.ok (x7 :: x8)).bind fun x10 => Rs.ok (x9 :: x10)).bind fun x12 => Rs.ok (x11 :: x12)).bind mkTup).bind fun x14 => pyNotIn x13 x14))).bind fun b16 => if b16 = true then ((Rs.exc "InvalidRule") : Rs (Out (Unit))) else (Rs.ok (Out.nx ()))).go fun (s15 : Unit) => (Rs.ok (Out.nx ())))
def m_check_rule (a_value : D) : Rs D := (b_check_rule a_value).fin
def b_find_lines_k1 (s84 : List D) : Rs (Out (Unit)) := ((lstD ((lstD (comp ((Rs.ok (PyData.list s84)).bind ofSeq) fun d98 => eltO (Rs.ok true) ((lstD ((lstD (comp ((Rs.ok d98).bind ofSeq) fun d108 => eltO (tst ((Rs.ok d108).bind fun x109 => (Rs.ok (PyData.int 0)).bind fun x110 => pyNe x109 x110)) (Rs.ok d108))).bind pySorted)).bind pyTuple))).bind pySortedSet)).bind fun x111 => Rs.ok (Out.rt x111))
def b_find_lines_k2 (a_rule : D) (v1 : D) (a_card : D) (s23 : List D) : Rs (Out (Unit)) := (((tst ((Rs.ok a_rule).bind fun x24 => (Rs.ok (PyData.str "all")).bind fun x25 => pyEq x24 x25)).bind fun b112 => if b112 = true then ((((lstD (comp ((Rs.ok v1).bind fun x34 => pyRange (PyData.int 0) x34) fun d35 => eltO (Rs.ok true) (((Rs.ok a_card).bind fun x38 => (Rs.ok d35).bind fun x39 => pyIx x38 x39).bind fun x40 => (Rs.ok d35).bind fun x41 => pyIx x40 x41))).bind pyTuple).bind fun x42 => if s23.length < sizeMax then (((lstD (comp ((Rs.ok v1).bind fun x63 => pyRange (PyData.int 0) x63) fun d64 => eltO (Rs.ok true) (((Rs.ok a_card).bind fun x67 => (Rs.ok d64).bind fun x68 => pyIx x67 x68).bind fun x81 => (((Rs.ok v1).bind fun x77 => (Rs.ok (PyData.int 1)).bind fun x78 => pySub x77 x78).bind fun x79 => (Rs.ok d64).bind fun x80 => pySub x79 x80).bind fun x82 => pyIx x81 x82))).bind pyTuple).bind fun x83 => if (s23 ++ [x42]).length < sizeMax then (Rs.ok (Out.nx ((s23 ++ [x42]) ++ [x83]))) else Rs.bad) else Rs.bad) : Rs (Out (List D))) else (Rs.ok (Out.nx s23))).go fun (s84 : List D) => (b_find_lines_k1 s84))
def b_find_lines (a_card a_rule : D) : Rs (Out Unit) := (((Rs.ok a_card).bind pyLen).bind fun v1 => ((Rs.ok a_card).bind pyList).bind fun v2 => (((tst ((Rs.ok a_rule).bind fun x3 => (Rs.ok (PyData.str "rows")).bind fun x4 => pyNe x3 x4)).bind fun b113 => if b113 = true then (((lstD (comp ((Rs.ok v1).bind fun x13 => pyRange (PyData.int 0) x13) fun d14 => eltO (Rs.ok true) ((lstD (comp ((Rs.ok a_card).bind ofSeq) fun d18 => eltO (Rs.ok true) ((Rs.ok d18).bind fun x19 => (Rs.ok d14).bind fun x20 => pyIx x19 x20))).bind pyTuple))).bind fun x21 => (ofSeq x21).bind fun x22 => if v2.length + x22.length ≤ sizeMax then (Rs.ok (Out.nx (v2 ++ x22))) else Rs.bad) : Rs (Out (List D))) else (Rs.ok (Out.nx v2))).go fun (s23 : List D) => (b_find_lines_k2 a_rule v1 a_card s23)))
def m_find_lines (a_card a_rule : D) : Rs D := (b_find_lines a_card a_rule).fin
def b_law_drawn_c1  (s47 : D × D) : Rs Bool := (andT (tst ((Rs.ok s47.2).bind fun x48 => (Rs.ok (PyData.int 0)).bind fun x49 => pyGt x48 x49)) (tst ((Rs.ok s47.1).bind fun x50 => (Rs.ok (PyData.int 0)).bind fun x51 => pyGt x50 x51)))
def b_law_drawn_b2  (s47 : D × D) : Rs (Out (D × D)) := (((Rs.ok s47.2).bind fun x55 => (Rs.ok (PyData.int 1000000)).bind fun x56 => pyDiv x55 x56).bind fun v52 => (((Rs.ok s47.1).bind fun x60 => (Rs.ok (PyData.int 1)).bind fun x61 => pySub x60 x61).bind fun v57 => (Rs.ok (Out.nx (v57, v52)))))
def b_law_drawn_k3 (s47 : D × D) (a_many : D) : Rs (Out (D)) := (((tst ((Rs.ok s47.2).bind fun x62 => (Rs.ok (PyData.int 0)).bind fun x63 => pyGt x62 x63)).bind fun b72 => if b72 = true then (((((Rs.ok s47.2).bind fun x66 => (Rs.ok (PyData.int 1000000)).bind fun x67 => pyMod x66 x67).bind fun x68 => (Rs.ok a_many).bind fun x69 => pyMod x68 x69).bind fun x70 => Rs.ok (Out.rt x70)) : Rs (Out (Unit))) else (Rs.ok (Out.nx ()))).go fun (s71 : Unit) => (Rs.ok (Out.nx s47.1)))
def b_law_drawn_k4 (v8 : D) (a_k : D) (a_script : D) : Rs (Out (D)) := (((Rs.ok v8).bind fun x101 => ((Rs.ok (PyData.int 6553)).bind fun x99 => ((Rs.ok a_k).bind fun x97 => ((Rs.ok a_script).bind pyLen).bind fun x98 => pyDiv x97 x98).bind fun x100 => pyMul x99 x100).bind fun x102 => pyAdd x101 x102).bind fun v74 => (Rs.ok (Out.nx v74)))
def b_law_drawn_k5 (s104 : D) (a_k : D) (a_many : D) : Rs (Out (Unit)) := ((((((Rs.ok s104).bind fun x194 => (Rs.ok (PyData.int 2147483563)).bind fun x195 => pyMod x194 x195).bind fun x196 => (Rs.ok (PyData.int 69069)).bind fun x197 => pyMul x196 x197).bind fun x210 => ((Rs.ok (PyData.int 104723)).bind fun x208 => ((Rs.ok a_k).bind fun x206 => (Rs.ok (PyData.int 1)).bind fun x207 => pyAdd x206 x207).bind fun x209 => pyMul x208 x209).bind fun x211 => pyAdd x210 x211).bind fun x212 => (Rs.ok (PyData.int 2147483563)).bind fun x213 => pyMod x212 x213).bind fun v105 => (((((Rs.ok v105).bind fun x249 => (Rs.ok v105).bind fun x250 => pyMul x249 x250).bind fun x255 => ((Rs.ok v105).bind fun x253 => (Rs.ok (PyData.int 3)).bind fun x254 => pyDiv x253 x254).bind fun x256 => pyAdd x255 x256).bind fun x257 => (Rs.ok (PyData.int 2147483399)).bind fun x258 => pyMod x257 x258).bind fun v214 => (((((((Rs.ok v214).bind fun x339 => (Rs.ok v214).bind fun x340 => pyMul x339 x340).bind fun x345 => ((Rs.ok v214).bind fun x343 => (Rs.ok (PyData.int 7)).bind fun x344 => pyDiv x343 x344).bind fun x346 => pyAdd x345 x346).bind fun x347 => (Rs.ok (PyData.int 2147483647)).bind fun x348 => pyMod x347 x348).bind fun x349 => (Rs.ok (PyData.int 11)).bind fun x350 => pyDiv x349 x350).bind fun x351 => (Rs.ok a_many).bind fun x352 => pyMod x351 x352).bind fun x353 => Rs.ok (Out.rt x353))))
def b_law_drawn (a_script a_k a_many : D) : Rs (Out Unit) := (((Rs.ok (PyData.int 7)).bind fun x4 => (Rs.ok a_k).bind fun x5 => pyMul x4 x5).bind fun v1 => (((tst ((Rs.ok a_script).bind fun x6 => (lstD ((Rs.ok []).bind mkLst)).bind fun x7 => pyNe x6 x7)).bind fun b354 => if b354 = true then ((((Rs.ok a_script).bind fun x19 => ((Rs.ok a_k).bind fun x17 => ((Rs.ok a_script).bind pyLen).bind fun x18 => pyMod x17 x18).bind fun x20 => pyIx x19 x20).bind fun v8 => (((Rs.ok a_k).bind fun x24 => ((Rs.ok a_script).bind pyLen).bind fun x25 => pyDiv x24 x25).bind fun v21 => (((andT (tst ((Rs.ok v8).bind fun x30 => ((Rs.ok (PyData.int 10)).bind fun x28 => (Rs.ok (PyData.int 18)).bind fun x29 => pyPow x28 x29).bind fun x31 => pyGe x30 x31)) (tst ((Rs.ok v21).bind fun x32 => (Rs.ok (PyData.int 60)).bind fun x33 => pyLt x32 x33))).bind fun b103 => if b103 = true then ((((Rs.ok v8).bind fun x45 => ((Rs.ok (PyData.int 10)).bind fun x43 => (Rs.ok (PyData.int 18)).bind fun x44 => pyPow x43 x44).bind fun x46 => pyDiv x45 x46).bind fun v34 => ((whileO (b_law_drawn_c1) (b_law_drawn_b2) 64 (v21, v34)).go fun s47 => (b_law_drawn_k3 s47 a_many))) : Rs (Out (D))) else (Rs.ok (Out.nx v21))).go fun (s73 : D) => (b_law_drawn_k4 v8 a_k a_script)))) : Rs (Out (D))) else (Rs.ok (Out.nx v1))).go fun (s104 : D) => (b_law_drawn_k5 s104 a_k a_many)))
def m_law_drawn (a_script a_k a_many : D) : Rs D := (b_law_drawn a_script a_k a_many).fin
def b_law_lines_b1 (a_card : D) (s148 : List D) (d150 : D) : Rs (Out (List D)) := (((lstD ((lstD (comp ((Rs.ok d150).bind ofSeq) fun d222 => un2 d222 fun d220 d221 => eltO (tst ((((Rs.ok a_card).bind fun x231 => (Rs.ok d220).bind fun x232 => pyIx x231 x232).bind fun x233 => (Rs.ok d221).bind fun x234 => pyIx x233 x234).bind fun x235 => (Rs.ok (PyData.int 0)).bind fun x236 => pyNe x235 x236)) (((Rs.ok a_card).bind fun x239 => (Rs.ok d220).bind fun x240 => pyIx x239 x240).bind fun x241 => (Rs.ok d221).bind fun x242 => pyIx x241 x242))).bind pySorted)).bind pyTuple).bind fun x243 => if s148.length < sizeMax then (Rs.ok (Out.nx (s148 ++ [x243]))) else Rs.bad)
def b_law_lines_k2 (s148 : List D) : Rs (Out (Unit)) := ((lstD ((Rs.ok (PyData.list s148)).bind pySortedSet)).bind fun x244 => Rs.ok (Out.rt x244))
def b_law_lines_k3 (s146 : D) (a_card : D) : Rs (Out (Unit)) := (((Rs.ok []).bind mkLst).bind fun v147 => ((((Rs.ok s146).bind ofSeq).bind fun xs149 => forO (b_law_lines_b1 a_card) xs149 v147).go fun s148 => (b_law_lines_k2 s148)))
def b_law_lines_k4 (a_rule : D) (s50 : D) (v1 : D) (a_card : D) : Rs (Out (Unit)) := (((tst ((Rs.ok a_rule).bind fun x51 => (Rs.ok (PyData.str "all")).bind fun x52 => pyEq x51 x52)).bind fun b245 => if b245 = true then ((((Rs.ok s50).bind fun x144 => (lstD (((lstD (comp ((Rs.ok v1).bind fun x122 => pyRange (PyData.int 0) x122) fun d123 => eltO (Rs.ok true) (((Rs.ok d123).bind fun x126 => ((Rs.ok d123).bind fun x124 => (Rs.ok []).bind fun x125 => Rs.ok (x124 :: x125)).bind fun x127 => Rs.ok (x126 :: x127)).bind mkTup))).bind fun x142 => ((lstD (comp ((Rs.ok v1).bind fun x128 => pyRange (PyData.int 0) x128) fun d129 => eltO (Rs.ok true) (((Rs.ok d129).bind fun x138 => ((((Rs.ok v1).bind fun x132 => (Rs.ok (PyData.int 1)).bind fun x133 => pySub x132 x133).bind fun x134 => (Rs.ok d129).bind fun x135 => pySub x134 x135).bind fun x136 => (Rs.ok []).bind fun x137 => Rs.ok (x136 :: x137)).bind fun x139 => Rs.ok (x138 :: x139)).bind mkTup))).bind fun x140 => (Rs.ok []).bind fun x141 => Rs.ok (x140 :: x141)).bind fun x143 => Rs.ok (x142 :: x143)).bind mkLst)).bind fun x145 => pyAdd x144 x145).bind fun v53 => (Rs.ok (Out.nx v53))) : Rs (Out (D))) else (Rs.ok (Out.nx s50))).go fun (s146 : D) => (b_law_lines_k3 s146 a_card))
def b_law_lines (a_card a_rule : D) : Rs (Out Unit) := (((Rs.ok a_card).bind pyLen).bind fun v1 => ((comp ((Rs.ok v1).bind fun x3 => pyRange (PyData.int 0) x3) fun d4 => eltO (Rs.ok true) (lstD (comp ((Rs.ok v1).bind fun x5 => pyRange (PyData.int 0) x5) fun d6 => eltO (Rs.ok true) (((Rs.ok d4).bind fun x9 => ((Rs.ok d6).bind fun x7 => (Rs.ok []).bind fun x8 => Rs.ok (x7 :: x8)).bind fun x10 => Rs.ok (x9 :: x10)).bind mkTup)))).bind fun v2 => (((tst ((Rs.ok a_rule).bind fun x11 => (Rs.ok (PyData.str "rows")).bind fun x12 => pyNe x11 x12)).bind fun b246 => if b246 = true then ((((Rs.ok (PyData.list v2)).bind fun x48 => (lstD (comp ((Rs.ok v1).bind fun x40 => pyRange (PyData.int 0) x40) fun d41 => eltO (Rs.ok true) (lstD (comp ((Rs.ok v1).bind fun x42 => pyRange (PyData.int 0) x42) fun d43 => eltO (Rs.ok true) (((Rs.ok d43).bind fun x46 => ((Rs.ok d41).bind fun x44 => (Rs.ok []).bind fun x45 => Rs.ok (x44 :: x45)).bind fun x47 => Rs.ok (x46 :: x47)).bind mkTup))))).bind fun x49 => pyAdd x48 x49).bind fun v13 => (Rs.ok (Out.nx v13))) : Rs (Out (D))) else (Rs.ok (Out.nx (PyData.list v2)))).go fun (s50 : D) => (b_law_lines_k4 a_rule s50 v1 a_card))))
def m_law_lines (a_card a_rule : D) : Rs D := (b_law_lines a_card a_rule).fin
def b_is_card_k1 (a_candidate : D) : Rs (Out (Unit)) := (((Rs.ok a_candidate).bind m_fields).bind fun v11 => ((andV ((lstD (comp ((Rs.ok v11).bind ofSeq) fun d18 => eltO (Rs.ok true) ((Rs.ok d18).bind fun x19 => (Rs.ok (PyData.int 0)).bind fun x20 => (Rs.ok (PyData.int 60)).bind fun x21 => m_is_int x19 x20 x21))).bind pyAll) (((Rs.ok v11).bind pyLenSet).bind fun x22 => ((Rs.ok v11).bind pyLen).bind fun x23 => pyEq x22 x23)).bind fun x24 => Rs.ok (Out.rt x24)))
def b_is_card_k2 (a_candidate : D) : Rs (Out (Unit)) := (((notT (tst ((lstD (comp ((Rs.ok a_candidate).bind ofSeq) fun d6 => eltO (Rs.ok true) (andV ((Rs.ok d6).bind (pyIsT "tuple")) (((Rs.ok d6).bind pyLen).bind fun x7 => ((Rs.ok a_candidate).bind pyLen).bind fun x8 => pyEq x7 x8)))).bind pyAll))).bind fun b25 => if b25 = true then (((Rs.ok (PyData.bool false)).bind fun x9 => Rs.ok (Out.rt x9)) : Rs (Out (Unit))) else (Rs.ok (Out.nx ()))).go fun (s10 : Unit) => (b_is_card_k1 a_candidate))
def b_is_card (a_candidate : D) : Rs (Out Unit) := (((orT (notT (tst ((Rs.ok a_candidate).bind (pyIsT "tuple")))) (notT (tst (chainV pyLe pyLe (Rs.ok (PyData.int 2)) ((Rs.ok a_candidate).bind pyLen) (Rs.ok (PyData.int 4)))))).bind fun b26 => if b26 = true then (((Rs.ok (PyData.bool false)).bind fun x1 => Rs.ok (Out.rt x1)) : Rs (Out (Unit))) else (Rs.ok (Out.nx ()))).go fun (s2 : Unit) => (b_is_card_k2 a_candidate))
def m_is_card (a_candidate : D) : Rs D := (b_is_card a_candidate).fin
def b_law_card_c1 (s27 : List D) (s74 : D) : Rs Bool := (tst ((Rs.ok s74).bind fun x75 => (Rs.ok (PyData.list s27)).bind fun x76 => pyIn x75 x76))
def b_law_card_b2 (a_top : D) (s74 : D) : Rs (Out (D)) := ((((Rs.ok s74).bind fun x86 => (Rs.ok a_top).bind fun x87 => pyMod x86 x87).bind fun x88 => (Rs.ok (PyData.int 1)).bind fun x89 => pyAdd x88 x89).bind fun v77 => (Rs.ok (Out.nx v77)))
def b_law_card_k3 (s74 : D) (s27 : List D) : Rs (Out (List D)) := ((Rs.ok s74).bind fun x90 => if s27.length < sizeMax then (Rs.ok (Out.nx (s27 ++ [x90]))) else Rs.bad)
def b_law_card_b4 (a_script : D) (a_at : D) (a_top : D) (s27 : List D) (d32 : D) : Rs (Out (List D)) := (((Rs.ok (PyData.int 1)).bind fun x72 => ((Rs.ok a_script).bind fun x69 => (((Rs.ok a_at).bind fun x65 => (Rs.ok (PyData.int 1)).bind fun x66 => pyAdd x65 x66).bind fun x67 => (Rs.ok d32).bind fun x68 => pyAdd x67 x68).bind fun x70 => (Rs.ok a_top).bind fun x71 => m_law_drawn x69 x70 x71).bind fun x73 => pyAdd x72 x73).bind fun v33 => ((whileO (b_law_card_c1 s27) (b_law_card_b2 a_top) 200 v33).go fun s74 => (b_law_card_k3 s74 s27)))
def b_law_card_k5 (s26 : D) (s116 : List D) : Rs (Out (Unit)) := (((lstD (comp ((Rs.ok s26).bind fun x141 => pyRange (PyData.int 0) x141) fun d142 => eltO (Rs.ok true) (((Rs.ok (PyData.list s116)).bind fun x162 => (part ((Rs.ok s26).bind fun x154 => (Rs.ok d142).bind fun x155 => pyMul x154 x155)).bind fun x163 => (part (((Rs.ok s26).bind fun x158 => (Rs.ok d142).bind fun x159 => pyMul x158 x159).bind fun x160 => (Rs.ok s26).bind fun x161 => pyAdd x160 x161)).bind fun x164 => pySlice x162 x163 x164).bind pyTuple))).bind pyTuple).bind fun x165 => Rs.ok (Out.rt x165))
def b_law_card_k6 (a_script : D) (a_at : D) (s26 : D) (s27 : List D) : Rs (Out (Unit)) := (((tst (((Rs.ok a_script).bind fun x98 => ((Rs.ok a_at).bind fun x96 => (Rs.ok (PyData.int 17)).bind fun x97 => pyAdd x96 x97).bind fun x99 => (Rs.ok (PyData.int 3)).bind fun x100 => m_law_drawn x98 x99 x100).bind fun x101 => (Rs.ok (PyData.int 0)).bind fun x102 => pyEq x101 x102)).bind fun b166 => if b166 = true then (((Rs.ok (PyData.int 0)).bind fun x113 => ((Rs.ok a_script).bind fun x107 => ((Rs.ok a_at).bind fun x103 => (Rs.ok (PyData.int 18)).bind fun x104 => pyAdd x103 x104).bind fun x108 => ((Rs.ok s26).bind fun x105 => (Rs.ok s26).bind fun x106 => pyMul x105 x106).bind fun x109 => m_law_drawn x107 x108 x109).bind fun x114 => setIx s27 x114 fun n115 => (Rs.ok (Out.nx (s27.set n115 x113)))) : Rs (Out (List D))) else (Rs.ok (Out.nx s27))).go fun (s116 : List D) => (b_law_card_k5 s26 s116))
def b_law_card_k7 (s26 : D) (a_script : D) (a_at : D) (a_top : D) (v18 : List D) : Rs (Out (Unit)) := (((((Rs.ok s26).bind fun x28 => (Rs.ok s26).bind fun x29 => pyMul x28 x29).bind fun x30 => pyRange (PyData.int 0) x30).bind fun xs31 => forO (b_law_card_b4 a_script a_at a_top) xs31 v18).go fun s27 => (b_law_card_k6 a_script a_at s26 s27))
def b_law_card (a_script a_at a_top : D) : Rs (Out Unit) := (((Rs.ok (PyData.int 2)).bind fun x16 => ((Rs.ok a_script).bind fun x13 => (Rs.ok a_at).bind fun x14 => (Rs.ok (PyData.int 3)).bind fun x15 => m_law_drawn x13 x14 x15).bind fun x17 => pyAdd x16 x17).bind fun v9 => ((Rs.ok []).bind mkLst).bind fun v18 => (((tst (((Rs.ok v9).bind fun x21 => (Rs.ok v9).bind fun x22 => pyMul x21 x22).bind fun x23 => (Rs.ok a_top).bind fun x24 => pyGt x23 x24)).bind fun b167 => if b167 = true then (((Rs.ok (PyData.int 3)).bind fun v25 => (Rs.ok (Out.nx v25))) : Rs (Out (D))) else (Rs.ok (Out.nx v9))).go fun (s26 : D) => (b_law_card_k7 s26 a_script a_at a_top v18)))
def m_law_card (a_script a_at a_top : D) : Rs D := (b_law_card a_script a_at a_top).fin
def b_law_rule (a_script a_at : D) : Rs (Out Unit) := (((lstD (((Rs.ok (PyData.str "rows")).bind fun x11 => ((Rs.ok (PyData.str "lines")).bind fun x9 => ((Rs.ok (PyData.str "all")).bind fun x7 => (Rs.ok []).bind fun x8 => Rs.ok (x7 :: x8)).bind fun x10 => Rs.ok (x9 :: x10)).bind fun x12 => Rs.ok (x11 :: x12)).bind mkLst)).bind fun x19 => ((Rs.ok a_script).bind fun x16 => (Rs.ok a_at).bind fun x17 => (Rs.ok (PyData.int 3)).bind fun x18 => m_law_drawn x16 x17 x18).bind fun x20 => pyIx x19 x20).bind fun x21 => Rs.ok (Out.rt x21))
def m_law_rule (a_script a_at : D) : Rs D := (b_law_rule a_script a_at).fin
def b_law_badcard (a_script a_at : D) : Rs (Out Unit) := ((lstD (((Rs.ok PyData.none).bind fun x92 => ((lstD ((Rs.ok []).bind mkLst)).bind fun x90 => ((((((Rs.ok (PyData.int 1)).bind fun x48 => (Rs.ok []).bind fun x49 => Rs.ok (x48 :: x49)).bind mkTup).bind fun x50 => (Rs.ok []).bind fun x51 => Rs.ok (x50 :: x51)).bind mkTup).bind fun x88 => ((((((Rs.ok (PyData.int 1)).bind fun x54 => ((Rs.ok (PyData.int 2)).bind fun x52 => (Rs.ok []).bind fun x53 => Rs.ok (x52 :: x53)).bind fun x55 => Rs.ok (x54 :: x55)).bind mkTup).bind fun x56 => (Rs.ok []).bind fun x57 => Rs.ok (x56 :: x57)).bind mkTup).bind fun x86 => ((((((Rs.ok (PyData.int 1)).bind fun x60 => ((Rs.ok (PyData.int 2)).bind fun x58 => (Rs.ok []).bind fun x59 => Rs.ok (x58 :: x59)).bind fun x61 => Rs.ok (x60 :: x61)).bind mkTup).bind fun x68 => ((((Rs.ok (PyData.int 3)).bind fun x64 => ((Rs.ok (PyData.int 3)).bind fun x62 => (Rs.ok []).bind fun x63 => Rs.ok (x62 :: x63)).bind fun x65 => Rs.ok (x64 :: x65)).bind mkTup).bind fun x66 => (Rs.ok []).bind fun x67 => Rs.ok (x66 :: x67)).bind fun x69 => Rs.ok (x68 :: x69)).bind mkTup).bind fun x84 => ((((((Rs.ok (PyData.int 1)).bind fun x72 => ((Rs.ok (PyData.int 2)).bind fun x70 => (Rs.ok []).bind fun x71 => Rs.ok (x70 :: x71)).bind fun x73 => Rs.ok (x72 :: x73)).bind mkTup).bind fun x80 => ((((Rs.ok (PyData.int 3)).bind fun x76 => ((Rs.ok (PyData.int 61)).bind fun x74 => (Rs.ok []).bind fun x75 => Rs.ok (x74 :: x75)).bind fun x77 => Rs.ok (x76 :: x77)).bind mkTup).bind fun x78 => (Rs.ok []).bind fun x79 => Rs.ok (x78 :: x79)).bind fun x81 => Rs.ok (x80 :: x81)).bind mkTup).bind fun x82 => (Rs.ok []).bind fun x83 => Rs.ok (x82 :: x83)).bind fun x85 => Rs.ok (x84 :: x85)).bind fun x87 => Rs.ok (x86 :: x87)).bind fun x89 => Rs.ok (x88 :: x89)).bind fun x91 => Rs.ok (x90 :: x91)).bind fun x93 => Rs.ok (x92 :: x93)).bind mkLst)).bind fun v1 => (((Rs.ok v1).bind fun x209 => (lstD (((((((Rs.ok (PyData.int 0)).bind fun x183 => ((Rs.ok (PyData.int 1)).bind fun x181 => (Rs.ok []).bind fun x182 => Rs.ok (x181 :: x182)).bind fun x184 => Rs.ok (x183 :: x184)).bind mkTup).bind fun x191 => ((((Rs.ok (PyData.int 0)).bind fun x187 => ((Rs.ok (PyData.int 2)).bind fun x185 => (Rs.ok []).bind fun x186 => Rs.ok (x185 :: x186)).bind fun x188 => Rs.ok (x187 :: x188)).bind mkTup).bind fun x189 => (Rs.ok []).bind fun x190 => Rs.ok (x189 :: x190)).bind fun x192 => Rs.ok (x191 :: x192)).bind mkTup).bind fun x207 => ((((((Rs.ok (PyData.int 1)).bind fun x195 => ((Rs.ok (PyData.int 2)).bind fun x193 => (Rs.ok []).bind fun x194 => Rs.ok (x193 :: x194)).bind fun x196 => Rs.ok (x195 :: x196)).bind mkTup).bind fun x203 => ((lstD (((Rs.ok (PyData.int 3)).bind fun x199 => ((Rs.ok (PyData.int 4)).bind fun x197 => (Rs.ok []).bind fun x198 => Rs.ok (x197 :: x198)).bind fun x200 => Rs.ok (x199 :: x200)).bind mkLst)).bind fun x201 => (Rs.ok []).bind fun x202 => Rs.ok (x201 :: x202)).bind fun x204 => Rs.ok (x203 :: x204)).bind mkTup).bind fun x205 => (Rs.ok []).bind fun x206 => Rs.ok (x205 :: x206)).bind fun x208 => Rs.ok (x207 :: x208)).bind mkLst)).bind fun x210 => pyAdd x209 x210).bind fun v94 => (((Rs.ok v94).bind fun x438 => (lstD (((((((Rs.ok (PyData.int 1)).bind fun x384 => ((Rs.ok (PyData.int 2)).bind fun x382 => (Rs.ok []).bind fun x383 => Rs.ok (x382 :: x383)).bind fun x385 => Rs.ok (x384 :: x385)).bind mkTup).bind fun x392 => ((((Rs.ok (PyData.int 3)).bind fun x388 => ((Rs.ok (PyData.str "4")).bind fun x386 => (Rs.ok []).bind fun x387 => Rs.ok (x386 :: x387)).bind fun x389 => Rs.ok (x388 :: x389)).bind mkTup).bind fun x390 => (Rs.ok []).bind fun x391 => Rs.ok (x390 :: x391)).bind fun x393 => Rs.ok (x392 :: x393)).bind mkTup).bind fun x436 => ((lstD (((((Rs.ok (PyData.int 1)).bind fun x396 => ((Rs.ok (PyData.int 2)).bind fun x394 => (Rs.ok []).bind fun x395 => Rs.ok (x394 :: x395)).bind fun x397 => Rs.ok (x396 :: x397)).bind mkTup).bind fun x404 => ((((Rs.ok (PyData.int 3)).bind fun x400 => ((Rs.ok (PyData.int 4)).bind fun x398 => (Rs.ok []).bind fun x399 => Rs.ok (x398 :: x399)).bind fun x401 => Rs.ok (x400 :: x401)).bind mkTup).bind fun x402 => (Rs.ok []).bind fun x403 => Rs.ok (x402 :: x403)).bind fun x405 => Rs.ok (x404 :: x405)).bind mkLst)).bind fun x434 => ((((((Rs.ok (PyData.bool true)).bind fun x408 => ((Rs.ok (PyData.int 2)).bind fun x406 => (Rs.ok []).bind fun x407 => Rs.ok (x406 :: x407)).bind fun x409 => Rs.ok (x408 :: x409)).bind mkTup).bind fun x416 => ((((Rs.ok (PyData.int 3)).bind fun x412 => ((Rs.ok (PyData.int 4)).bind fun x410 => (Rs.ok []).bind fun x411 => Rs.ok (x410 :: x411)).bind fun x413 => Rs.ok (x412 :: x413)).bind mkTup).bind fun x414 => (Rs.ok []).bind fun x415 => Rs.ok (x414 :: x415)).bind fun x417 => Rs.ok (x416 :: x417)).bind mkTup).bind fun x432 => ((((((Rs.ok (PyData.int 1)).bind fun x420 => ((Rs.ok (PyData.int 2)).bind fun x418 => (Rs.ok []).bind fun x419 => Rs.ok (x418 :: x419)).bind fun x421 => Rs.ok (x420 :: x421)).bind mkTup).bind fun x428 => ((((Rs.ok (PyData.int 3)).bind fun x424 => (((Rs.ok (PyData.int 4)).bind pyNeg).bind fun x422 => (Rs.ok []).bind fun x423 => Rs.ok (x422 :: x423)).bind fun x425 => Rs.ok (x424 :: x425)).bind mkTup).bind fun x426 => (Rs.ok []).bind fun x427 => Rs.ok (x426 :: x427)).bind fun x429 => Rs.ok (x428 :: x429)).bind mkTup).bind fun x430 => (Rs.ok []).bind fun x431 => Rs.ok (x430 :: x431)).bind fun x433 => Rs.ok (x432 :: x433)).bind fun x435 => Rs.ok (x434 :: x435)).bind fun x437 => Rs.ok (x436 :: x437)).bind mkLst)).bind fun x439 => pyAdd x438 x439).bind fun v211 => (((Rs.ok v211).bind fun x515 => (lstD (((((((Rs.ok (PyData.int 1)).bind fun x501 => ((Rs.ok (PyData.int 2)).bind fun x499 => ((Rs.ok (PyData.int 3)).bind fun x497 => (Rs.ok []).bind fun x498 => Rs.ok (x497 :: x498)).bind fun x500 => Rs.ok (x499 :: x500)).bind fun x502 => Rs.ok (x501 :: x502)).bind mkTup).bind fun x511 => ((((Rs.ok (PyData.int 4)).bind fun x507 => ((Rs.ok (PyData.int 5)).bind fun x505 => ((Rs.ok (PyData.int 6)).bind fun x503 => (Rs.ok []).bind fun x504 => Rs.ok (x503 :: x504)).bind fun x506 => Rs.ok (x505 :: x506)).bind fun x508 => Rs.ok (x507 :: x508)).bind mkTup).bind fun x509 => (Rs.ok []).bind fun x510 => Rs.ok (x509 :: x510)).bind fun x512 => Rs.ok (x511 :: x512)).bind mkTup).bind fun x513 => (Rs.ok []).bind fun x514 => Rs.ok (x513 :: x514)).bind mkLst)).bind fun x516 => pyAdd x515 x516).bind fun v440 => (((Rs.ok v440).bind fun x523 => ((Rs.ok a_script).bind fun x520 => (Rs.ok a_at).bind fun x521 => (Rs.ok (PyData.int 13)).bind fun x522 => m_law_drawn x520 x521 x522).bind fun x524 => pyIx x523 x524).bind fun x525 => Rs.ok (Out.rt x525))))))
def m_law_badcard (a_script a_at : D) : Rs D := (b_law_badcard a_script a_at).fin
def b_check_card (a_value : D) : Rs (Out Unit) := (((notT (tst ((Rs.ok a_value).bind m_is_card))).bind fun b3 => if b3 = true then ((Rs.exc "InvalidCard") : Rs (Out (Unit))) else (Rs.ok (Out.nx ()))).go fun (s2 : Unit) => (Rs.ok (Out.nx ())))
def m_check_card (a_value : D) : Rs D := (b_check_card a_value).fin
def b_numbers (a_card : D) : Rs (Out Unit) := (((Rs.ok a_card).bind m_check_card).bind fun _x13 => ((lstD ((lstD (comp (((Rs.ok a_card).bind m_fields).bind ofSeq) fun d9 => eltO (tst ((Rs.ok d9).bind fun x10 => (Rs.ok (PyData.int 0)).bind fun x11 => pyNe x10 x11)) (Rs.ok d9))).bind pySorted)).bind fun x12 => Rs.ok (Out.rt x12)))
def m_numbers (a_card : D) : Rs D := (b_numbers a_card).fin
def b_lines (a_card a_rule : D) : Rs (Out Unit) := (((Rs.ok a_card).bind m_check_card).bind fun _x7 => (((Rs.ok a_rule).bind m_check_rule).bind fun _x6 => (((Rs.ok a_card).bind fun x3 => (Rs.ok a_rule).bind fun x4 => m_find_lines x3 x4).bind fun x5 => Rs.ok (Out.rt x5))))
def m_lines (a_card a_rule : D) : Rs D := (b_lines a_card a_rule).fin
def b_lines_through_k1 (a_card : D) (a_rule : D) (a_number : D) : Rs (Out (Unit)) := ((lstD (comp (((Rs.ok a_card).bind fun x9 => (Rs.ok a_rule).bind fun x10 => m_find_lines x9 x10).bind ofSeq) fun d11 => eltO (tst ((Rs.ok a_number).bind fun x12 => (Rs.ok d11).bind fun x13 => pyIn x12 x13)) (Rs.ok d11))).bind fun x14 => Rs.ok (Out.rt x14))
def b_lines_through (a_card a_rule a_number : D) : Rs (Out Unit) := (((Rs.ok a_card).bind m_check_card).bind fun _x17 => (((Rs.ok a_rule).bind m_check_rule).bind fun _x16 => (((notT (tst ((Rs.ok a_number).bind fun x3 => (Rs.ok (PyData.int 1)).bind fun x4 => (Rs.ok (PyData.int 60)).bind fun x5 => m_is_int x3 x4 x5))).bind fun b15 => if b15 = true then ((Rs.exc "InvalidNumber") : Rs (Out (Unit))) else (Rs.ok (Out.nx ()))).go fun (s6 : Unit) => (b_lines_through_k1 a_card a_rule a_number))))
def m_lines_through (a_card a_rule a_number : D) : Rs D := (b_lines_through a_card a_rule a_number).fin
def b_holds (a_line a_called : D) : Rs (Out Unit) := (((lstD (comp ((Rs.ok a_line).bind ofSeq) fun d4 => eltO (Rs.ok true) ((Rs.ok d4).bind fun x5 => (Rs.ok a_called).bind fun x6 => pyIn x5 x6))).bind pyAll).bind fun x7 => Rs.ok (Out.rt x7))
def m_holds (a_line a_called : D) : Rs D := (b_holds a_line a_called).fin
def b_law_in (a_line a_called : D) : Rs (Out Unit) := (((lstD (comp ((Rs.ok a_line).bind ofSeq) fun d4 => eltO (tst ((Rs.ok d4).bind fun x5 => (Rs.ok a_called).bind fun x6 => pyNotIn x5 x6)) (Rs.ok d4))).bind fun x7 => (lstD ((Rs.ok []).bind mkLst)).bind fun x8 => pyEq x7 x8).bind fun x9 => Rs.ok (Out.rt x9))
def m_law_in (a_line a_called : D) : Rs D := (b_law_in a_line a_called).fin
def b_is_call_k1 (a_candidate : D) : Rs (Out (Unit)) := ((((Rs.ok a_candidate).bind pyLenSet).bind fun x11 => ((Rs.ok a_candidate).bind pyLen).bind fun x12 => pyEq x11 x12).bind fun x13 => Rs.ok (Out.rt x13))
def b_is_call (a_candidate : D) : Rs (Out Unit) := (((orT (notT (tst ((Rs.ok a_candidate).bind (pyIsT "list")))) (notT (tst ((lstD (comp ((Rs.ok a_candidate).bind ofSeq) fun d5 => eltO (Rs.ok true) ((Rs.ok d5).bind fun x6 => (Rs.ok (PyData.int 1)).bind fun x7 => (Rs.ok (PyData.int 60)).bind fun x8 => m_is_int x6 x7 x8))).bind pyAll)))).bind fun b14 => if b14 = true then (((Rs.ok (PyData.bool false)).bind fun x9 => Rs.ok (Out.rt x9)) : Rs (Out (Unit))) else (Rs.ok (Out.nx ()))).go fun (s10 : Unit) => (b_is_call_k1 a_candidate))
def m_is_call (a_candidate : D) : Rs D := (b_is_call a_candidate).fin
def b_find_time (a_card a_rule a_call : D) : Rs (Out Unit) := ((comp (((Rs.ok a_card).bind fun x4 => (Rs.ok a_rule).bind fun x5 => m_find_lines x4 x5).bind ofSeq) fun d6 => eltO (tst ((Rs.ok d6).bind fun x7 => (Rs.ok a_call).bind fun x8 => m_holds x7 x8)) ((lstD (comp ((Rs.ok d6).bind ofSeq) fun d13 => eltO (Rs.ok true) ((Rs.ok a_call).bind fun x14 => (ofList x14).bind fun x15 => (Rs.ok d13).bind fun x16 => pyIndex x15 x16))).bind pyMaxI)).bind fun v1 => ((ifE (tst ((Rs.ok (PyData.list v1)).bind fun x17 => (lstD ((Rs.ok []).bind mkLst)).bind fun x18 => pyNe x17 x18)) (((Rs.ok (PyData.list v1)).bind pyMinI).bind fun x19 => (Rs.ok (PyData.int 1)).bind fun x20 => pyAdd x19 x20) (Rs.ok PyData.none)).bind fun x21 => Rs.ok (Out.rt x21)))
def m_find_time (a_card a_rule a_call : D) : Rs D := (b_find_time a_card a_rule a_call).fin
def b_find_waits_k1 (v9 : List D) (s2 : List D) : Rs (Out (List D)) := (((tst (((Rs.ok (PyData.list v9)).bind pyLen).bind fun x17 => (Rs.ok (PyData.int 1)).bind fun x18 => pyEq x17 x18)).bind fun b22 => if b22 = true then (((Rs.ok (PyData.list v9)).bind fun x19 => (ofSeq x19).bind fun x20 => if s2.length + x20.length ≤ sizeMax then (Rs.ok (Out.nx (s2 ++ x20))) else Rs.bad) : Rs (Out (List D))) else (Rs.ok (Out.nx s2))).go fun (s21 : List D) => (Rs.ok (Out.nx s21)))
def b_find_waits_b2 (a_call : D) (s2 : List D) (d8 : D) : Rs (Out (List D)) := ((comp ((Rs.ok d8).bind ofSeq) fun d10 => eltO (tst ((Rs.ok d10).bind fun x11 => (Rs.ok a_call).bind fun x12 => pyNotIn x11 x12)) (Rs.ok d10)).bind fun v9 => (((tst ((Rs.ok (PyData.list v9)).bind fun x13 => (lstD ((Rs.ok []).bind mkLst)).bind fun x14 => pyEq x13 x14)).bind fun b23 => if b23 = true then (((lstD ((Rs.ok []).bind mkLst)).bind fun x15 => Rs.ok (Out.rt x15)) : Rs (Out (Unit))) else (Rs.ok (Out.nx ()))).go fun (s16 : Unit) => (b_find_waits_k1 v9 s2)))
def b_find_waits_k3 (s2 : List D) : Rs (Out (Unit)) := ((lstD ((Rs.ok (PyData.list s2)).bind pySortedSet)).bind fun x24 => Rs.ok (Out.rt x24))
def b_find_waits (a_card a_rule a_call : D) : Rs (Out Unit) := (((Rs.ok []).bind mkLst).bind fun v1 => (((((Rs.ok a_card).bind fun x5 => (Rs.ok a_rule).bind fun x6 => m_find_lines x5 x6).bind ofSeq).bind fun xs7 => forO (b_find_waits_b2 a_call) xs7 v1).go fun s2 => (b_find_waits_k3 s2)))
def m_find_waits (a_card a_rule a_call : D) : Rs D := (b_find_waits a_card a_rule a_call).fin
def b_law_call_c1 (s2 : List D) (s52 : D) : Rs Bool := (tst ((Rs.ok s52).bind fun x53 => (Rs.ok (PyData.list s2)).bind fun x54 => pyIn x53 x54))
def b_law_call_b2 (a_top : D) (s52 : D) : Rs (Out (D)) := ((((Rs.ok s52).bind fun x64 => (Rs.ok a_top).bind fun x65 => pyMod x64 x65).bind fun x66 => (Rs.ok (PyData.int 1)).bind fun x67 => pyAdd x66 x67).bind fun v55 => (Rs.ok (Out.nx v55)))
def b_law_call_k3 (s52 : D) (s2 : List D) : Rs (Out (List D)) := ((Rs.ok s52).bind fun x68 => if s2.length < sizeMax then (Rs.ok (Out.nx (s2 ++ [x68]))) else Rs.bad)
def b_law_call_b4 (a_script : D) (a_at : D) (a_top : D) (s2 : List D) (d10 : D) : Rs (Out (List D)) := (((Rs.ok (PyData.int 1)).bind fun x50 => ((Rs.ok a_script).bind fun x47 => (((Rs.ok a_at).bind fun x43 => (Rs.ok (PyData.int 1)).bind fun x44 => pyAdd x43 x44).bind fun x45 => (Rs.ok d10).bind fun x46 => pyAdd x45 x46).bind fun x48 => (Rs.ok a_top).bind fun x49 => m_law_drawn x47 x48 x49).bind fun x51 => pyAdd x50 x51).bind fun v11 => ((whileO (b_law_call_c1 s2) (b_law_call_b2 a_top) 200 v11).go fun s52 => (b_law_call_k3 s52 s2)))
def b_law_call_k5 (s2 : List D) : Rs (Out (Unit)) := ((Rs.ok (PyData.list s2)).bind fun x69 => Rs.ok (Out.rt x69))
def b_law_call (a_script a_at a_top a_most : D) : Rs (Out Unit) := (((Rs.ok []).bind mkLst).bind fun v1 => (((((Rs.ok a_script).bind fun x5 => (Rs.ok a_at).bind fun x6 => ((Rs.ok a_most).bind fun x3 => (Rs.ok (PyData.int 1)).bind fun x4 => pyAdd x3 x4).bind fun x7 => m_law_drawn x5 x6 x7).bind fun x8 => pyRange (PyData.int 0) x8).bind fun xs9 => forO (b_law_call_b4 a_script a_at a_top) xs9 v1).go fun s2 => (b_law_call_k5 s2)))
def m_law_call (a_script a_at a_top a_most : D) : Rs D := (b_law_call a_script a_at a_top a_most).fin
def b_law_time_b1 (a_known : D) (a_call : D) (s1 : Unit) (d7 : D) : Rs (Out (Unit)) := (((tst ((lstD (comp ((Rs.ok a_known).bind ofSeq) fun d14 => eltO (tst ((Rs.ok d14).bind fun x18 => ((Rs.ok a_call).bind fun x15 => (Rs.ok none).bind fun x16 => (part (Rs.ok d7)).bind fun x17 => pySlice x15 x16 x17).bind fun x19 => m_law_in x18 x19)) (Rs.ok d14))).bind fun x20 => (lstD ((Rs.ok []).bind mkLst)).bind fun x21 => pyNe x20 x21)).bind fun b24 => if b24 = true then (((Rs.ok d7).bind fun x22 => Rs.ok (Out.rt x22)) : Rs (Out (Unit))) else (Rs.ok (Out.nx ()))).go fun (s23 : Unit) => (Rs.ok (Out.nx ())))
def b_law_time_k2  : Rs (Out (Unit)) := ((Rs.ok PyData.none).bind fun x25 => Rs.ok (Out.rt x25))
def b_law_time (a_known a_call : D) : Rs (Out Unit) := ((((Rs.ok (PyData.int 1)).bind fun x4 => (((Rs.ok a_call).bind pyLen).bind fun x2 => (Rs.ok (PyData.int 1)).bind fun x3 => pyAdd x2 x3).bind fun x5 => pyRange x4 x5).bind fun xs6 => forO (b_law_time_b1 a_known a_call) xs6 ()).go fun s1 => (b_law_time_k2))
def m_law_time (a_known a_call : D) : Rs D := (b_law_time a_known a_call).fin
def b_check_call (a_value : D) : Rs (Out Unit) := (((notT (tst ((Rs.ok a_value).bind m_is_call))).bind fun b3 => if b3 = true then ((Rs.exc "InvalidCall") : Rs (Out (Unit))) else (Rs.ok (Out.nx ()))).go fun (s2 : Unit) => (Rs.ok (Out.nx ())))
def m_check_call (a_value : D) : Rs D := (b_check_call a_value).fin
def b_check_three (a_card a_rule a_call : D) : Rs (Out Unit) := (((Rs.ok a_card).bind m_check_card).bind fun _x6 => (((Rs.ok a_rule).bind m_check_rule).bind fun _x5 => (((Rs.ok a_call).bind m_check_call).bind fun _x4 => (Rs.ok (Out.nx ())))))
def m_check_three (a_card a_rule a_call : D) : Rs D := (b_check_three a_card a_rule a_call).fin
def b_is_finished (a_card a_rule a_call : D) : Rs (Out Unit) := (((Rs.ok a_card).bind fun x1 => (Rs.ok a_rule).bind fun x2 => (Rs.ok a_call).bind fun x3 => m_check_three x1 x2 x3).bind fun _x13 => ((((Rs.ok a_card).bind fun x7 => (Rs.ok a_rule).bind fun x8 => (Rs.ok a_call).bind fun x9 => m_find_time x7 x8 x9).bind fun x10 => (Rs.ok PyData.none).bind fun x11 => pyIsNot x10 x11).bind fun x12 => Rs.ok (Out.rt x12)))
def m_is_finished (a_card a_rule a_call : D) : Rs D := (b_is_finished a_card a_rule a_call).fin
def b_finished_at (a_card a_rule a_call : D) : Rs (Out Unit) := (((Rs.ok a_card).bind fun x1 => (Rs.ok a_rule).bind fun x2 => (Rs.ok a_call).bind fun x3 => m_check_three x1 x2 x3).bind fun _x8 => (((Rs.ok a_card).bind fun x4 => (Rs.ok a_rule).bind fun x5 => (Rs.ok a_call).bind fun x6 => m_find_time x4 x5 x6).bind fun x7 => Rs.ok (Out.rt x7)))
def m_finished_at (a_card a_rule a_call : D) : Rs D := (b_finished_at a_card a_rule a_call).fin
def b_finished_lines (a_card a_rule a_call : D) : Rs (Out Unit) := (((Rs.ok a_card).bind fun x1 => (Rs.ok a_rule).bind fun x2 => (Rs.ok a_call).bind fun x3 => m_check_three x1 x2 x3).bind fun _x12 => ((lstD (comp (((Rs.ok a_card).bind fun x6 => (Rs.ok a_rule).bind fun x7 => m_find_lines x6 x7).bind ofSeq) fun d8 => eltO (tst ((Rs.ok d8).bind fun x9 => (Rs.ok a_call).bind fun x10 => m_holds x9 x10)) (Rs.ok d8))).bind fun x11 => Rs.ok (Out.rt x11)))
def m_finished_lines (a_card a_rule a_call : D) : Rs D := (b_finished_lines a_card a_rule a_call).fin
def b_waits_for (a_card a_rule a_call : D) : Rs (Out Unit) := (((Rs.ok a_card).bind fun x1 => (Rs.ok a_rule).bind fun x2 => (Rs.ok a_call).bind fun x3 => m_check_three x1 x2 x3).bind fun _x8 => (((Rs.ok a_card).bind fun x4 => (Rs.ok a_rule).bind fun x5 => (Rs.ok a_call).bind fun x6 => m_find_waits x4 x5 x6).bind fun x7 => Rs.ok (Out.rt x7)))
def m_waits_for (a_card a_rule a_call : D) : Rs D := (b_waits_for a_card a_rule a_call).fin
def b_law_turned_b1 (a_rule : D) (a_call : D) (a_time : D) (s43 : Unit) (d53 : D) : Rs (Out (Unit)) := (((andT (tst ((Rs.ok a_rule).bind fun x54 => (Rs.ok (PyData.str "rows")).bind fun x55 => pyNe x54 x55)) (tst (((Rs.ok d53).bind fun x59 => (Rs.ok a_rule).bind fun x60 => (Rs.ok a_call).bind fun x61 => m_finished_at x59 x60 x61).bind fun x62 => (Rs.ok a_time).bind fun x63 => pyNe x62 x63))).bind fun b66 => if b66 = true then (((Rs.ok (PyData.bool false)).bind fun x64 => Rs.ok (Out.rt x64)) : Rs (Out (Unit))) else (Rs.ok (Out.nx ()))).go fun (s65 : Unit) => (Rs.ok (Out.nx ())))
def b_law_turned_k2 (a_card : D) (a_rule : D) (v6 : D) : Rs (Out (Unit)) := ((((Rs.ok a_card).bind fun x163 => (Rs.ok a_rule).bind fun x164 => (lstD (((Rs.ok v6).bind fun x161 => (Rs.ok (PyData.int 0)).bind fun x162 => pyIx x161 x162).bind pyList)).bind fun x165 => m_finished_at x163 x164 x165).bind fun x166 => (Rs.ok PyData.none).bind fun x167 => pyIsNot x166 x167).bind fun x168 => Rs.ok (Out.rt x168))
def b_law_turned_k3 (a_card : D) (a_rule : D) (v2 : D) (v6 : D) : Rs (Out (Unit)) := (((notT (tst (((Rs.ok a_card).bind fun x145 => (Rs.ok a_rule).bind fun x146 => (Rs.ok v2).bind fun x147 => m_is_finished x145 x146 x147).bind fun x148 => (Rs.ok (PyData.bool true)).bind fun x149 => pyIs x148 x149))).bind fun b169 => if b169 = true then (((Rs.ok (PyData.bool false)).bind fun x150 => Rs.ok (Out.rt x150)) : Rs (Out (Unit))) else (Rs.ok (Out.nx ()))).go fun (s151 : Unit) => (b_law_turned_k2 a_card a_rule v6))
def b_law_turned_k4 (a_card : D) (a_rule : D) (v2 : D) (v6 : D) : Rs (Out (Unit)) := (((tst ((lstD (comp (((Rs.ok a_card).bind fun x129 => (Rs.ok (PyData.str "rows")).bind fun x130 => m_lines x129 x130).bind ofSeq) fun d131 => eltO (tst ((Rs.ok d131).bind fun x136 => ((Rs.ok a_card).bind fun x134 => (Rs.ok (PyData.str "all")).bind fun x135 => m_lines x134 x135).bind fun x137 => pyNotIn x136 x137)) (Rs.ok d131))).bind fun x138 => (lstD ((Rs.ok []).bind mkLst)).bind fun x139 => pyNe x138 x139)).bind fun b170 => if b170 = true then (((Rs.ok (PyData.bool false)).bind fun x140 => Rs.ok (Out.rt x140)) : Rs (Out (Unit))) else (Rs.ok (Out.nx ()))).go fun (s141 : Unit) => (b_law_turned_k3 a_card a_rule v2 v6))
def b_law_turned_k5 (a_card : D) (a_call : D) (a_rule : D) (v2 : D) (v6 : D) : Rs (Out (Unit)) := ((comp ((((Rs.ok (PyData.str "rows")).bind fun x102 => ((Rs.ok (PyData.str "lines")).bind fun x100 => ((Rs.ok (PyData.str "all")).bind fun x98 => (Rs.ok []).bind fun x99 => Rs.ok (x98 :: x99)).bind fun x101 => Rs.ok (x100 :: x101)).bind fun x103 => Rs.ok (x102 :: x103)).bind mkTup).bind ofSeq) fun d104 => eltO (Rs.ok true) ((Rs.ok a_card).bind fun x105 => (Rs.ok d104).bind fun x106 => (Rs.ok a_call).bind fun x107 => m_finished_at x105 x106 x107)).bind fun v91 => ((comp ((Rs.ok (PyData.list v91)).bind ofSeq) fun d109 => eltO (Rs.ok true) (ifE (tst ((Rs.ok d109).bind fun x110 => (Rs.ok PyData.none).bind fun x111 => pyIs x110 x111)) (Rs.ok (PyData.int 61)) (Rs.ok d109))).bind fun v108 => (((tst ((Rs.ok (PyData.list v108)).bind fun x112 => ((lstD ((Rs.ok (PyData.list v108)).bind pySorted)).bind pyRev).bind fun x113 => pyNe x112 x113)).bind fun b171 => if b171 = true then (((Rs.ok (PyData.bool false)).bind fun x114 => Rs.ok (Out.rt x114)) : Rs (Out (Unit))) else (Rs.ok (Out.nx ()))).go fun (s115 : Unit) => (b_law_turned_k4 a_card a_rule v2 v6))))
def b_law_turned_k6 (v42 : D) (v2 : D) (a_card : D) (a_call : D) (a_rule : D) (v6 : D) : Rs (Out (Unit)) := (((tst ((lstD (((Rs.ok v42).bind m_numbers).bind pySorted)).bind fun x87 => (Rs.ok v2).bind fun x88 => pyNe x87 x88)).bind fun b172 => if b172 = true then (((Rs.ok (PyData.bool false)).bind fun x89 => Rs.ok (Out.rt x89)) : Rs (Out (Unit))) else (Rs.ok (Out.nx ()))).go fun (s90 : Unit) => (b_law_turned_k5 a_card a_call a_rule v2 v6))
def b_law_turned_k7 (v42 : D) (a_call : D) (a_card : D) (v2 : D) (a_rule : D) (v6 : D) : Rs (Out (Unit)) := (((tst (((Rs.ok v42).bind fun x70 => (Rs.ok (PyData.str "rows")).bind fun x71 => (Rs.ok a_call).bind fun x72 => m_finished_at x70 x71 x72).bind fun x79 => ((Rs.ok a_card).bind fun x76 => (Rs.ok (PyData.str "rows")).bind fun x77 => (Rs.ok a_call).bind fun x78 => m_finished_at x76 x77 x78).bind fun x80 => pyNe x79 x80)).bind fun b173 => if b173 = true then (((Rs.ok (PyData.bool false)).bind fun x81 => Rs.ok (Out.rt x81)) : Rs (Out (Unit))) else (Rs.ok (Out.nx ()))).go fun (s82 : Unit) => (b_law_turned_k6 v42 v2 a_card a_call a_rule v6))
def b_law_turned (a_card a_rule a_call a_time : D) : Rs (Out Unit) := (((Rs.ok a_card).bind m_numbers).bind fun v2 => ((Rs.ok a_card).bind fun x7 => (Rs.ok a_rule).bind fun x8 => m_lines x7 x8).bind fun v6 => (((lstD (comp (((Rs.ok a_card).bind pyLen).bind fun x34 => pyRange (PyData.int 0) x34) fun d35 => eltO (Rs.ok true) ((lstD (comp ((Rs.ok a_card).bind ofSeq) fun d39 => eltO (Rs.ok true) ((Rs.ok d39).bind fun x40 => (Rs.ok d35).bind fun x41 => pyIx x40 x41))).bind pyTuple))).bind pyTuple).bind fun v9 => (((Rs.ok a_card).bind pyRev).bind fun v42 => ((((((Rs.ok v9).bind fun x50 => ((Rs.ok v42).bind fun x48 => (Rs.ok []).bind fun x49 => Rs.ok (x48 :: x49)).bind fun x51 => Rs.ok (x50 :: x51)).bind mkTup).bind ofSeq).bind fun xs52 => forO (b_law_turned_b1 a_rule a_call a_time) xs52 ()).go fun s43 => (b_law_turned_k7 v42 a_call a_card v2 a_rule v6)))))
def m_law_turned (a_card a_rule a_call a_time : D) : Rs D := (b_law_turned a_card a_rule a_call a_time).fin
def b_law_k05_b1 (v1 : D) (v2 : D) (v3 : D) (v16 : D) (s61 : Unit) (d66 : D) : Rs (Out (Unit)) := (((tst (((Rs.ok v1).bind fun x76 => (Rs.ok v2).bind fun x77 => ((Rs.ok v3).bind fun x73 => (Rs.ok none).bind fun x74 => (part (Rs.ok d66)).bind fun x75 => pySlice x73 x74 x75).bind fun x78 => m_is_finished x76 x77 x78).bind fun x87 => (andV ((Rs.ok v16).bind fun x83 => (Rs.ok PyData.none).bind fun x84 => pyIsNot x83 x84) ((Rs.ok d66).bind fun x85 => (Rs.ok v16).bind fun x86 => pyGe x85 x86)).bind fun x88 => pyNe x87 x88)).bind fun b91 => if b91 = true then (((Rs.ok (PyData.bool false)).bind fun x89 => Rs.ok (Out.rt x89)) : Rs (Out (Unit))) else (Rs.ok (Out.nx ()))).go fun (s90 : Unit) => (Rs.ok (Out.nx ())))
def b_law_k05_k2 (v1 : D) (v2 : D) (v3 : D) (v16 : D) : Rs (Out (Unit)) := (((tst ((lstD (comp (((Rs.ok v1).bind fun x172 => (Rs.ok v2).bind fun x173 => ((Rs.ok v3).bind fun x169 => (Rs.ok none).bind fun x170 => (part (Rs.ok v16)).bind fun x171 => pySlice x169 x170 x171).bind fun x174 => m_finished_lines x172 x173 x174).bind ofSeq) fun d175 => eltO (tst (((Rs.ok v3).bind fun x186 => ((Rs.ok v16).bind fun x184 => (Rs.ok (PyData.int 1)).bind fun x185 => pySub x184 x185).bind fun x187 => pyIx x186 x187).bind fun x188 => (Rs.ok d175).bind fun x189 => pyNotIn x188 x189)) (Rs.ok d175))).bind fun x190 => (lstD ((Rs.ok []).bind mkLst)).bind fun x191 => pyNe x190 x191)).bind fun b194 => if b194 = true then (((Rs.ok (PyData.bool false)).bind fun x192 => Rs.ok (Out.rt x192)) : Rs (Out (Unit))) else (Rs.ok (Out.nx ()))).go fun (s193 : Unit) => (Rs.ok (Out.nx ())))
def b_law_k05_k3 (v1 : D) (v2 : D) (v3 : D) (v16 : D) : Rs (Out (Unit)) := (((tst (((Rs.ok v1).bind fun x129 => (Rs.ok v2).bind fun x130 => (Rs.ok v3).bind fun x131 => m_waits_for x129 x130 x131).bind fun x132 => (lstD ((Rs.ok []).bind mkLst)).bind fun x133 => pyNe x132 x133)).bind fun b195 => if b195 = true then (((Rs.ok (PyData.bool false)).bind fun x134 => Rs.ok (Out.rt x134)) : Rs (Out (Unit))) else (Rs.ok (Out.nx ()))).go fun (s135 : Unit) => (b_law_k05_k2 v1 v2 v3 v16))
def b_law_k05_k4 (v1 : D) (v2 : D) (v3 : D) (d205 : D) : Rs (Out (Unit)) := (((tst (((Rs.ok v1).bind fun x227 => (Rs.ok v2).bind fun x228 => ((Rs.ok v3).bind fun x225 => (lstD (((Rs.ok d205).bind fun x223 => (Rs.ok []).bind fun x224 => Rs.ok (x223 :: x224)).bind mkLst)).bind fun x226 => pyAdd x225 x226).bind fun x229 => m_finished_at x227 x228 x229).bind fun x234 => (((Rs.ok v3).bind pyLen).bind fun x232 => (Rs.ok (PyData.int 1)).bind fun x233 => pyAdd x232 x233).bind fun x235 => pyNe x234 x235)).bind fun b238 => if b238 = true then (((Rs.ok (PyData.bool false)).bind fun x236 => Rs.ok (Out.rt x236)) : Rs (Out (Unit))) else (Rs.ok (Out.nx ()))).go fun (s237 : Unit) => (Rs.ok (Out.nx ())))
def b_law_k05_b5 (v3 : D) (v13 : D) (v1 : D) (v2 : D) (s197 : Unit) (d205 : D) : Rs (Out (Unit)) := (((orT (tst ((Rs.ok d205).bind fun x206 => (Rs.ok v3).bind fun x207 => pyIn x206 x207)) (tst ((Rs.ok d205).bind fun x208 => (Rs.ok v13).bind fun x209 => pyNotIn x208 x209))).bind fun b239 => if b239 = true then (((Rs.ok (PyData.bool false)).bind fun x210 => Rs.ok (Out.rt x210)) : Rs (Out (Unit))) else (Rs.ok (Out.nx ()))).go fun (s211 : Unit) => (b_law_k05_k4 v1 v2 v3 d205))
def b_law_k05_k6 (v1 : D) (v2 : D) (v3 : D) (v16 : D) : Rs (Out (Unit)) := (((Rs.ok v1).bind fun x241 => (Rs.ok v2).bind fun x242 => (Rs.ok v3).bind fun x243 => (Rs.ok v16).bind fun x244 => m_law_turned x241 x242 x243 x244).bind fun x245 => Rs.ok (Out.rt x245))
def b_law_k05_k7 (v16 : D) (v3 : D) (v1 : D) (v2 : D) (v13 : D) : Rs (Out (Unit)) := (((tst ((Rs.ok v16).bind fun x92 => (Rs.ok PyData.none).bind fun x93 => pyIsNot x92 x93)).bind fun b246 => if b246 = true then ((((tst (((Rs.ok v3).bind fun x104 => ((Rs.ok v16).bind fun x102 => (Rs.ok (PyData.int 1)).bind fun x103 => pySub x102 x103).bind fun x105 => pyIx x104 x105).bind fun x122 => ((Rs.ok v1).bind fun x119 => (Rs.ok v2).bind fun x120 => ((Rs.ok v3).bind fun x116 => (Rs.ok none).bind fun x117 => (part ((Rs.ok v16).bind fun x114 => (Rs.ok (PyData.int 1)).bind fun x115 => pySub x114 x115)).bind fun x118 => pySlice x116 x117 x118).bind fun x121 => m_waits_for x119 x120 x121).bind fun x123 => pyNotIn x122 x123)).bind fun b196 => if b196 = true then (((Rs.ok (PyData.bool false)).bind fun x124 => Rs.ok (Out.rt x124)) : Rs (Out (Unit))) else (Rs.ok (Out.nx ()))).go fun (s125 : Unit) => (b_law_k05_k3 v1 v2 v3 v16)) : Rs (Out (Unit))) else (((((Rs.ok v1).bind fun x201 => (Rs.ok v2).bind fun x202 => (Rs.ok v3).bind fun x203 => m_waits_for x201 x202 x203).bind ofSeq).bind fun xs204 => forO (b_law_k05_b5 v3 v13 v1 v2) xs204 ()).go fun s197 => (Rs.ok (Out.nx ())))).go fun (s240 : Unit) => (b_law_k05_k6 v1 v2 v3 v16))
def b_law_k05_k8 (v3 : D) (v1 : D) (v2 : D) (v16 : D) (v13 : D) : Rs (Out (Unit)) := ((((((Rs.ok v3).bind pyLen).bind fun x62 => (Rs.ok (PyData.int 1)).bind fun x63 => pyAdd x62 x63).bind fun x64 => pyRange (PyData.int 0) x64).bind fun xs65 => forO (b_law_k05_b1 v1 v2 v3 v16) xs65 ()).go fun s61 => (b_law_k05_k7 v16 v3 v1 v2 v13))
def b_law_k05_k9 (v16 : D) (v1 : D) (v2 : D) (v3 : D) (v13 : D) : Rs (Out (Unit)) := (((tst (((Rs.ok v16).bind fun x39 => (Rs.ok PyData.none).bind fun x40 => pyIsNot x39 x40).bind fun x57 => (((Rs.ok v1).bind fun x52 => (Rs.ok v2).bind fun x53 => (Rs.ok v3).bind fun x54 => m_finished_lines x52 x53 x54).bind fun x55 => (lstD ((Rs.ok []).bind mkLst)).bind fun x56 => pyNe x55 x56).bind fun x58 => pyNe x57 x58)).bind fun b247 => if b247 = true then (((Rs.ok (PyData.bool false)).bind fun x59 => Rs.ok (Out.rt x59)) : Rs (Out (Unit))) else (Rs.ok (Out.nx ()))).go fun (s60 : Unit) => (b_law_k05_k8 v3 v1 v2 v16 v13))
def b_law_k05 (a_script : D) : Rs (Out Unit) := (((Rs.ok a_script).bind fun x4 => (Rs.ok (PyData.int 10)).bind fun x5 => (Rs.ok (PyData.int 16)).bind fun x6 => m_law_card x4 x5 x6).bind fun v1 => ((Rs.ok a_script).bind fun x7 => (Rs.ok (PyData.int 2)).bind fun x8 => m_law_rule x7 x8).bind fun v2 => ((Rs.ok a_script).bind fun x9 => (Rs.ok (PyData.int 40)).bind fun x10 => (Rs.ok (PyData.int 16)).bind fun x11 => (Rs.ok (PyData.int 14)).bind fun x12 => m_law_call x9 x10 x11 x12).bind fun v3 => (((Rs.ok v1).bind m_numbers).bind fun v13 => (((Rs.ok v1).bind fun x20 => (Rs.ok v2).bind fun x21 => (Rs.ok v3).bind fun x22 => m_finished_at x20 x21 x22).bind fun v16 => (((tst (((Rs.ok v16).bind fun x25 => (Rs.ok PyData.none).bind fun x26 => pyIsNot x25 x26).bind fun x33 => ((Rs.ok v1).bind fun x30 => (Rs.ok v2).bind fun x31 => (Rs.ok v3).bind fun x32 => m_is_finished x30 x31 x32).bind fun x34 => pyNe x33 x34)).bind fun b248 => if b248 = true then (((Rs.ok (PyData.bool false)).bind fun x35 => Rs.ok (Out.rt x35)) : Rs (Out (Unit))) else (Rs.ok (Out.nx ()))).go fun (s36 : Unit) => (b_law_k05_k9 v16 v1 v2 v3 v13)))))
def m_law_k05 (a_script : D) : Rs D := (b_law_k05 a_script).fin
def b_check_cards_k1 (a_rule : D) : Rs (Out (Unit)) := (((Rs.ok a_rule).bind m_check_rule).bind fun _x7 => (Rs.ok (Out.nx ())))
def b_check_cards (a_cards a_rule : D) : Rs (Out Unit) := (((orT (notT (tst ((Rs.ok a_cards).bind (pyIsT "list")))) (orT (notT (tst (chainV pyLe pyLe (Rs.ok (PyData.int 1)) ((Rs.ok a_cards).bind pyLen) (Rs.ok (PyData.int 6))))) (notT (tst ((lstD (comp ((Rs.ok a_cards).bind ofSeq) fun d3 => eltO (Rs.ok true) ((Rs.ok d3).bind m_is_card))).bind pyAll))))).bind fun b8 => if b8 = true then ((Rs.exc "InvalidCards") : Rs (Out (Unit))) else (Rs.ok (Out.nx ()))).go fun (s5 : Unit) => (b_check_cards_k1 a_rule))
def m_check_cards (a_cards a_rule : D) : Rs D := (b_check_cards a_cards a_rule).fin
def b_find_places (a_cards a_rule a_call : D) : Rs (Out Unit) := (((Rs.ok a_cards).bind fun x1 => (Rs.ok a_rule).bind fun x2 => m_check_cards x1 x2).bind fun _x32 => (((Rs.ok a_call).bind m_check_call).bind fun _x31 => ((comp ((Rs.ok a_cards).bind ofSeq) fun d5 => eltO (Rs.ok true) ((Rs.ok d5).bind fun x6 => (Rs.ok a_rule).bind fun x7 => (Rs.ok a_call).bind fun x8 => m_find_time x6 x7 x8)).bind fun v4 => ((lstD ((lstD (comp ((Rs.ok (PyData.list v4)).bind ofSeq) fun d19 => eltO (tst ((Rs.ok d19).bind fun x20 => (Rs.ok PyData.none).bind fun x21 => pyIsNot x20 x21)) (Rs.ok d19))).bind pySortedSet)).bind fun v9 => ((lstD (comp ((Rs.ok v9).bind ofSeq) fun d22 => eltO (Rs.ok true) (lstD (comp ((Rs.ok (PyData.list v4)).bind fun x23 => (ofList x23).bind fun x24 => Rs.ok (enumD x24)) fun d27 => un2 d27 fun d25 d26 => eltO (tst ((Rs.ok d26).bind fun x28 => (Rs.ok d22).bind fun x29 => pyEq x28 x29)) (Rs.ok d25))))).bind fun x30 => Rs.ok (Out.rt x30))))))
def m_find_places (a_cards a_rule a_call : D) : Rs D := (b_find_places a_cards a_rule a_call).fin
def b_places (a_cards a_rule a_call : D) : Rs (Out Unit) := (((Rs.ok a_cards).bind fun x1 => (Rs.ok a_rule).bind fun x2 => (Rs.ok a_call).bind fun x3 => m_find_places x1 x2 x3).bind fun x4 => Rs.ok (Out.rt x4))
def m_places (a_cards a_rule a_call : D) : Rs D := (b_places a_cards a_rule a_call).fin
def b_winners (a_cards a_rule a_call : D) : Rs (Out Unit) := (((Rs.ok a_cards).bind fun x5 => (Rs.ok a_rule).bind fun x6 => (Rs.ok a_call).bind fun x7 => m_find_places x5 x6 x7).bind fun v1 => ((ifE (tst ((Rs.ok v1).bind fun x8 => (lstD ((Rs.ok []).bind mkLst)).bind fun x9 => pyNe x8 x9)) ((Rs.ok v1).bind fun x10 => (Rs.ok (PyData.int 0)).bind fun x11 => pyIx x10 x11) (lstD ((Rs.ok []).bind mkLst))).bind fun x12 => Rs.ok (Out.rt x12)))
def m_winners (a_cards a_rule a_call : D) : Rs D := (b_winners a_cards a_rule a_call).fin
def b_next_winners_b1 (a_rule : D) (a_call : D) (s12 : List D) (d16 : D) (d17 : D) : Rs (Out (List D)) := ((lstD (comp (((Rs.ok d17).bind fun x33 => (Rs.ok a_rule).bind fun x34 => (Rs.ok a_call).bind fun x35 => m_find_waits x33 x34 x35).bind ofSeq) fun d36 => eltO (Rs.ok true) (((Rs.ok d36).bind fun x39 => ((Rs.ok d16).bind fun x37 => (Rs.ok []).bind fun x38 => Rs.ok (x37 :: x38)).bind fun x40 => Rs.ok (x39 :: x40)).bind mkTup))).bind fun x41 => (ofSeq x41).bind fun x42 => if s12.length + x42.length ≤ sizeMax then (Rs.ok (Out.nx (s12 ++ x42))) else Rs.bad)
def b_next_winners_k2 (s12 : List D) : Rs (Out (Unit)) := ((lstD ((Rs.ok (PyData.list s12)).bind pySorted)).bind fun x43 => Rs.ok (Out.rt x43))
def b_next_winners_k3 (a_cards : D) (a_rule : D) (a_call : D) : Rs (Out (Unit)) := (((Rs.ok []).bind mkLst).bind fun v11 => ((((Rs.ok a_cards).bind fun x13 => (ofList x13).bind fun x14 => Rs.ok (enumD x14)).bind fun xs15 => forO (fun (s12 : List D) d18 => un2 d18 (b_next_winners_b1 a_rule a_call s12)) xs15 v11).go fun s12 => (b_next_winners_k2 s12)))
def b_next_winners (a_cards a_rule a_call : D) : Rs (Out Unit) := (((tst (((Rs.ok a_cards).bind fun x4 => (Rs.ok a_rule).bind fun x5 => (Rs.ok a_call).bind fun x6 => m_find_places x4 x5 x6).bind fun x7 => (lstD ((Rs.ok []).bind mkLst)).bind fun x8 => pyNe x7 x8)).bind fun b44 => if b44 = true then (((lstD ((Rs.ok []).bind mkLst)).bind fun x9 => Rs.ok (Out.rt x9)) : Rs (Out (Unit))) else (Rs.ok (Out.nx ()))).go fun (s10 : Unit) => (b_next_winners_k3 a_cards a_rule a_call))
def m_next_winners (a_cards a_rule a_call : D) : Rs D := (b_next_winners a_cards a_rule a_call).fin
def b_law_error_3 (a_way a_one a_two a_three : D) : Rs (Out Unit) := (tryO ((((Rs.ok a_way).bind fun x7 => pickF [lift3 m_next_winners, lift3 m_places, lift3 m_winners] x7 fun f8 => ((Rs.ok a_one).bind fun x5 => ((Rs.ok a_two).bind fun x3 => ((Rs.ok a_three).bind fun x1 => (Rs.ok []).bind fun x2 => Rs.ok (x1 :: x2)).bind fun x4 => Rs.ok (x3 :: x4)).bind fun x6 => Rs.ok (x5 :: x6)).bind f8).bind fun _x9 => (Rs.ok (Out.nx ()))) : Rs (Out Unit)) (excIx ["InvalidCards", "InvalidRule", "InvalidCall"]) fun u11 => ((Rs.ok PyData.none).bind fun x10 => Rs.ok (Out.rt x10)))
def m_law_error_3 (a_way a_one a_two a_three : D) : Rs D := (b_law_error_3 a_way a_one a_two a_three).fin
def b_law_k08_b1 (v39 : List D) (s44 : D) (d50 : D) : Rs (Out (D)) := ((comp ((Rs.ok (PyData.list v39)).bind fun x52 => (ofList x52).bind fun x53 => Rs.ok (enumD x53)) fun d56 => un2 d56 fun d54 d55 => eltO (tst ((Rs.ok d55).bind fun x57 => (Rs.ok d50).bind fun x58 => pyEq x57 x58)) (Rs.ok d54)).bind fun v51 => (((Rs.ok s44).bind fun x78 => (ifE (tst ((Rs.ok (PyData.list v51)).bind fun x74 => (lstD ((Rs.ok []).bind mkLst)).bind fun x75 => pyNe x74 x75)) (lstD (((Rs.ok (PyData.list v51)).bind fun x76 => (Rs.ok []).bind fun x77 => Rs.ok (x76 :: x77)).bind mkLst)) (lstD ((Rs.ok []).bind mkLst))).bind fun x79 => pyAdd x78 x79).bind fun v59 => (Rs.ok (Out.nx v59))))
def b_law_k08_b2 (v35 : List D) (d257 : D) (d263 : D) (s266 : List D) (d269 : D) : Rs (Out (List D)) := (((tst ((((Rs.ok (PyData.list v35)).bind fun x280 => (Rs.ok d269).bind fun x281 => pyIx x280 x281).bind fun x288 => ((Rs.ok d257).bind fun x286 => (lstD (((Rs.ok d263).bind fun x284 => (Rs.ok []).bind fun x285 => Rs.ok (x284 :: x285)).bind mkLst)).bind fun x287 => pyAdd x286 x287).bind fun x289 => m_law_time x288 x289).bind fun x290 => (Rs.ok PyData.none).bind fun x291 => pyIsNot x290 x291)).bind fun b298 => if b298 = true then (((((Rs.ok d263).bind fun x294 => ((Rs.ok d269).bind fun x292 => (Rs.ok []).bind fun x293 => Rs.ok (x292 :: x293)).bind fun x295 => Rs.ok (x294 :: x295)).bind mkTup).bind fun x296 => if s266.length < sizeMax then (Rs.ok (Out.nx (s266 ++ [x296]))) else Rs.bad) : Rs (Out (List D))) else (Rs.ok (Out.nx s266))).go fun (s297 : List D) => (Rs.ok (Out.nx s297)))
def b_law_k08_b3 (d257 : D) (v1 : List D) (v35 : List D) (s259 : List D) (d263 : D) : Rs (Out (List D)) := (((tst ((Rs.ok d263).bind fun x264 => (Rs.ok d257).bind fun x265 => pyNotIn x264 x265)).bind fun b300 => if b300 = true then ((((((Rs.ok (PyData.list v1)).bind pyLen).bind fun x267 => pyRange (PyData.int 0) x267).bind fun xs268 => forO (b_law_k08_b2 v35 d257 d263) xs268 s259).go fun s266 => (Rs.ok (Out.nx s266))) : Rs (Out (List D))) else (Rs.ok (Out.nx s259))).go fun (s299 : List D) => (Rs.ok (Out.nx s299)))
def b_law_k08_k4 (v1 : List D) (v23 : D) (d257 : D) (s318 : List D) : Rs (Out (Unit)) := (((tst (((Rs.ok (PyData.list v1)).bind fun x322 => (Rs.ok v23).bind fun x323 => (Rs.ok d257).bind fun x324 => m_next_winners x322 x323 x324).bind fun x325 => (Rs.ok (PyData.list s318)).bind fun x326 => pyNe x325 x326)).bind fun b329 => if b329 = true then (((Rs.ok (PyData.bool false)).bind fun x327 => Rs.ok (Out.rt x327)) : Rs (Out (Unit))) else (Rs.ok (Out.nx ()))).go fun (s328 : Unit) => (Rs.ok (Out.nx ())))
def b_law_k08_k5 (v35 : List D) (d257 : D) (s259 : List D) (v1 : List D) (v23 : D) : Rs (Out (Unit)) := (((tst ((lstD (comp ((Rs.ok (PyData.list v35)).bind ofSeq) fun d308 => eltO (tst (((Rs.ok d308).bind fun x311 => (Rs.ok d257).bind fun x312 => m_law_time x311 x312).bind fun x313 => (Rs.ok PyData.none).bind fun x314 => pyIsNot x313 x314)) (Rs.ok d308))).bind fun x315 => (lstD ((Rs.ok []).bind mkLst)).bind fun x316 => pyNe x315 x316)).bind fun b330 => if b330 = true then ((((Rs.ok []).bind mkLst).bind fun v317 => (Rs.ok (Out.nx v317))) : Rs (Out (List D))) else (Rs.ok (Out.nx s259))).go fun (s318 : List D) => (b_law_k08_k4 v1 v23 d257 s318))
def b_law_k08_b6 (v1 : List D) (v35 : List D) (v23 : D) (s247 : Unit) (d257 : D) : Rs (Out (Unit)) := (((Rs.ok []).bind mkLst).bind fun v258 => ((((Rs.ok (PyData.int 1)).bind fun x260 => (Rs.ok (PyData.int 61)).bind fun x261 => pyRange x260 x261).bind fun xs262 => forO (b_law_k08_b3 d257 v1 v35) xs262 v258).go fun s259 => (b_law_k08_k5 v35 d257 s259 v1 v23)))
def b_law_k08_k7 (v1 : List D) (a_script : D) (v23 : D) : Rs (Out (Unit)) := ((lstD (((Rs.ok PyData.none).bind fun x400 => ((lstD ((Rs.ok []).bind mkLst)).bind fun x398 => (((((Rs.ok (PyData.list v1)).bind fun x367 => (Rs.ok (PyData.int 0)).bind fun x368 => pyIx x367 x368).bind fun x369 => (Rs.ok []).bind fun x370 => Rs.ok (x369 :: x370)).bind mkTup).bind fun x396 => (((Rs.ok (PyData.list v1)).bind fun x375 => (lstD (((Rs.ok PyData.none).bind fun x373 => (Rs.ok []).bind fun x374 => Rs.ok (x373 :: x374)).bind mkLst)).bind fun x376 => pyAdd x375 x376).bind fun x394 => ((lstD ((((Rs.ok a_script).bind fun x377 => (Rs.ok (PyData.int 3)).bind fun x378 => m_law_badcard x377 x378).bind fun x379 => (Rs.ok []).bind fun x380 => Rs.ok (x379 :: x380)).bind mkLst)).bind fun x392 => ((lstD (((Rs.ok (PyData.list v1)).bind fun x381 => (ofList x381).bind fun x385 => (Rs.ok none).bind fun x383 => (part (Rs.ok (PyData.int 1))).bind fun x384 => Rs.ok (cutL x385 x383 x384)).bind fun x386 => (Rs.ok (PyData.int 7)).bind fun x387 => repL x386 x387)).bind fun x390 => ((Rs.ok (PyData.str "x")).bind fun x388 => (Rs.ok []).bind fun x389 => Rs.ok (x388 :: x389)).bind fun x391 => Rs.ok (x390 :: x391)).bind fun x393 => Rs.ok (x392 :: x393)).bind fun x395 => Rs.ok (x394 :: x395)).bind fun x397 => Rs.ok (x396 :: x397)).bind fun x399 => Rs.ok (x398 :: x399)).bind fun x401 => Rs.ok (x400 :: x401)).bind mkLst)).bind fun v331 => (((Rs.ok v331).bind fun x417 => ((Rs.ok a_script).bind fun x414 => (Rs.ok (PyData.int 4)).bind fun x415 => (Rs.ok (PyData.int 7)).bind fun x416 => m_law_drawn x414 x415 x416).bind fun x418 => pyIx x417 x418).bind fun v402 => (((lstD (((Rs.ok PyData.none).bind fun x474 => ((Rs.ok (PyData.str "")).bind fun x472 => ((Rs.ok (PyData.str "row")).bind fun x470 => ((Rs.ok (PyData.int 7)).bind fun x468 => ((((Rs.ok (PyData.str "all")).bind fun x464 => (Rs.ok []).bind fun x465 => Rs.ok (x464 :: x465)).bind mkTup).bind fun x466 => (Rs.ok []).bind fun x467 => Rs.ok (x466 :: x467)).bind fun x469 => Rs.ok (x468 :: x469)).bind fun x471 => Rs.ok (x470 :: x471)).bind fun x473 => Rs.ok (x472 :: x473)).bind fun x475 => Rs.ok (x474 :: x475)).bind mkLst)).bind fun x482 => ((Rs.ok a_script).bind fun x479 => (Rs.ok (PyData.int 5)).bind fun x480 => (Rs.ok (PyData.int 5)).bind fun x481 => m_law_drawn x479 x480 x481).bind fun x483 => pyIx x482 x483).bind fun v419 => (((lstD (((Rs.ok PyData.none).bind fun x603 => (((Rs.ok []).bind mkTup).bind fun x601 => ((lstD (((Rs.ok (PyData.int 0)).bind fun x577 => (Rs.ok []).bind fun x578 => Rs.ok (x577 :: x578)).bind mkLst)).bind fun x599 => ((lstD (((Rs.ok (PyData.int 61)).bind fun x579 => (Rs.ok []).bind fun x580 => Rs.ok (x579 :: x580)).bind mkLst)).bind fun x597 => ((lstD (((Rs.ok (PyData.int 1)).bind fun x583 => ((Rs.ok (PyData.int 1)).bind fun x581 => (Rs.ok []).bind fun x582 => Rs.ok (x581 :: x582)).bind fun x584 => Rs.ok (x583 :: x584)).bind mkLst)).bind fun x595 => ((lstD (((Rs.ok (PyData.bool true)).bind fun x585 => (Rs.ok []).bind fun x586 => Rs.ok (x585 :: x586)).bind mkLst)).bind fun x593 => ((lstD (((Rs.ok (PyData.str "1")).bind fun x587 => (Rs.ok []).bind fun x588 => Rs.ok (x587 :: x588)).bind mkLst)).bind fun x591 => ((Rs.ok (PyData.str "1")).bind fun x589 => (Rs.ok []).bind fun x590 => Rs.ok (x589 :: x590)).bind fun x592 => Rs.ok (x591 :: x592)).bind fun x594 => Rs.ok (x593 :: x594)).bind fun x596 => Rs.ok (x595 :: x596)).bind fun x598 => Rs.ok (x597 :: x598)).bind fun x600 => Rs.ok (x599 :: x600)).bind fun x602 => Rs.ok (x601 :: x602)).bind fun x604 => Rs.ok (x603 :: x604)).bind mkLst)).bind fun x611 => ((Rs.ok a_script).bind fun x608 => (Rs.ok (PyData.int 6)).bind fun x609 => (Rs.ok (PyData.int 8)).bind fun x610 => m_law_drawn x608 x609 x610).bind fun x612 => pyIx x611 x612).bind fun v484 => ((comp ((Rs.ok (PyData.int 3)).bind fun x614 => pyRange (PyData.int 0) x614) fun d615 => eltO (Rs.ok true) ((Rs.ok d615).bind fun x616 => (Rs.ok v402).bind fun x617 => (Rs.ok v419).bind fun x618 => (Rs.ok v484).bind fun x619 => m_law_error_3 x616 x617 x618 x619)).bind fun v613 => (((Rs.ok (PyData.list v613)).bind fun x647 => (lstD (comp ((Rs.ok (PyData.int 3)).bind fun x641 => pyRange (PyData.int 0) x641) fun d642 => eltO (Rs.ok true) ((Rs.ok d642).bind fun x643 => (Rs.ok (PyData.list v1)).bind fun x644 => (Rs.ok v419).bind fun x645 => (Rs.ok v484).bind fun x646 => m_law_error_3 x643 x644 x645 x646))).bind fun x648 => pyAdd x647 x648).bind fun v620 => ((((Rs.ok v620).bind fun x675 => (lstD (comp ((Rs.ok (PyData.int 3)).bind fun x669 => pyRange (PyData.int 0) x669) fun d670 => eltO (Rs.ok true) ((Rs.ok d670).bind fun x671 => (Rs.ok (PyData.list v1)).bind fun x672 => (Rs.ok v23).bind fun x673 => (Rs.ok v484).bind fun x674 => m_law_error_3 x671 x672 x673 x674))).bind fun x676 => pyAdd x675 x676).bind fun x769 => (((lstD ((((Rs.ok (PyData.int 0)).bind fun x745 => (Rs.ok []).bind fun x746 => Rs.ok (x745 :: x746)).bind mkLst).bind fun x747 => (Rs.ok (PyData.int 3)).bind fun x748 => repL x747 x748)).bind fun x757 => (lstD ((((Rs.ok (PyData.int 1)).bind fun x753 => (Rs.ok []).bind fun x754 => Rs.ok (x753 :: x754)).bind mkLst).bind fun x755 => (Rs.ok (PyData.int 3)).bind fun x756 => repL x755 x756)).bind fun x758 => pyAdd x757 x758).bind fun x767 => (lstD ((((Rs.ok (PyData.int 2)).bind fun x763 => (Rs.ok []).bind fun x764 => Rs.ok (x763 :: x764)).bind mkLst).bind fun x765 => (Rs.ok (PyData.int 3)).bind fun x766 => repL x765 x766)).bind fun x768 => pyAdd x767 x768).bind fun x770 => pyEq x769 x770).bind fun x771 => Rs.ok (Out.rt x771))))))))
def b_law_k08_k8 (v30 : D) (v39 : List D) (v1 : List D) (v35 : List D) (v23 : D) (a_script : D) : Rs (Out (Unit)) := (((Rs.ok v30).bind fun x244 => (Rs.ok none).bind fun x245 => (part ((((lstD (comp ((Rs.ok (PyData.list v39)).bind ofSeq) fun d229 => eltO (tst ((Rs.ok d229).bind fun x230 => (Rs.ok PyData.none).bind fun x231 => pyIsNot x230 x231)) (Rs.ok d229))).bind fun x240 => (lstD (((((Rs.ok v30).bind pyLen).bind fun x236 => (Rs.ok (PyData.int 1)).bind fun x237 => pyAdd x236 x237).bind fun x238 => (Rs.ok []).bind fun x239 => Rs.ok (x238 :: x239)).bind mkLst)).bind fun x241 => pyAdd x240 x241).bind pyMinI).bind fun x242 => (Rs.ok (PyData.int 1)).bind fun x243 => pySub x242 x243)).bind fun x246 => pySlice x244 x245 x246).bind fun v108 => ((((((Rs.ok v30).bind fun x254 => ((Rs.ok v108).bind fun x252 => (Rs.ok []).bind fun x253 => Rs.ok (x252 :: x253)).bind fun x255 => Rs.ok (x254 :: x255)).bind mkTup).bind ofSeq).bind fun xs256 => forO (b_law_k08_b6 v1 v35 v23) xs256 ()).go fun s247 => (b_law_k08_k7 v1 a_script v23)))
def b_law_k08_k9 (v1 : List D) (v23 : D) (v30 : D) (s44 : D) (v39 : List D) (v35 : List D) (a_script : D) : Rs (Out (Unit)) := (((tst (((Rs.ok (PyData.list v1)).bind fun x93 => (Rs.ok v23).bind fun x94 => (Rs.ok v30).bind fun x95 => m_winners x93 x94 x95).bind fun x104 => (ifE (tst ((Rs.ok s44).bind fun x100 => (lstD ((Rs.ok []).bind mkLst)).bind fun x101 => pyNe x100 x101)) ((Rs.ok s44).bind fun x102 => (Rs.ok (PyData.int 0)).bind fun x103 => pyIx x102 x103) (lstD ((Rs.ok []).bind mkLst))).bind fun x105 => pyNe x104 x105)).bind fun b772 => if b772 = true then (((Rs.ok (PyData.bool false)).bind fun x106 => Rs.ok (Out.rt x106)) : Rs (Out (Unit))) else (Rs.ok (Out.nx ()))).go fun (s107 : Unit) => (b_law_k08_k8 v30 v39 v1 v35 v23 a_script))
def b_law_k08_k10 (v1 : List D) (v23 : D) (v30 : D) (s44 : D) (v39 : List D) (v35 : List D) (a_script : D) : Rs (Out (Unit)) := (((tst (((Rs.ok (PyData.list v1)).bind fun x83 => (Rs.ok v23).bind fun x84 => (Rs.ok v30).bind fun x85 => m_places x83 x84 x85).bind fun x86 => (Rs.ok s44).bind fun x87 => pyNe x86 x87)).bind fun b773 => if b773 = true then (((Rs.ok (PyData.bool false)).bind fun x88 => Rs.ok (Out.rt x88)) : Rs (Out (Unit))) else (Rs.ok (Out.nx ()))).go fun (s89 : Unit) => (b_law_k08_k9 v1 v23 v30 s44 v39 v35 a_script))
def b_law_k08 (a_script : D) : Rs (Out Unit) := ((comp (((Rs.ok (PyData.int 1)).bind fun x8 => ((Rs.ok a_script).bind fun x5 => (Rs.ok (PyData.int 1)).bind fun x6 => (Rs.ok (PyData.int 4)).bind fun x7 => m_law_drawn x5 x6 x7).bind fun x9 => pyAdd x8 x9).bind fun x10 => pyRange (PyData.int 0) x10) fun d11 => eltO (Rs.ok true) ((Rs.ok a_script).bind fun x18 => ((Rs.ok (PyData.int 10)).bind fun x16 => ((Rs.ok (PyData.int 20)).bind fun x14 => (Rs.ok d11).bind fun x15 => pyMul x14 x15).bind fun x17 => pyAdd x16 x17).bind fun x19 => (Rs.ok (PyData.int 16)).bind fun x20 => m_law_card x18 x19 x20)).bind fun v1 => (((Rs.ok a_script).bind fun x24 => (Rs.ok (PyData.int 2)).bind fun x25 => m_law_rule x24 x25).bind fun v23 => ((Rs.ok a_script).bind fun x31 => (Rs.ok (PyData.int 100)).bind fun x32 => (Rs.ok (PyData.int 16)).bind fun x33 => (Rs.ok (PyData.int 12)).bind fun x34 => m_law_call x31 x32 x33 x34).bind fun v30 => ((comp ((Rs.ok (PyData.list v1)).bind ofSeq) fun d36 => eltO (Rs.ok true) ((Rs.ok d36).bind fun x37 => (Rs.ok v23).bind fun x38 => m_law_lines x37 x38)).bind fun v35 => ((comp ((Rs.ok (PyData.list v35)).bind ofSeq) fun d40 => eltO (Rs.ok true) ((Rs.ok d40).bind fun x41 => (Rs.ok v30).bind fun x42 => m_law_time x41 x42)).bind fun v39 => ((lstD ((Rs.ok []).bind mkLst)).bind fun v43 => ((((Rs.ok (PyData.int 1)).bind fun x47 => (((Rs.ok v30).bind pyLen).bind fun x45 => (Rs.ok (PyData.int 1)).bind fun x46 => pyAdd x45 x46).bind fun x48 => pyRange x47 x48).bind fun xs49 => forO (b_law_k08_b1 v39) xs49 v43).go fun s44 => (b_law_k08_k10 v1 v23 v30 s44 v39 v35 a_script)))))))
def m_law_k08 (a_script : D) : Rs D := (b_law_k08 a_script).fin
def b_law_next_b1 (a_rule : D) (a_call : D) (s17 : D) (d21 : D) (d22 : D) : Rs (Out (D)) := (((Rs.ok s17).bind fun x71 => (lstD (comp (((Rs.ok d22).bind fun x63 => (Rs.ok a_rule).bind fun x64 => (Rs.ok a_call).bind fun x65 => m_waits_for x63 x64 x65).bind ofSeq) fun d66 => eltO (Rs.ok true) (((Rs.ok d66).bind fun x69 => ((Rs.ok d21).bind fun x67 => (Rs.ok []).bind fun x68 => Rs.ok (x67 :: x68)).bind fun x70 => Rs.ok (x69 :: x70)).bind mkTup))).bind fun x72 => pyAdd x71 x72).bind fun v24 => (Rs.ok (Out.nx v24)))
def b_law_next_b2 (a_cards : D) (a_rule : D) (a_call : D) (v1 : D) (s77 : Unit) (d79 : D) (d80 : D) : Rs (Out (Unit)) := (((tst (((Rs.ok a_cards).bind fun x97 => (Rs.ok a_rule).bind fun x98 => ((Rs.ok a_call).bind fun x95 => (lstD (((Rs.ok d79).bind fun x93 => (Rs.ok []).bind fun x94 => Rs.ok (x93 :: x94)).bind mkLst)).bind fun x96 => pyAdd x95 x96).bind fun x99 => m_winners x97 x98 x99).bind fun x110 => (lstD (comp ((Rs.ok v1).bind ofSeq) fun d107 => un2 d107 fun d105 d106 => eltO (tst ((Rs.ok d105).bind fun x108 => (Rs.ok d79).bind fun x109 => pyEq x108 x109)) (Rs.ok d106))).bind fun x111 => pyNe x110 x111)).bind fun b114 => if b114 = true then (((Rs.ok (PyData.bool false)).bind fun x112 => Rs.ok (Out.rt x112)) : Rs (Out (Unit))) else (Rs.ok (Out.nx ()))).go fun (s113 : Unit) => (Rs.ok (Out.nx ())))
def b_law_next_k3 (v1 : D) (a_cards : D) (a_rule : D) (a_call : D) : Rs (Out (Unit)) := ((((Rs.ok v1).bind ofSeq).bind fun xs78 => forO (fun (s77 : Unit) d81 => un2 d81 (b_law_next_b2 a_cards a_rule a_call v1 s77)) xs78 ()).go fun s77 => (Rs.ok (Out.nx ())))
def b_law_next_k4 (v1 : D) (s17 : D) (a_cards : D) (a_rule : D) (a_call : D) : Rs (Out (Unit)) := (((tst ((Rs.ok v1).bind fun x73 => (lstD ((Rs.ok s17).bind pySorted)).bind fun x74 => pyNe x73 x74)).bind fun b115 => if b115 = true then (((Rs.ok (PyData.bool false)).bind fun x75 => Rs.ok (Out.rt x75)) : Rs (Out (Unit))) else (Rs.ok (Out.nx ()))).go fun (s76 : Unit) => (b_law_next_k3 v1 a_cards a_rule a_call))
def b_law_next_k5 (a_cards : D) (a_rule : D) (a_call : D) (v119 : D) : Rs (Out (Unit)) := (((tst (((Rs.ok a_cards).bind fun x167 => (Rs.ok a_rule).bind fun x168 => ((Rs.ok a_call).bind fun x164 => (Rs.ok none).bind fun x165 => (part ((Rs.ok v119).bind fun x162 => (Rs.ok (PyData.int 1)).bind fun x163 => pySub x162 x163)).bind fun x166 => pySlice x164 x165 x166).bind fun x169 => m_winners x167 x168 x169).bind fun x170 => (lstD ((Rs.ok []).bind mkLst)).bind fun x171 => pyNe x170 x171)).bind fun b174 => if b174 = true then (((Rs.ok (PyData.bool false)).bind fun x172 => Rs.ok (Out.rt x172)) : Rs (Out (Unit))) else (Rs.ok (Out.nx ()))).go fun (s173 : Unit) => (Rs.ok (Out.nx ())))
def b_law_next_k6 (a_cards : D) (a_rule : D) : Rs (Out (Unit)) := ((((Rs.ok a_cards).bind fun x282 => (Rs.ok a_rule).bind fun x283 => (lstD ((Rs.ok []).bind mkLst)).bind fun x284 => m_places x282 x283 x284).bind fun x285 => (lstD ((Rs.ok []).bind mkLst)).bind fun x286 => pyEq x285 x286).bind fun x287 => Rs.ok (Out.rt x287))
def b_law_next_k7 (a_cards : D) (a_rule : D) (a_call : D) : Rs (Out (Unit)) := ((((Rs.ok a_cards).bind fun x241 => (Rs.ok none).bind fun x242 => (part (Rs.ok (PyData.int 1))).bind fun x243 => pySlice x241 x242 x243).bind fun x244 => (Rs.ok a_rule).bind fun x245 => (Rs.ok a_call).bind fun x246 => m_winners x244 x245 x246).bind fun v234 => (((notT (tst ((Rs.ok v234).bind fun x275 => (ifE (tst ((((Rs.ok a_cards).bind fun x266 => (Rs.ok (PyData.int 0)).bind fun x267 => pyIx x266 x267).bind fun x268 => (Rs.ok a_rule).bind fun x269 => (Rs.ok a_call).bind fun x270 => m_finished_at x268 x269 x270).bind fun x271 => (Rs.ok PyData.none).bind fun x272 => pyIsNot x271 x272)) (lstD (((Rs.ok (PyData.int 0)).bind fun x273 => (Rs.ok []).bind fun x274 => Rs.ok (x273 :: x274)).bind mkLst)) (lstD ((Rs.ok []).bind mkLst))).bind fun x276 => pyEq x275 x276))).bind fun b288 => if b288 = true then (((Rs.ok (PyData.bool false)).bind fun x277 => Rs.ok (Out.rt x277)) : Rs (Out (Unit))) else (Rs.ok (Out.nx ()))).go fun (s278 : Unit) => (b_law_next_k6 a_cards a_rule)))
def b_law_next_k8 (a_cards : D) (a_rule : D) (a_call : D) : Rs (Out (Unit)) := (((Rs.ok a_cards).bind fun x196 => (lstD ((((Rs.ok a_cards).bind fun x192 => (Rs.ok (PyData.int 0)).bind fun x193 => pyIx x192 x193).bind fun x194 => (Rs.ok []).bind fun x195 => Rs.ok (x194 :: x195)).bind mkLst)).bind fun x197 => pyAdd x196 x197).bind fun v177 => (((tst ((((Rs.ok a_cards).bind pyLen).bind fun x212 => ((Rs.ok v177).bind fun x209 => (Rs.ok a_rule).bind fun x210 => (Rs.ok a_call).bind fun x211 => m_winners x209 x210 x211).bind fun x213 => pyIn x212 x213).bind fun x230 => ((Rs.ok (PyData.int 0)).bind fun x228 => ((Rs.ok v177).bind fun x225 => (Rs.ok a_rule).bind fun x226 => (Rs.ok a_call).bind fun x227 => m_winners x225 x226 x227).bind fun x229 => pyIn x228 x229).bind fun x231 => pyNe x230 x231)).bind fun b289 => if b289 = true then (((Rs.ok (PyData.bool false)).bind fun x232 => Rs.ok (Out.rt x232)) : Rs (Out (Unit))) else (Rs.ok (Out.nx ()))).go fun (s233 : Unit) => (b_law_next_k7 a_cards a_rule a_call)))
def b_law_next_k9 (a_first : D) (a_cards : D) (a_rule : D) (a_call : D) : Rs (Out (Unit)) := (((tst ((Rs.ok a_first).bind fun x117 => (lstD ((Rs.ok []).bind mkLst)).bind fun x118 => pyNe x117 x118)).bind fun b290 => if b290 = true then (((((Rs.ok a_cards).bind fun x133 => ((Rs.ok a_first).bind fun x131 => (Rs.ok (PyData.int 0)).bind fun x132 => pyIx x131 x132).bind fun x134 => pyIx x133 x134).bind fun x135 => (Rs.ok a_rule).bind fun x136 => (Rs.ok a_call).bind fun x137 => m_finished_at x135 x136 x137).bind fun v119 => (((tst (((Rs.ok a_cards).bind fun x147 => (Rs.ok a_rule).bind fun x148 => ((Rs.ok a_call).bind fun x144 => (Rs.ok none).bind fun x145 => (part (Rs.ok v119)).bind fun x146 => pySlice x144 x145 x146).bind fun x149 => m_winners x147 x148 x149).bind fun x150 => (Rs.ok a_first).bind fun x151 => pyNe x150 x151)).bind fun b175 => if b175 = true then (((Rs.ok (PyData.bool false)).bind fun x152 => Rs.ok (Out.rt x152)) : Rs (Out (Unit))) else (Rs.ok (Out.nx ()))).go fun (s153 : Unit) => (b_law_next_k5 a_cards a_rule a_call v119))) : Rs (Out (Unit))) else (Rs.ok (Out.nx ()))).go fun (s176 : Unit) => (b_law_next_k8 a_cards a_rule a_call))
def b_law_next_k10 (a_first : D) (a_cards : D) (a_rule : D) (a_call : D) (v1 : D) : Rs (Out (Unit)) := (((tst ((Rs.ok a_first).bind fun x14 => (lstD ((Rs.ok []).bind mkLst)).bind fun x15 => pyEq x14 x15)).bind fun b291 => if b291 = true then (((lstD ((Rs.ok []).bind mkLst)).bind fun v16 => ((((Rs.ok a_cards).bind fun x18 => (ofList x18).bind fun x19 => Rs.ok (enumD x19)).bind fun xs20 => forO (fun (s17 : D) d23 => un2 d23 (b_law_next_b1 a_rule a_call s17)) xs20 v16).go fun s17 => (b_law_next_k4 v1 s17 a_cards a_rule a_call))) : Rs (Out (Unit))) else (Rs.ok (Out.nx ()))).go fun (s116 : Unit) => (b_law_next_k9 a_first a_cards a_rule a_call))
def b_law_next (a_cards a_rule a_call a_first : D) : Rs (Out Unit) := (((Rs.ok a_cards).bind fun x5 => (Rs.ok a_rule).bind fun x6 => (Rs.ok a_call).bind fun x7 => m_next_winners x5 x6 x7).bind fun v1 => (((andT (tst ((Rs.ok a_first).bind fun x8 => (lstD ((Rs.ok []).bind mkLst)).bind fun x9 => pyNe x8 x9)) (tst ((Rs.ok v1).bind fun x10 => (lstD ((Rs.ok []).bind mkLst)).bind fun x11 => pyNe x10 x11))).bind fun b292 => if b292 = true then (((Rs.ok (PyData.bool false)).bind fun x12 => Rs.ok (Out.rt x12)) : Rs (Out (Unit))) else (Rs.ok (Out.nx ()))).go fun (s13 : Unit) => (b_law_next_k10 a_first a_cards a_rule a_call v1)))
def m_law_next (a_cards a_rule a_call a_first : D) : Rs D := (b_law_next a_cards a_rule a_call a_first).fin
def b_law_k10_k1 (s63 : D × D) (d65 : D) (v66 : List D) : Rs (Out (D × D)) := (((Rs.ok s63.1).bind fun x98 => (Rs.ok d65).bind fun x99 => pyAdd x98 x99).bind fun v97 => ((Rs.ok (PyData.list v66)).bind fun x103 => (Rs.ok (PyData.int 0)).bind fun x104 => pyIx x103 x104).bind fun v102 => (Rs.ok (Out.nx (v97, v102))))
def b_law_k10_k2 (v66 : List D) (s63 : D × D) (d65 : D) : Rs (Out (D × D)) := (((orT (tst (((Rs.ok (PyData.list v66)).bind fun x83 => (Rs.ok (PyData.int 0)).bind fun x84 => pyIx x83 x84).bind fun x85 => (Rs.ok PyData.none).bind fun x86 => pyIs x85 x86)) (tst (((Rs.ok (PyData.list v66)).bind fun x89 => (Rs.ok (PyData.int 0)).bind fun x90 => pyIx x89 x90).bind fun x91 => (Rs.ok s63.2).bind fun x92 => pyLe x91 x92))).bind fun b105 => if b105 = true then (((Rs.ok (PyData.bool false)).bind fun x93 => Rs.ok (Out.rt x93)) : Rs (Out (Unit))) else (Rs.ok (Out.nx ()))).go fun (s94 : Unit) => (b_law_k10_k1 s63 d65 v66))
def b_law_k10_b3 (v1 : List D) (v23 : D) (v30 : D) (s63 : D × D) (d65 : D) : Rs (Out (D × D)) := ((comp ((Rs.ok d65).bind ofSeq) fun d67 => eltO (Rs.ok true) (((Rs.ok (PyData.list v1)).bind fun x68 => (Rs.ok d67).bind fun x69 => pyIx x68 x69).bind fun x70 => (Rs.ok v23).bind fun x71 => (Rs.ok v30).bind fun x72 => m_finished_at x70 x71 x72)).bind fun v66 => (((orT (tst ((Rs.ok d65).bind fun x73 => (lstD ((Rs.ok []).bind mkLst)).bind fun x74 => pyEq x73 x74)) (orT (tst ((Rs.ok d65).bind fun x75 => (lstD ((Rs.ok d65).bind pySortedSet)).bind fun x76 => pyNe x75 x76)) (tst (((Rs.ok (PyData.list v66)).bind pyLenSet).bind fun x77 => (Rs.ok (PyData.int 1)).bind fun x78 => pyNe x77 x78)))).bind fun b106 => if b106 = true then (((Rs.ok (PyData.bool false)).bind fun x79 => Rs.ok (Out.rt x79)) : Rs (Out (Unit))) else (Rs.ok (Out.nx ()))).go fun (s80 : Unit) => (b_law_k10_k2 v66 s63 d65)))
def b_law_k10_k4 (v1 : List D) (v23 : D) (v30 : D) (v45 : D) : Rs (Out (Unit)) := (((Rs.ok (PyData.list v1)).bind fun x137 => (Rs.ok v23).bind fun x138 => (Rs.ok v30).bind fun x139 => (Rs.ok v45).bind fun x140 => m_law_next x137 x138 x139 x140).bind fun x141 => Rs.ok (Out.rt x141))
def b_law_k10_k5 (s63 : D × D) (v1 : List D) (v23 : D) (v30 : D) (v45 : D) : Rs (Out (Unit)) := (((tst ((lstD ((Rs.ok s63.1).bind pySorted)).bind fun x133 => (lstD (comp ((Rs.ok (PyData.list v1)).bind fun x120 => (ofList x120).bind fun x121 => Rs.ok (enumD x121)) fun d124 => un2 d124 fun d122 d123 => eltO (tst (((Rs.ok d123).bind fun x128 => (Rs.ok v23).bind fun x129 => (Rs.ok v30).bind fun x130 => m_finished_at x128 x129 x130).bind fun x131 => (Rs.ok PyData.none).bind fun x132 => pyIsNot x131 x132)) (Rs.ok d122))).bind fun x134 => pyNe x133 x134)).bind fun b142 => if b142 = true then (((Rs.ok (PyData.bool false)).bind fun x135 => Rs.ok (Out.rt x135)) : Rs (Out (Unit))) else (Rs.ok (Out.nx ()))).go fun (s136 : Unit) => (b_law_k10_k4 v1 v23 v30 v45))
def b_law_k10_k6 (v38 : D) (v1 : List D) (v23 : D) (v30 : D) (v45 : D) : Rs (Out (Unit)) := ((lstD ((Rs.ok []).bind mkLst)).bind fun v61 => (Rs.ok (PyData.int 0)).bind fun v62 => ((((Rs.ok v38).bind ofSeq).bind fun xs64 => forO (b_law_k10_b3 v1 v23 v30) xs64 (v61, v62)).go fun s63 => (b_law_k10_k5 s63 v1 v23 v30 v45)))
def b_law_k10 (a_script : D) : Rs (Out Unit) := ((comp (((Rs.ok (PyData.int 1)).bind fun x8 => ((Rs.ok a_script).bind fun x5 => (Rs.ok (PyData.int 1)).bind fun x6 => (Rs.ok (PyData.int 4)).bind fun x7 => m_law_drawn x5 x6 x7).bind fun x9 => pyAdd x8 x9).bind fun x10 => pyRange (PyData.int 0) x10) fun d11 => eltO (Rs.ok true) ((Rs.ok a_script).bind fun x18 => ((Rs.ok (PyData.int 10)).bind fun x16 => ((Rs.ok (PyData.int 20)).bind fun x14 => (Rs.ok d11).bind fun x15 => pyMul x14 x15).bind fun x17 => pyAdd x16 x17).bind fun x19 => (Rs.ok (PyData.int 16)).bind fun x20 => m_law_card x18 x19 x20)).bind fun v1 => (((Rs.ok a_script).bind fun x24 => (Rs.ok (PyData.int 2)).bind fun x25 => m_law_rule x24 x25).bind fun v23 => ((Rs.ok a_script).bind fun x31 => (Rs.ok (PyData.int 100)).bind fun x32 => (Rs.ok (PyData.int 16)).bind fun x33 => (Rs.ok (PyData.int 12)).bind fun x34 => m_law_call x31 x32 x33 x34).bind fun v30 => (((Rs.ok (PyData.list v1)).bind fun x39 => (Rs.ok v23).bind fun x40 => (Rs.ok v30).bind fun x41 => m_places x39 x40 x41).bind fun v38 => ((Rs.ok (PyData.list v1)).bind fun x46 => (Rs.ok v23).bind fun x47 => (Rs.ok v30).bind fun x48 => m_winners x46 x47 x48).bind fun v45 => (((tst ((Rs.ok v45).bind fun x57 => (ifE (tst ((Rs.ok v38).bind fun x53 => (lstD ((Rs.ok []).bind mkLst)).bind fun x54 => pyNe x53 x54)) ((Rs.ok v38).bind fun x55 => (Rs.ok (PyData.int 0)).bind fun x56 => pyIx x55 x56) (lstD ((Rs.ok []).bind mkLst))).bind fun x58 => pyNe x57 x58)).bind fun b143 => if b143 = true then (((Rs.ok (PyData.bool false)).bind fun x59 => Rs.ok (Out.rt x59)) : Rs (Out (Unit))) else (Rs.ok (Out.nx ()))).go fun (s60 : Unit) => (b_law_k10_k6 v38 v1 v23 v30 v45)))))
def m_law_k10 (a_script : D) : Rs D := (b_law_k10 a_script).fin
def b_shortest (a_found : D) : Rs (Out Unit) := ((ifE (tst ((Rs.ok a_found).bind fun x1 => (lstD ((Rs.ok []).bind mkLst)).bind fun x2 => pyNe x1 x2)) (lstD ((((lstD (comp ((Rs.ok a_found).bind ofSeq) fun d40 => eltO (Rs.ok true) ((((Rs.ok d40).bind pyLen).bind fun x43 => ((Rs.ok d40).bind fun x41 => (Rs.ok []).bind fun x42 => Rs.ok (x41 :: x42)).bind fun x44 => Rs.ok (x43 :: x44)).bind mkTup))).bind pyMinD).bind fun x45 => (Rs.ok (PyData.int 1)).bind fun x46 => pyIx x45 x46).bind pyList)) (Rs.ok PyData.none)).bind fun x47 => Rs.ok (Out.rt x47))
def m_shortest (a_found : D) : Rs D := (b_shortest a_found).fin
def b_other_lines_b1 (a_index : D) (a_rule : D) (s2 : List D) (d6 : D) (d7 : D) : Rs (Out (List D)) := (((tst ((Rs.ok d6).bind fun x9 => (Rs.ok a_index).bind fun x10 => pyNe x9 x10)).bind fun b18 => if b18 = true then ((((Rs.ok d7).bind fun x13 => (Rs.ok a_rule).bind fun x14 => m_find_lines x13 x14).bind fun x15 => (ofSeq x15).bind fun x16 => if s2.length + x16.length ≤ sizeMax then (Rs.ok (Out.nx (s2 ++ x16))) else Rs.bad) : Rs (Out (List D))) else (Rs.ok (Out.nx s2))).go fun (s17 : List D) => (Rs.ok (Out.nx s17)))
def b_other_lines_k2 (s2 : List D) : Rs (Out (Unit)) := ((Rs.ok (PyData.list s2)).bind fun x19 => Rs.ok (Out.rt x19))
def b_other_lines (a_cards a_rule a_index : D) : Rs (Out Unit) := (((Rs.ok []).bind mkLst).bind fun v1 => ((((Rs.ok a_cards).bind fun x3 => (ofList x3).bind fun x4 => Rs.ok (enumD x4)).bind fun xs5 => forO (fun (s2 : List D) d8 => un2 d8 (b_other_lines_b1 a_index a_rule s2)) xs5 v1).go fun s2 => (b_other_lines_k2 s2)))
def m_other_lines (a_cards a_rule a_index : D) : Rs D := (b_other_lines a_cards a_rule a_index).fin
def b_lone_lines (a_card a_known a_rule : D) : Rs (Out Unit) := ((lstD (comp (((Rs.ok a_card).bind fun x3 => (Rs.ok a_rule).bind fun x4 => m_find_lines x3 x4).bind ofSeq) fun d5 => eltO (notT (tst ((lstD (comp ((Rs.ok a_known).bind ofSeq) fun d9 => eltO (Rs.ok true) ((Rs.ok d9).bind fun x10 => (Rs.ok d5).bind fun x11 => m_holds x10 x11))).bind pyAny))) (Rs.ok d5))).bind fun x12 => Rs.ok (Out.rt x12))
def m_lone_lines (a_card a_known a_rule : D) : Rs D := (b_lone_lines a_card a_known a_rule).fin
def b_check_index (a_cards a_rule a_index : D) : Rs (Out Unit) := (((Rs.ok a_cards).bind fun x1 => (Rs.ok a_rule).bind fun x2 => m_check_cards x1 x2).bind fun _x10 => (((notT (tst ((Rs.ok a_index).bind fun x5 => (Rs.ok (PyData.int 0)).bind fun x6 => (((Rs.ok a_cards).bind pyLen).bind fun x3 => (Rs.ok (PyData.int 1)).bind fun x4 => pySub x3 x4).bind fun x7 => m_is_int x5 x6 x7))).bind fun b9 => if b9 = true then ((Rs.exc "InvalidIndex") : Rs (Out (Unit))) else (Rs.ok (Out.nx ()))).go fun (s8 : Unit) => (Rs.ok (Out.nx ()))))
def m_check_index (a_cards a_rule a_index : D) : Rs D := (b_check_index a_cards a_rule a_index).fin
def b_find_later (a_one a_other a_rule : D) : Rs (Out Unit) := (((Rs.ok a_one).bind m_check_card).bind fun _x12 => (((Rs.ok a_other).bind m_check_card).bind fun _x11 => (((Rs.ok a_rule).bind m_check_rule).bind fun _x10 => (((Rs.ok a_other).bind fun x6 => ((Rs.ok a_one).bind fun x4 => (Rs.ok a_rule).bind fun x5 => m_find_lines x4 x5).bind fun x7 => (Rs.ok a_rule).bind fun x8 => m_lone_lines x6 x7 x8).bind fun x9 => Rs.ok (Out.rt x9)))))
def m_find_later (a_one a_other a_rule : D) : Rs D := (b_find_later a_one a_other a_rule).fin
def b_can_win_alone (a_cards a_rule a_index : D) : Rs (Out Unit) := (((Rs.ok a_cards).bind fun x1 => (Rs.ok a_rule).bind fun x2 => (Rs.ok a_index).bind fun x3 => m_check_index x1 x2 x3).bind fun _x23 => (((((Rs.ok a_cards).bind fun x12 => (Rs.ok a_index).bind fun x13 => pyIx x12 x13).bind fun x17 => ((Rs.ok a_cards).bind fun x14 => (Rs.ok a_rule).bind fun x15 => (Rs.ok a_index).bind fun x16 => m_other_lines x14 x15 x16).bind fun x18 => (Rs.ok a_rule).bind fun x19 => m_lone_lines x17 x18 x19).bind fun x20 => (lstD ((Rs.ok []).bind mkLst)).bind fun x21 => pyNe x20 x21).bind fun x22 => Rs.ok (Out.rt x22)))
def m_can_win_alone (a_cards a_rule a_index : D) : Rs D := (b_can_win_alone a_cards a_rule a_index).fin
def b_can_win_b1 (v4 : D) (s11 : Unit) (d21 : D) : Rs (Out (Unit)) := ((comp ((Rs.ok v4).bind ofSeq) fun d23 => eltO (tst ((Rs.ok d23).bind fun x24 => (Rs.ok d21).bind fun x25 => m_holds x24 x25)) (Rs.ok d23)).bind fun v22 => (((tst ((lstD (comp ((Rs.ok d21).bind ofSeq) fun d33 => eltO (Rs.ok true) ((lstD (comp ((Rs.ok (PyData.list v22)).bind ofSeq) fun d37 => eltO (Rs.ok true) ((Rs.ok d33).bind fun x38 => (Rs.ok d37).bind fun x39 => pyIn x38 x39))).bind pyAll))).bind pyAny)).bind fun b42 => if b42 = true then (((Rs.ok (PyData.bool true)).bind fun x40 => Rs.ok (Out.rt x40)) : Rs (Out (Unit))) else (Rs.ok (Out.nx ()))).go fun (s41 : Unit) => (Rs.ok (Out.nx ()))))
def b_can_win_k2  : Rs (Out (Unit)) := ((Rs.ok (PyData.bool false)).bind fun x43 => Rs.ok (Out.rt x43))
def b_can_win (a_cards a_rule a_index : D) : Rs (Out Unit) := (((Rs.ok a_cards).bind fun x1 => (Rs.ok a_rule).bind fun x2 => (Rs.ok a_index).bind fun x3 => m_check_index x1 x2 x3).bind fun _x44 => (((Rs.ok a_cards).bind fun x8 => (Rs.ok a_rule).bind fun x9 => (Rs.ok a_index).bind fun x10 => m_other_lines x8 x9 x10).bind fun v4 => ((((((Rs.ok a_cards).bind fun x16 => (Rs.ok a_index).bind fun x17 => pyIx x16 x17).bind fun x18 => (Rs.ok a_rule).bind fun x19 => m_find_lines x18 x19).bind ofSeq).bind fun xs20 => forO (b_can_win_b1 v4) xs20 ()).go fun s11 => (b_can_win_k2))))
def m_can_win (a_cards a_rule a_index : D) : Rs D := (b_can_win a_cards a_rule a_index).fin
def b_winning_call (a_cards a_rule a_index : D) : Rs (Out Unit) := (((Rs.ok a_cards).bind fun x1 => (Rs.ok a_rule).bind fun x2 => (Rs.ok a_index).bind fun x3 => m_check_index x1 x2 x3).bind fun _x14 => (((((Rs.ok a_cards).bind fun x4 => (Rs.ok a_index).bind fun x5 => pyIx x4 x5).bind fun x9 => ((Rs.ok a_cards).bind fun x6 => (Rs.ok a_rule).bind fun x7 => (Rs.ok a_index).bind fun x8 => m_other_lines x6 x7 x8).bind fun x10 => (Rs.ok a_rule).bind fun x11 => m_lone_lines x9 x10 x11).bind m_shortest).bind fun x13 => Rs.ok (Out.rt x13)))
def m_winning_call (a_cards a_rule a_index : D) : Rs D := (b_winning_call a_cards a_rule a_index).fin
def b_is_never_later (a_one a_other a_rule : D) : Rs (Out Unit) := ((((Rs.ok a_one).bind fun x4 => (Rs.ok a_other).bind fun x5 => (Rs.ok a_rule).bind fun x6 => m_find_later x4 x5 x6).bind fun x7 => (lstD ((Rs.ok []).bind mkLst)).bind fun x8 => pyEq x7 x8).bind fun x9 => Rs.ok (Out.rt x9))
def m_is_never_later (a_one a_other a_rule : D) : Rs D := (b_is_never_later a_one a_other a_rule).fin
def b_later_call (a_one a_other a_rule : D) : Rs (Out Unit) := ((((Rs.ok a_one).bind fun x1 => (Rs.ok a_other).bind fun x2 => (Rs.ok a_rule).bind fun x3 => m_find_later x1 x2 x3).bind m_shortest).bind fun x5 => Rs.ok (Out.rt x5))
def m_later_call (a_one a_other a_rule : D) : Rs D := (b_later_call a_one a_other a_rule).fin
def b_count_apart_b1  (s3 : List D × D) (d5 : D) : Rs (Out (List D × D)) := (((notT (tst ((lstD (comp ((Rs.ok d5).bind ofSeq) fun d9 => eltO (Rs.ok true) ((Rs.ok d9).bind fun x10 => (Rs.ok (PyData.list s3.1)).bind fun x11 => pyIn x10 x11))).bind pyAny))).bind fun b20 => if b20 = true then (((Rs.ok d5).bind fun x12 => (ofSeq x12).bind fun x13 => if s3.1.length + x13.length ≤ sizeMax then (((Rs.ok s3.2).bind fun x17 => (Rs.ok (PyData.int 1)).bind fun x18 => pyAdd x17 x18).bind fun v14 => (Rs.ok (Out.nx ((s3.1 ++ x13), v14)))) else Rs.bad) : Rs (Out (List D × D))) else (Rs.ok (Out.nx (s3.1, s3.2)))).go fun (s19 : List D × D) => (Rs.ok (Out.nx (s19.1, s19.2))))
def b_count_apart (a_some : D) : Rs (Out Unit) := (((Rs.ok []).bind mkLst).bind fun v1 => (Rs.ok (PyData.int 0)).bind fun v2 => ((((Rs.ok a_some).bind ofSeq).bind fun xs4 => forO (b_count_apart_b1) xs4 (v1, v2)).go fun s3 => ((Rs.ok s3.2).bind fun x21 => Rs.ok (Out.rt x21))))
def m_count_apart (a_some : D) : Rs D := (b_count_apart a_some).fin
def b_law_sets_b1  (s16 : D) (d18 : D) : Rs (Out (D)) := (((Rs.ok s16).bind fun x98 => (lstD (comp (((ifE (tst ((Rs.ok d18).bind fun x83 => ((Rs.ok []).bind mkTup).bind fun x84 => pyNe x83 x84)) ((Rs.ok d18).bind fun x85 => ((Rs.ok (PyData.int 1)).bind pyNeg).bind fun x86 => pyIx x85 x86) (Rs.ok (PyData.int 0))).bind fun x87 => (Rs.ok (PyData.int 1)).bind fun x88 => pyAdd x87 x88).bind fun x89 => (Rs.ok (PyData.int 10)).bind fun x90 => pyRange x89 x90) fun d91 => eltO (Rs.ok true) ((Rs.ok d18).bind fun x96 => (((Rs.ok d91).bind fun x94 => (Rs.ok []).bind fun x95 => Rs.ok (x94 :: x95)).bind mkTup).bind fun x97 => pyAdd x96 x97))).bind fun x99 => pyAdd x98 x99).bind fun v19 => (Rs.ok (Out.nx v19)))
def b_law_sets_k2 (s11 : D × D) (s16 : D) : Rs (Out (D × D)) := (((Rs.ok s11.1).bind fun x103 => (Rs.ok s16).bind fun x104 => pyAdd x103 x104).bind fun v102 => (Rs.ok s16).bind fun v105 => (Rs.ok (Out.nx (v102, v105))))
def b_law_sets_b3  (s11 : D × D) (d14 : D) : Rs (Out (D × D)) := ((lstD ((Rs.ok []).bind mkLst)).bind fun v15 => ((((Rs.ok s11.2).bind ofSeq).bind fun xs17 => forO (b_law_sets_b1) xs17 v15).go fun s16 => (b_law_sets_k2 s11 s16)))
def b_law_sets_k4 (s11 : D × D) : Rs (Out (Unit)) := ((Rs.ok s11.1).bind fun x106 => Rs.ok (Out.rt x106))
def b_law_sets (a_most : D) : Rs (Out Unit) := ((lstD ((((Rs.ok []).bind mkTup).bind fun x4 => (Rs.ok []).bind fun x5 => Rs.ok (x4 :: x5)).bind mkLst)).bind fun v3 => (lstD ((((Rs.ok []).bind mkTup).bind fun x9 => (Rs.ok []).bind fun x10 => Rs.ok (x9 :: x10)).bind mkLst)).bind fun v8 => ((((Rs.ok a_most).bind fun x12 => pyRange (PyData.int 0) x12).bind fun xs13 => forO (b_law_sets_b3) xs13 (v3, v8)).go fun s11 => (b_law_sets_k4 s11)))
def m_law_sets (a_most : D) : Rs D := (b_law_sets a_most).fin
def b_law_best_b1 (a_known : D) (s1 : Unit) (d5 : D) : Rs (Out (Unit)) := (((tst ((lstD (comp ((Rs.ok a_known).bind ofSeq) fun d15 => eltO (tst ((lstD (comp ((Rs.ok d15).bind ofSeq) fun d19 => eltO (tst ((Rs.ok d19).bind fun x20 => (Rs.ok d5).bind fun x21 => pyIn x20 x21)) (Rs.ok d19))).bind fun x22 => (lstD ((Rs.ok []).bind mkLst)).bind fun x23 => pyEq x22 x23)) (Rs.ok d15))).bind fun x24 => (lstD ((Rs.ok []).bind mkLst)).bind fun x25 => pyEq x24 x25)).bind fun b28 => if b28 = true then (((Rs.ok d5).bind fun x26 => Rs.ok (Out.rt x26)) : Rs (Out (Unit))) else (Rs.ok (Out.nx ()))).go fun (s27 : Unit) => (Rs.ok (Out.nx ())))
def b_law_best_k2  : Rs (Out (Unit)) := ((Rs.ok PyData.none).bind fun x29 => Rs.ok (Out.rt x29))
def b_law_best (a_known : D) : Rs (Out Unit) := (((((Rs.ok (PyData.int 5)).bind m_law_sets).bind ofSeq).bind fun xs4 => forO (b_law_best_b1 a_known) xs4 ()).go fun s1 => (b_law_best_k2))
def m_law_best (a_known : D) : Rs D := (b_law_best a_known).fin
def b_check_two (a_card a_rule : D) : Rs (Out Unit) := (((Rs.ok a_card).bind m_check_card).bind fun _x4 => (((Rs.ok a_rule).bind m_check_rule).bind fun _x3 => (Rs.ok (Out.nx ()))))
def m_check_two (a_card a_rule : D) : Rs D := (b_check_two a_card a_rule).fin
def b_earliest (a_card a_rule : D) : Rs (Out Unit) := (((Rs.ok a_card).bind fun x1 => (Rs.ok a_rule).bind fun x2 => m_check_two x1 x2).bind fun _x14 => (((lstD (comp (((Rs.ok a_card).bind fun x10 => (Rs.ok a_rule).bind fun x11 => m_find_lines x10 x11).bind ofSeq) fun d12 => eltO (Rs.ok true) ((Rs.ok d12).bind pyLen))).bind pyMinI).bind fun x13 => Rs.ok (Out.rt x13)))
def m_earliest (a_card a_rule : D) : Rs D := (b_earliest a_card a_rule).fin
def b_can_meet_k1 (a_some : D) (a_many : D) (recF : D → D → Rs D) : Rs (Out (Unit)) := (((lstD (comp (((Rs.ok a_some).bind fun x25 => (Rs.ok (PyData.int 0)).bind fun x26 => pyIx x25 x26).bind ofSeq) fun d27 => eltO (Rs.ok true) ((lstD (comp ((Rs.ok a_some).bind ofSeq) fun d28 => eltO (tst ((Rs.ok d27).bind fun x29 => (Rs.ok d28).bind fun x30 => pyNotIn x29 x30)) (Rs.ok d28))).bind fun x33 => ((Rs.ok a_many).bind fun x31 => (Rs.ok (PyData.int 1)).bind fun x32 => pySub x31 x32).bind fun x34 => recF x33 x34))).bind pyAny).bind fun x35 => Rs.ok (Out.rt x35))
def b_can_meet_k2 (a_some : D) (a_many : D) (recF : D → D → Rs D) : Rs (Out (Unit)) := (((tst (((Rs.ok a_some).bind m_count_apart).bind fun x7 => (Rs.ok a_many).bind fun x8 => pyGt x7 x8)).bind fun b36 => if b36 = true then (((Rs.ok (PyData.bool false)).bind fun x9 => Rs.ok (Out.rt x9)) : Rs (Out (Unit))) else (Rs.ok (Out.nx ()))).go fun (s10 : Unit) => (b_can_meet_k1 a_some a_many recF))
def b_can_meet (recF : D → D → Rs D) (a_some a_many : D) : Rs (Out Unit) := (((tst ((Rs.ok a_some).bind fun x1 => (lstD ((Rs.ok []).bind mkLst)).bind fun x2 => pyEq x1 x2)).bind fun b37 => if b37 = true then (((Rs.ok (PyData.bool true)).bind fun x3 => Rs.ok (Out.rt x3)) : Rs (Out (Unit))) else (Rs.ok (Out.nx ()))).go fun (s4 : Unit) => (b_can_meet_k2 a_some a_many recF))
def m_can_meet_n (n : Nat) : D → D → Rs D := match n with | 0 => fun _ _ => Rs.bad | n + 1 => fun a_some a_many => (b_can_meet (m_can_meet_n n) a_some a_many).fin
def m_can_meet (a_some a_many : D) : Rs D := m_can_meet_n 24 a_some a_many
def b_find_fewest_c1 (a_some : D) (s4 : D) : Rs Bool := (notT (tst ((Rs.ok a_some).bind fun x5 => (Rs.ok s4).bind fun x6 => m_can_meet x5 x6)))
def b_find_fewest_b2  (s4 : D) : Rs (Out (D)) := (((Rs.ok s4).bind fun x10 => (Rs.ok (PyData.int 1)).bind fun x11 => pyAdd x10 x11).bind fun v7 => (Rs.ok (Out.nx v7)))
def b_find_fewest (a_some : D) : Rs (Out Unit) := (((Rs.ok a_some).bind m_count_apart).bind fun v1 => ((whileO (b_find_fewest_c1 a_some) (b_find_fewest_b2) 200 v1).go fun s4 => ((Rs.ok s4).bind fun x12 => Rs.ok (Out.rt x12))))
def m_find_fewest (a_some : D) : Rs D := (b_find_fewest a_some).fin
def b_fewest_open (a_card a_rule : D) : Rs (Out Unit) := (((Rs.ok a_card).bind fun x1 => (Rs.ok a_rule).bind fun x2 => m_check_two x1 x2).bind fun _x7 => ((((Rs.ok a_card).bind fun x3 => (Rs.ok a_rule).bind fun x4 => m_find_lines x3 x4).bind m_find_fewest).bind fun x6 => Rs.ok (Out.rt x6)))
def m_fewest_open (a_card a_rule : D) : Rs D := (b_fewest_open a_card a_rule).fin
def b_open_numbers_b1 (v9 : D) (s12 : D × D) (d18 : D) : Rs (Out (D × D)) := ((comp ((Rs.ok s12.1).bind ofSeq) fun d20 => eltO (tst ((Rs.ok d18).bind fun x21 => (Rs.ok d20).bind fun x22 => pyNotIn x21 x22)) (Rs.ok d20)).bind fun v19 => (((andT (tst (((Rs.ok s12.2).bind pyLen).bind fun x23 => (Rs.ok v9).bind fun x24 => pyLt x23 x24)) (andT (tst (((Rs.ok (PyData.list v19)).bind pyLen).bind fun x25 => ((Rs.ok s12.1).bind pyLen).bind fun x26 => pyLt x25 x26)) (tst ((Rs.ok (PyData.list v19)).bind fun x33 => (((Rs.ok v9).bind fun x29 => ((Rs.ok s12.2).bind pyLen).bind fun x30 => pySub x29 x30).bind fun x31 => (Rs.ok (PyData.int 1)).bind fun x32 => pySub x31 x32).bind fun x34 => m_can_meet x33 x34)))).bind fun b50 => if b50 = true then (((Rs.ok (PyData.list v19)).bind fun v35 => ((Rs.ok s12.2).bind fun x47 => (((Rs.ok d18).bind fun x45 => (Rs.ok []).bind fun x46 => Rs.ok (x45 :: x46)).bind mkTup).bind fun x48 => pyAdd x47 x48).bind fun v42 => (Rs.ok (Out.nx (v35, v42)))) : Rs (Out (D × D))) else (Rs.ok (Out.nx (s12.1, s12.2)))).go fun (s49 : D × D) => (Rs.ok (Out.nx (s49.1, s49.2)))))
def b_open_numbers (a_card a_rule : D) : Rs (Out Unit) := (((Rs.ok a_card).bind fun x1 => (Rs.ok a_rule).bind fun x2 => m_check_two x1 x2).bind fun _x52 => (((Rs.ok a_card).bind fun x6 => (Rs.ok a_rule).bind fun x7 => m_find_lines x6 x7).bind fun v5 => ((Rs.ok []).bind mkTup).bind fun v8 => (((Rs.ok v5).bind m_find_fewest).bind fun v9 => ((((Rs.ok (PyData.int 1)).bind fun x15 => ((Rs.ok (PyData.int 60)).bind fun x13 => (Rs.ok (PyData.int 1)).bind fun x14 => pyAdd x13 x14).bind fun x16 => pyRange x15 x16).bind fun xs17 => forO (b_open_numbers_b1 v9) xs17 (v5, v8)).go fun s12 => ((Rs.ok s12.2).bind fun x51 => Rs.ok (Out.rt x51))))))
def m_open_numbers (a_card a_rule : D) : Rs D := (b_open_numbers a_card a_rule).fin
def b_latest (a_card a_rule : D) : Rs (Out Unit) := (((Rs.ok a_card).bind fun x1 => (Rs.ok a_rule).bind fun x2 => m_check_two x1 x2).bind fun _x12 => (((Rs.ok (PyData.int 60)).bind fun x9 => (((Rs.ok a_card).bind fun x6 => (Rs.ok a_rule).bind fun x7 => m_find_lines x6 x7).bind m_find_fewest).bind fun x10 => pySub x9 x10).bind fun x11 => Rs.ok (Out.rt x11)))
def m_latest (a_card a_rule : D) : Rs D := (b_latest a_card a_rule).fin
def b_latest_hall (a_cards a_rule : D) : Rs (Out Unit) := (((Rs.ok a_cards).bind fun x1 => (Rs.ok a_rule).bind fun x2 => m_check_cards x1 x2).bind fun _x33 => ((lstD ((lstD (comp2 ((Rs.ok a_cards).bind ofSeq) fun d22 => comp (((Rs.ok d22).bind fun x26 => (Rs.ok a_rule).bind fun x27 => m_find_lines x26 x27).bind ofSeq) fun d23 => eltO (Rs.ok true) (Rs.ok d23))).bind pySortedSet)).bind fun v3 => (((Rs.ok (PyData.int 60)).bind fun x30 => ((Rs.ok v3).bind m_find_fewest).bind fun x31 => pySub x30 x31).bind fun x32 => Rs.ok (Out.rt x32))))
def m_latest_hall (a_cards a_rule : D) : Rs D := (b_latest_hall a_cards a_rule).fin
def b_law_error_5 (a_way a_one a_two : D) : Rs (Out Unit) := (tryO ((((Rs.ok a_way).bind fun x5 => pickF [lift2 m_earliest, lift2 m_fewest_open, lift2 m_latest, lift2 m_open_numbers, lift2 m_latest_hall] x5 fun f6 => ((Rs.ok a_one).bind fun x3 => ((Rs.ok a_two).bind fun x1 => (Rs.ok []).bind fun x2 => Rs.ok (x1 :: x2)).bind fun x4 => Rs.ok (x3 :: x4)).bind f6).bind fun _x7 => (Rs.ok (Out.nx ()))) : Rs (Out Unit)) (excIx ["InvalidCard", "InvalidRule", "InvalidCards"]) fun u9 => ((Rs.ok PyData.none).bind fun x8 => Rs.ok (Out.rt x8)))
def m_law_error_5 (a_way a_one a_two : D) : Rs D := (b_law_error_5 a_way a_one a_two).fin
def b_law_k17_k1 (d29 : D) (v24 : D) (v30 : D) : Rs (Out (Unit)) := (((tst (((Rs.ok d29).bind fun x66 => (Rs.ok v24).bind fun x67 => m_earliest x66 x67).bind fun x72 => ((lstD (comp ((Rs.ok v30).bind ofSeq) fun d71 => eltO (Rs.ok true) ((Rs.ok d71).bind pyLen))).bind pyMinI).bind fun x73 => pyNe x72 x73)).bind fun b76 => if b76 = true then (((Rs.ok (PyData.bool false)).bind fun x74 => Rs.ok (Out.rt x74)) : Rs (Out (Unit))) else (Rs.ok (Out.nx ()))).go fun (s75 : Unit) => (Rs.ok (Out.nx ())))
def b_law_k17_k2 (d29 : D) (v24 : D) (v35 : D) (v30 : D) : Rs (Out (Unit)) := (((tst (((Rs.ok d29).bind fun x54 => (Rs.ok v24).bind fun x55 => m_latest x54 x55).bind fun x60 => ((Rs.ok (PyData.int 60)).bind fun x58 => ((Rs.ok v35).bind pyLen).bind fun x59 => pySub x58 x59).bind fun x61 => pyNe x60 x61)).bind fun b77 => if b77 = true then (((Rs.ok (PyData.bool false)).bind fun x62 => Rs.ok (Out.rt x62)) : Rs (Out (Unit))) else (Rs.ok (Out.nx ()))).go fun (s63 : Unit) => (b_law_k17_k1 d29 v24 v30))
def b_law_k17_b3 (v24 : D) (s27 : Unit) (d29 : D) : Rs (Out (Unit)) := (((Rs.ok d29).bind fun x33 => (Rs.ok v24).bind fun x34 => m_law_lines x33 x34).bind fun v30 => (((Rs.ok v30).bind m_law_best).bind fun v35 => (((orT (tst (((Rs.ok d29).bind fun x40 => (Rs.ok v24).bind fun x41 => m_fewest_open x40 x41).bind fun x42 => ((Rs.ok v35).bind pyLen).bind fun x43 => pyNe x42 x43)) (tst (((Rs.ok d29).bind fun x46 => (Rs.ok v24).bind fun x47 => m_open_numbers x46 x47).bind fun x48 => (Rs.ok v35).bind fun x49 => pyNe x48 x49))).bind fun b78 => if b78 = true then (((Rs.ok (PyData.bool false)).bind fun x50 => Rs.ok (Out.rt x50)) : Rs (Out (Unit))) else (Rs.ok (Out.nx ()))).go fun (s51 : Unit) => (b_law_k17_k2 d29 v24 v35 v30))))
def b_law_k17_k4 (a_script : D) (v11 : D) : Rs (Out (Unit)) := (((Rs.ok a_script).bind fun x176 => (Rs.ok (PyData.int 3)).bind fun x177 => m_law_badcard x176 x177).bind fun v175 => ((lstD (((Rs.ok PyData.none).bind fun x233 => ((Rs.ok (PyData.str "")).bind fun x231 => ((Rs.ok (PyData.str "row")).bind fun x229 => ((Rs.ok (PyData.int 7)).bind fun x227 => ((((Rs.ok (PyData.str "all")).bind fun x223 => (Rs.ok []).bind fun x224 => Rs.ok (x223 :: x224)).bind mkTup).bind fun x225 => (Rs.ok []).bind fun x226 => Rs.ok (x225 :: x226)).bind fun x228 => Rs.ok (x227 :: x228)).bind fun x230 => Rs.ok (x229 :: x230)).bind fun x232 => Rs.ok (x231 :: x232)).bind fun x234 => Rs.ok (x233 :: x234)).bind mkLst)).bind fun x241 => ((Rs.ok a_script).bind fun x238 => (Rs.ok (PyData.int 4)).bind fun x239 => (Rs.ok (PyData.int 5)).bind fun x240 => m_law_drawn x238 x239 x240).bind fun x242 => pyIx x241 x242).bind fun v210 => (((lstD (((Rs.ok PyData.none).bind fun x358 => ((lstD ((Rs.ok []).bind mkLst)).bind fun x356 => (((((Rs.ok v11).bind fun x333 => (Rs.ok (PyData.int 0)).bind fun x334 => pyIx x333 x334).bind fun x335 => (Rs.ok []).bind fun x336 => Rs.ok (x335 :: x336)).bind mkTup).bind fun x354 => (((Rs.ok v11).bind fun x341 => (lstD (((Rs.ok v175).bind fun x339 => (Rs.ok []).bind fun x340 => Rs.ok (x339 :: x340)).bind mkLst)).bind fun x342 => pyAdd x341 x342).bind fun x352 => ((lstD (((Rs.ok v11).bind fun x343 => (ofList x343).bind fun x347 => (Rs.ok none).bind fun x345 => (part (Rs.ok (PyData.int 1))).bind fun x346 => Rs.ok (cutL x347 x345 x346)).bind fun x348 => (Rs.ok (PyData.int 7)).bind fun x349 => repL x348 x349)).bind fun x350 => (Rs.ok []).bind fun x351 => Rs.ok (x350 :: x351)).bind fun x353 => Rs.ok (x352 :: x353)).bind fun x355 => Rs.ok (x354 :: x355)).bind fun x357 => Rs.ok (x356 :: x357)).bind fun x359 => Rs.ok (x358 :: x359)).bind mkLst)).bind fun x366 => ((Rs.ok a_script).bind fun x363 => (Rs.ok (PyData.int 5)).bind fun x364 => (Rs.ok (PyData.int 5)).bind fun x365 => m_law_drawn x363 x364 x365).bind fun x367 => pyIx x366 x367).bind fun v243 => (((lstD (comp ((Rs.ok (PyData.int 4)).bind fun x396 => pyRange (PyData.int 0) x396) fun d397 => eltO (Rs.ok true) ((Rs.ok d397).bind fun x398 => (Rs.ok v175).bind fun x399 => (Rs.ok v210).bind fun x400 => m_law_error_5 x398 x399 x400))).bind fun x411 => (lstD ((((Rs.ok (PyData.int 4)).bind fun x406 => (Rs.ok v243).bind fun x407 => (Rs.ok v210).bind fun x408 => m_law_error_5 x406 x407 x408).bind fun x409 => (Rs.ok []).bind fun x410 => Rs.ok (x409 :: x410)).bind mkLst)).bind fun x412 => pyAdd x411 x412).bind fun v368 => ((((Rs.ok v368).bind fun x488 => (lstD (comp ((Rs.ok (PyData.int 4)).bind fun x481 => pyRange (PyData.int 0) x481) fun d482 => eltO (Rs.ok true) ((Rs.ok d482).bind fun x485 => ((Rs.ok v11).bind fun x483 => (Rs.ok (PyData.int 0)).bind fun x484 => pyIx x483 x484).bind fun x486 => (Rs.ok v210).bind fun x487 => m_law_error_5 x485 x486 x487))).bind fun x489 => pyAdd x488 x489).bind fun x500 => (lstD ((((Rs.ok (PyData.int 4)).bind fun x495 => (Rs.ok v11).bind fun x496 => (Rs.ok v210).bind fun x497 => m_law_error_5 x495 x496 x497).bind fun x498 => (Rs.ok []).bind fun x499 => Rs.ok (x498 :: x499)).bind mkLst)).bind fun x501 => pyAdd x500 x501).bind fun v413 => (((Rs.ok v413).bind fun x578 => (((lstD ((((Rs.ok (PyData.int 0)).bind fun x558 => (Rs.ok []).bind fun x559 => Rs.ok (x558 :: x559)).bind mkLst).bind fun x560 => (Rs.ok (PyData.int 4)).bind fun x561 => repL x560 x561)).bind fun x566 => (lstD (((Rs.ok (PyData.int 2)).bind fun x564 => (Rs.ok []).bind fun x565 => Rs.ok (x564 :: x565)).bind mkLst)).bind fun x567 => pyAdd x566 x567).bind fun x576 => (lstD ((((Rs.ok (PyData.int 1)).bind fun x572 => (Rs.ok []).bind fun x573 => Rs.ok (x572 :: x573)).bind mkLst).bind fun x574 => (Rs.ok (PyData.int 5)).bind fun x575 => repL x574 x575)).bind fun x577 => pyAdd x576 x577).bind fun x579 => pyEq x578 x579).bind fun x580 => Rs.ok (Out.rt x580))))))
def b_law_k17_k5 (v142 : D) (v24 : D) (a_script : D) (v11 : D) : Rs (Out (Unit)) := (((tst (((lstD (((Rs.ok v142).bind fun x161 => (Rs.ok []).bind fun x162 => Rs.ok (x161 :: x162)).bind mkLst)).bind fun x163 => (Rs.ok v24).bind fun x164 => m_latest_hall x163 x164).bind fun x169 => ((Rs.ok v142).bind fun x167 => (Rs.ok v24).bind fun x168 => m_latest x167 x168).bind fun x170 => pyNe x169 x170)).bind fun b581 => if b581 = true then (((Rs.ok (PyData.bool false)).bind fun x171 => Rs.ok (Out.rt x171)) : Rs (Out (Unit))) else (Rs.ok (Out.nx ()))).go fun (s172 : Unit) => (b_law_k17_k4 a_script v11))
def b_law_k17_k6 (a_script : D) (v24 : D) (v11 : D) : Rs (Out (Unit)) := (((Rs.ok a_script).bind fun x146 => (Rs.ok (PyData.int 70)).bind fun x147 => (Rs.ok (PyData.int 60)).bind fun x148 => m_law_card x146 x147 x148).bind fun v142 => (((tst (((Rs.ok v142).bind fun x151 => (Rs.ok (PyData.str "rows")).bind fun x152 => m_fewest_open x151 x152).bind fun x153 => ((Rs.ok v142).bind pyLen).bind fun x154 => pyNe x153 x154)).bind fun b582 => if b582 = true then (((Rs.ok (PyData.bool false)).bind fun x155 => Rs.ok (Out.rt x155)) : Rs (Out (Unit))) else (Rs.ok (Out.nx ()))).go fun (s156 : Unit) => (b_law_k17_k5 v142 v24 a_script v11)))
def b_law_k17_k7 (v79 : D) (v11 : D) (v24 : D) (a_script : D) : Rs (Out (Unit)) := (((andT (tst ((Rs.ok v79).bind fun x132 => (Rs.ok PyData.none).bind fun x133 => pyIs x132 x133)) (tst (((Rs.ok v11).bind fun x136 => (Rs.ok v24).bind fun x137 => m_latest_hall x136 x137).bind fun x138 => (Rs.ok (PyData.int 55)).bind fun x139 => pyGe x138 x139))).bind fun b583 => if b583 = true then (((Rs.ok (PyData.bool false)).bind fun x140 => Rs.ok (Out.rt x140)) : Rs (Out (Unit))) else (Rs.ok (Out.nx ()))).go fun (s141 : Unit) => (b_law_k17_k6 a_script v24 v11))
def b_law_k17_k8 (v11 : D) (v24 : D) (a_script : D) : Rs (Out (Unit)) := ((((((Rs.ok v11).bind fun x103 => (Rs.ok (PyData.int 0)).bind fun x104 => pyIx x103 x104).bind fun x105 => (Rs.ok v24).bind fun x106 => m_law_lines x105 x106).bind fun x115 => (((Rs.ok v11).bind fun x111 => (Rs.ok (PyData.int 1)).bind fun x112 => pyIx x111 x112).bind fun x113 => (Rs.ok v24).bind fun x114 => m_law_lines x113 x114).bind fun x116 => pyAdd x115 x116).bind m_law_best).bind fun v79 => (((andT (tst ((Rs.ok v79).bind fun x118 => (Rs.ok PyData.none).bind fun x119 => pyIsNot x118 x119)) (tst (((Rs.ok v11).bind fun x122 => (Rs.ok v24).bind fun x123 => m_latest_hall x122 x123).bind fun x128 => ((Rs.ok (PyData.int 60)).bind fun x126 => ((Rs.ok v79).bind pyLen).bind fun x127 => pySub x126 x127).bind fun x129 => pyNe x128 x129))).bind fun b584 => if b584 = true then (((Rs.ok (PyData.bool false)).bind fun x130 => Rs.ok (Out.rt x130)) : Rs (Out (Unit))) else (Rs.ok (Out.nx ()))).go fun (s131 : Unit) => (b_law_k17_k7 v79 v11 v24 a_script)))
def b_law_k17 (a_script : D) : Rs (Out Unit) := ((lstD ((((Rs.ok a_script).bind fun x12 => (Rs.ok (PyData.int 10)).bind fun x13 => (Rs.ok (PyData.int 9)).bind fun x14 => m_law_card x12 x13 x14).bind fun x20 => (((Rs.ok a_script).bind fun x15 => (Rs.ok (PyData.int 40)).bind fun x16 => (Rs.ok (PyData.int 9)).bind fun x17 => m_law_card x15 x16 x17).bind fun x18 => (Rs.ok []).bind fun x19 => Rs.ok (x18 :: x19)).bind fun x21 => Rs.ok (x20 :: x21)).bind mkLst)).bind fun v11 => ((Rs.ok a_script).bind fun x25 => (Rs.ok (PyData.int 2)).bind fun x26 => m_law_rule x25 x26).bind fun v24 => ((((Rs.ok v11).bind ofSeq).bind fun xs28 => forO (b_law_k17_b3 v24) xs28 ()).go fun s27 => (b_law_k17_k8 v11 v24 a_script)))
def m_law_k17 (a_script : D) : Rs D := (b_law_k17 a_script).fin
def b_law_halls_k1  : Rs (Out (Unit)) := ((Rs.ok (PyData.bool true)).bind fun x235 => Rs.ok (Out.rt x235))
def b_law_halls_k2 (a_card : D) (a_other : D) (v1 : D) (a_rule : D) : Rs (Out (Unit)) := (((tst ((lstD (comp (((Rs.ok a_card).bind m_numbers).bind ofSeq) fun d180 => eltO (tst ((Rs.ok d180).bind fun x183 => ((Rs.ok a_other).bind m_numbers).bind fun x184 => pyIn x183 x184)) (Rs.ok d180))).bind fun x185 => (lstD ((Rs.ok []).bind mkLst)).bind fun x186 => pyEq x185 x186)).bind fun b236 => if b236 = true then ((((Rs.ok v1).bind fun x231 => ((((Rs.ok a_card).bind fun x221 => (Rs.ok a_rule).bind fun x222 => m_latest x221 x222).bind fun x227 => ((Rs.ok a_other).bind fun x225 => (Rs.ok a_rule).bind fun x226 => m_latest x225 x226).bind fun x228 => pyAdd x227 x228).bind fun x229 => (Rs.ok (PyData.int 60)).bind fun x230 => pySub x229 x230).bind fun x232 => pyEq x231 x232).bind fun x233 => Rs.ok (Out.rt x233)) : Rs (Out (Unit))) else (Rs.ok (Out.nx ()))).go fun (s234 : Unit) => (b_law_halls_k1))
def b_law_halls_k3 (a_card : D) (a_other : D) (a_rule : D) (a_call : D) (v1 : D) : Rs (Out (Unit)) := (((lstD (((Rs.ok a_card).bind fun x124 => ((Rs.ok a_other).bind fun x122 => (Rs.ok []).bind fun x123 => Rs.ok (x122 :: x123)).bind fun x125 => Rs.ok (x124 :: x125)).bind mkLst)).bind fun x126 => (Rs.ok a_rule).bind fun x127 => (Rs.ok a_call).bind fun x128 => m_winners x126 x127 x128).bind fun v114 => (((tst ((((lstD (((Rs.ok a_card).bind fun x152 => ((Rs.ok a_other).bind fun x150 => (Rs.ok []).bind fun x151 => Rs.ok (x150 :: x151)).bind fun x153 => Rs.ok (x152 :: x153)).bind mkLst)).bind fun x158 => ((Rs.ok v114).bind fun x156 => (Rs.ok (PyData.int 0)).bind fun x157 => pyIx x156 x157).bind fun x159 => pyIx x158 x159).bind fun x160 => (Rs.ok a_rule).bind fun x161 => (Rs.ok a_call).bind fun x162 => m_finished_at x160 x161 x162).bind fun x167 => ((Rs.ok v1).bind fun x165 => (Rs.ok (PyData.int 1)).bind fun x166 => pyAdd x165 x166).bind fun x168 => pyGt x167 x168)).bind fun b237 => if b237 = true then (((Rs.ok (PyData.bool false)).bind fun x169 => Rs.ok (Out.rt x169)) : Rs (Out (Unit))) else (Rs.ok (Out.nx ()))).go fun (s170 : Unit) => (b_law_halls_k2 a_card a_other v1 a_rule)))
def b_law_halls_k4 (a_card : D) (a_rule : D) (a_other : D) (a_call : D) (v1 : D) : Rs (Out (Unit)) := (((tst (((lstD (((Rs.ok a_card).bind fun x102 => (Rs.ok []).bind fun x103 => Rs.ok (x102 :: x103)).bind mkLst)).bind fun x104 => (Rs.ok a_rule).bind fun x105 => m_latest_hall x104 x105).bind fun x110 => ((Rs.ok a_card).bind fun x108 => (Rs.ok a_rule).bind fun x109 => m_latest x108 x109).bind fun x111 => pyNe x110 x111)).bind fun b238 => if b238 = true then (((Rs.ok (PyData.bool false)).bind fun x112 => Rs.ok (Out.rt x112)) : Rs (Out (Unit))) else (Rs.ok (Out.nx ()))).go fun (s113 : Unit) => (b_law_halls_k3 a_card a_other a_rule a_call v1))
def b_law_halls_k5 (a_card : D) (a_rule : D) (a_other : D) (a_call : D) (v1 : D) : Rs (Out (Unit)) := (((tst (((lstD (((Rs.ok a_card).bind fun x86 => (((Rs.ok a_card).bind pyRev).bind fun x84 => (Rs.ok []).bind fun x85 => Rs.ok (x84 :: x85)).bind fun x87 => Rs.ok (x86 :: x87)).bind mkLst)).bind fun x88 => (Rs.ok (PyData.str "rows")).bind fun x89 => m_latest_hall x88 x89).bind fun x94 => ((Rs.ok a_card).bind fun x92 => (Rs.ok (PyData.str "rows")).bind fun x93 => m_latest x92 x93).bind fun x95 => pyNe x94 x95)).bind fun b239 => if b239 = true then (((Rs.ok (PyData.bool false)).bind fun x96 => Rs.ok (Out.rt x96)) : Rs (Out (Unit))) else (Rs.ok (Out.nx ()))).go fun (s97 : Unit) => (b_law_halls_k4 a_card a_rule a_other a_call v1))
def b_law_halls_k6 (v1 : D) (a_card : D) (a_rule : D) (a_other : D) (a_call : D) : Rs (Out (Unit)) := (((tst ((Rs.ok v1).bind fun x74 => ((((Rs.ok a_card).bind fun x64 => (Rs.ok a_rule).bind fun x65 => m_latest x64 x65).bind fun x70 => ((Rs.ok a_other).bind fun x68 => (Rs.ok a_rule).bind fun x69 => m_latest x68 x69).bind fun x71 => pyAdd x70 x71).bind fun x72 => (Rs.ok (PyData.int 60)).bind fun x73 => pySub x72 x73).bind fun x75 => pyLt x74 x75)).bind fun b240 => if b240 = true then (((Rs.ok (PyData.bool false)).bind fun x76 => Rs.ok (Out.rt x76)) : Rs (Out (Unit))) else (Rs.ok (Out.nx ()))).go fun (s77 : Unit) => (b_law_halls_k5 a_card a_rule a_other a_call v1))
def b_law_halls (a_card a_other a_rule a_call : D) : Rs (Out Unit) := (((lstD (((Rs.ok a_card).bind fun x10 => ((Rs.ok a_other).bind fun x8 => (Rs.ok []).bind fun x9 => Rs.ok (x8 :: x9)).bind fun x11 => Rs.ok (x10 :: x11)).bind mkLst)).bind fun x12 => (Rs.ok a_rule).bind fun x13 => m_latest_hall x12 x13).bind fun v1 => (((tst ((Rs.ok v1).bind fun x26 => (((Rs.ok a_card).bind fun x20 => (Rs.ok a_rule).bind fun x21 => m_latest x20 x21).bind fun x24 => ((Rs.ok a_other).bind fun x22 => (Rs.ok a_rule).bind fun x23 => m_latest x22 x23).bind fun x25 => pyMin2 x24 x25).bind fun x27 => pyGt x26 x27)).bind fun b241 => if b241 = true then (((Rs.ok (PyData.bool false)).bind fun x28 => Rs.ok (Out.rt x28)) : Rs (Out (Unit))) else (Rs.ok (Out.nx ()))).go fun (s29 : Unit) => (b_law_halls_k6 v1 a_card a_rule a_other a_call)))
def m_law_halls (a_card a_other a_rule a_call : D) : Rs D := (b_law_halls a_card a_other a_rule a_call).fin
def b_law_k19_b1 (v42 : D) (v36 : D) (v83 : List D) (s100 : Unit) (d102 : D) : Rs (Out (Unit)) := (((tst (((Rs.ok v42).bind fun x118 => (Rs.ok v36).bind fun x119 => ((Rs.ok (PyData.list v83)).bind fun x116 => (lstD (((Rs.ok d102).bind fun x114 => (Rs.ok []).bind fun x115 => Rs.ok (x114 :: x115)).bind mkLst)).bind fun x117 => pyAdd x116 x117).bind fun x120 => m_finished_at x118 x119 x120).bind fun x125 => (((Rs.ok (PyData.list v83)).bind pyLen).bind fun x123 => (Rs.ok (PyData.int 1)).bind fun x124 => pyAdd x123 x124).bind fun x126 => pyNe x125 x126)).bind fun b129 => if b129 = true then (((Rs.ok (PyData.bool false)).bind fun x127 => Rs.ok (Out.rt x127)) : Rs (Out (Unit))) else (Rs.ok (Out.nx ()))).go fun (s128 : Unit) => (Rs.ok (Out.nx ())))
def b_law_k19_k2 (v42 : D) (v49 : D) (v36 : D) (v139 : D) : Rs (Out (Unit)) := (((Rs.ok v42).bind fun x326 => (Rs.ok v49).bind fun x327 => (Rs.ok v36).bind fun x328 => (Rs.ok v139).bind fun x329 => m_law_halls x326 x327 x328 x329).bind fun x330 => Rs.ok (Out.rt x330))
def b_law_k19_k3 (v42 : D) (v49 : D) (v36 : D) (v139 : D) : Rs (Out (Unit)) := ((comp ((((Rs.ok (PyData.str "rows")).bind fun x317 => ((Rs.ok (PyData.str "lines")).bind fun x315 => ((Rs.ok (PyData.str "all")).bind fun x313 => (Rs.ok []).bind fun x314 => Rs.ok (x313 :: x314)).bind fun x316 => Rs.ok (x315 :: x316)).bind fun x318 => Rs.ok (x317 :: x318)).bind mkTup).bind ofSeq) fun d319 => eltO (Rs.ok true) ((Rs.ok v42).bind fun x320 => (Rs.ok d319).bind fun x321 => m_earliest x320 x321)).bind fun v306 => (((tst ((Rs.ok (PyData.list v306)).bind fun x322 => ((lstD ((Rs.ok (PyData.list v306)).bind pySorted)).bind pyRev).bind fun x323 => pyNe x322 x323)).bind fun b331 => if b331 = true then (((Rs.ok (PyData.bool false)).bind fun x324 => Rs.ok (Out.rt x324)) : Rs (Out (Unit))) else (Rs.ok (Out.nx ()))).go fun (s325 : Unit) => (b_law_k19_k2 v42 v49 v36 v139)))
def b_law_k19_k4 (v42 : D) (v49 : D) (v36 : D) (v139 : D) : Rs (Out (Unit)) := ((comp ((((Rs.ok (PyData.str "rows")).bind fun x291 => ((Rs.ok (PyData.str "lines")).bind fun x289 => ((Rs.ok (PyData.str "all")).bind fun x287 => (Rs.ok []).bind fun x288 => Rs.ok (x287 :: x288)).bind fun x290 => Rs.ok (x289 :: x290)).bind fun x292 => Rs.ok (x291 :: x292)).bind mkTup).bind ofSeq) fun d293 => eltO (Rs.ok true) ((Rs.ok v42).bind fun x294 => (Rs.ok d293).bind fun x295 => m_fewest_open x294 x295)).bind fun v280 => (((orT (tst ((Rs.ok (PyData.list v280)).bind fun x296 => (lstD ((Rs.ok (PyData.list v280)).bind pySorted)).bind fun x297 => pyNe x296 x297)) (tst (((Rs.ok (PyData.list v280)).bind fun x300 => (Rs.ok (PyData.int 0)).bind fun x301 => pyIx x300 x301).bind fun x302 => ((Rs.ok v42).bind pyLen).bind fun x303 => pyNe x302 x303))).bind fun b332 => if b332 = true then (((Rs.ok (PyData.bool false)).bind fun x304 => Rs.ok (Out.rt x304)) : Rs (Out (Unit))) else (Rs.ok (Out.nx ()))).go fun (s305 : Unit) => (b_law_k19_k3 v42 v49 v36 v139)))
def b_law_k19_k5 (v42 : D) (v36 : D) (v49 : D) (v139 : D) : Rs (Out (Unit)) := ((((lstD (comp (((Rs.ok v42).bind fun x257 => (Rs.ok v36).bind fun x258 => m_lines x257 x258).bind ofSeq) fun d259 => eltO (Rs.ok true) ((((Rs.ok d259).bind pyLen).bind fun x262 => ((Rs.ok d259).bind fun x260 => (Rs.ok []).bind fun x261 => Rs.ok (x260 :: x261)).bind fun x263 => Rs.ok (x262 :: x263)).bind mkTup))).bind pyMinD).bind fun x264 => (Rs.ok (PyData.int 1)).bind fun x265 => pyIx x264 x265).bind fun v189 => (((tst (((Rs.ok v42).bind fun x269 => (Rs.ok v36).bind fun x270 => (lstD ((Rs.ok v189).bind pyList)).bind fun x271 => m_finished_at x269 x270 x271).bind fun x276 => ((Rs.ok v42).bind fun x274 => (Rs.ok v36).bind fun x275 => m_earliest x274 x275).bind fun x277 => pyNe x276 x277)).bind fun b333 => if b333 = true then (((Rs.ok (PyData.bool false)).bind fun x278 => Rs.ok (Out.rt x278)) : Rs (Out (Unit))) else (Rs.ok (Out.nx ()))).go fun (s279 : Unit) => (b_law_k19_k4 v42 v49 v36 v139)))
def b_law_k19_k6 (a_script : D) (v42 : D) (v36 : D) (v49 : D) : Rs (Out (Unit)) := (((Rs.ok a_script).bind fun x135 => (Rs.ok (PyData.int 70)).bind fun x136 => (Rs.ok (PyData.int 60)).bind fun x137 => (Rs.ok (PyData.int 60)).bind fun x138 => m_law_call x135 x136 x137 x138).bind fun v130 => (((Rs.ok v130).bind fun x162 => (lstD (comp ((Rs.ok (PyData.int 1)).bind fun x157 => (Rs.ok (PyData.int 61)).bind fun x158 => pyRange x157 x158) fun d159 => eltO (tst ((Rs.ok d159).bind fun x160 => (Rs.ok v130).bind fun x161 => pyNotIn x160 x161)) (Rs.ok d159))).bind fun x163 => pyAdd x162 x163).bind fun v139 => (((Rs.ok v42).bind fun x168 => (Rs.ok v36).bind fun x169 => (Rs.ok v139).bind fun x170 => m_finished_at x168 x169 x170).bind fun v164 => (((notT (tst (chainV pyLe pyLe ((Rs.ok v42).bind fun x173 => (Rs.ok v36).bind fun x174 => m_earliest x173 x174) (Rs.ok v164) (((Rs.ok v42).bind fun x183 => (Rs.ok v36).bind fun x184 => m_latest x183 x184).bind fun x185 => (Rs.ok (PyData.int 1)).bind fun x186 => pyAdd x185 x186)))).bind fun b334 => if b334 = true then (((Rs.ok (PyData.bool false)).bind fun x187 => Rs.ok (Out.rt x187)) : Rs (Out (Unit))) else (Rs.ok (Out.nx ()))).go fun (s188 : Unit) => (b_law_k19_k5 v42 v36 v49 v139)))))
def b_law_k19_k7 (v60 : D) (v42 : D) (v36 : D) (v83 : List D) (a_script : D) (v49 : D) : Rs (Out (Unit)) := ((((Rs.ok v60).bind ofSeq).bind fun xs101 => forO (b_law_k19_b1 v42 v36 v83) xs101 ()).go fun s100 => (b_law_k19_k6 a_script v42 v36 v49))
def b_law_k19_k8 (v60 : D) (v42 : D) (v36 : D) (a_script : D) (v49 : D) : Rs (Out (Unit)) := ((comp ((Rs.ok (PyData.int 1)).bind fun x84 => (Rs.ok (PyData.int 61)).bind fun x85 => pyRange x84 x85) fun d86 => eltO (tst ((Rs.ok d86).bind fun x87 => (Rs.ok v60).bind fun x88 => pyNotIn x87 x88)) (Rs.ok d86)).bind fun v83 => (((orT (tst ((Rs.ok v42).bind fun x89 => (Rs.ok v36).bind fun x90 => (Rs.ok (PyData.list v83)).bind fun x91 => m_is_finished x89 x90 x91)) (tst (((Rs.ok (PyData.list v83)).bind pyLen).bind fun x96 => ((Rs.ok v42).bind fun x94 => (Rs.ok v36).bind fun x95 => m_latest x94 x95).bind fun x97 => pyNe x96 x97))).bind fun b335 => if b335 = true then (((Rs.ok (PyData.bool false)).bind fun x98 => Rs.ok (Out.rt x98)) : Rs (Out (Unit))) else (Rs.ok (Out.nx ()))).go fun (s99 : Unit) => (b_law_k19_k7 v60 v42 v36 v83 a_script v49)))
def b_law_k19_k9 (v60 : D) (v42 : D) (v36 : D) (a_script : D) (v49 : D) : Rs (Out (Unit)) := (((tst ((lstD (comp ((Rs.ok v60).bind ofSeq) fun d74 => eltO (tst ((Rs.ok d74).bind fun x77 => ((Rs.ok v42).bind m_numbers).bind fun x78 => pyNotIn x77 x78)) (Rs.ok d74))).bind fun x79 => (lstD ((Rs.ok []).bind mkLst)).bind fun x80 => pyNe x79 x80)).bind fun b336 => if b336 = true then (((Rs.ok (PyData.bool false)).bind fun x81 => Rs.ok (Out.rt x81)) : Rs (Out (Unit))) else (Rs.ok (Out.nx ()))).go fun (s82 : Unit) => (b_law_k19_k8 v60 v42 v36 a_script v49))
def b_law_k19 (a_script : D) : Rs (Out Unit) := (((lstD (((Rs.ok (PyData.int 16)).bind fun x24 => ((Rs.ok (PyData.int 60)).bind fun x22 => (Rs.ok []).bind fun x23 => Rs.ok (x22 :: x23)).bind fun x25 => Rs.ok (x24 :: x25)).bind mkLst)).bind fun x32 => ((Rs.ok a_script).bind fun x29 => (Rs.ok (PyData.int 3)).bind fun x30 => (Rs.ok (PyData.int 2)).bind fun x31 => m_law_drawn x29 x30 x31).bind fun x33 => pyIx x32 x33).bind fun v17 => ((Rs.ok a_script).bind fun x37 => (Rs.ok (PyData.int 2)).bind fun x38 => m_law_rule x37 x38).bind fun v36 => (((Rs.ok a_script).bind fun x43 => (Rs.ok (PyData.int 10)).bind fun x44 => (Rs.ok v17).bind fun x45 => m_law_card x43 x44 x45).bind fun v42 => ((Rs.ok a_script).bind fun x50 => (Rs.ok (PyData.int 40)).bind fun x51 => (Rs.ok v17).bind fun x52 => m_law_card x50 x51 x52).bind fun v49 => (((Rs.ok v42).bind fun x56 => (Rs.ok v36).bind fun x57 => m_fewest_open x56 x57).bind fun v55 => ((Rs.ok v42).bind fun x61 => (Rs.ok v36).bind fun x62 => m_open_numbers x61 x62).bind fun v60 => (((orT (tst (((Rs.ok v60).bind pyLen).bind fun x63 => (Rs.ok v55).bind fun x64 => pyNe x63 x64)) (tst ((Rs.ok v60).bind fun x65 => ((lstD ((Rs.ok v60).bind pySortedSetT)).bind pyTuple).bind fun x66 => pyNe x65 x66))).bind fun b337 => if b337 = true then (((Rs.ok (PyData.bool false)).bind fun x67 => Rs.ok (Out.rt x67)) : Rs (Out (Unit))) else (Rs.ok (Out.nx ()))).go fun (s68 : Unit) => (b_law_k19_k9 v60 v42 v36 a_script v49)))))
def m_law_k19 (a_script : D) : Rs D := (b_law_k19 a_script).fin
end BG
namespace BG
open PySem
@[simp] theorem pyAdd_int (i j : Int) : pyAdd (.int i) (.int j) = .ok (.int (i + j)) := (rfl)
@[simp] theorem pySub_int (i j : Int) : pySub (.int i) (.int j) = .ok (.int (i - j)) := (rfl)
@[simp] theorem pyNeg_int (i : Int) : pyNeg (.int i) = .ok (.int (-i)) := (rfl)
@[simp] theorem pyLt_int (i j : Int) : pyLt (.int i) (.int j) = .ok (.bool (decide (i < j))) := (rfl)
@[simp] theorem pyLe_int (i j : Int) : pyLe (.int i) (.int j) = .ok (.bool (decide (i ≤ j))) := (rfl)
@[simp] theorem pyGt_int (i j : Int) : pyGt (.int i) (.int j) = .ok (.bool (decide (j < i))) := (rfl)
@[simp] theorem pyGe_int (i j : Int) : pyGe (.int i) (.int j) = .ok (.bool (decide (j ≤ i))) := (rfl)
theorem pyMul_l {i j : Int} (h1 : -(2 ^ 64) < i) (h2 : i < 2 ^ 64) : pyMul (.int i) (.int j) = .ok (.int (i * j)) := by
  show (if _ then _ else _) = _
  rw [if_pos (.inl ⟨h1, h2⟩)]
theorem pyDiv_int {i j : Int} (h1 : 0 < j) (h2 : j < 2 ^ 64) : pyDiv (.int i) (.int j) = .ok (.int (i / j)) := by
  show (if _ then _ else _) = _
  rw [if_pos ⟨h1, h2⟩]
theorem pyMod_int {i j : Int} (h1 : 0 < j) : pyMod (.int i) (.int j) = .ok (.int (i % j)) := by
  show (if _ then _ else _) = _
  rw [if_pos h1]
@[simp] theorem tst_bool (b : Bool) : tst (.ok (.bool b)) = .ok b := (rfl)
@[simp] theorem toB_bool (b : Bool) : toB (.bool b) = .ok b := (rfl)
@[simp] theorem andT_ok (a : Bool) (m : Rs Bool) : andT (.ok a) m = if a = true then m else .ok false := (rfl)
@[simp] theorem orT_ok (a : Bool) (m : Rs Bool) : orT (.ok a) m = if a = true then .ok true else m := (rfl)
@[simp] theorem notT_ok (a : Bool) : notT (.ok a) = .ok (!a) := (rfl)
@[simp] theorem andV_ok (a : Bool) (m : Rs D) : andV (.ok (.bool a)) m = if a = true then m else .ok (.bool false) := (rfl)
@[simp] theorem orV_ok (a : Bool) (m : Rs D) : orV (.ok (.bool a)) m = if a = true then .ok (.bool true) else m := (rfl)
@[simp] theorem notV_ok (a : Bool) : notV (.ok (.bool a)) = .ok (.bool (!a)) := (rfl)
@[simp] theorem ifE_ok (a : Bool) (m n : Rs D) : ifE (.ok a) m n = if a = true then m else n := (rfl)
@[simp] theorem lstD_ok (ds : List D) : lstD (.ok ds) = .ok (.list ds) := (rfl)
@[simp] theorem ofSeq_list (ds : List D) : ofSeq (.list ds) = .ok ds := (rfl)
@[simp] theorem ofSeq_tuple (ds : List D) : ofSeq (.tuple ds) = .ok ds := (rfl)
@[simp] theorem ofInt_int (i : Int) : ofInt (.int i) = .ok i := (rfl)
@[simp] theorem pyLen_list (ds : List D) : pyLen (.list ds) = .ok (.int ds.length) := (rfl)
@[simp] theorem pyLen_tuple (ds : List D) : pyLen (.tuple ds) = .ok (.int ds.length) := (rfl)
@[simp] theorem pyTuple_list (ds : List D) : pyTuple (.list ds) = .ok (.tuple ds) := (rfl)
@[simp] theorem pyTuple_tuple (ds : List D) : pyTuple (.tuple ds) = .ok (.tuple ds) := (rfl)
@[simp] theorem pyList_list (ds : List D) : pyList (.list ds) = .ok ds := (rfl)
@[simp] theorem pyList_tuple (ds : List D) : pyList (.tuple ds) = .ok ds := (rfl)
@[simp] theorem part_int (i : Int) : part (.ok (.int i)) = .ok (some i) := (rfl)
@[simp] theorem chainV_int (g' : D → D → Rs D) (i j : Int) (c : Rs D) : chainV pyLe g' (.ok (.int i)) (.ok (.int j)) c = if decide (i ≤ j) = true then c.bind fun z => g' (.int j) z else .ok (.bool false) := (rfl)
@[simp] theorem eltO_true (e : Rs D) : eltO (.ok true) e = e.bind fun d => .ok (some d) := (rfl)
theorem eltO_ok (b : Bool) (d : D) : eltO (.ok b) (.ok d) = .ok (if b = true then some d else none) := by cases b <;> rfl
theorem shp_int (i : Int) : shp (.int i) = true := rfl
theorem shp_bool (i : Bool) : shp (.bool i) = true := rfl
theorem shp_none : shp .none = true := rfl
@[simp] theorem pyEq_int (i j : Int) : pyEq (.int i) (.int j) = .ok (.bool (i == j)) := (rfl)
@[simp] theorem pyNe_int (i j : Int) : pyNe (.int i) (.int j) = .ok (.bool (!(i == j))) := (rfl)
@[simp] theorem pyIs_bool (i j : Bool) : pyIs (.bool i) (.bool j) = .ok (.bool (decide (i = j))) := (rfl)
@[simp] theorem pyIsNot_bool (i j : Bool) : pyIsNot (.bool i) (.bool j) = .ok (.bool (!decide (i = j))) := (rfl)
theorem mkLst_ok {ds : List D} (h : ds.length ≤ sizeMax) : mkLst ds = .ok ds := if_pos h
theorem mkTup_ok {ds : List D} (h : ds.length ≤ sizeMax) : mkTup ds = .ok (.tuple ds) := if_pos h
abbrev iL (ns : List Int) : List D := ns.map .int
/-- laid down, of depth at most n -/
def Sh (n : Nat) (d : D) : Prop := d.canLay0 = true ∧ d.depth ≤ n
def ShA (n : Nat) (ds : List D) : Prop := PyData.canLayAll0 ds = true ∧ PyData.depthAll ds ≤ n
theorem ShA.nil {n : Nat} : ShA n [] := ⟨by simp [PyData.canLayAll0], by simp [PyData.depthAll]⟩
theorem ShA.cons {n : Nat} {d : D} {ds : List D} (h : Sh n d) (t : ShA n ds) : ShA n (d :: ds) := by
  refine ⟨by simp [PyData.canLayAll0, h.1, t.1], ?_⟩
  have h1 := h.2
  have h2 := t.2
  simp only [PyData.depthAll]
  omega
theorem ShA.of {n : Nat} : ∀ {ds : List D}, (∀ d ∈ ds, Sh n d) → ShA n ds
  | [], _ => .nil
  | d :: ds, h => .cons (h d (by simp)) (ShA.of fun x hx => h x (by simp [hx]))
theorem Sh.list {n : Nat} {ds : List D} (h : ShA n ds) : Sh (n + 1) (.list ds) := ⟨by simp only [PyData.canLay0]; exact h.1, by have := h.2; simp only [PyData.depth]; omega⟩
theorem Sh.tuple {n : Nat} {ds : List D} (h : ShA n ds) : Sh (n + 1) (.tuple ds) := ⟨by simp only [PyData.canLay0]; exact h.1, by have := h.2; simp only [PyData.depth]; omega⟩
theorem Sh.int {n : Nat} (i : Int) : Sh n (.int i) := ⟨by simp [PyData.canLay0], by simp [PyData.depth]⟩
theorem Sh.bool {n : Nat} (i : Bool) : Sh n (.bool i) := ⟨by simp [PyData.canLay0], by simp [PyData.depth]⟩
theorem Sh.none {n : Nat} : Sh n .none := ⟨by simp [PyData.canLay0], by simp [PyData.depth]⟩
theorem Sh.shp {n : Nat} {d : D} (h : Sh n d) (hn : n ≤ 64 := by decide) : shp d = true := by
  unfold BG.shp SeqAt.shaped
  rw [h.1, Bool.true_and]
  exact decide_eq_true (Nat.le_trans h.2 hn)
theorem shA_ints {n : Nat} (ns : List Int) : ShA n (iL ns) := .of fun d hd => by
  obtain ⟨i, _, rfl⟩ := List.mem_map.mp hd
  exact Sh.int i
theorem sh_tupI {n : Nat} (ns : List Int) : Sh (n + 1) (tupI ns) := Sh.tuple (shA_ints ns)
theorem shA_tups {n : Nat} (ls : List (List Int)) : ShA (n + 1) (ls.map tupI) := .of fun d hd => by
  obtain ⟨i, _, rfl⟩ := List.mem_map.mp hd
  exact sh_tupI i
mutual
theorem eqv_refl : ∀ d : D, d.canLay0 = true → PyData.eqv d d = true
  | .none, _ => by simp [PyData.eqv]
  | .bool _, _ => by simp [PyData.eqv]
  | .int _, _ => by simp [PyData.eqv]
  | .str _, _ => by simp [PyData.eqv]
  | .list xs, h => by
    simp only [PyData.canLay0] at h
    simp only [PyData.eqv]
    exact eqvAll_refl xs h
  | .tuple xs, h => by
    simp only [PyData.canLay0] at h
    simp only [PyData.eqv]
    exact eqvAll_refl xs h
  | .dict _, h => by simp [PyData.canLay0] at h
theorem eqvAll_refl : ∀ ds : List D, PyData.canLayAll0 ds = true → PyData.eqvAll ds ds = true
  | [], _ => by simp [PyData.eqvAll]
  | x :: xs, h => by
    simp only [PyData.canLayAll0, Bool.and_eq_true] at h
    simp only [PyData.eqvAll, Bool.and_eq_true]
    exact ⟨eqv_refl x h.1, eqvAll_refl xs h.2⟩
end
theorem pyNe_same {n : Nat} {d : D} (h : Sh n d) (hn : n ≤ 64 := by decide) : pyNe d d = .ok (.bool false) := by
  unfold pyNe
  rw [if_pos ⟨h.shp hn, h.shp hn⟩, eqv_refl d h.1]
  rfl
theorem pyEq_same {n : Nat} {d : D} (h : Sh n d) (hn : n ≤ 64 := by decide) : pyEq d d = .ok (.bool true) := by
  unfold pyEq
  rw [if_pos ⟨h.shp hn, h.shp hn⟩, eqv_refl d h.1]
theorem any_int (x : Int) : ∀ l : List Int, (iL l).any (fun z => PyData.eqv z (.int x)) = decide (x ∈ l)
  | [] => by simp
  | y :: l => by
    have := any_int x l
    simp only [iL, List.map_cons, List.any_cons] at this ⊢
    rw [this]
    simp only [PyData.eqv]
    by_cases h : y = x
    · subst h; simp
    · have h2 : x ≠ y := fun e => h e.symm
      simp [h, h2]
theorem pyIn_tup (x : Int) (l : List Int) : pyIn (.int x) (tupI l) = .ok (.bool (decide (x ∈ l))) := by
  unfold pyIn tupI
  rw [ofSeq_tuple, bind_ok, if_pos ⟨(Sh.int (n := 0) x).shp, (Sh.list (shA_ints (n := 0) l)).shp⟩, any_int]
theorem pyIn_list (x : Int) (l : List Int) : pyIn (.int x) (.list (iL l)) = .ok (.bool (decide (x ∈ l))) := by
  unfold pyIn
  rw [ofSeq_list, bind_ok, if_pos ⟨(Sh.int (n := 0) x).shp, (Sh.list (shA_ints (n := 0) l)).shp⟩, any_int]
theorem pyNotIn_tup (x : Int) (l : List Int) : pyNotIn (.int x) (tupI l) = .ok (.bool (!decide (x ∈ l))) := by
  unfold pyNotIn tupI
  rw [ofSeq_tuple, bind_ok, if_pos ⟨(Sh.int (n := 0) x).shp, (Sh.list (shA_ints (n := 0) l)).shp⟩, any_int]
theorem pyNotIn_list (x : Int) (l : List Int) : pyNotIn (.int x) (.list (iL l)) = .ok (.bool (!decide (x ∈ l))) := by
  unfold pyNotIn
  rw [ofSeq_list, bind_ok, if_pos ⟨(Sh.int (n := 0) x).shp, (Sh.list (shA_ints (n := 0) l)).shp⟩, any_int]
theorem compO_filter {α : Type} {f : D → Rs (Option D)} {e : α → D} {p : α → Bool} {h : α → D} : ∀ {xs : List α}, (∀ x ∈ xs, f (e x) = .ok (if p x = true then some (h x) else none)) → compO f (xs.map e) = .ok ((xs.filter p).map h)
  | [], _ => rfl
  | x :: xs, hf => by
    have h1 := hf x (by simp)
    have h2 := compO_filter (xs := xs) fun y hy => hf y (by simp [hy])
    rw [List.map_cons]
    unfold compO
    rw [h1]
    by_cases hp : p x = true
    · rw [if_pos hp]
      show (compO f (xs.map e)).bind _ = _
      rw [h2, bind_ok, List.filter_cons_of_pos hp]
      rfl
    · rw [if_neg hp]
      show compO f (xs.map e) = _
      rw [h2, List.filter_cons_of_neg hp]
theorem compO_map {α : Type} {f : D → Rs (Option D)} {e : α → D} {h : α → D} {xs : List α} (hf : ∀ x ∈ xs, f (e x) = .ok (some (h x))) : compO f (xs.map e) = .ok (xs.map h) := by
  have := compO_filter (f := f) (e := e) (p := fun _ => true) (h := h) (xs := xs) (fun x hx => by rw [if_pos rfl]; exact hf x hx)
  rw [this, List.filter_eq_self.mpr (fun _ _ => rfl)]
theorem compF_map {α : Type} {f : D → Rs (List D)} {e : α → D} {h : α → List D} : ∀ {xs : List α}, (∀ x ∈ xs, f (e x) = .ok (h x)) → compF f (xs.map e) = .ok (xs.map h).flatten
  | [], _ => rfl
  | x :: xs, hf => by
    have h1 := hf x (by simp)
    have h2 := compF_map (xs := xs) fun y hy => hf y (by simp [hy])
    rw [List.map_cons]
    unfold compF
    rw [h1]
    show (compF f (xs.map e)).bind _ = _
    rw [h2]
    rfl
@[simp] theorem comp_ok (ds : List D) (f : D → Rs (Option D)) : comp (.ok ds) f = compO f ds := (rfl)
theorem pyRange_ok (n : Nat) (h : n ≤ 1000) : pyRange (.int 0) (.int (n : Int)) = .ok ((List.range n).map fun (i : Nat) => PyData.int (i : Int)) := by
  unfold pyRange
  rw [ofInt_int, bind_ok, ofInt_int, bind_ok, if_pos ⟨by omega, by omega, by omega, by omega, by unfold sizeMax; omega⟩]
  unfold intsD
  simp
theorem intsOf_iL : ∀ ns : List Int, intsOf (iL ns) = some ns
  | [] => rfl
  | n :: ns => by
    show (intsOf (iL ns)).map (n :: ·) = _
    rw [intsOf_iL ns]
    rfl
theorem tupsOf_map : ∀ ls : List (List Int), tupsOf (ls.map tupI) = some ls
  | [] => rfl
  | l :: ls => by
    show ((intsOf (iL l)).bind fun ns => (tupsOf (ls.map tupI)).map (ns :: ·)) = _
    rw [intsOf_iL l, tupsOf_map ls]
    rfl
theorem pySorted_ints (ns : List Int) : pySorted (.list (iL ns)) = .ok (iL (isort ltI ns)) := by
  simp only [pySorted, intsOf_iL]
theorem pySortedSet_tups (ls : List (List Int)) (h : ls.length < 64) (hn : ∀ l ∈ ls, l ≠ []) : pySortedSet (.list (ls.map tupI)) = .ok ((usort ltL ls).map tupI) := by
  cases ls with
  | nil => rfl
  | cons l ls =>
    have e : intsOf ((l :: ls).map tupI) = none := rfl
    simp only [pySortedSet, e, tupsOf_map]
    rw [if_pos ⟨h, hn⟩]
theorem ixOf_nat {n k : Nat} (h : k < n) : ixOf n (k : Int) = some k := by
  unfold ixOf
  rw [if_pos (by omega), if_pos (by omega)]
  simp
theorem pyIx_tuple {ds : List D} {k : Nat} (h : k < ds.length) : pyIx (.tuple ds) (.int (k : Int)) = .ok ds[k] := by
  unfold pyIx
  rw [ofSeq_tuple, bind_ok, ofInt_int, bind_ok, ixOf_nat h]
  simp [h]
theorem pyIx_list {ds : List D} {k : Nat} (h : k < ds.length) : pyIx (.list ds) (.int (k : Int)) = .ok ds[k] := by
  unfold pyIx
  rw [ofSeq_list, bind_ok, ofInt_int, bind_ok, ixOf_nat h]
  simp [h]
theorem boolsOf_map : ∀ bs : List Bool, boolsOf (bs.map PyData.bool) = some bs
  | [] => rfl
  | b :: bs => by
    show (boolsOf (bs.map PyData.bool)).map (b :: ·) = _
    rw [boolsOf_map bs]
    rfl
theorem pyAll_map (bs : List Bool) : pyAll (.list (bs.map PyData.bool)) = .ok (.bool (bs.all id)) := by
  simp only [pyAll, boolsOf_map]
theorem pyAny_map (bs : List Bool) : pyAny (.list (bs.map PyData.bool)) = .ok (.bool (bs.any id)) := by
  simp only [pyAny, boolsOf_map]
end BG
namespace BG
open PySem
theorem drawn_while : ∀ (n : Nat) (t r : Int), t < n → ∃ t' r' : Int, whileO b_law_drawn_c1 b_law_drawn_b2 (n + 1) (.int t, .int r) = .ok (.nx (.int t', .int r'))
  | 0, t, r, h => by
    refine ⟨t, r, ?_⟩
    have h0 : ¬ (0 < t) := by omega
    unfold whileO b_law_drawn_c1
    simp [h0]
  | n + 1, t, r, h => by
    by_cases hr : 0 < r
    · by_cases ht : 0 < t
      · obtain ⟨t', r', e⟩ := drawn_while n (t - 1) (r / 1000000) (by omega)
        refine ⟨t', r', ?_⟩
        unfold whileO
        have c : b_law_drawn_c1 (.int t, .int r) = .ok true := by
          unfold b_law_drawn_c1
          simp [hr, ht]
        have b : b_law_drawn_b2 (.int t, .int r) = .ok (.nx (.int (t - 1), .int (r / 1000000))) := by
          unfold b_law_drawn_b2
          simp [pyDiv_int (i := r) (j := 1000000) (by decide) (by decide)]
        rw [c, bind_ok, if_pos rfl, b, go_nx]
        exact e
      · refine ⟨t, r, ?_⟩
        unfold whileO b_law_drawn_c1
        simp [hr, ht]
    · refine ⟨t, r, ?_⟩
      unfold whileO b_law_drawn_c1
      simp [hr]
theorem mod_lt' {i j : Int} (h : 0 < j) : 0 ≤ i % j ∧ i % j < j := ⟨Int.emod_nonneg _ (by omega), Int.emod_lt_of_pos _ h⟩
theorem drawn_end (c k many : Int) (hm : 0 < many) : ∃ j, 0 ≤ j ∧ j < many ∧ b_law_drawn_k5 (.int c) (.int k) (.int many) = .ok (.rt (.int j)) := by
  unfold b_law_drawn_k5
  have a := @mod_lt' c 2147483563 (by decide)
  have e1 : pyMod (.int c) (.int 2147483563) = .ok (.int (c % 2147483563)) := pyMod_int (by decide)
  generalize c % 2147483563 = c1 at *
  have e2 : pyMul (.int c1) (.int 69069) = .ok (.int (c1 * 69069)) := pyMul_l (by omega) (by omega)
  have e3 : pyMul (.int 104723) (.int (k + 1)) = .ok (.int (104723 * (k + 1))) := pyMul_l (by decide) (by decide)
  have e4 : pyMod (.int (c1 * 69069 + 104723 * (k + 1))) (.int 2147483563) = .ok (.int ((c1 * 69069 + 104723 * (k + 1)) % 2147483563)) := pyMod_int (by decide)
  have b := @mod_lt' (c1 * 69069 + 104723 * (k + 1)) 2147483563 (by decide)
  generalize (c1 * 69069 + 104723 * (k + 1)) % 2147483563 = c2 at *
  have e5 : pyMul (.int c2) (.int c2) = .ok (.int (c2 * c2)) := pyMul_l (by omega) (by omega)
  have e6 : pyDiv (.int c2) (.int 3) = .ok (.int (c2 / 3)) := pyDiv_int (by decide) (by decide)
  have e7 : pyMod (.int (c2 * c2 + c2 / 3)) (.int 2147483399) = .ok (.int ((c2 * c2 + c2 / 3) % 2147483399)) := pyMod_int (by decide)
  have d := @mod_lt' (c2 * c2 + c2 / 3) 2147483399 (by decide)
  generalize (c2 * c2 + c2 / 3) % 2147483399 = c3 at *
  have e8 : pyMul (.int c3) (.int c3) = .ok (.int (c3 * c3)) := pyMul_l (by omega) (by omega)
  have e9 : pyDiv (.int c3) (.int 7) = .ok (.int (c3 / 7)) := pyDiv_int (by decide) (by decide)
  have e10 : pyMod (.int (c3 * c3 + c3 / 7)) (.int 2147483647) = .ok (.int ((c3 * c3 + c3 / 7) % 2147483647)) := pyMod_int (by decide)
  generalize (c3 * c3 + c3 / 7) % 2147483647 = c4 at *
  have e11 : pyDiv (.int c4) (.int 11) = .ok (.int (c4 / 11)) := pyDiv_int (by decide) (by decide)
  have e12 : pyMod (.int (c4 / 11)) (.int many) = .ok (.int (c4 / 11 % many)) := pyMod_int hm
  have f := @mod_lt' (c4 / 11) many hm
  refine ⟨c4 / 11 % many, f.1, f.2, ?_⟩
  simp only [bind_ok, e1, e2, pyAdd_int, e3, e4, e5, e6, e7, e8, e9, e10, e11, e12]
theorem drawn_ok (ns : List Int) (hl : ns.length ≤ 63) (k many : Int) (hm : 0 < many) : ∃ j, 0 ≤ j ∧ j < many ∧ m_law_drawn (.list (iL ns)) (.int k) (.int many) = .ok (.int j) := by
  have fin : ∀ c' : Int, ∃ j, 0 ≤ j ∧ j < many ∧ (b_law_drawn_k5 (.int c') (.int k) (.int many)).fin = .ok (.int j) := fun c' => by
    obtain ⟨j, h1, h2, h3⟩ := drawn_end c' k many hm
    exact ⟨j, h1, h2, by rw [h3]; rfl⟩
  unfold m_law_drawn b_law_drawn
  have e7 : pyMul (.int 7) (.int k) = .ok (.int (7 * k)) := pyMul_l (by decide) (by decide)
  simp only [bind_ok, e7, mkLst_ok (ds := []) (by decide), lstD_ok]
  have hne : pyNe (.list (iL ns)) (.list []) = .ok (.bool (!decide (ns = []))) := by
    unfold pyNe
    rw [if_pos ⟨(Sh.list (shA_ints (n := 0) ns)).shp, (Sh.list (ShA.nil (n := 0))).shp⟩]
    cases ns with
    | nil => rfl
    | cons n ns => simp [iL, PyData.eqv, PyData.eqvAll]
  rw [hne, tst_bool, bind_ok]
  by_cases h0 : ns = []
  · subst h0
    simp only [decide_true, Bool.not_true, Bool.false_eq_true, if_false, go_nx]
    exact fin _
  · have hpos : 0 < ns.length := by
      cases ns with
      | nil => exact absurd rfl h0
      | cons _ _ => simp
    simp only [h0, decide_false, Bool.not_false, if_true, pyLen_list, bind_ok]
    have hlen : ((iL ns).length : Int) = (ns.length : Int) := by simp [iL]
    rw [hlen]
    have e8 : pyMod (.int k) (.int (ns.length : Int)) = .ok (.int (k % (ns.length : Int))) := pyMod_int (by omega)
    have m1 := @mod_lt' k (ns.length : Int) (by omega)
    rw [e8, bind_ok]
    obtain ⟨i, hi⟩ : ∃ i : Nat, k % (ns.length : Int) = (i : Int) := ⟨(k % (ns.length : Int)).toNat, by omega⟩
    have hil : i < (iL ns).length := by simp [iL]; omega
    rw [hi, pyIx_list hil, bind_ok]
    have hget : (iL ns)[i] = .int (ns[i]'(by simpa [iL] using hil)) := by simp [iL]
    rw [hget]
    generalize ns[i]'(by simpa [iL] using hil) = c
    have e9 : pyDiv (.int k) (.int (ns.length : Int)) = .ok (.int (k / (ns.length : Int))) := pyDiv_int (by omega) (by omega)
    rw [e9, bind_ok]
    have e11 : pyMul (.int 6553) (.int (k / (ns.length : Int))) = .ok (.int (6553 * (k / (ns.length : Int)))) := pyMul_l (by decide) (by decide)
    have k4 : b_law_drawn_k4 (.int c) (.int k) (.list (iL ns)) = .ok (.nx (.int (c + 6553 * (k / (ns.length : Int))))) := by
      unfold b_law_drawn_k4
      simp only [bind_ok, pyLen_list, hlen, e9, e11, pyAdd_int]
    generalize k / (ns.length : Int) = t at *
    have e10 : pyPow (.int 10) (.int 18) = .ok (.int (10 ^ 18)) := rfl
    simp only [e10, bind_ok, pyGe_int, tst_bool, andT_ok, pyLt_int]
    by_cases hb : (decide ((10 : Int) ^ 18 ≤ c) = true ∧ decide (t < 60) = true)
    · have e12 : pyDiv (.int c) (.int (10 ^ 18)) = .ok (.int (c / 10 ^ 18)) := pyDiv_int (by decide) (by decide)
      have ht : t < (63 : Nat) := by have := of_decide_eq_true hb.2; omega
      obtain ⟨t', r', hw⟩ := drawn_while 63 t (c / 10 ^ 18) ht
      simp only [hb.1, hb.2, if_true, bind_ok, e12, hw, go_nx]
      by_cases hr : 0 < r'
      · have e13 : pyMod (.int r') (.int 1000000) = .ok (.int (r' % 1000000)) := pyMod_int (by decide)
        have e14 : pyMod (.int (r' % 1000000)) (.int many) = .ok (.int (r' % 1000000 % many)) := pyMod_int hm
        have f := @mod_lt' (r' % 1000000) many hm
        refine ⟨_, f.1, f.2, ?_⟩
        unfold b_law_drawn_k3
        simp only [bind_ok, pyGt_int, tst_bool, hr, decide_true, if_true, e13, e14, go_rt, fin_rt]
      · have k3 : b_law_drawn_k3 (.int t', .int r') (.int many) = .ok (.nx (.int t')) := by
          unfold b_law_drawn_k3
          simp only [bind_ok, pyGt_int, tst_bool, hr, decide_false, Bool.false_eq_true, if_false, go_nx]
        simp only [k3, go_nx, k4]
        exact fin _
    · have hb2 : (if decide ((10 : Int) ^ 18 ≤ c) = true then (Rs.ok (decide (t < 60)) : Rs Bool) else Rs.ok false) = .ok false := by
        by_cases q : decide ((10 : Int) ^ 18 ≤ c) = true
        · rw [if_pos q]
          by_cases q2 : decide (t < 60) = true
          · exact absurd ⟨q, q2⟩ hb
          · rw [Bool.eq_false_iff.mpr q2]
        · rw [if_neg q]
      rw [hb2]
      simp only [bind_ok, Bool.false_eq_true, if_false, go_nx, k4]
      exact fin _
end BG
namespace BG
open PySem
theorem nodup_sub : ∀ {l m : List Int}, l.Nodup → (∀ x ∈ l, x ∈ m) → l.length ≤ m.length
  | [], m, _, _ => Nat.zero_le _
  | x :: l, m, hn, hs => by
    have hx := hs x (by simp)
    have h1 := List.length_erase_of_mem hx
    have hn' := List.nodup_cons.mp hn
    have h2 := nodup_sub (l := l) (m := m.erase x) hn'.2 fun y hy => (List.mem_erase_of_ne (fun e => hn'.1 (by rw [← e]; exact hy))).mpr (hs y (by simp [hy]))
    have h3 : 0 < m.length := List.length_pos_of_mem hx
    simp
    omega
theorem step_inj {t a i j : Int} (ht : 0 < t) (hi : 0 ≤ i ∧ i < t) (hj : 0 ≤ j ∧ j < t) (h : (a + i) % t = (a + j) % t) : i = j := by
  have e := Int.emod_eq_emod_iff_emod_sub_eq_zero.mp h
  have e1 : a + i - (a + j) = i - j := by omega
  rw [e1] at e
  have d := Int.dvd_of_emod_eq_zero e
  obtain ⟨c, hc⟩ := d
  rcases Int.lt_trichotomy c 0 with h | h | h
  · have : t * c ≤ t * (-1) := Int.mul_le_mul_of_nonneg_left (by omega) (by omega)
    omega
  · subst h
    omega
  · have : t * 1 ≤ t * c := Int.mul_le_mul_of_nonneg_left (by omega) (by omega)
    omega
def nxt (t n : Int) : Nat → Int
  | 0 => n
  | i + 1 => nxt t (n % t + 1) i
theorem nxt_eq {t : Int} (ht : 0 < t) : ∀ (i : Nat) (n : Int), 1 ≤ n → n ≤ t → nxt t n i = (n - 1 + i) % t + 1
  | 0, n, h1, h2 => by
    show n = _
    rw [Int.emod_eq_of_lt (by omega) (by omega)]
    omega
  | i + 1, n, h1, h2 => by
    have m := @mod_lt' n t ht
    show nxt t (n % t + 1) i = _
    rw [nxt_eq ht i _ (by omega) (by omega)]
    have e : n % t + 1 - 1 + (i : Int) = n % t + i := by omega
    rw [e, Int.emod_add_emod]
    have e2 : n - 1 + ((i + 1 : Nat) : Int) = n + i := by omega
    rw [e2]
theorem exists_free {t : Int} {found : List Int} {n : Int} (h1 : 1 ≤ n) (h2 : n ≤ t) (hl : (found.length : Int) < t) : ∃ i : Nat, i ≤ found.length ∧ nxt t n i ∉ found := by
  have ht : 0 < t := by omega
  refine Classical.byContradiction fun hno => ?_
  have all : ∀ i : Nat, i ≤ found.length → nxt t n i ∈ found := fun i hi => Classical.byContradiction fun q => hno ⟨i, hi, q⟩
  have nd : ((List.range (found.length + 1)).map (nxt t n)).Nodup := by
    refine List.Pairwise.map _ (R := fun a b => a < found.length + 1 ∧ b < found.length + 1 ∧ a ≠ b) (fun a b hab e => ?_) ?_
    · obtain ⟨ha, hb, hne⟩ := hab
      rw [nxt_eq ht a n h1 h2, nxt_eq ht b n h1 h2] at e
      have := @step_inj t (n - 1) a b ht ⟨by omega, by omega⟩ ⟨by omega, by omega⟩ (by omega)
      omega
    · refine List.Pairwise.imp_of_mem (fun {a b} ha hb hne => ⟨List.mem_range.mp ha, List.mem_range.mp hb, hne⟩) List.nodup_range
  have := nodup_sub nd fun x hx => by
    obtain ⟨i, hi, rfl⟩ := List.mem_map.mp hx
    exact all i (by have := List.mem_range.mp hi; omega)
  rw [List.length_map, List.length_range] at this
  omega
theorem card_while {t : Int} {found : List Int} (ht : 0 < t) : ∀ (fuel i : Nat) (n : Int), i < fuel → 1 ≤ n → n ≤ t → nxt t n i ∉ found → ∃ n' : Int, n' ∉ found ∧ 1 ≤ n' ∧ n' ≤ t ∧ whileO (b_law_card_c1 (iL found)) (b_law_card_b2 (.int t)) fuel (.int n) = .ok (.nx (.int n'))
  | 0, i, n, h, _, _, _ => by omega
  | fuel + 1, i, n, h, h1, h2, hi => by
    have c : b_law_card_c1 (iL found) (.int n) = .ok (decide (n ∈ found)) := by
      unfold b_law_card_c1
      simp only [bind_ok, pyIn_list, tst_bool]
    by_cases hn : n ∈ found
    · cases i with
      | zero => exact absurd hn hi
      | succ i =>
        have m := @mod_lt' n t ht
        obtain ⟨n', q1, q2, q3, q4⟩ := card_while ht fuel i (n % t + 1) (by omega) (by omega) (by omega) hi
        refine ⟨n', q1, q2, q3, ?_⟩
        unfold whileO
        have b : b_law_card_b2 (.int t) (.int n) = .ok (.nx (.int (n % t + 1))) := by
          unfold b_law_card_b2
          simp only [bind_ok, pyMod_int (i := n) ht, pyAdd_int]
        rw [c, bind_ok, if_pos (decide_eq_true hn), b, go_nx]
        exact q4
    · refine ⟨n, hn, h1, h2, ?_⟩
      unfold whileO
      rw [c, bind_ok, if_neg (by simp [hn])]
theorem card_for {ns : List Int} (hl : ns.length ≤ 63) {a t : Int} (ht : 0 < t) (ht2 : t ≤ 60) : ∀ (ks found : List Int), found.Nodup → (∀ x ∈ found, 1 ≤ x ∧ x ≤ t) → ((found.length + ks.length : Nat) : Int) ≤ t →
    ∃ found' : List Int, found'.Nodup ∧ (∀ x ∈ found', 1 ≤ x ∧ x ≤ t) ∧ found'.length = found.length + ks.length ∧ forO (b_law_card_b4 (.list (iL ns)) (.int a) (.int t)) (iL ks) (iL found) = .ok (.nx (iL found'))
  | [], found, nd, rng, _ => ⟨found, nd, rng, rfl, rfl⟩
  | k :: ks, found, nd, rng, hlen => by
    simp only [List.length_cons] at hlen
    obtain ⟨j, j1, j2, j3⟩ := drawn_ok ns hl (a + 1 + k) t (by omega)
    obtain ⟨i, i1, i2⟩ := @exists_free t found (1 + j) (by omega) (by omega) (by omega)
    obtain ⟨n', q1, q2, q3, q4⟩ := card_while (t := t) (by omega) 200 i (1 + j) (by omega) (by omega) (by omega) i2
    have b : b_law_card_b4 (.list (iL ns)) (.int a) (.int t) (iL found) (.int k) = .ok (.nx (iL (found ++ [n']))) := by
      unfold b_law_card_b4 b_law_card_k3
      simp only [bind_ok, pyAdd_int, j3, q4, go_nx]
      rw [if_pos (by unfold sizeMax; simp [iL]; omega)]
      simp [iL]
    obtain ⟨f', f1, f2, f3, f4⟩ := card_for hl (a := a) (t := t) ht ht2 ks (found ++ [n']) (by
      rw [List.nodup_append]
      refine ⟨nd, by simp, fun x hx y hy e => ?_⟩
      rw [List.mem_singleton.mp hy] at e
      exact q1 (e ▸ hx)) (fun x hx => by
      rcases List.mem_append.mp hx with h | h
      · exact rng x h
      · rw [List.mem_singleton.mp h]; exact ⟨q2, q3⟩) (by simp; omega)
    refine ⟨f', f1, f2, by rw [f3]; simp; omega, ?_⟩
    show (b_law_card_b4 _ _ _ (iL found) (.int k)).go _ = _
    rw [b, go_nx]
    exact f4
/-- a card's rows -/
structure Card (rows : List (List Int)) : Prop where
  lo : 2 ≤ rows.length
  hi : rows.length ≤ 4
  sq : ∀ r ∈ rows, r.length = rows.length
  rng : ∀ x ∈ rows.flatten, 0 ≤ x ∧ x ≤ 60
  nd : rows.flatten.Nodup
abbrev cardD (rows : List (List Int)) : D := .tuple (rows.map tupI)
theorem chunks_flat (s : Nat) (found : List Int) : ∀ m : Nat, ((List.range m).map fun k => (found.drop (s * k)).take s).flatten = found.take (s * m)
  | 0 => by simp
  | m + 1 => by
    rw [List.range_succ, List.map_append, List.flatten_append, chunks_flat s found m]
    simp only [List.map_cons, List.map_nil, List.flatten_cons, List.flatten_nil, List.append_nil]
    rw [Nat.mul_succ, List.take_add]
theorem cut_eq (found : List Int) (a b : Nat) (h : a + b ≤ found.length) : cutL (iL found) (some (a : Int)) (some ((a : Int) + b)) = iL ((found.drop a).take b) := by
  unfold cutL sIx
  have l : (iL found).length = found.length := by simp [iL]
  rw [l]
  simp only
  rw [if_neg (by omega), if_neg (by omega)]
  have e1 : min ((a : Int)).toNat found.length = a := by omega
  have e2 : min ((a : Int) + b).toNat found.length = a + b := by omega
  rw [e1, e2, Nat.add_sub_cancel_left]
  unfold iL
  rw [List.map_take, List.map_drop]
theorem card_rows {found : List Int} {s : Nat} (h2 : 2 ≤ s) (h4 : s ≤ 4) (hl : found.length = s * s) : b_law_card_k5 (.int (s : Int)) (iL found) = .ok (.rt (cardD ((List.range s).map fun k => (found.drop (s * k)).take s))) := by
  unfold b_law_card_k5
  have hr : pyRange (.int 0) (.int (s : Int)) = .ok ((List.range s).map fun (i : Nat) => PyData.int (i : Int)) := pyRange_ok s (by omega)
  simp only [bind_ok, hr, comp_ok]
  have hc : compO (fun d142 => eltO (Rs.ok true) (((part (pyMul (PyData.int (s : Int)) d142)).bind fun x163 => (part ((pyMul (PyData.int (s : Int)) d142).bind fun x160 => pyAdd x160 (PyData.int (s : Int)))).bind fun x164 => pySlice (PyData.list (iL found)) x163 x164).bind pyTuple))
      ((List.range s).map fun (i : Nat) => PyData.int (i : Int)) = .ok ((List.range s).map fun k => tupI ((found.drop (s * k)).take s)) := by
    refine compO_map fun k hk => ?_
    have hk := List.mem_range.mp hk
    have e1 : pyMul (.int (s : Int)) (.int (k : Int)) = .ok (.int ((s : Int) * k)) := pyMul_l (by omega) (by omega)
    have hsk : s * k + s ≤ s * s := by
      have : s * (k + 1) ≤ s * s := Nat.mul_le_mul_left _ (by omega)
      rw [Nat.mul_succ] at this
      exact this
    have e2 := cut_eq found (s * k) s (by omega)
    rw [Int.natCast_mul] at e2
    simp only [e1, part_int, bind_ok, pyAdd_int, pySlice, e2, pyTuple_list, eltO_true]
    rfl
  rw [hc]
  simp [cardD]
theorem card_ok (ns : List Int) (hl : ns.length ≤ 63) (a t : Int) (ht : 9 ≤ t) (ht2 : t ≤ 60) : ∃ rows : List (List Int), Card rows ∧ (∀ x ∈ rows.flatten, x ≤ t) ∧ m_law_card (.list (iL ns)) (.int a) (.int t) = .ok (cardD rows) := by
  obtain ⟨s, s2, s4, st, hd⟩ : ∃ s : Nat, 2 ≤ s ∧ s ≤ 4 ∧ ((s * s : Nat) : Int) ≤ t ∧ m_law_card (.list (iL ns)) (.int a) (.int t) = (b_law_card_k7 (.int (s : Int)) (.list (iL ns)) (.int a) (.int t) []).fin := by
    obtain ⟨j, j1, j2, j3⟩ := drawn_ok ns hl a 3 (by decide)
    obtain ⟨s, hs⟩ : ∃ s : Nat, 2 + j = (s : Int) := ⟨(2 + j).toNat, by omega⟩
    have emul : pyMul (.int (s : Int)) (.int (s : Int)) = .ok (.int ((s * s : Nat) : Int)) := by
      rw [pyMul_l (by omega) (by omega), Int.natCast_mul]
    by_cases hq : t < ((s * s : Nat) : Int)
    · refine ⟨3, by omega, by omega, by omega, ?_⟩
      unfold m_law_card b_law_card
      simp only [bind_ok, j3, pyAdd_int, hs, mkLst_ok (ds := []) (by decide), emul, pyGt_int, tst_bool, hq, decide_true, if_true, go_nx]
      rfl
    · refine ⟨s, by omega, by omega, by omega, ?_⟩
      unfold m_law_card b_law_card
      simp only [bind_ok, j3, pyAdd_int, hs, mkLst_ok (ds := []) (by decide), emul, pyGt_int, tst_bool, hq, decide_false, Bool.false_eq_true, if_false, go_nx]
  have ss : s * s ≤ 16 := Nat.mul_le_mul s4 s4
  have ss4 : 4 ≤ s * s := Nat.mul_le_mul s2 s2
  have emul : pyMul (.int (s : Int)) (.int (s : Int)) = .ok (.int ((s * s : Nat) : Int)) := by
    rw [pyMul_l (by omega) (by omega), Int.natCast_mul]
  have hr : pyRange (.int 0) (.int ((s * s : Nat) : Int)) = .ok ((List.range (s * s)).map fun (i : Nat) => PyData.int (i : Int)) := pyRange_ok (s * s) (by omega)
  have er : ((List.range (s * s)).map fun (i : Nat) => PyData.int (i : Int)) = iL ((List.range (s * s)).map fun (i : Nat) => (i : Int)) := by simp [iL]
  obtain ⟨f, f1, f2, f3, f4⟩ := card_for hl (a := a) (t := t) (by omega) ht2 ((List.range (s * s)).map fun (i : Nat) => (i : Int)) [] (by simp) (by simp) (by simpa using st)
  have fl : f.length = s * s := by rw [f3]; simp
  -- the rows
  have done : ∀ g : List Int, g.length = s * s → g.Nodup → (∀ x ∈ g, 0 ≤ x ∧ x ≤ t) → ∃ rows : List (List Int), Card rows ∧ (∀ x ∈ rows.flatten, x ≤ t) ∧ b_law_card_k5 (.int (s : Int)) (iL g) = .ok (.rt (cardD rows)) := fun g gl gn gr => by
    have fl := chunks_flat s g s
    rw [List.take_of_length_le (by omega)] at fl
    refine ⟨_, ⟨by simp; omega, by simp; omega, fun r hr => ?_, fun x hx => ?_, by rw [fl]; exact gn⟩, fun x hx => ?_, card_rows s2 s4 gl⟩
    · obtain ⟨k, hk, rfl⟩ := List.mem_map.mp hr
      have hk := List.mem_range.mp hk
      have hsk : s * k + s ≤ s * s := by
        have : s * (k + 1) ≤ s * s := Nat.mul_le_mul_left _ (by omega)
        rw [Nat.mul_succ] at this
        exact this
      simp
      omega
    · rw [fl] at hx
      have := gr x hx
      omega
    · rw [fl] at hx
      exact (gr x hx).2
  obtain ⟨z, z1, z2, z3⟩ := drawn_ok ns hl (a + 17) 3 (by decide)
  obtain ⟨y, y1, y2, y3⟩ := drawn_ok ns hl (a + 18) ((s * s : Nat) : Int) (by omega)
  have head : m_law_card (.list (iL ns)) (.int a) (.int t) = (b_law_card_k6 (.list (iL ns)) (.int a) (.int (s : Int)) (iL f)).fin := by
    rw [hd]
    unfold b_law_card_k7
    simp only [bind_ok, emul, hr]
    rw [er]
    have f4' : forO (b_law_card_b4 (.list (iL ns)) (.int a) (.int t)) (iL ((List.range (s * s)).map fun (i : Nat) => (i : Int))) [] = .ok (.nx (iL f)) := f4
    rw [f4', go_nx]
  rw [head]
  unfold b_law_card_k6
  simp only [bind_ok, pyAdd_int, z3, pyEq_int, tst_bool, emul, y3]
  by_cases hz : z = 0
  · obtain ⟨i, hi⟩ : ∃ i : Nat, y = (i : Int) := ⟨y.toNat, by omega⟩
    have hil : i < f.length := by omega
    subst hi
    have hset : setIx (iL f) (PyData.int (i : Int)) (fun n115 => (Rs.ok (Out.nx ((iL f).set n115 (PyData.int 0))) : Rs (Out (List D)))) = .ok (.nx (iL (f.set i 0))) := by
      unfold setIx
      rw [ofInt_int, bind_ok, ixOf_nat (by simpa [iL] using hil)]
      simp [iL, List.map_set]
    simp only [hz, beq_self_eq_true, if_true, hset, go_nx]
    obtain ⟨rows, r1, r2, r3⟩ := done (f.set i 0) (by simp; exact fl) (by
      have h0 : (0 : Int) ∉ f := fun h => by have := f2 0 h; omega
      rw [List.nodup_iff_pairwise_ne] at f1 ⊢
      rw [List.pairwise_iff_getElem] at f1 ⊢
      intro p q hp hq hpq
      simp only [List.length_set] at hp hq
      rw [List.getElem_set, List.getElem_set]
      split
      · split
        · omega
        · exact fun e => h0 (e ▸ List.getElem_mem _)
      · split
        · exact fun e => h0 (e ▸ List.getElem_mem _)
        · exact f1 p q hp hq hpq) (fun x hx => by
      rcases List.mem_or_eq_of_mem_set hx with h | h
      · have := f2 x h; omega
      · omega)
    exact ⟨rows, r1, r2, by rw [r3]; rfl⟩
  · have hz2 : (z == 0) = false := by simp [hz]
    simp only [hz2, Bool.false_eq_true, if_false, go_nx]
    obtain ⟨rows, r1, r2, r3⟩ := done f fl f1 (fun x hx => by have := f2 x hx; omega)
    exact ⟨rows, r1, r2, by rw [r3]; rfl⟩
end BG
namespace BG
open PySem
theorem pyNe_str {a b : Str} (ha : shp (.str a) = true) (hb : shp (.str b) = true) : pyNe (.str a) (.str b) = .ok (.bool (!(a == b))) := by
  unfold pyNe
  rw [if_pos ⟨ha, hb⟩]
  simp only [PyData.eqv]
theorem pyEq_str {a b : Str} (ha : shp (.str a) = true) (hb : shp (.str b) = true) : pyEq (.str a) (.str b) = .ok (.bool (a == b)) := by
  unfold pyEq
  rw [if_pos ⟨ha, hb⟩]
  simp only [PyData.eqv]
def ruleS : Nat → Str
  | 0 => "rows"
  | 1 => "lines"
  | _ => "all"
theorem sh_rows : shp (.str "rows") = true := by decide +kernel
theorem sh_lines : shp (.str "lines") = true := by decide +kernel
theorem sh_all : shp (.str "all") = true := by decide +kernel
theorem shp_rule : ∀ r : Nat, shp (.str (ruleS r)) = true
  | 0 => sh_rows
  | 1 => sh_lines
  | _ + 2 => sh_all
theorem rule_rows : ∀ r : Nat, (ruleS r == "rows") = decide (r = 0)
  | 0 => by decide +kernel
  | 1 => by decide +kernel
  | n + 2 => by
    have h : ((("all" : Str)) == "rows") = false := by decide +kernel
    rw [decide_eq_false (by omega)]
    exact h
theorem rule_all : ∀ r : Nat, (ruleS r == "all") = decide (2 ≤ r)
  | 0 => by decide +kernel
  | 1 => by decide +kernel
  | n + 2 => by
    have h : ((("all" : Str)) == "all") = true := by decide +kernel
    rw [decide_eq_true (by omega)]
    exact h
theorem ne_rows (r : Nat) : pyNe (.str (ruleS r)) (.str "rows") = .ok (.bool (!decide (r = 0))) := by rw [pyNe_str (shp_rule r) sh_rows, rule_rows]
theorem eq_all (r : Nat) : pyEq (.str (ruleS r)) (.str "all") = .ok (.bool (decide (2 ≤ r))) := by rw [pyEq_str (shp_rule r) sh_all, rule_all]
theorem rule_ok (ns : List Int) (hl : ns.length ≤ 63) (a : Int) : ∃ r : Nat, r ≤ 2 ∧ m_law_rule (.list (iL ns)) (.int a) = .ok (.str (ruleS r)) := by
  obtain ⟨j, j1, j2, j3⟩ := drawn_ok ns hl a 3 (by decide)
  unfold m_law_rule b_law_rule
  simp only [bind_ok, j3, mkLst_ok (ds := [PyData.str "rows", PyData.str "lines", PyData.str "all"]) (by decide), lstD_ok]
  have : j = 0 ∨ j = 1 ∨ j = 2 := by omega
  rcases this with rfl | rfl | rfl
  · exact ⟨0, by decide, rfl⟩
  · exact ⟨1, by decide, rfl⟩
  · exact ⟨2, by decide, rfl⟩
theorem isT_str (s : Str) : pyIsT "str" (.str s) = .ok (.bool true) := rfl
theorem sh_rules : shp (.list [.str "rows", .str "lines", .str "all"]) = true := by decide +kernel
theorem check_rule_ok (r : Nat) : m_check_rule (.str (ruleS r)) = .ok .none := by
  unfold m_check_rule b_check_rule
  simp only [bind_ok, isT_str, tst_bool, notT_ok, orT_ok, Bool.not_true, Bool.false_eq_true, if_false, mkTup_ok (ds := [PyData.str "rows", PyData.str "lines", PyData.str "all"]) (by decide)]
  have h : pyNotIn (.str (ruleS r)) (.tuple [.str "rows", .str "lines", .str "all"]) = .ok (.bool false) := by
    unfold pyNotIn
    rw [ofSeq_tuple, bind_ok, if_pos ⟨shp_rule r, sh_rules⟩]
    have h : ([PyData.str "rows", .str "lines", .str "all"].any fun z => PyData.eqv z (.str (ruleS r))) = true := by
      match r with
      | 0 => decide +kernel
      | 1 => decide +kernel
      | n + 2 =>
        show ([PyData.str "rows", .str "lines", .str "all"].any fun z => PyData.eqv z (.str "all")) = true
        decide +kernel
    rw [h]
    rfl
  rw [h]
  simp only [tst_bool, bind_ok, Bool.false_eq_true, if_false, go_nx, fin_nx]
theorem sz16 (n : Nat) (h : n ≤ 1000) : n ≤ sizeMax := by unfold sizeMax; omega
theorem ix_card {rows : List (List Int)} {k : Nat} (h : k < rows.length) : pyIx (cardD rows) (.int (k : Int)) = .ok (tupI (rows.getD k [])) := by
  unfold cardD
  rw [pyIx_tuple (by simpa using h)]
  simp [List.getD_eq_getElem?_getD, h]
theorem ix_tup {l : List Int} {k : Nat} (h : k < l.length) : pyIx (tupI l) (.int (k : Int)) = .ok (.int (l.getD k 0)) := by
  unfold tupI
  rw [pyIx_tuple (by simpa using h)]
  simp [List.getD_eq_getElem?_getD, h]
theorem getD_mem {α : Type} {l : List α} {k : Nat} {d : α} (h : k < l.length) : l.getD k d ∈ l := by
  simp [List.getD_eq_getElem?_getD, h]
theorem Card.row_len {rows : List (List Int)} (C : Card rows) {k : Nat} (h : k < rows.length) : (rows.getD k []).length = rows.length := C.sq _ (getD_mem h)
def colOf (rows : List (List Int)) (c : Nat) : List Int := rows.map fun r => r.getD c 0
def diagOf (rows : List (List Int)) : List Int := (List.range rows.length).map fun k => (rows.getD k []).getD k 0
def antiOf (rows : List (List Int)) : List Int := (List.range rows.length).map fun k => (rows.getD k []).getD (rows.length - 1 - k) 0
def srcOf (rows : List (List Int)) (r : Nat) : List (List Int) := rows ++ (if r = 0 then [] else (List.range rows.length).map (colOf rows)) ++ (if 2 ≤ r then [diagOf rows, antiOf rows] else [])
def clean (l : List Int) : List Int := isort ltI (l.filter fun x => !(x == 0))
def linesOf (rows : List (List Int)) (r : Nat) : List (List Int) := usort ltL ((srcOf rows r).map clean)
theorem src_len {rows : List (List Int)} (C : Card rows) (r : Nat) : (srcOf rows r).length ≤ 10 := by
  have h := C.hi
  unfold srcOf
  split <;> split <;> simp <;> omega
theorem clean_ne {l : List Int} {x y : Int} (hx : x ∈ l) (hy : y ∈ l) (h : x ≠ y) : clean l ≠ [] := by
  unfold clean
  intro e
  have p := isort_perm (lt := ltI) (l.filter fun x => !(x == 0))
  rw [e] at p
  have q := List.nil_perm.mp p
  have hx' : ∀ z ∈ l, z = 0 := fun z hz => by
    have := List.filter_eq_nil_iff.mp q z hz
    simpa using this
  exact h (by rw [hx' x hx, hx' y hy])
theorem src_ne {rows : List (List Int)} (C : Card rows) {r : Nat} {l : List Int} (h : l ∈ srcOf rows r) : clean l ≠ [] := by
  have lo := C.lo
  have n0 : 0 < rows.length := by omega
  have n1 : 1 < rows.length := by omega
  -- values of different rows differ
  have dif : ∀ c d : Nat, c < rows.length → d < rows.length → (rows.getD 0 []).getD c 0 ≠ (rows.getD 1 []).getD d 0 := fun c d hc hd => by
    have m0 := getD_mem (l := rows.getD 0 []) (k := c) (d := 0) (by rw [C.row_len n0]; exact hc)
    have m1 := getD_mem (l := rows.getD 1 []) (k := d) (d := 0) (by rw [C.row_len n1]; exact hd)
    match rows, n1, C.nd with
    | r0 :: r1 :: rs, _, nd =>
      simp only [List.flatten_cons] at nd
      have := (List.nodup_append.mp nd).2.2
      exact this _ m0 _ (List.mem_append_left _ m1)
  unfold srcOf at h
  rcases List.mem_append.mp h with h | h
  · rcases List.mem_append.mp h with h | h
    · have hl := C.sq l h
      have nd : l.Nodup := by
        obtain ⟨s, t, e⟩ := List.append_of_mem h
        have := C.nd
        rw [e] at this
        simp only [List.flatten_append, List.flatten_cons] at this
        exact (List.nodup_append.mp (List.nodup_append.mp this).2.1).1
      match l, hl, nd with
      | [], hl, _ => simp at hl; omega
      | [_], hl, _ => simp at hl; omega
      | x :: y :: l, _, nd =>
        refine clean_ne (x := x) (y := y) (by simp) (by simp) fun e => ?_
        have := (List.nodup_cons.mp nd).1
        exact this (by simp [e])
    · split at h
      · cases h
      · obtain ⟨c, hc, rfl⟩ := List.mem_map.mp h
        have hc := List.mem_range.mp hc
        unfold colOf
        exact clean_ne (List.mem_map.mpr ⟨rows.getD 0 [], getD_mem n0, rfl⟩) (List.mem_map.mpr ⟨rows.getD 1 [], getD_mem n1, rfl⟩) (dif c c hc hc)
  · split at h
    · rcases List.mem_cons.mp h with rfl | h
      · unfold diagOf
        exact clean_ne (List.mem_map.mpr ⟨0, List.mem_range.mpr n0, rfl⟩) (List.mem_map.mpr ⟨1, List.mem_range.mpr n1, rfl⟩) (dif 0 1 n0 n1)
      · rw [List.mem_singleton.mp h]
        unfold antiOf
        exact clean_ne (List.mem_map.mpr ⟨0, List.mem_range.mpr n0, rfl⟩) (List.mem_map.mpr ⟨1, List.mem_range.mpr n1, rfl⟩) (dif _ _ (by omega) (by omega))
    · cases h
theorem comp_nz (l : List Int) : compO (fun d => eltO (tst (pyNe d (PyData.int 0))) (Rs.ok d)) (iL l) = .ok (iL (l.filter fun x => !(x == 0))) :=
  compO_filter (e := PyData.int) (h := PyData.int) fun x _ => by rw [pyNe_int, tst_bool, eltO_ok]
theorem lines_k1 {ls : List (List Int)} (hl : ls.length < 64) (hn : ∀ l ∈ ls, clean l ≠ []) : b_find_lines_k1 (ls.map tupI) = .ok (.rt (.list ((usort ltL (ls.map clean)).map tupI))) := by
  unfold b_find_lines_k1
  simp only [bind_ok, ofSeq_list, comp_ok]
  rw [compO_map (e := tupI) (h := fun l => tupI (clean l)) (xs := ls)]
  · have e : (ls.map fun l => tupI (clean l)) = (ls.map clean).map tupI := by simp
    rw [e, lstD_ok, bind_ok, pySortedSet_tups _ (by simpa using hl) (fun l h => by
      obtain ⟨z, hz, rfl⟩ := List.mem_map.mp h
      exact hn z hz)]
    rfl
  · intro l _
    unfold tupI clean
    simp only [ofSeq_tuple, bind_ok, comp_ok]
    have := comp_nz l
    unfold iL at this
    rw [this, lstD_ok, bind_ok]
    have q := pySorted_ints (l.filter fun x => !(x == 0))
    unfold iL at q
    rw [q]
    rfl
theorem find_lines_ok {rows : List (List Int)} (C : Card rows) (r : Nat) : m_find_lines (cardD rows) (.str (ruleS r)) = .ok (.list ((linesOf rows r).map tupI)) := by
  have lo := C.lo
  have hi := C.hi
  have hr : pyRange (.int 0) (.int (rows.length : Int)) = .ok ((List.range rows.length).map fun (i : Nat) => PyData.int (i : Int)) := pyRange_ok _ (by omega)
  have k2 : ∀ s : List (List Int), s.length ≤ 8 → b_find_lines_k2 (.str (ruleS r)) (.int (rows.length : Int)) (cardD rows) (s.map tupI) = b_find_lines_k1 ((s ++ (if 2 ≤ r then [diagOf rows, antiOf rows] else [])).map tupI) := fun s hs => by
    unfold b_find_lines_k2
    simp only [bind_ok, eq_all, tst_bool]
    by_cases h2 : 2 ≤ r
    · simp only [h2, decide_true, if_true, hr, bind_ok, comp_ok, pySub_int]
      rw [compO_map (e := fun (i : Nat) => PyData.int (i : Int)) (h := fun k => PyData.int ((rows.getD k []).getD k 0))]
      · rw [lstD_ok, bind_ok, pyTuple_list, bind_ok, if_pos (by unfold sizeMax; simp; omega)]
        rw [compO_map (e := fun (i : Nat) => PyData.int (i : Int)) (h := fun k => PyData.int ((rows.getD k []).getD (rows.length - 1 - k) 0))]
        · rw [lstD_ok, bind_ok, pyTuple_list, bind_ok, if_pos (by unfold sizeMax; simp; omega), go_nx]
          exact congrArg b_find_lines_k1 (by simp [tupI, diagOf, antiOf])
        · intro k hk
          have hk := List.mem_range.mp hk
          have e : (rows.length : Int) - 1 - (k : Int) = ((rows.length - 1 - k : Nat) : Int) := by omega
          rw [ix_card hk, bind_ok, pySub_int, bind_ok, e, ix_tup (by rw [C.row_len hk]; omega), eltO_true, bind_ok]
      · intro k hk
        have hk := List.mem_range.mp hk
        rw [ix_card hk, bind_ok, ix_tup (by rw [C.row_len hk]; exact hk), eltO_true, bind_ok]
    · simp only [h2, decide_false, Bool.false_eq_true, if_false, go_nx, List.append_nil]
  unfold m_find_lines b_find_lines
  have e0 : pyLen (cardD rows) = .ok (.int (rows.length : Int)) := by simp [cardD]
  have e1 : pyList (cardD rows) = .ok (rows.map tupI) := rfl
  simp only [bind_ok, e0, e1, ne_rows, tst_bool]
  have fin : ∀ s : List (List Int), s = srcOf rows r → (b_find_lines_k1 (s.map tupI)).fin = .ok (.list ((linesOf rows r).map tupI)) := fun s e => by
    subst e
    rw [lines_k1 (by have := src_len C r; omega) (fun l h => src_ne C h)]
    rfl
  by_cases h0 : r = 0
  · simp only [h0, decide_true, Bool.not_true, Bool.false_eq_true, if_false, go_nx]
    rw [← h0, k2 rows (by omega)]
    exact fin _ (by unfold srcOf; rw [if_pos h0, List.append_nil])
  · simp only [h0, decide_false, Bool.not_false, if_true, hr, bind_ok, comp_ok]
    rw [compO_map (e := fun (i : Nat) => PyData.int (i : Int)) (h := fun c => tupI (colOf rows c))]
    · rw [lstD_ok, bind_ok, ofSeq_list, bind_ok, if_pos (by unfold sizeMax; simp; omega), go_nx]
      have e : rows.map tupI ++ (List.range rows.length).map (fun c => tupI (colOf rows c)) = (rows ++ (List.range rows.length).map (colOf rows)).map tupI := by simp
      rw [e, k2 _ (by simp; omega)]
      exact fin _ (by unfold srcOf; rw [if_neg h0])
    · intro c hc
      have hc := List.mem_range.mp hc
      show eltO (Rs.ok true) ((lstD ((ofSeq (cardD rows)).bind fun z => compO _ z)).bind pyTuple) = _
      have e : ofSeq (cardD rows) = .ok (rows.map tupI) := rfl
      rw [e, bind_ok, compO_map (e := tupI) (h := fun rr => PyData.int (rr.getD c 0))]
      · rw [lstD_ok, bind_ok, pyTuple_list, eltO_true, bind_ok]
        simp [tupI, colOf]
      · intro rr hrr
        rw [ix_tup (by rw [C.sq rr hrr]; exact hc), eltO_true, bind_ok]
end BG
namespace BG
open PySem
theorem is_int_ok (x a b : Int) : m_is_int (.int x) (.int a) (.int b) = .ok (.bool (decide (a ≤ x) && decide (x ≤ b))) := by
  unfold m_is_int b_is_int
  have e1 : pyIsT "int" (.int x) = .ok (.bool true) := rfl
  have e2 : pyIsT "bool" (.int x) = .ok (.bool false) := rfl
  simp only [bind_ok, e1, e2, notV_ok, andV_ok, if_true, Bool.not_false, chainV_int]
  by_cases h : a ≤ x
  · simp [h]
  · simp [h]
theorem fields_ok {rows : List (List Int)} (hl : rows.flatten.length ≤ 1000) : m_fields (cardD rows) = .ok (.list (iL rows.flatten)) := by
  unfold m_fields b_fields comp2
  have e : ofSeq (cardD rows) = .ok (rows.map tupI) := rfl
  simp only [bind_ok, e]
  rw [compF_map (e := tupI) (h := fun l => iL l) (xs := rows)]
  · have e2 : (rows.map fun l => iL l).flatten = iL rows.flatten := by
      unfold iL
      rw [List.map_flatten]
    rw [bind_ok, e2, mkLst_ok (by unfold iL; rw [List.length_map]; exact sz16 _ hl)]
    rfl
  · intro l _
    unfold tupI
    rw [ofSeq_tuple, comp_ok]
    exact compO_map (e := PyData.int) (h := PyData.int) fun x _ => rfl
theorem flat_len {n : Nat} : ∀ {rows : List (List Int)}, (∀ r ∈ rows, r.length = n) → rows.flatten.length = rows.length * n
  | [], _ => by simp
  | r :: rows, h => by
    have h1 := h r (by simp)
    have h2 := flat_len (rows := rows) fun x hx => h x (by simp [hx])
    simp only [List.flatten_cons, List.length_append, List.length_cons, h1, h2, Nat.succ_mul]
    omega
theorem Card.flat {rows : List (List Int)} (C : Card rows) : rows.flatten.length = rows.length * rows.length := flat_len C.sq
theorem Card.flat16 {rows : List (List Int)} (C : Card rows) : rows.flatten.length ≤ 16 := by
  rw [C.flat]
  exact Nat.mul_le_mul C.hi C.hi
theorem distinct_nodup {ns : List Int} (h : ns.Nodup) : distinctI ns = ns.length := by
  unfold distinctI
  have h1 := usort_length ltI_o ns
  have h2 := nodup_sub h fun x hx => (mem_usort ltI_o).mpr hx
  omega
theorem all_map_true {α : Type} {xs : List α} {f : α → Bool} (h : ∀ x ∈ xs, f x = true) : (xs.map f).all id = true := by
  rw [List.all_eq_true]
  intro b hb
  obtain ⟨x, hx, rfl⟩ := List.mem_map.mp hb
  exact h x hx
theorem is_card_ok {rows : List (List Int)} (C : Card rows) : m_is_card (cardD rows) = .ok (.bool true) := by
  have lo := C.lo
  have hi := C.hi
  have f16 := C.flat16
  have e0 : pyLen (cardD rows) = .ok (.int (rows.length : Int)) := by simp [cardD]
  have eT : pyIsT "tuple" (cardD rows) = .ok (.bool true) := rfl
  have eS : ofSeq (cardD rows) = .ok (rows.map tupI) := rfl
  have h2 : (2 : Int) ≤ rows.length := by omega
  have h4 : (rows.length : Int) ≤ 4 := by omega
  have k1 : b_is_card_k1 (cardD rows) = .ok (.rt (.bool true)) := by
    unfold b_is_card_k1
    simp only [bind_ok, fields_ok (rows := rows) (by omega), ofSeq_list, comp_ok]
    rw [compO_map (e := PyData.int) (h := fun x => PyData.bool (decide (0 ≤ x) && decide (x ≤ 60))) (xs := rows.flatten)]
    · have e : (rows.flatten.map fun x => PyData.bool (decide (0 ≤ x) && decide (x ≤ 60))) = (rows.flatten.map fun x => (decide (0 ≤ x) && decide (x ≤ 60))).map PyData.bool := by rw [List.map_map]; rfl
      rw [e, lstD_ok, bind_ok, pyAll_map, all_map_true (fun x hx => by
        have := C.rng x hx
        simp [this.1, this.2]), andV_ok, if_pos rfl]
      have e2 : pyLenSet (.list (iL rows.flatten)) = .ok (.int (rows.flatten.length : Nat)) := by
        simp only [pyLenSet, intsOf_iL]
        rw [if_pos (by omega), distinct_nodup C.nd]
      have e3 : (iL rows.flatten).length = rows.flatten.length := List.length_map _
      rw [e2, bind_ok, pyLen_list, bind_ok, e3, pyEq_int]
      simp
    · intro x _
      rw [is_int_ok, eltO_true, bind_ok]
  have k2 : b_is_card_k2 (cardD rows) = .ok (.rt (.bool true)) := by
    unfold b_is_card_k2
    simp only [bind_ok, eS, comp_ok]
    rw [compO_map (e := tupI) (h := fun _ => PyData.bool true) (xs := rows)]
    · have e : (rows.map fun _ => PyData.bool true) = (rows.map fun _ => true).map PyData.bool := by simp
      rw [e, lstD_ok, bind_ok, pyAll_map, all_map_true (fun x hx => rfl)]
      simp only [tst_bool, notT_ok, Bool.not_true, bind_ok, Bool.false_eq_true, if_false, go_nx]
      exact k1
    · intro l hl
      have e1 : pyIsT "tuple" (tupI l) = .ok (.bool true) := rfl
      have e2 : pyLen (tupI l) = .ok (.int (l.length : Int)) := by simp [tupI]
      rw [e1, andV_ok, if_pos rfl, e2, bind_ok, e0, bind_ok, pyEq_int, C.sq l hl, eltO_true, bind_ok]
      simp
  unfold m_is_card b_is_card
  simp only [bind_ok, eT, tst_bool, notT_ok, Bool.not_true, orT_ok, Bool.false_eq_true, if_false, e0, chainV_int, h2, h4, decide_true, if_true, pyLe_int, go_nx]
  rw [k2]
  rfl
theorem check_card_ok {rows : List (List Int)} (C : Card rows) : m_check_card (cardD rows) = .ok .none := by
  unfold m_check_card b_check_card
  simp only [bind_ok, is_card_ok C, tst_bool, notT_ok, Bool.not_true, Bool.false_eq_true, if_false, go_nx, fin_nx]
def nz (l : List Int) : List Int := l.filter fun x => !(x == 0)
theorem numbers_ok {rows : List (List Int)} (C : Card rows) : m_numbers (cardD rows) = .ok (.list (iL (isort ltI (nz rows.flatten)))) := by
  unfold m_numbers b_numbers
  have f16 := C.flat16
  simp only [bind_ok, check_card_ok C, fields_ok (rows := rows) (by omega), ofSeq_list, comp_ok]
  rw [comp_nz, lstD_ok, bind_ok, pySorted_ints]
  rfl
theorem lines_ok {rows : List (List Int)} (C : Card rows) (r : Nat) : m_lines (cardD rows) (.str (ruleS r)) = .ok (.list ((linesOf rows r).map tupI)) := by
  unfold m_lines b_lines
  simp only [bind_ok, check_card_ok C, check_rule_ok, find_lines_ok C, fin_rt]
theorem comp_in (x : Int) (ls : List (List Int)) : compO (fun d => eltO (tst (pyIn (PyData.int x) d)) (Rs.ok d)) (ls.map tupI) = .ok ((ls.filter fun l => decide (x ∈ l)).map tupI) :=
  compO_filter (e := tupI) (h := tupI) fun l _ => by rw [pyIn_tup, tst_bool, eltO_ok]
theorem lines_through_ok {rows : List (List Int)} (C : Card rows) (r : Nat) {x : Int} (h1 : 1 ≤ x) (h2 : x ≤ 60) : m_lines_through (cardD rows) (.str (ruleS r)) (.int x) = .ok (.list (((linesOf rows r).filter fun l => decide (x ∈ l)).map tupI)) := by
  unfold m_lines_through b_lines_through b_lines_through_k1
  simp only [bind_ok, check_card_ok C, check_rule_ok, is_int_ok, h1, h2, decide_true, Bool.and_self, tst_bool, notT_ok, Bool.not_true, Bool.false_eq_true, if_false, go_nx, find_lines_ok C, ofSeq_list, comp_ok, comp_in, lstD_ok, fin_rt]
def pD (q : Nat × Nat) : D := .tuple [.int q.1, .int q.2]
def lineD (L : List (Nat × Nat)) : D := .list (L.map pD)
def atP (rows : List (List Int)) (q : Nat × Nat) : Int := (rows.getD q.1 []).getD q.2 0
theorem law_lines_b1 {rows : List (List Int)} (C : Card rows) {L : List (Nat × Nat)} (hL : ∀ q ∈ L, q.1 < rows.length ∧ q.2 < rows.length) {acc : List (List Int)} (ha : acc.length ≤ 1000) :
    b_law_lines_b1 (cardD rows) (acc.map tupI) (lineD L) = .ok (.nx ((acc ++ [clean (L.map (atP rows))]).map tupI)) := by
  unfold b_law_lines_b1 lineD
  simp only [bind_ok, ofSeq_list, comp_ok]
  rw [compO_filter (e := pD) (p := fun q => !(atP rows q == 0)) (h := fun q => PyData.int (atP rows q)) (xs := L)]
  · have e : ((L.filter fun q => !(atP rows q == 0)).map fun q => PyData.int (atP rows q)) = iL ((L.map (atP rows)).filter fun x => !(x == 0)) := by
      unfold iL
      rw [List.filter_map, List.map_map]
      rfl
    rw [e, lstD_ok, bind_ok, pySorted_ints, lstD_ok, bind_ok, pyTuple_list, bind_ok, if_pos (by rw [List.length_map]; unfold sizeMax; omega)]
    simp [clean, tupI]
  · intro q hq
    obtain ⟨h1, h2⟩ := hL q hq
    show eltO (tst (((pyIx (cardD rows) (.int (q.1 : Nat))).bind fun x => pyIx x (.int (q.2 : Nat))).bind fun x => pyNe x (PyData.int 0))) ((pyIx (cardD rows) (.int (q.1 : Nat))).bind fun x => pyIx x (.int (q.2 : Nat))) = _
    rw [ix_card h1, bind_ok, ix_tup (by rw [C.row_len h1]; exact h2), bind_ok, pyNe_int, tst_bool, eltO_ok]
    rfl
theorem law_lines_for {rows : List (List Int)} (C : Card rows) : ∀ {Ls : List (List (Nat × Nat))} {acc : List (List Int)}, (∀ L ∈ Ls, ∀ q ∈ L, q.1 < rows.length ∧ q.2 < rows.length) → acc.length + Ls.length ≤ 1000 →
    forO (b_law_lines_b1 (cardD rows)) (Ls.map lineD) (acc.map tupI) = .ok (.nx ((acc ++ Ls.map fun L => clean (L.map (atP rows))).map tupI))
  | [], acc, _, _ => by
    simp
    rfl
  | L :: Ls, acc, h, hl => by
    simp only [List.length_cons] at hl
    show (b_law_lines_b1 (cardD rows) (acc.map tupI) (lineD L)).go _ = _
    rw [law_lines_b1 C (h L (by simp)) (by omega), go_nx, law_lines_for C (fun M hM => h M (by simp [hM])) (by simp; omega)]
    simp
theorem range_getD {α : Type} {l : List α} {d : α} {n : Nat} (h : l.length = n) : ((List.range n).map fun i => l.getD i d) = l := by
  subst h
  apply List.ext_getElem
  · simp
  · intro i h1 h2
    simp [List.getD_eq_getElem?_getD, h2]
theorem mkTup2 (a b : D) : mkTup [a, b] = .ok (.tuple [a, b]) := mkTup_ok (by unfold sizeMax; simp)
theorem law_lines_ok {rows : List (List Int)} (C : Card rows) (r : Nat) : m_law_lines (cardD rows) (.str (ruleS r)) = .ok (.list ((linesOf rows r).map tupI)) := by
  have lo := C.lo
  have hi := C.hi
  have hr : pyRange (.int 0) (.int (rows.length : Int)) = .ok ((List.range rows.length).map fun (i : Nat) => PyData.int (i : Int)) := pyRange_ok _ (by omega)
  have e0 : pyLen (cardD rows) = .ok (.int (rows.length : Int)) := by simp [cardD]
  let R : List (List (Nat × Nat)) := (List.range rows.length).map fun a => (List.range rows.length).map fun b => (a, b)
  let Q : List (List (Nat × Nat)) := (List.range rows.length).map fun a => (List.range rows.length).map fun b => (b, a)
  let X : List (List (Nat × Nat)) := [(List.range rows.length).map fun k => (k, k), (List.range rows.length).map fun k => (k, rows.length - 1 - k)]
  have okR : ∀ L ∈ R, ∀ q ∈ L, q.1 < rows.length ∧ q.2 < rows.length := fun L hL q hq => by
    obtain ⟨a, ha, rfl⟩ := List.mem_map.mp hL
    obtain ⟨b, hb, rfl⟩ := List.mem_map.mp hq
    exact ⟨List.mem_range.mp ha, List.mem_range.mp hb⟩
  have okQ : ∀ L ∈ Q, ∀ q ∈ L, q.1 < rows.length ∧ q.2 < rows.length := fun L hL q hq => by
    obtain ⟨a, ha, rfl⟩ := List.mem_map.mp hL
    obtain ⟨b, hb, rfl⟩ := List.mem_map.mp hq
    exact ⟨List.mem_range.mp hb, List.mem_range.mp ha⟩
  have okX : ∀ L ∈ X, ∀ q ∈ L, q.1 < rows.length ∧ q.2 < rows.length := fun L hL q hq => by
    rcases List.mem_cons.mp hL with rfl | hL
    · obtain ⟨b, hb, rfl⟩ := List.mem_map.mp hq
      exact ⟨List.mem_range.mp hb, List.mem_range.mp hb⟩
    · rw [List.mem_singleton.mp hL] at hq
      obtain ⟨b, hb, rfl⟩ := List.mem_map.mp hq
      have := List.mem_range.mp hb
      exact ⟨this, by show rows.length - 1 - b < rows.length; omega⟩
  have vR : (R.map fun L => clean (L.map (atP rows))) = rows.map clean := by
    have e : ∀ a ∈ List.range rows.length, clean (((List.range rows.length).map fun b => (a, b)).map (atP rows)) = clean (rows.getD a []) := fun a ha => by
      rw [List.map_map]
      exact congrArg clean (range_getD (l := rows.getD a []) (d := 0) (C.row_len (List.mem_range.mp ha)))
    show (((List.range rows.length).map fun a => (List.range rows.length).map fun b => (a, b)).map fun L => clean (L.map (atP rows))) = _
    rw [List.map_map]
    refine (List.map_congr_left (g := fun a => clean (rows.getD a [])) (fun a ha => e a ha)).trans ?_
    have := congrArg (List.map clean) (range_getD (l := rows) (d := []) rfl)
    rw [List.map_map] at this
    exact this
  have vQ : (Q.map fun L => clean (L.map (atP rows))) = ((List.range rows.length).map (colOf rows)).map clean := by
    show (((List.range rows.length).map fun a => (List.range rows.length).map fun b => (b, a)).map fun L => clean (L.map (atP rows))) = _
    rw [List.map_map, List.map_map]
    refine List.map_congr_left fun a ha => ?_
    show clean (((List.range rows.length).map fun b => (b, a)).map (atP rows)) = clean (colOf rows a)
    rw [List.map_map]
    unfold colOf
    have := congrArg (List.map fun rr : List Int => rr.getD a 0) (range_getD (l := rows) (d := []) rfl)
    rw [List.map_map] at this
    exact congrArg clean this
  have vX : (X.map fun L => clean (L.map (atP rows))) = [diagOf rows, antiOf rows].map clean := by
    show [clean (((List.range rows.length).map fun k => (k, k)).map (atP rows)), clean (((List.range rows.length).map fun k => (k, rows.length - 1 - k)).map (atP rows))] = [clean (diagOf rows), clean (antiOf rows)]
    rw [List.map_map, List.map_map]
    rfl
  have k3 : ∀ Ls : List (List (Nat × Nat)), (∀ L ∈ Ls, ∀ q ∈ L, q.1 < rows.length ∧ q.2 < rows.length) → Ls.length ≤ 100 → (Ls.map fun L => clean (L.map (atP rows))) = (srcOf rows r).map clean → (b_law_lines_k3 (.list (Ls.map lineD)) (cardD rows)).fin = .ok (.list ((linesOf rows r).map tupI)) := fun Ls h hl e => by
    unfold b_law_lines_k3 b_law_lines_k2
    have f := law_lines_for C (Ls := Ls) (acc := []) h (by simp; omega)
    simp only [List.map_nil, List.nil_append] at f
    simp only [bind_ok, mkLst_ok (ds := []) (by decide), ofSeq_list, f, go_nx, e]
    rw [pySortedSet_tups _ (by rw [List.length_map]; have := src_len C r; omega) (fun l hl => by
      obtain ⟨z, hz, rfl⟩ := List.mem_map.mp hl
      exact src_ne C hz)]
    rfl
  have two : ∀ a b : Nat, eltO (Rs.ok true) ((Rs.ok [PyData.int (a : Int), PyData.int (b : Int)]).bind mkTup) = .ok (some (pD (a, b))) := fun a b => by
    rw [bind_ok, mkTup2, eltO_true, bind_ok]
    rfl
  have k4 : ∀ Ls : List (List (Nat × Nat)), (∀ L ∈ Ls, ∀ q ∈ L, q.1 < rows.length ∧ q.2 < rows.length) → Ls.length ≤ 10 → (Ls.map fun L => clean (L.map (atP rows))) = (rows ++ (if r = 0 then [] else (List.range rows.length).map (colOf rows))).map clean →
      (b_law_lines_k4 (.str (ruleS r)) (.list (Ls.map lineD)) (.int (rows.length : Int)) (cardD rows)).fin = .ok (.list ((linesOf rows r).map tupI)) := fun Ls h hl e => by
    unfold b_law_lines_k4
    simp only [bind_ok, eq_all, tst_bool]
    by_cases h2 : 2 ≤ r
    · simp only [h2, decide_true, if_true, hr, bind_ok, comp_ok]
      rw [compO_map (e := fun (i : Nat) => PyData.int (i : Int)) (h := fun k => pD (k, k)) (fun k _ => two k k), lstD_ok, bind_ok]
      rw [compO_map (e := fun (i : Nat) => PyData.int (i : Int)) (h := fun k => pD (k, rows.length - 1 - k))]
      · rw [lstD_ok, bind_ok, bind_ok, bind_ok, mkLst_ok (by unfold sizeMax; simp), lstD_ok, bind_ok]
        have eA : pyAdd (.list (Ls.map lineD)) (.list [.list ((List.range rows.length).map fun k => pD (k, k)), .list ((List.range rows.length).map fun k => pD (k, rows.length - 1 - k))]) = .ok (.list ((Ls ++ X).map lineD)) := by
          show (if _ then _ else _) = _
          rw [if_pos (by unfold sizeMax; simp; omega)]
          simp [lineD, X]
        rw [eA, bind_ok, go_nx]
        refine k3 _ (fun L hL => ?_) (by show (Ls ++ X).length ≤ 100; rw [List.length_append]; show Ls.length + 2 ≤ 100; omega) ?_
        · rcases List.mem_append.mp hL with z | z
          · exact h L z
          · exact okX L z
        · rw [List.map_append, e, vX]
          unfold srcOf
          rw [if_pos h2, List.map_append, List.map_append, List.map_append]
      · intro k hk
        have hk := List.mem_range.mp hk
        have e : (rows.length : Int) - 1 - (k : Int) = ((rows.length - 1 - k : Nat) : Int) := by omega
        rw [pySub_int, bind_ok, pySub_int, bind_ok, bind_ok, e]
        exact two k _
    · simp only [h2, decide_false, Bool.false_eq_true, if_false, go_nx]
      refine k3 _ h (by omega) ?_
      rw [e]
      unfold srcOf
      rw [if_neg h2, List.append_nil]
  unfold m_law_lines b_law_lines
  simp only [bind_ok, e0, hr, comp_ok, ne_rows, tst_bool]
  have row : ∀ (f : Nat → Nat → Nat × Nat) (g : D → D → Rs (Option D)), (∀ a b : Nat, g (.int (a : Int)) (.int (b : Int)) = .ok (some (pD (f a b)))) → compO (fun d4 => eltO (Rs.ok true) (lstD (compO (fun d6 => g d4 d6) ((List.range rows.length).map fun (i : Nat) => PyData.int (i : Int))))) ((List.range rows.length).map fun (i : Nat) => PyData.int (i : Int)) = .ok (((List.range rows.length).map fun a => (List.range rows.length).map fun b => f a b).map lineD) := fun f g hg => by
    rw [compO_map (e := fun (i : Nat) => PyData.int (i : Int)) (h := fun a => lineD ((List.range rows.length).map fun b => f a b))]
    · rw [List.map_map]
      rfl
    · intro a _
      rw [compO_map (e := fun (i : Nat) => PyData.int (i : Int)) (h := fun b => pD (f a b)) (fun b _ => hg a b), lstD_ok, eltO_true, bind_ok]
      simp [lineD]
  rw [row (fun a b => (a, b)) (fun d4 d6 => eltO (Rs.ok true) (mkTup [d4, d6])) (fun a b => two a b), bind_ok]
  by_cases h0 : r = 0
  · simp only [h0, decide_true, Bool.not_true, Bool.false_eq_true, if_false, go_nx]
    rw [← h0]
    exact k4 R okR (by show R.length ≤ 10; simp [R]; omega) (by rw [vR, if_pos h0, List.append_nil])
  · simp only [h0, decide_false, Bool.not_false, if_true]
    rw [row (fun a b => (b, a)) (fun d41 d43 => eltO (Rs.ok true) (mkTup [d43, d41])) (fun a b => two b a), lstD_ok, bind_ok]
    have eA : pyAdd (.list (R.map lineD)) (.list (Q.map lineD)) = .ok (.list ((R ++ Q).map lineD)) := by
      show (if _ then _ else _) = _
      rw [if_pos (by unfold sizeMax; simp [R, Q]; omega), List.map_append]
    rw [eA, bind_ok, go_nx]
    refine k4 _ (fun L hL => ?_) (by show (R ++ Q).length ≤ 10; simp [R, Q]; omega) (by rw [List.map_append, vR, vQ, if_neg h0, List.map_append])
    rcases List.mem_append.mp hL with z | z
    · exact okR L z
    · exact okQ L z
end BG
namespace BG
open PySem
theorem Card.rows_pw {rows : List (List Int)} (C : Card rows) : (∀ l ∈ rows, l.Nodup) ∧ rows.Pairwise (fun l m => ∀ x ∈ l, ∀ y ∈ m, x ≠ y) := List.pairwise_flatten.mp C.nd
theorem Card.dif {rows : List (List Int)} (C : Card rows) {a b c d : Nat} (ha : a < rows.length) (hb : b < rows.length) (hab : a < b) (hc : c < rows.length) (hd : d < rows.length) : (rows.getD a []).getD c 0 ≠ (rows.getD b []).getD d 0 := by
  have h := List.pairwise_iff_getElem.mp C.rows_pw.2 a b ha hb hab
  have ea : rows.getD a [] = rows[a] := by simp [List.getD_eq_getElem?_getD, ha]
  have eb : rows.getD b [] = rows[b] := by simp [List.getD_eq_getElem?_getD, hb]
  have la := C.row_len ha
  have lb := C.row_len hb
  have m1 := getD_mem (l := rows.getD a []) (k := c) (d := 0) (by rw [la]; exact hc)
  have m2 := getD_mem (l := rows.getD b []) (k := d) (d := 0) (by rw [lb]; exact hd)
  exact h _ (by rw [← ea]; exact m1) _ (by rw [← eb]; exact m2)
theorem map_range_nodup {n : Nat} {f : Nat → Int} (h : ∀ a b, a < b → b < n → f a ≠ f b) : ((List.range n).map f).Nodup := by
  refine List.Pairwise.map f (R := fun a b => a < b ∧ b < n) (fun a b hab => h a b hab.1 hab.2) ?_
  exact List.Pairwise.imp_of_mem (fun {a b} _ hb hlt => ⟨hlt, List.mem_range.mp hb⟩) List.pairwise_lt_range
theorem col_range {rows : List (List Int)} (c : Nat) : colOf rows c = (List.range rows.length).map fun k => (rows.getD k []).getD c 0 := by
  unfold colOf
  have := congrArg (List.map fun rr : List Int => rr.getD c 0) (range_getD (l := rows) (d := []) rfl)
  rw [List.map_map] at this
  exact this.symm
theorem src_ok {rows : List (List Int)} (C : Card rows) {r : Nat} {l : List Int} (h : l ∈ srcOf rows r) : l.Nodup ∧ ∀ x ∈ l, 0 ≤ x ∧ x ≤ 60 := by
  have fl : ∀ a c : Nat, a < rows.length → c < rows.length → (rows.getD a []).getD c 0 ∈ rows.flatten := fun a c ha hc => List.mem_flatten.mpr ⟨_, getD_mem ha, getD_mem (by rw [C.row_len ha]; exact hc)⟩
  unfold srcOf at h
  rcases List.mem_append.mp h with h | h
  · rcases List.mem_append.mp h with h | h
    · exact ⟨C.rows_pw.1 l h, fun x hx => C.rng x (List.mem_flatten.mpr ⟨l, h, hx⟩)⟩
    · split at h
      · cases h
      · obtain ⟨c, hc, rfl⟩ := List.mem_map.mp h
        have hc := List.mem_range.mp hc
        rw [col_range]
        refine ⟨map_range_nodup fun a b hab hb => C.dif (by omega) hb hab hc hc, fun x hx => ?_⟩
        obtain ⟨k, hk, rfl⟩ := List.mem_map.mp hx
        exact C.rng _ (fl k c (List.mem_range.mp hk) hc)
  · split at h
    · rcases List.mem_cons.mp h with rfl | h
      · unfold diagOf
        refine ⟨map_range_nodup fun a b hab hb => C.dif (by omega) hb hab (by omega) hb, fun x hx => ?_⟩
        obtain ⟨k, hk, rfl⟩ := List.mem_map.mp hx
        have := List.mem_range.mp hk
        exact C.rng _ (fl k k this this)
      · rw [List.mem_singleton.mp h]
        unfold antiOf
        refine ⟨map_range_nodup fun a b hab hb => C.dif (by omega) hb hab (by omega) (by omega), fun x hx => ?_⟩
        obtain ⟨k, hk, rfl⟩ := List.mem_map.mp hx
        have := List.mem_range.mp hk
        exact C.rng _ (fl k _ this (by omega))
    · cases h
/-- lines of a card -/
structure Lines (ls : List (List Int)) : Prop where
  ne : ∀ l ∈ ls, l ≠ []
  nd : ∀ l ∈ ls, l.Nodup
  rng : ∀ l ∈ ls, ∀ x ∈ l, 1 ≤ x ∧ x ≤ 60
  srt : ∀ l ∈ ls, l.Pairwise (fun a b => ltI b a = false)
  ord : ls.Pairwise (fun a b => ltL a b = true)
  few : ls.length ≤ 10
theorem mem_lines {rows : List (List Int)} {r : Nat} {l : List Int} : l ∈ linesOf rows r ↔ ∃ s ∈ srcOf rows r, clean s = l := by
  unfold linesOf
  rw [mem_usort ltL_o, List.mem_map]
theorem lines_are {rows : List (List Int)} (C : Card rows) (r : Nat) : Lines (linesOf rows r) where
  ne := fun l h => by
    obtain ⟨s, hs, rfl⟩ := mem_lines.mp h
    exact src_ne C hs
  nd := fun l h => by
    obtain ⟨s, hs, rfl⟩ := mem_lines.mp h
    unfold clean
    exact (isort_perm _).nodup_iff.mpr ((src_ok C hs).1.filter _)
  rng := fun l h x hx => by
    obtain ⟨s, hs, rfl⟩ := mem_lines.mp h
    unfold clean at hx
    have := List.mem_filter.mp ((isort_perm _).mem_iff.mp hx)
    have h1 := (src_ok C hs).2 x this.1
    have h2 : x ≠ 0 := by simpa using this.2
    omega
  srt := fun l h => by
    obtain ⟨s, hs, rfl⟩ := mem_lines.mp h
    exact isort_sorted ltI_o _
  ord := usort_sorted ltL_o _
  few := Nat.le_trans (usort_length ltL_o _) (by rw [List.length_map]; exact src_len C r)
structure Call (call : List Int) : Prop where
  nd : call.Nodup
  rng : ∀ x ∈ call, 1 ≤ x ∧ x ≤ 60
  few : call.length ≤ 60
theorem pyLenSet_ints {ns : List Int} (h : ns.length < 100) : pyLenSet (.list (iL ns)) = .ok (.int (distinctI ns : Nat)) := by
  simp only [pyLenSet, intsOf_iL]
  rw [if_pos h]
theorem call_few {call : List Int} (nd : call.Nodup) (rng : ∀ x ∈ call, 1 ≤ x ∧ x ≤ 60) : call.length ≤ 60 := by
  have := nodup_sub (m := (List.range 60).map fun (i : Nat) => ((i : Int) + 1)) nd fun x hx => by
    have := rng x hx
    exact List.mem_map.mpr ⟨(x - 1).toNat, List.mem_range.mpr (by omega), by omega⟩
  simpa using this
theorem Call.of {call : List Int} (nd : call.Nodup) (rng : ∀ x ∈ call, 1 ≤ x ∧ x ≤ 60) : Call call := ⟨nd, rng, call_few nd rng⟩
theorem is_call_ok {call : List Int} (C : Call call) : m_is_call (.list (iL call)) = .ok (.bool true) := by
  have k1 : b_is_call_k1 (.list (iL call)) = .ok (.rt (.bool true)) := by
    unfold b_is_call_k1
    have f := C.few
    have e3 : (iL call).length = call.length := List.length_map _
    simp only [bind_ok, pyLenSet_ints (ns := call) (by omega), pyLen_list, e3, distinct_nodup C.nd, pyEq_int, beq_self_eq_true]
  unfold m_is_call b_is_call
  have e1 : pyIsT "list" (.list (iL call)) = .ok (.bool true) := rfl
  simp only [bind_ok, e1, tst_bool, notT_ok, Bool.not_true, orT_ok, Bool.false_eq_true, if_false, ofSeq_list, comp_ok]
  rw [compO_map (e := PyData.int) (h := fun x => PyData.bool (decide (1 ≤ x) && decide (x ≤ 60))) (xs := call)]
  · have e : (call.map fun x => PyData.bool (decide (1 ≤ x) && decide (x ≤ 60))) = (call.map fun x => (decide (1 ≤ x) && decide (x ≤ 60))).map PyData.bool := by rw [List.map_map]; rfl
    rw [e, lstD_ok, bind_ok, pyAll_map, all_map_true (fun x hx => by
      have := C.rng x hx
      simp [this.1, this.2])]
    simp only [tst_bool, notT_ok, Bool.not_true, bind_ok, Bool.false_eq_true, if_false, go_nx, k1, fin_rt]
  · intro x _
    rw [is_int_ok, eltO_true, bind_ok]
theorem check_call_ok {call : List Int} (C : Call call) : m_check_call (.list (iL call)) = .ok .none := by
  unfold m_check_call b_check_call
  simp only [bind_ok, is_call_ok C, tst_bool, notT_ok, Bool.not_true, Bool.false_eq_true, if_false, go_nx, fin_nx]
theorem check_three_ok {rows : List (List Int)} (C : Card rows) (r : Nat) {call : List Int} (D : Call call) : m_check_three (cardD rows) (.str (ruleS r)) (.list (iL call)) = .ok .none := by
  unfold m_check_three b_check_three
  simp only [bind_ok, check_card_ok C, check_rule_ok, check_call_ok D, fin_nx]
theorem call_for {ns : List Int} (hl : ns.length ≤ 63) {a t : Int} (ht : 0 < t) (ht2 : t ≤ 60) : ∀ (ks found : List Int), found.Nodup → (∀ x ∈ found, 1 ≤ x ∧ x ≤ t) → ((found.length + ks.length : Nat) : Int) ≤ t →
    ∃ found' : List Int, found'.Nodup ∧ (∀ x ∈ found', 1 ≤ x ∧ x ≤ t) ∧ found'.length = found.length + ks.length ∧ forO (b_law_call_b4 (.list (iL ns)) (.int a) (.int t)) (iL ks) (iL found) = .ok (.nx (iL found')) := fun ks found h1 h2 h3 => by
  obtain ⟨f, q1, q2, q3, q4⟩ := card_for hl (a := a) ht ht2 ks found h1 h2 h3
  exact ⟨f, q1, q2, q3, q4⟩
theorem call_ok (ns : List Int) (hl : ns.length ≤ 63) (a t : Int) (ht : 9 ≤ t) (ht2 : t ≤ 60) (most : Nat) (hm : (most : Int) ≤ t) : ∃ call : List Int, Call call ∧ (∀ x ∈ call, x ≤ t) ∧ call.length ≤ most ∧ m_law_call (.list (iL ns)) (.int a) (.int t) (.int (most : Int)) = .ok (.list (iL call)) := by
  obtain ⟨j, j1, j2, j3⟩ := drawn_ok ns hl a ((most : Int) + 1) (by omega)
  obtain ⟨n, rfl⟩ : ∃ n : Nat, j = (n : Int) := ⟨j.toNat, by omega⟩
  have hr : pyRange (.int 0) (.int (n : Int)) = .ok ((List.range n).map fun (i : Nat) => PyData.int (i : Int)) := pyRange_ok n (by omega)
  have er : ((List.range n).map fun (i : Nat) => PyData.int (i : Int)) = iL ((List.range n).map fun (i : Nat) => (i : Int)) := by simp [iL]
  obtain ⟨f, f1, f2, f3, f4⟩ := call_for hl (a := a) (t := t) (by omega) ht2 ((List.range n).map fun (i : Nat) => (i : Int)) [] (by simp) (by simp) (by simp; omega)
  refine ⟨f, Call.of f1 (fun x hx => by have := f2 x hx; omega), fun x hx => (f2 x hx).2, by rw [f3]; simp; omega, ?_⟩
  unfold m_law_call b_law_call b_law_call_k5
  have f4' : forO (b_law_call_b4 (.list (iL ns)) (.int a) (.int t)) (iL ((List.range n).map fun (i : Nat) => (i : Int))) [] = .ok (.nx (iL f)) := f4
  simp only [bind_ok, mkLst_ok (ds := []) (by decide), pyAdd_int, j3, hr, er, f4', go_nx, fin_rt]
def sub (l call : List Int) : Bool := l.all fun x => decide (x ∈ call)
theorem sub_iff {l call : List Int} : sub l call = true ↔ ∀ x ∈ l, x ∈ call := by simp [sub]
theorem holds_ok (l call : List Int) : m_holds (tupI l) (.list (iL call)) = .ok (.bool (sub l call)) := by
  unfold m_holds b_holds
  have e : ofSeq (tupI l) = .ok (iL l) := rfl
  simp only [bind_ok, e, comp_ok]
  rw [compO_map (e := PyData.int) (h := fun x => PyData.bool (decide (x ∈ call))) (xs := l)]
  · have e : (l.map fun x => PyData.bool (decide (x ∈ call))) = (l.map fun x => decide (x ∈ call)).map PyData.bool := by rw [List.map_map]; rfl
    rw [e, lstD_ok, bind_ok, pyAll_map, bind_ok, fin_rt]
    simp [sub]
  · intro x _
    rw [pyIn_list, eltO_true, bind_ok]
def miss (l call : List Int) : List Int := l.filter fun x => !decide (x ∈ call)
theorem miss_nil {l call : List Int} : miss l call = [] ↔ sub l call = true := by
  unfold miss
  rw [List.filter_eq_nil_iff, sub_iff]
  simp
theorem comp_miss (l call : List Int) : compO (fun d => eltO (tst (pyNotIn d (PyData.list (iL call)))) (Rs.ok d)) (iL l) = .ok (iL (miss l call)) :=
  compO_filter (e := PyData.int) (h := PyData.int) fun x _ => by rw [pyNotIn_list, tst_bool, eltO_ok]
theorem eq_nil (ns : List Int) : pyEq (.list (iL ns)) (.list []) = .ok (.bool (decide (ns = []))) := by
  unfold pyEq
  rw [if_pos ⟨(Sh.list (shA_ints (n := 0) ns)).shp, (Sh.list (ShA.nil (n := 0))).shp⟩]
  cases ns with
  | nil => rfl
  | cons n ns => simp [iL, PyData.eqv, PyData.eqvAll]
theorem ne_nil (ns : List Int) : pyNe (.list (iL ns)) (.list []) = .ok (.bool (!decide (ns = []))) := by
  unfold pyNe
  rw [if_pos ⟨(Sh.list (shA_ints (n := 0) ns)).shp, (Sh.list (ShA.nil (n := 0))).shp⟩]
  cases ns with
  | nil => rfl
  | cons n ns => simp [iL, PyData.eqv, PyData.eqvAll]
theorem eq_nilT (ls : List (List Int)) : pyEq (.list (ls.map tupI)) (.list []) = .ok (.bool (decide (ls = []))) := by
  unfold pyEq
  rw [if_pos ⟨(Sh.list (shA_tups (n := 0) ls)).shp, (Sh.list (ShA.nil (n := 0))).shp⟩]
  cases ls with
  | nil => rfl
  | cons n ns => simp [PyData.eqv, PyData.eqvAll]
theorem ne_nilT (ls : List (List Int)) : pyNe (.list (ls.map tupI)) (.list []) = .ok (.bool (!decide (ls = []))) := by
  unfold pyNe
  rw [if_pos ⟨(Sh.list (shA_tups (n := 0) ls)).shp, (Sh.list (ShA.nil (n := 0))).shp⟩]
  cases ls with
  | nil => rfl
  | cons n ns => simp [PyData.eqv, PyData.eqvAll]
theorem mkLst_nil : mkLst [] = .ok [] := mkLst_ok (by decide)
theorem law_in_ok (l call : List Int) : m_law_in (tupI l) (.list (iL call)) = .ok (.bool (sub l call)) := by
  unfold m_law_in b_law_in
  have e : ofSeq (tupI l) = .ok (iL l) := rfl
  simp only [bind_ok, e, comp_ok, comp_miss, lstD_ok, mkLst_nil, eq_nil, fin_rt]
  have : decide (miss l call = []) = sub l call := by
    by_cases h : sub l call = true
    · rw [h, decide_eq_true (miss_nil.mpr h)]
    · rw [Bool.eq_false_iff.mpr h, decide_eq_false (fun q => h (miss_nil.mp q))]
  rw [this]
def someIn (ls : List (List Int)) (call : List Int) : Bool := ls.any fun l => sub l call
theorem someIn_iff {ls : List (List Int)} {call : List Int} : someIn ls call = true ↔ ∃ l ∈ ls, ∀ x ∈ l, x ∈ call := by
  unfold someIn
  rw [List.any_eq_true]
  simp only [sub_iff]
def timeOf (ls : List (List Int)) (call : List Int) : Option Nat := ((List.range call.length).map (· + 1)).find? fun m => someIn ls (call.take m)
def timeD : Option Nat → D
  | none => .none
  | some n => .int (n : Nat)
theorem comp_sub (ls : List (List Int)) (call : List Int) : compO (fun d => eltO (tst (m_holds d (PyData.list (iL call)))) (Rs.ok d)) (ls.map tupI) = .ok ((ls.filter fun l => sub l call).map tupI) :=
  compO_filter (e := tupI) (h := tupI) fun l _ => by rw [holds_ok, tst_bool, eltO_ok]
theorem comp_in_law (ls : List (List Int)) (call : List Int) : compO (fun d => eltO (tst (m_law_in d (PyData.list (iL call)))) (Rs.ok d)) (ls.map tupI) = .ok ((ls.filter fun l => sub l call).map tupI) :=
  compO_filter (e := tupI) (h := tupI) fun l _ => by rw [law_in_ok, tst_bool, eltO_ok]
theorem filter_nil {ls : List (List Int)} {call : List Int} : (ls.filter fun l => sub l call) = [] ↔ someIn ls call = false := by
  unfold someIn
  rw [List.filter_eq_nil_iff, List.any_eq_false]
theorem pyRange1_ok (n : Nat) (h : n ≤ 1000) : pyRange (.int 1) (.int ((n : Int) + 1)) = .ok (((List.range n).map (· + 1)).map fun (i : Nat) => PyData.int (i : Int)) := by
  unfold pyRange
  rw [ofInt_int, bind_ok, ofInt_int, bind_ok, if_pos ⟨by omega, by omega, by omega, by omega, by unfold sizeMax; omega⟩]
  unfold intsD
  have e : ((n : Int) + 1 - 1).toNat = n := by omega
  rw [e, List.map_map]
  refine congrArg Rs.ok (List.map_congr_left fun i _ => ?_)
  show PyData.int (1 + (i : Int)) = .int ((i + 1 : Nat) : Int)
  congr 1
  omega
theorem cut_take (call : List Int) (m : Nat) : cutL (iL call) none (some (m : Int)) = iL (call.take m) := by
  unfold cutL sIx
  have l : (iL call).length = call.length := by simp [iL]
  rw [l]
  simp only
  rw [if_neg (by omega)]
  have e1 : min ((m : Int)).toNat call.length = min m call.length := by omega
  rw [e1]
  simp only [List.drop_zero, Nat.sub_zero]
  unfold iL
  rw [← List.map_take]
  congr 1
  by_cases h : m ≤ call.length
  · rw [Nat.min_eq_left h]
  · rw [Nat.min_eq_right (by omega), List.take_length, List.take_of_length_le (by omega)]
theorem law_time_for (ls : List (List Int)) (call : List Int) : ∀ ms : List Nat, forO (b_law_time_b1 (.list (ls.map tupI)) (.list (iL call))) (ms.map fun (i : Nat) => PyData.int (i : Int)) () = match ms.find? fun m => someIn ls (call.take m) with
    | some m => .ok (.rt (.int (m : Nat)))
    | none => .ok (.nx ())
  | [] => rfl
  | m :: ms => by
    show (b_law_time_b1 (.list (ls.map tupI)) (.list (iL call)) () (.int (m : Nat))).go (fun a' => forO _ _ a') = _
    have b : b_law_time_b1 (.list (ls.map tupI)) (.list (iL call)) () (.int (m : Nat)) = if someIn ls (call.take m) = true then .ok (.rt (.int (m : Nat))) else .ok (.nx ()) := by
      unfold b_law_time_b1
      simp only [bind_ok, ofSeq_list, comp_ok, part_int, pySlice, cut_take, comp_in_law, lstD_ok, mkLst_nil, ne_nilT, tst_bool]
      by_cases h : someIn ls (call.take m) = true
      · have h2 : ¬ ((ls.filter fun l => sub l (call.take m)) = []) := fun e => by
          rw [filter_nil.mp e] at h; cases h
        simp only [h2, decide_false, Bool.not_false, if_true, h, go_rt]
      · have h2 : ((ls.filter fun l => sub l (call.take m)) = []) := filter_nil.mpr (Bool.eq_false_iff.mpr h)
        simp only [h2, decide_true, Bool.not_true, Bool.false_eq_true, if_false, h, go_nx]
    rw [b]
    by_cases h : someIn ls (call.take m) = true
    · rw [if_pos h, go_rt, List.find?_cons_of_pos (p := fun m => someIn ls (call.take m)) h]
    · rw [if_neg h, go_nx, List.find?_cons_of_neg (p := fun m => someIn ls (call.take m)) (by simpa using h)]
      exact law_time_for ls call ms
theorem law_time_ok (ls : List (List Int)) (call : List Int) (hc : call.length ≤ 60) : m_law_time (.list (ls.map tupI)) (.list (iL call)) = .ok (timeD (timeOf ls call)) := by
  unfold m_law_time b_law_time b_law_time_k2
  have e3 : ((iL call).length : Int) = (call.length : Int) := by simp [iL]
  simp only [bind_ok, pyLen_list, e3, pyAdd_int, pyRange1_ok call.length (by omega), law_time_for]
  unfold timeOf
  cases ((List.range call.length).map (· + 1)).find? fun m => someIn ls (call.take m) with
  | none => rfl
  | some m => rfl
end BG
namespace BG
open PySem
def ixI (n : Int) : List Int → Nat
  | [] => 0
  | x :: xs => if x = n then 0 else ixI n xs + 1
theorem findIdx_ints (n : Int) : ∀ call : List Int, n ∈ call → (iL call).findIdx? (fun z => PyData.eqv z (.int n)) = some (ixI n call)
  | x :: xs, h => by
    show (PyData.int x :: iL xs).findIdx? _ = _
    rw [List.findIdx?_cons]
    have e : PyData.eqv (.int x) (.int n) = (x == n) := by simp only [PyData.eqv]
    rw [e]
    by_cases q : x = n
    · subst q
      simp [ixI]
    · have hm : n ∈ xs := by
        rcases List.mem_cons.mp h with r | r
        · exact absurd r.symm q
        · exact r
      have q2 : (x == n) = false := by simp [q]
      rw [q2, findIdx_ints n xs hm]
      simp [ixI, q]
theorem pyIndex_ok {n : Int} {call : List Int} (h : n ∈ call) : pyIndex (iL call) (.int n) = .ok (.int (ixI n call : Nat)) := by
  unfold pyIndex
  rw [if_pos ⟨(Sh.list (shA_ints (n := 0) call)).shp, shp_int n⟩, findIdx_ints n call h]
theorem mem_take_ix {n : Int} : ∀ {call : List Int} {s : Nat}, n ∈ call → (n ∈ call.take s ↔ ixI n call < s)
  | x :: xs, 0, _ => by simp
  | x :: xs, s + 1, h => by
    by_cases q : x = n
    · subst q
      simp [ixI]
    · have hm : n ∈ xs := by
        rcases List.mem_cons.mp h with r | r
        · exact absurd r.symm q
        · exact r
      have := mem_take_ix (s := s) hm
      have q2 : n ≠ x := fun e => q e.symm
      simp [ixI, q, q2, this]
theorem ixI_lt {n : Int} {call : List Int} (h : n ∈ call) : ixI n call < call.length := (mem_take_ix (s := call.length) h).mp (by rw [List.take_length]; exact h)
theorem maxI_mem : ∀ (xs : List Int) (m : Int), maxI m xs ∈ m :: xs
  | [], m => by simp [maxI]
  | x :: xs, m => by
    unfold maxI
    have := maxI_mem xs (if m < x then x else m)
    rcases List.mem_cons.mp this with h | h
    · split at h
      · rw [if_pos (by assumption), h]; simp
      · rw [if_neg (by assumption), h]; simp
    · exact List.mem_cons_of_mem _ (List.mem_cons_of_mem _ h)
theorem le_maxI : ∀ (xs : List Int) (m : Int), ∀ y ∈ m :: xs, y ≤ maxI m xs
  | [], m, y, h => by
    rw [List.mem_singleton.mp h]
    simp [maxI]
  | x :: xs, m, y, h => by
    unfold maxI
    have ih := le_maxI xs (if m < x then x else m)
    have h0 := ih (if m < x then x else m) (by simp)
    have h2 : m ≤ (if m < x then x else m) ∧ x ≤ (if m < x then x else m) := by split <;> omega
    rcases List.mem_cons.mp h with rfl | h
    · exact Int.le_trans h2.1 h0
    · rcases List.mem_cons.mp h with rfl | h
      · exact Int.le_trans h2.2 h0
      · exact ih y (by simp [h])
theorem minI_mem : ∀ (xs : List Int) (m : Int), minI m xs ∈ m :: xs
  | [], m => by simp [minI]
  | x :: xs, m => by
    unfold minI
    have := minI_mem xs (if x < m then x else m)
    rcases List.mem_cons.mp this with h | h
    · split at h
      · rw [if_pos (by assumption), h]; simp
      · rw [if_neg (by assumption), h]; simp
    · exact List.mem_cons_of_mem _ (List.mem_cons_of_mem _ h)
theorem minI_le : ∀ (xs : List Int) (m : Int), ∀ y ∈ m :: xs, minI m xs ≤ y
  | [], m, y, h => by
    rw [List.mem_singleton.mp h]
    simp [minI]
  | x :: xs, m, y, h => by
    unfold minI
    have ih := minI_le xs (if x < m then x else m)
    have h0 := ih (if x < m then x else m) (by simp)
    have h2 : (if x < m then x else m) ≤ m ∧ (if x < m then x else m) ≤ x := by split <;> omega
    rcases List.mem_cons.mp h with rfl | h
    · exact Int.le_trans h0 h2.1
    · rcases List.mem_cons.mp h with rfl | h
      · exact Int.le_trans h0 h2.2
      · exact ih y (by simp [h])
/-- the greatest of a list -/
def maxL : List Int → Int
  | [] => 0
  | x :: xs => maxI x xs
def minL : List Int → Int
  | [] => 0
  | x :: xs => minI x xs
theorem pyMaxI_ok {ns : List Int} (h : ns ≠ []) : pyMaxI (.list (iL ns)) = .ok (.int (maxL ns)) := by
  simp only [pyMaxI, intsOf_iL]
  cases ns with
  | nil => exact absurd rfl h
  | cons n ns => rfl
theorem pyMinI_ok {ns : List Int} (h : ns ≠ []) : pyMinI (.list (iL ns)) = .ok (.int (minL ns)) := by
  simp only [pyMinI, intsOf_iL]
  cases ns with
  | nil => exact absurd rfl h
  | cons n ns => rfl
theorem maxL_mem {ns : List Int} (h : ns ≠ []) : maxL ns ∈ ns := by
  cases ns with
  | nil => exact absurd rfl h
  | cons n ns => exact maxI_mem ns n
theorem le_maxL {ns : List Int} {y : Int} (h : y ∈ ns) : y ≤ maxL ns := by
  cases ns with
  | nil => cases h
  | cons n ns => exact le_maxI ns n y h
theorem minL_mem {ns : List Int} (h : ns ≠ []) : minL ns ∈ ns := by
  cases ns with
  | nil => exact absurd rfl h
  | cons n ns => exact minI_mem ns n
theorem minL_le {ns : List Int} {y : Int} (h : y ∈ ns) : minL ns ≤ y := by
  cases ns with
  | nil => cases h
  | cons n ns => exact minI_le ns n y h
def lastIx (call : List Int) (l : List Int) : Int := maxL (l.map fun n => (ixI n call : Int))
theorem lastIx_lt {call l : List Int} (hne : l ≠ []) (hs : ∀ x ∈ l, x ∈ call) (s : Nat) : lastIx call l < s ↔ ∀ x ∈ l, x ∈ call.take s := by
  unfold lastIx
  constructor
  · intro h x hx
    rw [mem_take_ix (hs x hx)]
    have := le_maxL (List.mem_map.mpr ⟨x, hx, rfl⟩ : (ixI x call : Int) ∈ l.map fun n => (ixI n call : Int))
    omega
  · intro h
    have hm := maxL_mem (ns := l.map fun n => (ixI n call : Int)) (by simpa using hne)
    obtain ⟨x, hx, e⟩ := List.mem_map.mp hm
    rw [← e]
    have := (mem_take_ix (hs x hx)).mp (h x hx)
    omega
theorem timeOf_some {ls : List (List Int)} {call : List Int} {t : Nat} (h1 : 1 ≤ t) (h2 : t ≤ call.length) (h3 : someIn ls (call.take t) = true) (h4 : ∀ s, 1 ≤ s → s < t → someIn ls (call.take s) = false) : timeOf ls call = some t := by
  unfold timeOf
  rw [List.find?_eq_some_iff_append]
  refine ⟨h3, (List.range (t - 1)).map (· + 1), ((List.range (call.length - t)).map fun i => t + i + 1), ?_, fun a ha => ?_⟩
  · have e : call.length = (t - 1) + (1 + (call.length - t)) := by omega
    conv => lhs; rw [e, List.range_add, List.map_append]
    congr 1
    rw [List.range_add, List.map_append, List.map_append]
    have e1 : t - 1 + 1 = t := by omega
    simp [List.range_succ, e1]
    intro a _
    omega
  · obtain ⟨i, hi, rfl⟩ := List.mem_map.mp ha
    have := List.mem_range.mp hi
    rw [h4 (i + 1) (by omega) (by omega)]
    rfl
theorem timeOf_none {ls : List (List Int)} {call : List Int} (h : someIn ls call = false) : timeOf ls call = none := by
  unfold timeOf
  rw [List.find?_eq_none]
  intro a _ ha
  obtain ⟨l, hl, hs⟩ := someIn_iff.mp ha
  have : someIn ls call = true := someIn_iff.mpr ⟨l, hl, fun x hx => List.mem_of_mem_take (hs x hx)⟩
  rw [h] at this
  cases this
theorem find_time_ok {rows : List (List Int)} (C : Card rows) (r : Nat) (call : List Int) : m_find_time (cardD rows) (.str (ruleS r)) (.list (iL call)) = .ok (timeD (timeOf (linesOf rows r) call)) := by
  have L := lines_are C r
  unfold m_find_time b_find_time
  have e0 : ofList (.list (iL call)) = .ok (iL call) := rfl
  simp only [bind_ok, find_lines_ok C, ofSeq_list, comp_ok, e0]
  generalize linesOf rows r = ls at *
  -- only lines that are held are looked at
  have key : compO (fun d6 => eltO (tst (m_holds d6 (PyData.list (iL call)))) ((lstD (comp (ofSeq d6) fun d13 => eltO (Rs.ok true) (pyIndex (iL call) d13))).bind pyMaxI)) (ls.map tupI) = .ok (iL ((ls.filter fun l => sub l call).map (lastIx call))) := by
    rw [compO_filter (e := tupI) (p := fun l => sub l call) (h := fun l => PyData.int (lastIx call l))]
    · unfold iL
      rw [List.map_map]
      rfl
    · intro l hl
      rw [holds_ok, tst_bool]
      by_cases hs : sub l call = true
      · rw [hs]
        have e : ofSeq (tupI l) = .ok (iL l) := rfl
        rw [e, comp_ok, compO_map (e := PyData.int) (h := fun n => PyData.int (ixI n call : Nat)) (xs := l)]
        · have e2 : (l.map fun n => PyData.int (ixI n call : Nat)) = iL (l.map fun n => (ixI n call : Int)) := by
            unfold iL
            rw [List.map_map]
            rfl
          rw [e2, lstD_ok, bind_ok, pyMaxI_ok (by simpa using L.ne l hl)]
          rfl
        · intro n hn
          rw [pyIndex_ok (sub_iff.mp hs n hn), eltO_true, bind_ok]
      · rw [Bool.eq_false_iff.mpr hs]
        rfl
  simp only [key, bind_ok, mkLst_nil, lstD_ok, ne_nil, tst_bool, ifE_ok]
  by_cases h : (ls.filter fun l => sub l call) = []
  · rw [h]
    simp only [List.map_nil, decide_true, Bool.not_true, Bool.false_eq_true, if_false, bind_ok, fin_rt]
    rw [timeOf_none (filter_nil.mp h)]
    rfl
  · have hne : ¬ ((ls.filter fun l => sub l call).map (lastIx call) = []) := by simpa using h
    simp only [hne, decide_false, Bool.not_false, if_true, pyMinI_ok hne, bind_ok, pyAdd_int, fin_rt]
    have hm := minL_mem hne
    obtain ⟨l, hl, e⟩ := List.mem_map.mp hm
    have hl := List.mem_filter.mp hl
    have hs := sub_iff.mp hl.2
    have lne := L.ne l hl.1
    -- the least last place, as a Nat
    obtain ⟨x, hx⟩ := List.exists_mem_of_ne_nil l lne
    have nonneg : 0 ≤ lastIx call l := by
      have := le_maxL (List.mem_map.mpr ⟨x, hx, rfl⟩ : (ixI x call : Int) ∈ l.map fun n => (ixI n call : Int))
      unfold lastIx
      omega
    have lt : lastIx call l < call.length := (lastIx_lt lne hs call.length).mpr (by rw [List.take_length]; exact hs)
    obtain ⟨t, ht⟩ : ∃ t : Nat, lastIx call l = (t : Int) := ⟨(lastIx call l).toNat, by omega⟩
    rw [timeOf_some (t := t + 1) (by omega) (by omega) (someIn_iff.mpr ⟨l, hl.1, (lastIx_lt lne hs (t + 1)).mp (by omega)⟩) (fun s h1 h2 => by
      refine Bool.eq_false_iff.mpr fun q => ?_
      obtain ⟨l', hl', hs'⟩ := someIn_iff.mp q
      have hc : ∀ x ∈ l', x ∈ call := fun x hx => List.mem_of_mem_take (hs' x hx)
      have lt' := (lastIx_lt (L.ne l' hl') hc s).mpr hs'
      have := minL_le (List.mem_map.mpr ⟨l', List.mem_filter.mpr ⟨hl', sub_iff.mpr hc⟩, rfl⟩ : lastIx call l' ∈ (ls.filter fun l => sub l call).map (lastIx call))
      rw [← e] at this
      omega)]
    rw [← e, ht]
    show Rs.ok (PyData.int ((t : Int) + 1)) = Rs.ok (PyData.int ((t + 1 : Nat) : Int))
    rfl
def onesOf (ls : List (List Int)) (call : List Int) : List Int := ls.flatMap fun l => if (miss l call).length = 1 then miss l call else []
def waitsOf (ls : List (List Int)) (call : List Int) : List Int := if someIn ls call = true then [] else usort ltI (onesOf ls call)
theorem waits_for' {call : List Int} : ∀ {ls : List (List Int)} {acc : List Int}, acc.length + ls.length ≤ 1000 →
    forO (b_find_waits_b2 (.list (iL call))) (ls.map tupI) (iL acc) = if someIn ls call = true then .ok (.rt (.list [])) else .ok (.nx (iL (acc ++ onesOf ls call)))
  | [], acc, _ => by
    simp [someIn, onesOf]
    rfl
  | l :: ls, acc, h => by
    simp only [List.length_cons] at h
    show (b_find_waits_b2 (.list (iL call)) (iL acc) (tupI l)).go (fun a' => forO _ _ a') = _
    have e : ofSeq (tupI l) = .ok (iL l) := rfl
    have hsome : someIn (l :: ls) call = (sub l call || someIn ls call) := rfl
    by_cases hs : sub l call = true
    · have b : b_find_waits_b2 (.list (iL call)) (iL acc) (tupI l) = .ok (.rt (.list [])) := by
        unfold b_find_waits_b2
        simp only [bind_ok, e, comp_ok, comp_miss, mkLst_nil, lstD_ok, eq_nil, tst_bool, miss_nil.mpr hs, decide_true, if_true, go_rt]
      rw [b, go_rt, hsome, hs]
      rfl
    · have hm : ¬ (miss l call = []) := fun q => hs (miss_nil.mp q)
      have hs' : sub l call = false := Bool.eq_false_iff.mpr hs
      have len : ((iL (miss l call)).length : Int) = ((miss l call).length : Int) := by simp [iL]
      have b : b_find_waits_b2 (.list (iL call)) (iL acc) (tupI l) = .ok (.nx (iL (acc ++ if (miss l call).length = 1 then miss l call else []))) := by
        unfold b_find_waits_b2 b_find_waits_k1
        simp only [bind_ok, e, comp_ok, comp_miss, mkLst_nil, lstD_ok, eq_nil, tst_bool, hm, decide_false, Bool.false_eq_true, if_false, go_nx, pyLen_list, len, pyEq_int, ofSeq_list]
        by_cases h1 : (miss l call).length = 1
        · have z : (((miss l call).length : Int) == 1) = true := by simp [h1]
          rw [z, if_pos rfl, if_pos (by simp only [List.length_map]; unfold sizeMax; omega), go_nx, if_pos h1]
          simp [iL]
        · have z : (((miss l call).length : Int) == 1) = false := by
            simp
            omega
          rw [z, if_neg (by simp), go_nx, if_neg h1]
          simp
      have hle : (if (miss l call).length = 1 then miss l call else []).length ≤ 1 := by
        split
        · omega
        · simp
      rw [b, go_nx, waits_for' (by rw [List.length_append]; omega), hsome, hs', Bool.false_or]
      unfold onesOf
      rw [List.flatMap_cons, List.append_assoc]
theorem pySortedSet_ints {ns : List Int} (h : ns.length < 64) : pySortedSet (.list (iL ns)) = .ok (iL (usort ltI ns)) := by
  simp only [pySortedSet, intsOf_iL]
  rw [if_pos h]
theorem ones_len (call : List Int) : ∀ ls : List (List Int), (onesOf ls call).length ≤ ls.length
  | [] => by simp [onesOf]
  | l :: ls => by
    have := ones_len call ls
    unfold onesOf at this ⊢
    rw [List.flatMap_cons, List.length_append, List.length_cons]
    split
    · omega
    · rw [List.length_nil]; omega
theorem find_waits_ok {rows : List (List Int)} (C : Card rows) (r : Nat) (call : List Int) : m_find_waits (cardD rows) (.str (ruleS r)) (.list (iL call)) = .ok (.list (iL (waitsOf (linesOf rows r) call))) := by
  have L := lines_are C r
  unfold m_find_waits b_find_waits
  have few := L.few
  have f := waits_for' (call := call) (ls := linesOf rows r) (acc := []) (by simp; omega)
  have f' : forO (b_find_waits_b2 (.list (iL call))) ((linesOf rows r).map tupI) [] = if someIn (linesOf rows r) call = true then .ok (.rt (.list [])) else .ok (.nx (iL (onesOf (linesOf rows r) call))) := f
  simp only [bind_ok, mkLst_nil, find_lines_ok C, ofSeq_list, f']
  unfold waitsOf
  by_cases h : someIn (linesOf rows r) call = true
  · simp only [h, if_true, go_rt, fin_rt]
    rfl
  · have ol := ones_len call (linesOf rows r)
    rw [if_neg h, if_neg h, go_nx]
    unfold b_find_waits_k3
    rw [bind_ok, pySortedSet_ints (by omega), lstD_ok, bind_ok, fin_rt]
end BG
namespace BG
open PySem
def badL : List D := [.none, .list [], .tuple [.tuple [.int 1]], .tuple [.tuple [.int 1, .int 2]], .tuple [.tuple [.int 1, .int 2], .tuple [.int 3, .int 3]], .tuple [.tuple [.int 1, .int 2], .tuple [.int 3, .int 61]],
  .tuple [.tuple [.int 0, .int 1], .tuple [.int 0, .int 2]], .tuple [.tuple [.int 1, .int 2], .list [.int 3, .int 4]], .tuple [.tuple [.int 1, .int 2], .tuple [.int 3, .str "4"]], .list [.tuple [.int 1, .int 2], .tuple [.int 3, .int 4]],
  .tuple [.tuple [.bool true, .int 2], .tuple [.int 3, .int 4]], .tuple [.tuple [.int 1, .int 2], .tuple [.int 3, .int (-4)]], .tuple [.tuple [.int 1, .int 2, .int 3], .tuple [.int 4, .int 5, .int 6]]]
theorem badcard_ix (ns : List Int) (hl : ns.length ≤ 63) (a : Int) : ∃ j : Nat, j < 13 ∧ m_law_badcard (.list (iL ns)) (.int a) = pyIx (.list badL) (.int (j : Int)) := by
  obtain ⟨j, j1, j2, j3⟩ := drawn_ok ns hl a 13 (by decide)
  obtain ⟨i, rfl⟩ : ∃ i : Nat, j = (i : Int) := ⟨j.toNat, by omega⟩
  refine ⟨i, by omega, ?_⟩
  unfold m_law_badcard b_law_badcard
  simp only [bind_ok, j3, mkTup, mkLst, pyNeg_int, lstD_ok, pyAdd, List.length_cons, List.length_nil, sizeMax, Nat.reduceAdd, Nat.reduceLeDiff, if_true, List.cons_append, List.nil_append]
  unfold badL
  cases pyIx _ _ <;> rfl
def isF : Rs D → Bool
  | .ok (.bool false) => true
  | _ => false
theorem isF_eq : ∀ {m : Rs D}, isF m = true → m = .ok (.bool false)
  | .ok (.bool false), _ => rfl
  | .ok (.bool true), h => by cases h
  | .ok .none, h => by cases h
  | .ok (.int _), h => by cases h
  | .ok (.str _), h => by cases h
  | .ok (.list _), h => by cases h
  | .ok (.tuple _), h => by cases h
  | .ok (.dict _), h => by cases h
  | .exc _, h => by cases h
  | .bad, h => by cases h
theorem bad_all : (badL.all fun d => isF (m_is_card d)) = true := by decide +kernel
theorem badcard_ok (ns : List Int) (hl : ns.length ≤ 63) (a : Int) : ∃ d, m_law_badcard (.list (iL ns)) (.int a) = .ok d ∧ m_is_card d = .ok (.bool false) := by
  obtain ⟨j, hj, e⟩ := badcard_ix ns hl a
  have hj : j < badL.length := hj
  rw [pyIx_list hj] at e
  exact ⟨_, e, isF_eq (List.all_eq_true.mp bad_all _ (List.getElem_mem hj))⟩
theorem check_card_bad {d : D} (h : m_is_card d = .ok (.bool false)) : m_check_card d = .exc "InvalidCard" := by
  unfold m_check_card b_check_card
  simp only [bind_ok, h, tst_bool, notT_ok, Bool.not_false, if_true, go_exc, fin_exc]
def isX (c : Str) : Rs D → Bool
  | .exc x => decide (x = c)
  | _ => false
theorem isX_eq {c : Str} : ∀ {m : Rs D}, isX c m = true → m = .exc c
  | .exc x, h => by rw [of_decide_eq_true h]
  | .ok _, h => by cases h
  | .bad, h => by cases h
def badRL : List D := [.none, .str "", .str "row", .int 7, .tuple [.str "all"], .list [.str "rows"]]
theorem badR_all : (badRL.all fun d => isX "InvalidRule" (m_check_rule d)) = true := by decide +kernel
theorem pyAdd_list {a b : List D} (h : a.length + b.length ≤ 1000) : pyAdd (.list a) (.list b) = .ok (.list (a ++ b)) := by
  show (if _ then _ else _) = _
  rw [if_pos (sz16 _ h)]
theorem nz_ne {rows : List (List Int)} (C : Card rows) : nz rows.flatten ≠ [] := by
  have lo := C.lo
  match rows, lo, C with
  | r0 :: rs, _, C =>
    have h := src_ne C (r := 0) (l := r0) (by unfold srcOf; simp)
    unfold clean at h
    intro e
    apply h
    have e2 : nz r0 = [] := by
      unfold nz at e ⊢
      simp only [List.flatten_cons, List.filter_append] at e
      exact (List.append_eq_nil_iff.mp e).1
    unfold nz at e2
    rw [e2]
    rfl
end BG
namespace BG
open PySem
theorem timeOf_spec {ls : List (List Int)} {call : List Int} {t : Nat} (h : timeOf ls call = some t) : 1 ≤ t ∧ t ≤ call.length ∧ someIn ls (call.take t) = true ∧ ∀ s, 1 ≤ s → s < t → someIn ls (call.take s) = false := by
  unfold timeOf at h
  rw [List.find?_eq_some_iff_append] at h
  obtain ⟨hp, as, bs, e, hno⟩ := h
  have hm : t ∈ (List.range call.length).map (· + 1) := by rw [e]; simp
  obtain ⟨i, hi, rfl⟩ := List.mem_map.mp hm
  have hi := List.mem_range.mp hi
  refine ⟨by omega, by omega, hp, fun s h1 h2 => ?_⟩
  -- s stands before t
  have hs : s ∈ as := by
    have hms : s ∈ (List.range call.length).map (· + 1) := List.mem_map.mpr ⟨s - 1, List.mem_range.mpr (by omega), by omega⟩
    rw [e] at hms
    have pw : ((List.range call.length).map (· + 1)).Pairwise (· < ·) := List.Pairwise.map _ (fun a b h => by omega) List.pairwise_lt_range
    rw [e] at pw
    rcases List.mem_append.mp hms with q | q
    · exact q
    · exfalso
      have pw2 := (List.pairwise_append.mp pw).2.1
      rcases List.mem_cons.mp q with rfl | q
      · omega
      · have := (List.pairwise_cons.mp pw2).1 s q
        omega
  have := hno s hs
  simpa using this
theorem someIn_mono {ls : List (List Int)} {a b : List Int} (h : ∀ x ∈ a, x ∈ b) (q : someIn ls a = true) : someIn ls b = true := by
  obtain ⟨l, hl, hs⟩ := someIn_iff.mp q
  exact someIn_iff.mpr ⟨l, hl, fun x hx => h x (hs x hx)⟩
theorem take_sub {call : List Int} {s t : Nat} (h : s ≤ t) : ∀ x ∈ call.take s, x ∈ call.take t := fun x hx => by
  have e : call.take s = (call.take t).take s := by rw [List.take_take, Nat.min_eq_left h]
  rw [e] at hx
  exact List.mem_of_mem_take hx
theorem someIn_take {ls : List (List Int)} (ne : ∀ l ∈ ls, l ≠ []) {call : List Int} {t : Nat} (h : timeOf ls call = some t) (m : Nat) : someIn ls (call.take m) = decide (t ≤ m) := by
  obtain ⟨h1, h2, h3, h4⟩ := timeOf_spec h
  by_cases q : t ≤ m
  · rw [decide_eq_true q]
    exact someIn_mono (take_sub q) h3
  · rw [decide_eq_false q]
    by_cases hm : 1 ≤ m
    · exact h4 m hm (by omega)
    · have : m = 0 := by omega
      subst this
      refine Bool.eq_false_iff.mpr fun z => ?_
      obtain ⟨l, hl, hs⟩ := someIn_iff.mp z
      obtain ⟨x, hx⟩ := List.exists_mem_of_ne_nil l (ne l hl)
      exact absurd (hs x hx) (by simp)
theorem timeOf_some_iff {ls : List (List Int)} (ne : ∀ l ∈ ls, l ≠ []) {call : List Int} : (timeOf ls call).isSome = someIn ls call := by
  cases h : someIn ls call with
  | false => rw [timeOf_none h]; rfl
  | true =>
    unfold timeOf
    rw [List.find?_isSome]
    have hl : 0 < call.length := by
      obtain ⟨l, hl, hs⟩ := someIn_iff.mp h
      obtain ⟨x, hx⟩ := List.exists_mem_of_ne_nil l (ne l hl)
      exact List.length_pos_of_mem (hs x hx)
    exact ⟨call.length, List.mem_map.mpr ⟨call.length - 1, List.mem_range.mpr (by omega), by omega⟩, by rw [List.take_length]; exact h⟩
theorem timeOf_is {ls : List (List Int)} (ne : ∀ l ∈ ls, l ≠ []) {call : List Int} (h : someIn ls call = true) : ∃ t, timeOf ls call = some t := by
  have := timeOf_some_iff ne (call := call)
  rw [h] at this
  exact Option.isSome_iff_exists.mp this
/-- more lines are never later -/
theorem timeOf_anti {ls ms : List (List Int)} (nm : ∀ l ∈ ms, l ≠ []) (hsub : ∀ l ∈ ls, l ∈ ms) {call : List Int} {t : Nat} (h : timeOf ls call = some t) : ∃ s, timeOf ms call = some s ∧ s ≤ t := by
  obtain ⟨h1, h2, h3, h4⟩ := timeOf_spec h
  obtain ⟨l, hl, hs⟩ := someIn_iff.mp h3
  have q : someIn ms (call.take t) = true := someIn_iff.mpr ⟨l, hsub l hl, hs⟩
  obtain ⟨s, hs'⟩ := timeOf_is nm (someIn_mono (fun x hx => List.mem_of_mem_take hx) q)
  refine ⟨s, hs', ?_⟩
  have := someIn_take nm hs' t
  rw [q] at this
  exact of_decide_eq_true this.symm
theorem clean_perm {l m : List Int} (h : l.Perm m) : clean l = clean m := by
  unfold clean
  exact isort_is ltI_o (isort_sorted ltI_o _) ((isort_perm _).trans (h.filter _))
theorem lines_eq {rows sows : List (List Int)} {r s : Nat} (h : ∀ l, (∃ x ∈ srcOf rows r, clean x = l) ↔ ∃ x ∈ srcOf sows s, clean x = l) : linesOf rows r = linesOf sows s := by
  unfold linesOf
  refine usort_congr ltL_o fun z => ?_
  rw [List.mem_map, List.mem_map]
  exact h z
def turnOf (rows : List (List Int)) : List (List Int) := (List.range rows.length).map (colOf rows)
theorem turn_len (rows : List (List Int)) : (turnOf rows).length = rows.length := by simp [turnOf]
theorem turn_get {rows : List (List Int)} {a b : Nat} (ha : a < rows.length) (hb : b < rows.length) : ((turnOf rows).getD a []).getD b 0 = (rows.getD b []).getD a 0 := by
  have e1 : (turnOf rows).getD a [] = colOf rows a := by
    unfold turnOf
    simp [List.getD_eq_getElem?_getD, ha]
  rw [e1, col_range]
  simp [List.getD_eq_getElem?_getD, hb]
theorem turn_col {rows : List (List Int)} (C : Card rows) {a : Nat} (ha : a < rows.length) : colOf (turnOf rows) a = rows.getD a [] := by
  rw [col_range, turn_len]
  have e : ((List.range rows.length).map fun k => ((turnOf rows).getD k []).getD a 0) = (List.range rows.length).map fun k => (rows.getD a []).getD k 0 := List.map_congr_left fun k hk => turn_get (List.mem_range.mp hk) ha
  rw [e]
  exact range_getD (C.row_len ha)
theorem pw_of_lt {α : Type} {R : α → α → Prop} (sym : ∀ a b, R a b → R b a) {n : Nat} {f : Nat → α} (h : ∀ a b, a < b → b < n → R (f a) (f b)) : ((List.range n).map f).Pairwise R := by
  refine List.Pairwise.map f (R := fun a b => a < b ∧ b < n) (fun a b hab => h a b hab.1 hab.2) ?_
  exact List.Pairwise.imp_of_mem (fun {a b} _ hb hlt => ⟨hlt, List.mem_range.mp hb⟩) List.pairwise_lt_range
theorem Card.dif2 {rows : List (List Int)} (C : Card rows) {a b c d : Nat} (ha : a < rows.length) (hb : b < rows.length) (hc : c < rows.length) (hd : d < rows.length) (h : a ≠ b ∨ c ≠ d) : (rows.getD a []).getD c 0 ≠ (rows.getD b []).getD d 0 := by
  by_cases hab : a = b
  · subst hab
    have hcd : c ≠ d := by omega
    have nd := C.rows_pw.1 _ (getD_mem (d := []) ha)
    have la := C.row_len ha
    generalize rows.getD a [] = l at *
    have e1 : l.getD c 0 = l[c]'(by omega) := by simp [List.getD_eq_getElem?_getD, show c < l.length by omega]
    have e2 : l.getD d 0 = l[d]'(by omega) := by simp [List.getD_eq_getElem?_getD, show d < l.length by omega]
    rw [e1, e2]
    have pw := List.pairwise_iff_getElem.mp nd
    rcases Nat.lt_or_gt_of_ne hcd with q | q
    · exact pw c d (by omega) (by omega) q
    · exact fun e => pw d c (by omega) (by omega) q e.symm
  · rcases Nat.lt_or_gt_of_ne hab with q | q
    · exact C.dif ha hb q hc hd
    · exact fun e => C.dif hb ha q hd hc e.symm
theorem Card.turn {rows : List (List Int)} (C : Card rows) : Card (turnOf rows) := by
  have fl : ∀ x ∈ (turnOf rows).flatten, ∃ a b, a < rows.length ∧ b < rows.length ∧ x = (rows.getD b []).getD a 0 := fun x hx => by
    obtain ⟨l, hl, hxl⟩ := List.mem_flatten.mp hx
    obtain ⟨a, ha, rfl⟩ := List.mem_map.mp hl
    rw [col_range] at hxl
    obtain ⟨b, hb, rfl⟩ := List.mem_map.mp hxl
    exact ⟨a, b, List.mem_range.mp ha, List.mem_range.mp hb, rfl⟩
  refine ⟨by rw [turn_len]; exact C.lo, by rw [turn_len]; exact C.hi, fun l hl => ?_, fun x hx => ?_, ?_⟩
  · obtain ⟨a, ha, rfl⟩ := List.mem_map.mp hl
    rw [turn_len]
    simp [colOf]
  · obtain ⟨a, b, ha, hb, rfl⟩ := fl x hx
    exact C.rng _ (List.mem_flatten.mpr ⟨_, getD_mem hb, getD_mem (by rw [C.row_len hb]; exact ha)⟩)
  · refine List.pairwise_flatten.mpr ⟨fun l hl => ?_, ?_⟩
    · obtain ⟨a, ha, rfl⟩ := List.mem_map.mp hl
      have ha := List.mem_range.mp ha
      rw [col_range]
      exact map_range_nodup fun p q hpq hq => C.dif2 (by omega) hq ha ha (.inl (by omega))
    · refine pw_of_lt (fun l m h x hx y hy e => h y hy x hx e.symm) fun a b hab hb x hx y hy => ?_
      rw [col_range] at hx hy
      obtain ⟨p, hp, rfl⟩ := List.mem_map.mp hx
      obtain ⟨q, hq, rfl⟩ := List.mem_map.mp hy
      exact C.dif2 (List.mem_range.mp hp) (List.mem_range.mp hq) (by omega) hb (.inr (by omega))
theorem Card.rev {rows : List (List Int)} (C : Card rows) : Card rows.reverse := by
  have p : rows.reverse.flatten.Perm rows.flatten := (List.reverse_perm rows).flatten
  exact ⟨by simpa using C.lo, by simpa using C.hi, fun l hl => by rw [List.length_reverse]; exact C.sq l (List.mem_reverse.mp hl), fun x hx => C.rng x (p.mem_iff.mp hx), p.nodup_iff.mpr C.nd⟩
theorem row_mem {rows : List (List Int)} {l : List Int} : l ∈ rows ↔ ∃ a, a < rows.length ∧ rows.getD a [] = l := by
  constructor
  · intro h
    obtain ⟨i, hi, rfl⟩ := List.getElem_of_mem h
    exact ⟨i, hi, by simp [List.getD_eq_getElem?_getD, hi]⟩
  · rintro ⟨a, ha, rfl⟩
    exact getD_mem ha
theorem src_iff {rows : List (List Int)} {r : Nat} {x : List Int} : x ∈ srcOf rows r ↔ (∃ a, a < rows.length ∧ rows.getD a [] = x) ∨ (r ≠ 0 ∧ ∃ a, a < rows.length ∧ colOf rows a = x) ∨ (2 ≤ r ∧ (x = diagOf rows ∨ x = antiOf rows)) := by
  unfold srcOf
  rw [List.mem_append, List.mem_append, row_mem]
  constructor
  · rintro ((h | h) | h)
    · exact .inl h
    · split at h
      · cases h
      · obtain ⟨a, ha, rfl⟩ := List.mem_map.mp h
        exact .inr (.inl ⟨by assumption, a, List.mem_range.mp ha, rfl⟩)
    · split at h
      · rcases List.mem_cons.mp h with q | q
        · exact .inr (.inr ⟨by assumption, .inl q⟩)
        · exact .inr (.inr ⟨by assumption, .inr (List.mem_singleton.mp q)⟩)
      · cases h
  · rintro (h | ⟨h, a, ha, rfl⟩ | ⟨h, q⟩)
    · exact .inl (.inl h)
    · refine .inl (.inr ?_)
      rw [if_neg h]
      exact List.mem_map.mpr ⟨a, List.mem_range.mpr ha, rfl⟩
    · refine .inr ?_
      rw [if_pos h]
      rcases q with rfl | rfl <;> simp
theorem range_rev_perm (n : Nat) (f : Nat → Int) : ((List.range n).map fun k => f (n - 1 - k)).Perm ((List.range n).map f) := by
  have e : ((List.range n).map fun k => f (n - 1 - k)) = ((List.range n).map fun k => n - 1 - k).map f := by rw [List.map_map]; rfl
  have e2 : ((List.range n).map fun k => n - 1 - k) = (List.range n).reverse := by
    apply List.ext_getElem
    · simp
    · intro i h1 h2
      simp
  rw [e, e2]
  exact (List.reverse_perm _).map f
theorem lines_turn {rows : List (List Int)} (C : Card rows) {r : Nat} (hr : r ≠ 0) : linesOf (turnOf rows) r = linesOf rows r := by
  have one : ∀ x ∈ srcOf (turnOf rows) r, ∃ y ∈ srcOf rows r, clean y = clean x := fun x hx => by
    rcases src_iff.mp hx with ⟨a, ha, rfl⟩ | ⟨_, a, ha, rfl⟩ | ⟨h2, rfl | rfl⟩
    · rw [turn_len] at ha
      refine ⟨colOf rows a, src_iff.mpr (.inr (.inl ⟨hr, a, ha, rfl⟩)), ?_⟩
      have e1 : (turnOf rows).getD a [] = colOf rows a := by unfold turnOf; simp [List.getD_eq_getElem?_getD, ha]
      rw [e1]
    · rw [turn_len] at ha
      exact ⟨rows.getD a [], src_iff.mpr (.inl ⟨a, ha, rfl⟩), by rw [turn_col C ha]⟩
    · refine ⟨diagOf rows, src_iff.mpr (.inr (.inr ⟨h2, .inl rfl⟩)), ?_⟩
      have e : diagOf (turnOf rows) = diagOf rows := by
        unfold diagOf
        rw [turn_len]
        exact List.map_congr_left fun k hk => turn_get (List.mem_range.mp hk) (List.mem_range.mp hk)
      rw [e]
    · refine ⟨antiOf rows, src_iff.mpr (.inr (.inr ⟨h2, .inr rfl⟩)), clean_perm ?_⟩
      unfold antiOf
      rw [turn_len]
      have e : ((List.range rows.length).map fun k => ((turnOf rows).getD k []).getD (rows.length - 1 - k) 0) = (List.range rows.length).map fun k => (rows.getD (rows.length - 1 - k) []).getD (rows.length - 1 - (rows.length - 1 - k)) 0 := List.map_congr_left fun k hk => by
        have hk := List.mem_range.mp hk
        have e3 : rows.length - 1 - (rows.length - 1 - k) = k := by omega
        rw [turn_get hk (by omega), e3]
      rw [e]
      exact (range_rev_perm rows.length fun k => (rows.getD k []).getD (rows.length - 1 - k) 0).symm
  have two : ∀ x ∈ srcOf rows r, ∃ y ∈ srcOf (turnOf rows) r, clean y = clean x := fun x hx => by
    rcases src_iff.mp hx with ⟨a, ha, rfl⟩ | ⟨_, a, ha, rfl⟩ | ⟨h2, rfl | rfl⟩
    · exact ⟨colOf (turnOf rows) a, src_iff.mpr (.inr (.inl ⟨hr, a, by rw [turn_len]; exact ha, rfl⟩)), by rw [turn_col C ha]⟩
    · refine ⟨(turnOf rows).getD a [], src_iff.mpr (.inl ⟨a, by rw [turn_len]; exact ha, rfl⟩), ?_⟩
      have e1 : (turnOf rows).getD a [] = colOf rows a := by unfold turnOf; simp [List.getD_eq_getElem?_getD, ha]
      rw [e1]
    · refine ⟨diagOf (turnOf rows), src_iff.mpr (.inr (.inr ⟨h2, .inl rfl⟩)), ?_⟩
      have e : diagOf (turnOf rows) = diagOf rows := by
        unfold diagOf
        rw [turn_len]
        exact List.map_congr_left fun k hk => turn_get (List.mem_range.mp hk) (List.mem_range.mp hk)
      rw [e]
    · refine ⟨antiOf (turnOf rows), src_iff.mpr (.inr (.inr ⟨h2, .inr rfl⟩)), clean_perm ?_⟩
      unfold antiOf
      rw [turn_len]
      have e : ((List.range rows.length).map fun k => ((turnOf rows).getD k []).getD (rows.length - 1 - k) 0) = (List.range rows.length).map fun k => (rows.getD (rows.length - 1 - k) []).getD (rows.length - 1 - (rows.length - 1 - k)) 0 := List.map_congr_left fun k hk => by
        have hk := List.mem_range.mp hk
        have e3 : rows.length - 1 - (rows.length - 1 - k) = k := by omega
        rw [turn_get hk (by omega), e3]
      rw [e]
      exact range_rev_perm rows.length fun k => (rows.getD k []).getD (rows.length - 1 - k) 0
  refine lines_eq fun l => ⟨?_, ?_⟩
  · rintro ⟨x, hx, rfl⟩
    exact one x hx
  · rintro ⟨x, hx, rfl⟩
    exact two x hx
theorem getD_rev {rows : List (List Int)} {k : Nat} (h : k < rows.length) : rows.reverse.getD k [] = rows.getD (rows.length - 1 - k) [] := by
  have h2 : rows.length - 1 - k < rows.length := by omega
  simp [List.getD_eq_getElem?_getD, h, h2]
theorem lines_rev_sub {rows : List (List Int)} (r : Nat) {x : List Int} (hx : x ∈ srcOf rows.reverse r) : ∃ y ∈ srcOf rows r, clean y = clean x := by
  rcases src_iff.mp hx with ⟨a, ha, rfl⟩ | ⟨h, a, ha, rfl⟩ | ⟨h2, rfl | rfl⟩
  · rw [List.length_reverse] at ha
    rw [getD_rev ha]
    exact ⟨_, src_iff.mpr (.inl ⟨_, by omega, rfl⟩), rfl⟩
  · rw [List.length_reverse] at ha
    refine ⟨colOf rows a, src_iff.mpr (.inr (.inl ⟨h, a, ha, rfl⟩)), clean_perm ?_⟩
    unfold colOf
    exact ((List.reverse_perm rows).map _).symm
  · refine ⟨antiOf rows, src_iff.mpr (.inr (.inr ⟨h2, .inr rfl⟩)), clean_perm ?_⟩
    unfold antiOf diagOf
    rw [List.length_reverse]
    have e : ((List.range rows.length).map fun k => (rows.reverse.getD k []).getD k 0) = (List.range rows.length).map fun k => (rows.getD (rows.length - 1 - k) []).getD (rows.length - 1 - (rows.length - 1 - k)) 0 := List.map_congr_left fun k hk => by
      have hk := List.mem_range.mp hk
      have e3 : rows.length - 1 - (rows.length - 1 - k) = k := by omega
      rw [getD_rev hk, e3]
    rw [e]
    exact (range_rev_perm rows.length fun k => (rows.getD k []).getD (rows.length - 1 - k) 0).symm
  · refine ⟨diagOf rows, src_iff.mpr (.inr (.inr ⟨h2, .inl rfl⟩)), clean_perm ?_⟩
    unfold antiOf diagOf
    rw [List.length_reverse]
    have e : ((List.range rows.length).map fun k => (rows.reverse.getD k []).getD (rows.length - 1 - k) 0) = (List.range rows.length).map fun k => (rows.getD (rows.length - 1 - k) []).getD (rows.length - 1 - k) 0 := List.map_congr_left fun k hk => by
      rw [getD_rev (List.mem_range.mp hk)]
    rw [e]
    exact (range_rev_perm rows.length fun k => (rows.getD k []).getD k 0).symm
theorem lines_rev (rows : List (List Int)) (r : Nat) : linesOf rows.reverse r = linesOf rows r := by
  refine lines_eq fun l => ⟨?_, ?_⟩
  · rintro ⟨x, hx, rfl⟩
    exact lines_rev_sub r hx
  · rintro ⟨x, hx, rfl⟩
    have hx' : x ∈ srcOf rows.reverse.reverse r := by rw [List.reverse_reverse]; exact hx
    exact lines_rev_sub r hx'
theorem lines_mono {rows : List (List Int)} {r s : Nat} (h : r ≤ s) : ∀ l ∈ linesOf rows r, l ∈ linesOf rows s := fun l hl => by
  obtain ⟨x, hx, rfl⟩ := mem_lines.mp hl
  refine mem_lines.mpr ⟨x, ?_, rfl⟩
  rcases src_iff.mp hx with q | ⟨h1, q⟩ | ⟨h1, q⟩
  · exact src_iff.mpr (.inl q)
  · exact src_iff.mpr (.inr (.inl ⟨by omega, q⟩))
  · exact src_iff.mpr (.inr (.inr ⟨by omega, q⟩))
theorem line_in_card {rows : List (List Int)} (C : Card rows) {r : Nat} {l : List Int} (hl : l ∈ linesOf rows r) : ∀ x ∈ l, x ∈ nz rows.flatten := fun x hx => by
  have L := lines_are C r
  obtain ⟨s, hs, rfl⟩ := mem_lines.mp hl
  have h1 := L.rng _ hl x hx
  unfold clean at hx
  have hm := (List.mem_filter.mp ((isort_perm _).mem_iff.mp hx)).1
  have fl : ∀ a c : Nat, a < rows.length → c < rows.length → (rows.getD a []).getD c 0 ∈ rows.flatten := fun a c ha hc => List.mem_flatten.mpr ⟨_, getD_mem ha, getD_mem (by rw [C.row_len ha]; exact hc)⟩
  have hf : x ∈ rows.flatten := by
    rcases src_iff.mp hs with ⟨a, ha, rfl⟩ | ⟨_, a, ha, rfl⟩ | ⟨h2, rfl | rfl⟩
    · exact List.mem_flatten.mpr ⟨_, getD_mem ha, hm⟩
    · rw [col_range] at hm
      obtain ⟨k, hk, rfl⟩ := List.mem_map.mp hm
      exact fl k a (List.mem_range.mp hk) ha
    · obtain ⟨k, hk, rfl⟩ := List.mem_map.mp hm
      exact fl k k (List.mem_range.mp hk) (List.mem_range.mp hk)
    · obtain ⟨k, hk, rfl⟩ := List.mem_map.mp hm
      have := List.mem_range.mp hk
      exact fl k _ this (by omega)
  exact List.mem_filter.mpr ⟨hf, by simp; omega⟩
theorem lines_ne_nil {rows : List (List Int)} (C : Card rows) (r : Nat) : linesOf rows r ≠ [] := by
  have lo := C.lo
  intro e
  have : clean (rows.getD 0 []) ∈ linesOf rows r := mem_lines.mpr ⟨_, src_iff.mpr (.inl ⟨0, by omega, rfl⟩), rfl⟩
  rw [e] at this
  cases this
/-- the numbers of a card as a call -/
theorem nums_call {rows : List (List Int)} (C : Card rows) : Call (isort ltI (nz rows.flatten)) := by
  refine Call.of ((isort_perm _).nodup_iff.mpr (C.nd.filter _)) fun x hx => ?_
  have h := List.mem_filter.mp ((isort_perm _).mem_iff.mp hx)
  have h1 := C.rng x h.1
  have h2 : x ≠ 0 := by simpa using h.2
  omega
theorem line_call {rows : List (List Int)} (C : Card rows) {r : Nat} {l : List Int} (hl : l ∈ linesOf rows r) : Call l := Call.of ((lines_are C r).nd l hl) ((lines_are C r).rng l hl)
theorem eqvAll_ints : ∀ l m : List Int, PyData.eqvAll (iL l) (iL m) = decide (l = m)
  | [], [] => by simp [PyData.eqvAll]
  | [], y :: m => by simp [iL, PyData.eqvAll]
  | x :: l, [] => by simp [iL, PyData.eqvAll]
  | x :: l, y :: m => by
    have := eqvAll_ints l m
    unfold iL at this ⊢
    simp only [List.map_cons, PyData.eqvAll, PyData.eqv, this]
    by_cases h : x = y
    · subst h; simp
    · simp [h]
theorem eqv_tupI (l m : List Int) : PyData.eqv (tupI l) (tupI m) = decide (l = m) := by
  unfold tupI
  simp only [PyData.eqv]
  exact eqvAll_ints l m
theorem any_tup (x : List Int) : ∀ ls : List (List Int), (ls.map tupI).any (fun z => PyData.eqv z (tupI x)) = decide (x ∈ ls)
  | [] => by simp
  | y :: ls => by
    have := any_tup x ls
    simp only [List.map_cons, List.any_cons, this, eqv_tupI]
    by_cases h : y = x
    · subst h; simp
    · have h2 : x ≠ y := fun e => h e.symm
      simp [h, h2]
theorem pyNotIn_tups (x : List Int) (ls : List (List Int)) : pyNotIn (tupI x) (.list (ls.map tupI)) = .ok (.bool (!decide (x ∈ ls))) := by
  unfold pyNotIn
  rw [ofSeq_list, bind_ok, if_pos ⟨(sh_tupI (n := 0) x).shp, (Sh.list (shA_tups (n := 0) ls)).shp⟩, any_tup]
theorem pyIn_tups (x : List Int) (ls : List (List Int)) : pyIn (tupI x) (.list (ls.map tupI)) = .ok (.bool (decide (x ∈ ls))) := by
  unfold pyIn
  rw [ofSeq_list, bind_ok, if_pos ⟨(sh_tupI (n := 0) x).shp, (Sh.list (shA_tups (n := 0) ls)).shp⟩, any_tup]
theorem pyRev_card (rows : List (List Int)) : pyRev (cardD rows) = .ok (cardD rows.reverse) := by
  show Rs.ok (PyData.tuple (rows.map tupI).reverse) = _
  rw [← List.map_reverse]
end BG
namespace BG
open PySem
theorem is_finished_ok {rows : List (List Int)} (C : Card rows) (r : Nat) {call : List Int} (D : Call call) : m_is_finished (cardD rows) (.str (ruleS r)) (.list (iL call)) = .ok (.bool (timeOf (linesOf rows r) call).isSome) := by
  unfold m_is_finished b_is_finished
  simp only [bind_ok, check_three_ok C r D, find_time_ok C]
  cases timeOf (linesOf rows r) call <;> rfl
theorem finished_at_ok {rows : List (List Int)} (C : Card rows) (r : Nat) {call : List Int} (D : Call call) : m_finished_at (cardD rows) (.str (ruleS r)) (.list (iL call)) = .ok (timeD (timeOf (linesOf rows r) call)) := by
  unfold m_finished_at b_finished_at
  simp only [bind_ok, check_three_ok C r D, find_time_ok C, fin_rt]
theorem finished_lines_ok {rows : List (List Int)} (C : Card rows) (r : Nat) {call : List Int} (D : Call call) : m_finished_lines (cardD rows) (.str (ruleS r)) (.list (iL call)) = .ok (.list (((linesOf rows r).filter fun l => sub l call).map tupI)) := by
  unfold m_finished_lines b_finished_lines
  simp only [bind_ok, check_three_ok C r D, find_lines_ok C, ofSeq_list, comp_ok, comp_sub, lstD_ok, fin_rt]
theorem waits_for_ok {rows : List (List Int)} (C : Card rows) (r : Nat) {call : List Int} (D : Call call) : m_waits_for (cardD rows) (.str (ruleS r)) (.list (iL call)) = .ok (.list (iL (waitsOf (linesOf rows r) call))) := by
  unfold m_waits_for b_waits_for
  simp only [bind_ok, check_three_ok C r D, find_waits_ok C, fin_rt]
theorem time_isSome {rows : List (List Int)} (C : Card rows) (r : Nat) (call : List Int) : (timeOf (linesOf rows r) call).isSome = someIn (linesOf rows r) call := by
  cases h : someIn (linesOf rows r) call with
  | false => rw [timeOf_none h]; rfl
  | true =>
    unfold timeOf
    rw [List.find?_isSome]
    have hl : 0 < call.length := by
      obtain ⟨l, hl, hs⟩ := someIn_iff.mp h
      obtain ⟨x, hx⟩ := List.exists_mem_of_ne_nil l ((lines_are C r).ne l hl)
      exact List.length_pos_of_mem (hs x hx)
    exact ⟨call.length, List.mem_map.mpr ⟨call.length - 1, List.mem_range.mpr (by omega), by omega⟩, by rw [List.take_length]; exact h⟩
theorem sh_time {n : Nat} (t : Option Nat) : Sh n (timeD t) := by
  cases t with
  | none => exact Sh.none
  | some k => exact Sh.int _
theorem forO_unit {f : Unit → D → Rs (Out Unit)} : ∀ {xs : List D}, (∀ d ∈ xs, f () d = .ok (.nx ())) → forO f xs () = .ok (.nx ())
  | [], _ => rfl
  | x :: xs, h => by
    show (f () x).go _ = _
    rw [h x (by simp), go_nx]
    exact forO_unit fun d hd => h d (by simp [hd])
theorem isNot_none_time (t : Option Nat) : pyIsNot (timeD t) .none = .ok (.bool t.isSome) := by cases t <;> rfl
theorem is_none_time (t : Option Nat) : pyIs (timeD t) .none = .ok (.bool t.isNone) := by cases t <;> rfl
theorem pyNe_bool (a b : Bool) : pyNe (.bool a) (.bool b) = .ok (.bool (a != b)) := by cases a <;> cases b <;> rfl
theorem pyEq_bool (a b : Bool) : pyEq (.bool a) (.bool b) = .ok (.bool (a == b)) := by cases a <;> cases b <;> rfl
theorem Call.take {call : List Int} (C : Call call) (m : Nat) : Call (call.take m) := Call.of (C.nd.sublist (List.take_sublist m call)) fun x hx => C.rng x (List.mem_of_mem_take hx)
theorem pyRange0_ok (n : Nat) (h : n < 1000) : pyRange (.int 0) (.int ((n : Int) + 1)) = .ok ((List.range (n + 1)).map fun (i : Nat) => PyData.int (i : Int)) := by
  have := pyRange_ok (n + 1) (by omega)
  rw [Int.natCast_add] at this
  exact this
theorem pySlice_take (call : List Int) (m : Nat) : pySlice (.list (iL call)) none (some (m : Int)) = .ok (.list (iL (call.take m))) := by
  simp only [pySlice, cut_take]
end BG
namespace BG
open PySem
abbrev hallD (hs : List (List (List Int))) : D := .list (hs.map cardD)
structure Hall (hs : List (List (List Int))) : Prop where
  lo : 1 ≤ hs.length
  hi : hs.length ≤ 6
  ok : ∀ rows ∈ hs, Card rows
theorem check_cards_ok {hs : List (List (List Int))} (H : Hall hs) (r : Nat) : m_check_cards (hallD hs) (.str (ruleS r)) = .ok .none := by
  have lo := H.lo
  have hi := H.hi
  unfold m_check_cards b_check_cards b_check_cards_k1
  have e1 : pyIsT "list" (hallD hs) = .ok (.bool true) := rfl
  have e2 : pyLen (hallD hs) = .ok (.int (hs.length : Int)) := by simp [hallD]
  have h1 : (1 : Int) ≤ hs.length := by omega
  have h6 : (hs.length : Int) ≤ 6 := by omega
  simp only [bind_ok, e1, e2, tst_bool, notT_ok, Bool.not_true, orT_ok, Bool.false_eq_true, if_false, chainV_int, h1, h6, decide_true, if_true, pyLe_int, ofSeq_list, comp_ok]
  rw [compO_map (e := cardD) (h := fun _ => PyData.bool true) (xs := hs)]
  · have e : (hs.map fun _ => PyData.bool true) = (hs.map fun _ => true).map PyData.bool := by simp
    rw [e, lstD_ok, bind_ok, pyAll_map, all_map_true (fun x hx => rfl)]
    simp only [tst_bool, notT_ok, Bool.not_true, bind_ok, Bool.false_eq_true, if_false, go_nx, check_rule_ok, fin_nx]
  · intro rows hr
    rw [is_card_ok (H.ok rows hr), eltO_true, bind_ok]
def timesOf (hs : List (List (List Int))) (r : Nat) (call : List Int) : List (Option Nat) := hs.map fun rows => timeOf (linesOf rows r) call
def somes (ts : List (Option Nat)) : List Int := (ts.filterMap id).map fun (t : Nat) => (t : Int)
/-- the places of a time -/
def ixs (ts : List (Option Nat)) (t : Int) : List Int := ((List.range ts.length).filter fun i => decide (ts.getD i none = some t.toNat)).map fun (i : Nat) => (i : Int)
def placesOf (ts : List (Option Nat)) : List (List Int) := (usort ltI (somes ts)).map (ixs ts)
abbrev lstI (ns : List Int) : D := .list (iL ns)
theorem mem_somes {ts : List (Option Nat)} {z : Int} : z ∈ somes ts ↔ ∃ t : Nat, some t ∈ ts ∧ z = (t : Int) := by
  unfold somes
  rw [List.mem_map]
  constructor
  · rintro ⟨t, ht, rfl⟩
    obtain ⟨o, ho, e⟩ := List.mem_filterMap.mp ht
    exact ⟨t, by rw [← (show o = some t from e)]; exact ho, rfl⟩
  · rintro ⟨t, ht, rfl⟩
    exact ⟨t, List.mem_filterMap.mpr ⟨some t, ht, rfl⟩, rfl⟩
theorem somes_len (ts : List (Option Nat)) : (somes ts).length ≤ ts.length := by
  unfold somes
  rw [List.length_map]
  exact List.length_filterMap_le _ _
theorem comp_somes : ∀ ts : List (Option Nat), compO (fun d => eltO (tst (pyIsNot d PyData.none)) (Rs.ok d)) (ts.map timeD) = .ok (iL (somes ts))
  | [] => rfl
  | o :: ts => by
    have ih := comp_somes ts
    rw [List.map_cons]
    unfold compO
    rw [isNot_none_time, tst_bool]
    cases o with
    | none =>
      show compO _ (ts.map timeD) = _
      rw [ih]
      rfl
    | some t =>
      show (compO _ (ts.map timeD)).bind (fun r => .ok (timeD (some t) :: r)) = _
      rw [ih, bind_ok]
      rfl
theorem eq_time (o : Option Nat) {t : Int} (ht : 0 ≤ t) : pyEq (timeD o) (.int t) = .ok (.bool (decide (o = some t.toNat))) := by
  cases o with
  | none => rfl
  | some s =>
    show pyEq (.int (s : Int)) (.int t) = _
    rw [pyEq_int]
    congr 2
    by_cases h : (s : Int) = t
    · subst h
      simp
    · have : ¬ (s = t.toNat) := by omega
      simp [h, this]
theorem comp_ixs (ts : List (Option Nat)) {t : Int} (ht : 0 ≤ t) : compO (fun d27 => un2 d27 fun d25 d26 => eltO (tst (pyEq d26 (PyData.int t))) (Rs.ok d25)) (enumD (ts.map timeD)) = .ok (iL (ixs ts t)) := by
  unfold enumD
  rw [List.length_map, compO_filter (e := fun (i : Nat) => PyData.tuple [.int (i : Nat), (ts.map timeD).getD i .none]) (p := fun i => decide (ts.getD i none = some t.toNat)) (h := fun (i : Nat) => PyData.int (i : Int))]
  · unfold ixs iL
    rw [List.map_map]
    rfl
  · intro i hi
    have hi := List.mem_range.mp hi
    have e : (ts.map timeD).getD i .none = timeD (ts.getD i none) := by simp [List.getD_eq_getElem?_getD, hi]
    rw [e]
    show eltO (tst (pyEq (timeD (ts.getD i none)) (.int t))) (Rs.ok (.int (i : Nat))) = _
    rw [eq_time _ ht, tst_bool, eltO_ok]
theorem ixs_len (ts : List (Option Nat)) (t : Int) : (ixs ts t).length ≤ ts.length := by
  unfold ixs
  rw [List.length_map]
  exact Nat.le_trans (List.length_filter_le _ _) (by simp)
theorem comp_times {hs : List (List (List Int))} (H : Hall hs) (r : Nat) (call : List Int) : compO (fun d5 => eltO (Rs.ok true) (m_find_time d5 (PyData.str (ruleS r)) (PyData.list (iL call)))) (hs.map cardD) = .ok ((timesOf hs r call).map timeD) := by
  rw [compO_map (e := cardD) (h := fun rows => timeD (timeOf (linesOf rows r) call))]
  · unfold timesOf
    rw [List.map_map]
    rfl
  · intro rows hr
    rw [find_time_ok (H.ok rows hr), eltO_true, bind_ok]
theorem find_places_ok {hs : List (List (List Int))} (H : Hall hs) (r : Nat) {call : List Int} (CC : Call call) : m_find_places (hallD hs) (.str (ruleS r)) (.list (iL call)) = .ok (.list ((placesOf (timesOf hs r call)).map lstI)) := by
  have hi := H.hi
  unfold m_find_places b_find_places
  have e1 : ofSeq (hallD hs) = .ok (hs.map cardD) := rfl
  have sl := somes_len (timesOf hs r call)
  have tl : (timesOf hs r call).length = hs.length := by simp [timesOf]
  have e3 : ∀ ds : List D, ofList (PyData.list ds) = .ok ds := fun _ => rfl
  simp only [bind_ok, check_cards_ok H, check_call_ok CC, e1, comp_ok, comp_times H, ofSeq_list, comp_somes, lstD_ok, pySortedSet_ints (ns := somes (timesOf hs r call)) (by omega), e3]
  rw [compO_map (e := PyData.int) (h := fun t => lstI (ixs (timesOf hs r call) t)) (xs := usort ltI (somes (timesOf hs r call)))]
  · unfold placesOf
    rw [lstD_ok, bind_ok, fin_rt, List.map_map]
    rfl
  · intro t ht
    obtain ⟨n, _, rfl⟩ := mem_somes.mp ((mem_usort ltI_o).mp ht)
    rw [comp_ixs _ (by omega), lstD_ok, eltO_true, bind_ok]
theorem shA_lsts {n : Nat} (ls : List (List Int)) : ShA (n + 1) (ls.map lstI) := .of fun d hd => by
  obtain ⟨i, _, rfl⟩ := List.mem_map.mp hd
  exact Sh.list (shA_ints i)
theorem ne_nilL (ls : List (List Int)) : pyNe (.list (ls.map lstI)) (.list []) = .ok (.bool (!decide (ls = []))) := by
  unfold pyNe
  rw [if_pos ⟨(Sh.list (shA_lsts (n := 0) ls)).shp, (Sh.list (ShA.nil (n := 0))).shp⟩]
  cases ls with
  | nil => rfl
  | cons n ns => simp [PyData.eqv, PyData.eqvAll]
theorem places_ok {hs : List (List (List Int))} (H : Hall hs) (r : Nat) {call : List Int} (CC : Call call) : m_places (hallD hs) (.str (ruleS r)) (.list (iL call)) = .ok (.list ((placesOf (timesOf hs r call)).map lstI)) := by
  unfold m_places b_places
  simp only [bind_ok, find_places_ok H r CC, fin_rt]
def headL (ls : List (List Int)) : List Int := ls.headD []
theorem winners_ok {hs : List (List (List Int))} (H : Hall hs) (r : Nat) {call : List Int} (CC : Call call) : m_winners (hallD hs) (.str (ruleS r)) (.list (iL call)) = .ok (lstI (headL (placesOf (timesOf hs r call)))) := by
  unfold m_winners b_winners
  simp only [bind_ok, find_places_ok H r CC, mkLst_nil, lstD_ok, ne_nilL, tst_bool, ifE_ok]
  cases placesOf (timesOf hs r call) with
  | nil => rfl
  | cons l ls =>
    have e : pyIx (.list ((l :: ls).map lstI)) (.int 0) = .ok (lstI l) := by
      rw [show (PyData.int 0) = PyData.int ((0 : Nat) : Int) from rfl, pyIx_list (by simp)]
      rfl
    rw [decide_eq_false (by simp), e]
    rfl
def pairsOf (r : Nat) (call : List Int) (k : Nat) : List (List (List Int)) → List (List Int)
  | [] => []
  | rows :: rest => ((waitsOf (linesOf rows r) call).map fun n => [n, (k : Int)]) ++ pairsOf r call (k + 1) rest
theorem next_for {r : Nat} {call : List Int} : ∀ {hs : List (List (List Int))} {k : Nat} {acc : List (List Int)}, (∀ rows ∈ hs, Card rows) → acc.length + 10 * hs.length ≤ 1000 →
    forO (fun (s12 : List D) d18 => un2 d18 (b_next_winners_b1 (.str (ruleS r)) (.list (iL call)) s12)) ((List.range hs.length).map fun i => PyData.tuple [.int ((k + i : Nat) : Int), (hs.map cardD).getD i .none]) (acc.map tupI) = .ok (.nx ((acc ++ pairsOf r call k hs).map tupI))
  | [], k, acc, _, _ => by
    simp [pairsOf]
    rfl
  | rows :: hs, k, acc, hc, hl => by
    have C := hc rows (by simp)
    simp only [List.length_cons] at hl
    have wl : (waitsOf (linesOf rows r) call).length ≤ 10 := by
      unfold waitsOf
      split
      · simp
      · exact Nat.le_trans (usort_length ltI_o _) (Nat.le_trans (ones_len call _) (lines_are C r).few)
    rw [List.length_cons, List.range_succ_eq_map, List.map_cons]
    show (b_next_winners_b1 (.str (ruleS r)) (.list (iL call)) (acc.map tupI) (.int ((k + 0 : Nat) : Int)) (cardD rows)).go _ = _
    have b : b_next_winners_b1 (.str (ruleS r)) (.list (iL call)) (acc.map tupI) (.int ((k + 0 : Nat) : Int)) (cardD rows) = .ok (.nx ((acc ++ (waitsOf (linesOf rows r) call).map fun n => [n, (k : Int)]).map tupI)) := by
      unfold b_next_winners_b1
      simp only [bind_ok, find_waits_ok C, ofSeq_list, comp_ok]
      rw [compO_map (e := PyData.int) (h := fun n => tupI [n, (k : Int)]) (xs := waitsOf (linesOf rows r) call)]
      · rw [lstD_ok, bind_ok, ofSeq_list, bind_ok, if_pos (by simp only [List.length_map]; unfold sizeMax; omega)]
        rw [List.map_append, List.map_map]
        rfl
      · intro n _
        rw [mkTup2, eltO_true, bind_ok]
        rfl
    rw [b, go_nx, List.map_map]
    have e : (List.range hs.length).map ((fun i => PyData.tuple [.int ((k + i : Nat) : Int), ((rows :: hs).map cardD).getD i .none]) ∘ Nat.succ) = (List.range hs.length).map fun i => PyData.tuple [.int (((k + 1) + i : Nat) : Int), (hs.map cardD).getD i .none] := List.map_congr_left fun i _ => by
      show PyData.tuple [.int ((k + (i + 1) : Nat) : Int), ((rows :: hs).map cardD).getD (i + 1) .none] = _
      rw [show k + (i + 1) = k + 1 + i by omega]
      rfl
    rw [e, next_for (fun x hx => hc x (by simp [hx])) (by rw [List.length_append, List.length_map]; omega)]
    rw [List.append_assoc]
    rfl
def nextOf (hs : List (List (List Int))) (r : Nat) (call : List Int) : List (List Int) := if placesOf (timesOf hs r call) = [] then isort ltL (pairsOf r call 0 hs) else []
theorem pairs_ne {r : Nat} {call : List Int} : ∀ {k : Nat} {rest : List (List (List Int))}, ∀ l ∈ pairsOf r call k rest, l ≠ []
  | k, [], l, h => by cases h
  | k, rows :: rest, l, h => by
    unfold pairsOf at h
    rcases List.mem_append.mp h with q | q
    · obtain ⟨n, _, rfl⟩ := List.mem_map.mp q
      simp
    · exact pairs_ne l q
theorem pySorted_tups (ls : List (List Int)) (hn : ∀ l ∈ ls, l ≠ []) : pySorted (.list (ls.map tupI)) = .ok ((isort ltL ls).map tupI) := by
  cases ls with
  | nil => rfl
  | cons l ls =>
    have e : intsOf ((l :: ls).map tupI) = none := rfl
    simp only [pySorted, e, tupsOf_map]
    rw [if_pos hn]
theorem next_winners_ok {hs : List (List (List Int))} (H : Hall hs) (r : Nat) {call : List Int} (CC : Call call) : m_next_winners (hallD hs) (.str (ruleS r)) (.list (iL call)) = .ok (.list ((nextOf hs r call).map tupI)) := by
  have hi := H.hi
  unfold m_next_winners b_next_winners
  simp only [bind_ok, find_places_ok H r CC, mkLst_nil, lstD_ok, ne_nilL, tst_bool]
  unfold nextOf
  by_cases h : placesOf (timesOf hs r call) = []
  · have e3 : ofList (hallD hs) = .ok (hs.map cardD) := rfl
    have f := next_for (r := r) (call := call) (hs := hs) (k := 0) (acc := []) H.ok (by simp; omega)
    have en : enumD (hs.map cardD) = (List.range hs.length).map fun i => PyData.tuple [.int ((0 + i : Nat) : Int), (hs.map cardD).getD i .none] := by
      unfold enumD
      rw [List.length_map]
      exact List.map_congr_left fun i _ => by rw [Nat.zero_add]
    rw [← en] at f
    have f' : forO (fun (s12 : List D) d18 => un2 d18 (b_next_winners_b1 (.str (ruleS r)) (.list (iL call)) s12)) (enumD (hs.map cardD)) [] = .ok (.nx ((pairsOf r call 0 hs).map tupI)) := f
    simp only [h, decide_true, Bool.not_true, Bool.false_eq_true, if_false, go_nx, if_true]
    unfold b_next_winners_k3 b_next_winners_k2
    simp only [bind_ok, mkLst_nil, e3, f', go_nx, pySorted_tups _ pairs_ne, lstD_ok, fin_rt]
  · simp only [h, decide_false, Bool.not_false, if_true, go_rt, fin_rt, if_false]
    rfl
theorem pickF_ok {α : Type} {ms : List (List D → Rs D)} {k : Nat} {m : List D → Rs D} (h : ms[k]? = some m) (f : (List D → Rs D) → Rs α) : pickF ms (.int (k : Int)) f = f m := by
  unfold pickF
  have hk : k < ms.length := (List.getElem?_eq_some_iff.mp h).1
  rw [ofInt_int, bind_ok, ixOf_nat hk]
  show (match ms[k]? with | some m => f m | none => .bad) = _
  rw [h]
def waitsLaw (ls : List (List Int)) (call : List Int) (due : List (List Int)) (ns : List Int) : List Int := ns.filter fun n => decide (due = []) && (!decide (n ∈ call) && !decide ((ls.filter fun l => sub l (call ++ [n])) = []))
theorem filter_one {p : Int → Bool} : ∀ {l : List Int} {n : Int}, l.Nodup → (∀ x ∈ l, p x = true → x = n) → n ∈ l → p n = true → l.filter p = [n]
  | x :: l, n, nd, h, hm, hp => by
    have nd' := List.nodup_cons.mp nd
    rcases List.mem_cons.mp hm with e | hm'
    · subst e
      rw [List.filter_cons_of_pos hp]
      have : l.filter p = [] := List.filter_eq_nil_iff.mpr fun y hy hpy => nd'.1 (by rw [← h y (by simp [hy]) hpy]; exact hy)
      rw [this]
    · have hx : ¬ (p x = true) := fun q => nd'.1 (by rw [h x (by simp) q]; exact hm')
      rw [List.filter_cons_of_neg hx]
      exact filter_one nd'.2 (fun y hy => h y (by simp [hy])) hm' hp
theorem waits_eq {ls : List (List Int)} (L : Lines ls) {call : List Int} {ns : List Int} (hs : ns.Pairwise (fun a b => ltI a b = true)) (hn : ∀ x : Int, 1 ≤ x → x ≤ 60 → x ∈ ns) : waitsLaw ls call (ls.filter fun l => sub l call) ns = waitsOf ls call := by
  unfold waitsOf
  by_cases h : someIn ls call = true
  · rw [if_pos h]
    unfold waitsLaw
    have : ¬ ((ls.filter fun l => sub l call) = []) := fun e => by rw [filter_nil.mp e] at h; cases h
    simp [this]
  · rw [if_neg h]
    have he : (ls.filter fun l => sub l call) = [] := filter_nil.mpr (Bool.eq_false_iff.mpr h)
    rw [he]
    refine usort_is ltI_o (List.Pairwise.filter _ hs) fun z => ?_
    unfold waitsLaw onesOf
    rw [List.mem_filter, List.mem_flatMap]
    constructor
    · rintro ⟨_, hz⟩
      simp only [decide_true, Bool.true_and, Bool.and_eq_true, Bool.not_eq_true', decide_eq_false_iff_not] at hz
      obtain ⟨hzc, hzl⟩ := hz
      obtain ⟨l, hl⟩ := List.exists_mem_of_ne_nil _ hzl
      obtain ⟨hl, hsl⟩ := List.mem_filter.mp hl
      have hsl := sub_iff.mp hsl
      have hnot : ¬ (∀ x ∈ l, x ∈ call) := fun q => h (someIn_iff.mpr ⟨l, hl, q⟩)
      have only : ∀ x ∈ l, (!decide (x ∈ call)) = true → x = z := fun x hx hxc => by
        rcases List.mem_append.mp (hsl x hx) with q | q
        · simp [q] at hxc
        · exact List.mem_singleton.mp q
      have hzl : z ∈ l := Classical.byContradiction fun q => hnot fun x hx => Classical.byContradiction fun q2 => q (by rw [← only x hx (by simp [q2])]; exact hx)
      have e : miss l call = [z] := filter_one (L.nd l hl) only hzl (by simp [hzc])
      exact ⟨l, hl, by rw [e]; simp⟩
    · rintro ⟨l, hl, hz⟩
      split at hz
      · rename_i h1
        have hm := List.mem_filter.mp hz
        have hzc : z ∉ call := by simpa using hm.2
        have hr := L.rng l hl z hm.1
        refine ⟨hn z hr.1 hr.2, ?_⟩
        have : ¬ ((ls.filter fun l => sub l (call ++ [z])) = []) := fun e => by
          have q := List.filter_eq_nil_iff.mp e l hl
          apply q
          rw [sub_iff]
          intro x hx
          by_cases hxc : x ∈ call
          · exact List.mem_append_left _ hxc
          · have hxm : x ∈ miss l call := List.mem_filter.mpr ⟨hx, by simp [hxc]⟩
            match hq : miss l call, h1 with
            | [y], _ =>
              rw [hq] at hz hxm
              rw [List.mem_singleton.mp hxm, List.mem_singleton.mp hz]
              simp
        simp [hzc, this]
      · cases hz
end BG
namespace BG
open PySem
theorem e_rows : ruleS 0 = "rows" := rfl
theorem e_lines : ruleS 1 = "lines" := rfl
theorem e_all : ruleS 2 = "all" := rfl
def tN : Option Nat → Int
  | none => 61
  | some t => t
theorem sort3 {a b c : Int} (h1 : b ≤ a) (h2 : c ≤ b) : isort ltI [a, b, c] = [c, b, a] := by
  refine (isort_is ltI_o ?_ ?_).symm
  · simp [ltI]
    omega
  · exact List.reverse_perm [a, b, c]
theorem turned_ok {rows : List (List Int)} (C : Card rows) (r : Nat) (hr2 : r ≤ 2) {call : List Int} (CC : Call call) : m_law_turned (cardD rows) (.str (ruleS r)) (.list (iL call)) (timeD (timeOf (linesOf rows r) call)) = .ok (.bool true) := by
  have lo := C.lo
  have hi := C.hi
  have few := CC.few
  have L := lines_are C r
  have nc := nums_call C
  -- the last parts
  have k2 : b_law_turned_k2 (cardD rows) (.str (ruleS r)) (.list ((linesOf rows r).map tupI)) = .ok (.rt (.bool true)) := by
    have hl : 0 < ((linesOf rows r).map tupI).length := by
      rw [List.length_map]
      exact List.length_pos_iff.mpr (lines_ne_nil C r)
    have hl' : 0 < (linesOf rows r).length := by simpa using hl
    have e0 : pyIx (.list ((linesOf rows r).map tupI)) (.int 0) = .ok (tupI ((linesOf rows r)[0])) := by
      rw [show (PyData.int 0) = PyData.int ((0 : Nat) : Int) from rfl, pyIx_list hl]
      simp
    have hm : (linesOf rows r)[0] ∈ linesOf rows r := List.getElem_mem hl'
    generalize (linesOf rows r)[0] = l0 at *
    have e1 : pyList (tupI l0) = .ok (iL l0) := rfl
    have hsome : (timeOf (linesOf rows r) l0).isSome = true := by
      rw [timeOf_some_iff L.ne]
      exact someIn_iff.mpr ⟨l0, hm, fun x hx => hx⟩
    unfold b_law_turned_k2
    simp only [bind_ok, e0, e1, lstD_ok, finished_at_ok C r (line_call C hm), isNot_none_time, hsome]
  have k3 : b_law_turned_k3 (cardD rows) (.str (ruleS r)) (.list (iL (isort ltI (nz rows.flatten)))) (.list ((linesOf rows r).map tupI)) = .ok (.rt (.bool true)) := by
    have hsome : (timeOf (linesOf rows r) (isort ltI (nz rows.flatten))).isSome = true := by
      rw [timeOf_some_iff L.ne]
      obtain ⟨l, hl⟩ := List.exists_mem_of_ne_nil _ (lines_ne_nil C r)
      exact someIn_iff.mpr ⟨l, hl, fun x hx => (isort_perm _).mem_iff.mpr (line_in_card C hl x hx)⟩
    unfold b_law_turned_k3
    simp only [bind_ok, is_finished_ok C r nc, hsome, pyIs_bool, decide_true, tst_bool, notT_ok, Bool.not_true, Bool.false_eq_true, if_false, go_nx]
    exact k2
  have k4 : b_law_turned_k4 (cardD rows) (.str (ruleS r)) (.list (iL (isort ltI (nz rows.flatten)))) (.list ((linesOf rows r).map tupI)) = .ok (.rt (.bool true)) := by
    unfold b_law_turned_k4
    have h0 := lines_ok C 0
    have h2 := lines_ok C 2
    rw [e_rows] at h0
    rw [e_all] at h2
    simp only [bind_ok, h0, h2, ofSeq_list, comp_ok]
    rw [compO_filter (e := tupI) (p := fun l => !decide (l ∈ linesOf rows 2)) (h := tupI) (xs := linesOf rows 0)]
    · have e : ((linesOf rows 0).filter fun l => !decide (l ∈ linesOf rows 2)) = [] := List.filter_eq_nil_iff.mpr fun l hl => by simp [lines_mono (r := 0) (s := 2) (by decide) l hl]
      rw [e, List.map_nil, lstD_ok, bind_ok, mkLst_nil, lstD_ok, bind_ok, pyNe_same (Sh.list (ShA.nil (n := 0)))]
      simp only [tst_bool, bind_ok, Bool.false_eq_true, if_false, go_nx]
      exact k3
    · intro l _
      rw [pyNotIn_tups, tst_bool, eltO_ok]
  have k5 : b_law_turned_k5 (cardD rows) (.list (iL call)) (.str (ruleS r)) (.list (iL (isort ltI (nz rows.flatten)))) (.list ((linesOf rows r).map tupI)) = .ok (.rt (.bool true)) := by
    have f0 := finished_at_ok C 0 CC
    have f1 := finished_at_ok C 1 CC
    have f2 := finished_at_ok C 2 CC
    rw [e_rows] at f0
    rw [e_lines] at f1
    rw [e_all] at f2
    have one : ∀ t : Option Nat, ifE (tst (pyIs (timeD t) .none)) (Rs.ok (PyData.int 61)) (Rs.ok (timeD t)) = .ok (.int (tN t)) := fun t => by cases t <;> rfl
    have anti : ∀ a b : Nat, a ≤ b → tN (timeOf (linesOf rows b) call) ≤ tN (timeOf (linesOf rows a) call) := fun a b hab => by
      have Lb := lines_are C b
      have le61 : ∀ t : Option Nat, t = timeOf (linesOf rows b) call → tN t ≤ 61 := fun t ht => by
        cases t with
        | none => show (61 : Int) ≤ 61; omega
        | some t =>
          have := timeOf_spec ht.symm
          show (t : Int) ≤ 61
          omega
      cases ha : timeOf (linesOf rows a) call with
      | none => exact le61 _ rfl
      | some t =>
        obtain ⟨s, hs, hle⟩ := timeOf_anti Lb.ne (lines_mono hab) ha
        rw [hs]
        show (s : Int) ≤ t
        omega
    have a01 := anti 0 1 (by decide)
    have a12 := anti 1 2 (by decide)
    unfold b_law_turned_k5
    simp only [bind_ok, mkTup_ok (ds := [PyData.str "rows", PyData.str "lines", PyData.str "all"]) (by decide), ofSeq_tuple, comp_ok, compO, eltO_true, f0, f1, f2, ofSeq_list, one]
    generalize tN (timeOf (linesOf rows 0) call) = x at *
    generalize tN (timeOf (linesOf rows 1) call) = y at *
    generalize tN (timeOf (linesOf rows 2) call) = z at *
    have es : pySorted (.list [.int x, .int y, .int z]) = .ok [.int z, .int y, .int x] := by
      have := pySorted_ints [x, y, z]
      rw [sort3 a01 a12] at this
      exact this
    have er : pyRev (.list [.int z, .int y, .int x]) = .ok (.list [.int x, .int y, .int z]) := rfl
    have en : pyNe (.list [.int x, .int y, .int z]) (.list [.int x, .int y, .int z]) = .ok (.bool false) := pyNe_same (Sh.list (shA_ints (n := 0) [x, y, z]))
    simp only [es, lstD_ok, bind_ok, er, en, tst_bool, Bool.false_eq_true, if_false, go_nx]
    exact k4
  have k6 : b_law_turned_k6 (cardD rows.reverse) (.list (iL (isort ltI (nz rows.flatten)))) (cardD rows) (.list (iL call)) (.str (ruleS r)) (.list ((linesOf rows r).map tupI)) = .ok (.rt (.bool true)) := by
    have e : isort ltI (isort ltI (nz rows.reverse.flatten)) = isort ltI (nz rows.flatten) := by
      refine (isort_is ltI_o (isort_sorted ltI_o _) ?_).symm
      have p : (nz rows.reverse.flatten).Perm (nz rows.flatten) := ((List.reverse_perm rows).flatten).filter _
      exact (isort_perm _).trans (p.symm.trans (isort_perm _).symm)
    unfold b_law_turned_k6
    simp only [bind_ok, numbers_ok C.rev, pySorted_ints, e, lstD_ok, pyNe_same (Sh.list (shA_ints (n := 0) _)), tst_bool, Bool.false_eq_true, if_false, go_nx]
    exact k5
  have k7 : b_law_turned_k7 (cardD rows.reverse) (.list (iL call)) (cardD rows) (.list (iL (isort ltI (nz rows.flatten)))) (.str (ruleS r)) (.list ((linesOf rows r).map tupI)) = .ok (.rt (.bool true)) := by
    have f0 := finished_at_ok C 0 CC
    have f0' := finished_at_ok C.rev 0 CC
    rw [e_rows] at f0 f0'
    rw [lines_rev] at f0'
    unfold b_law_turned_k7
    simp only [bind_ok, f0, f0', pyNe_same (sh_time (n := 0) _), tst_bool, Bool.false_eq_true, if_false, go_nx]
    exact k6
  have b1 : ∀ sows : List (List Int), Card sows → (r ≠ 0 → linesOf sows r = linesOf rows r) → b_law_turned_b1 (.str (ruleS r)) (.list (iL call)) (timeD (timeOf (linesOf rows r) call)) () (cardD sows) = .ok (.nx ()) := fun sows CS hs => by
    unfold b_law_turned_b1
    by_cases h0 : r = 0
    · simp only [bind_ok, ne_rows, h0, decide_true, Bool.not_true, tst_bool, andT_ok, Bool.false_eq_true, if_false, go_nx]
    · simp only [bind_ok, ne_rows, h0, decide_false, Bool.not_false, tst_bool, andT_ok, if_true, finished_at_ok CS r CC, hs h0, pyNe_same (sh_time (n := 0) _), Bool.false_eq_true, if_false, go_nx]
  unfold m_law_turned b_law_turned
  have e0 : pyLen (cardD rows) = .ok (.int (rows.length : Int)) := by simp [cardD]
  have hr : pyRange (.int 0) (.int (rows.length : Int)) = .ok ((List.range rows.length).map fun (i : Nat) => PyData.int (i : Int)) := pyRange_ok _ (by omega)
  have eS : ofSeq (cardD rows) = .ok (rows.map tupI) := rfl
  simp only [bind_ok, numbers_ok C, lines_ok C r, e0, hr, comp_ok, eS]
  rw [compO_map (e := fun (i : Nat) => PyData.int (i : Int)) (h := fun c => tupI (colOf rows c))]
  · have et : PyData.tuple ((List.range rows.length).map fun c => tupI (colOf rows c)) = cardD (turnOf rows) := by
      unfold cardD turnOf
      rw [List.map_map]
      rfl
    rw [lstD_ok, bind_ok, pyTuple_list, bind_ok, et, pyRev_card, bind_ok, mkTup2, bind_ok, ofSeq_tuple, bind_ok]
    rw [forO_unit (fun d hd => by
      rcases List.mem_cons.mp hd with rfl | hd
      · exact b1 _ C.turn fun h0 => lines_turn C h0
      · rw [List.mem_singleton.mp hd]
        exact b1 _ C.rev fun _ => lines_rev rows r), go_nx, k7]
    rfl
  · intro c hc
    have hc := List.mem_range.mp hc
    rw [compO_map (e := tupI) (h := fun rr => PyData.int (rr.getD c 0))]
    · rw [lstD_ok, bind_ok, pyTuple_list, eltO_true, bind_ok]
      simp [tupI, colOf]
    · intro rr hrr
      rw [ix_tup (by rw [C.sq rr hrr]; exact hc), eltO_true, bind_ok]
theorem ones_iff {ls : List (List Int)} {call : List Int} {n : Int} : n ∈ onesOf ls call ↔ ∃ l ∈ ls, miss l call = [n] := by
  unfold onesOf
  rw [List.mem_flatMap]
  constructor
  · rintro ⟨l, hl, h⟩
    split at h
    · rename_i h1
      refine ⟨l, hl, ?_⟩
      match hq : miss l call, h1 with
      | [y], _ =>
        rw [hq] at h
        rw [List.mem_singleton.mp h]
    · cases h
  · rintro ⟨l, hl, h⟩
    refine ⟨l, hl, ?_⟩
    rw [h]
    simp
theorem law_k05_true (ns : List Int) (hl : ns.length ≤ 63) : m_law_k05 (.list (iL ns)) = .ok (.bool true) := by
  obtain ⟨rows, C, _, hc⟩ := card_ok ns hl 10 16 (by decide) (by decide)
  obtain ⟨r, hr2, hr⟩ := rule_ok ns hl 2
  obtain ⟨call, CC, _, c14, hcall⟩ := call_ok ns hl 40 16 (by decide) (by decide) 14 (by decide)
  have hcall : m_law_call (.list (iL ns)) (.int 40) (.int 16) (.int 14) = .ok (.list (iL call)) := hcall
  have L := lines_are C r
  have k6 : b_law_k05_k6 (cardD rows) (.str (ruleS r)) (.list (iL call)) (timeD (timeOf (linesOf rows r) call)) = .ok (.rt (.bool true)) := by
    unfold b_law_k05_k6
    simp only [bind_ok, turned_ok C r hr2 CC]
  have len : ((iL call).length : Int) = (call.length : Int) := by simp [iL]
  have k7 : b_law_k05_k7 (timeD (timeOf (linesOf rows r) call)) (.list (iL call)) (cardD rows) (.str (ruleS r)) (.list (iL (isort ltI (nz rows.flatten)))) = .ok (.rt (.bool true)) := by
    unfold b_law_k05_k7
    simp only [bind_ok, isNot_none_time, tst_bool]
    cases ht : timeOf (linesOf rows r) call with
    | some t =>
      obtain ⟨t1, t2, t3, t4⟩ := timeOf_spec ht
      have before := someIn_take L.ne ht (t - 1)
      rw [decide_eq_false (by omega)] at before
      have e1 : (t : Int) - 1 = ((t - 1 : Nat) : Int) := by omega
      have hix : t - 1 < (iL call).length := by rw [List.length_map]; omega
      have hg : (iL call)[t - 1] = .int (call[t - 1]'(by omega)) := by simp [iL]
      have htake : call.take t = call.take (t - 1) ++ [call[t - 1]'(by omega)] := by
        have := List.take_append_getElem (l := call) (i := t - 1) (by omega)
        rw [show t - 1 + 1 = t by omega] at this
        exact this.symm
      -- it finishes
      have hw : call[t - 1]'(by omega) ∈ waitsOf (linesOf rows r) (call.take (t - 1)) := by
        unfold waitsOf
        rw [if_neg (by rw [before]; simp), mem_usort ltI_o, ones_iff]
        obtain ⟨l, hl, hs⟩ := someIn_iff.mp t3
        refine ⟨l, hl, ?_⟩
        have hnot : ¬ (∀ x ∈ l, x ∈ call.take (t - 1)) := fun q => by
          have := someIn_iff.mpr ⟨l, hl, q⟩
          rw [before] at this
          cases this
        have only : ∀ x ∈ l, (!decide (x ∈ call.take (t - 1))) = true → x = call[t - 1]'(by omega) := fun x hx hxc => by
          have := hs x hx
          rw [htake] at this
          rcases List.mem_append.mp this with q | q
          · simp [q] at hxc
          · exact List.mem_singleton.mp q
        have hz : call[t - 1]'(by omega) ∈ l := Classical.byContradiction fun q => hnot fun x hx => Classical.byContradiction fun q2 => q (by rw [← only x hx (by simp [q2])]; exact hx)
        have hzc : call[t - 1]'(by omega) ∉ call.take (t - 1) := fun q => by
          have nd := (CC.take t).nd
          rw [htake] at nd
          exact (List.nodup_append.mp nd).2.2 _ q _ (by simp) rfl
        have f1 : ∀ {p : Int → Bool} {l : List Int} {n : Int}, l.Nodup → (∀ x ∈ l, p x = true → x = n) → n ∈ l → p n = true → l.filter p = [n] := by
          intro p l
          induction l with
          | nil => intro n _ _ h; cases h
          | cons x l ih =>
            intro n nd h hm hp
            have nd' := List.nodup_cons.mp nd
            rcases List.mem_cons.mp hm with e | hm'
            · subst e
              rw [List.filter_cons_of_pos hp, List.filter_eq_nil_iff.mpr fun y hy hpy => nd'.1 (by rw [← h y (by simp [hy]) hpy]; exact hy)]
            · rw [List.filter_cons_of_neg fun q => nd'.1 (by rw [h x (by simp) q]; exact hm')]
              exact ih nd'.2 (fun y hy => h y (by simp [hy])) hm' hp
        exact f1 (L.nd l hl) only hz (by simp [hzc])
      have hwn : waitsOf (linesOf rows r) call = [] := by
        unfold waitsOf
        rw [if_pos (someIn_mono (fun x hx => List.mem_of_mem_take hx) t3)]
      have hdue : (((linesOf rows r).filter fun l => sub l (call.take t)).filter fun l => !decide (call[t - 1]'(by omega) ∈ l)) = [] := by
        refine List.filter_eq_nil_iff.mpr fun l hl => ?_
        obtain ⟨hl, hs⟩ := List.mem_filter.mp hl
        have hs := sub_iff.mp hs
        have : call[t - 1]'(by omega) ∈ l := Classical.byContradiction fun q => by
          have z : someIn (linesOf rows r) (call.take (t - 1)) = true := someIn_iff.mpr ⟨l, hl, fun x hx => by
            have := hs x hx
            rw [htake] at this
            rcases List.mem_append.mp this with q2 | q2
            · exact q2
            · exact absurd (List.mem_singleton.mp q2 ▸ hx) q⟩
          rw [before] at z
          cases z
        simp [this]
      generalize hcl : call[t - 1]'(by omega) = last at *
      have k2 : b_law_k05_k2 (cardD rows) (.str (ruleS r)) (.list (iL call)) (.int (t : Nat)) = .ok (.nx ()) := by
        unfold b_law_k05_k2
        simp only [bind_ok, part_int, pySlice_take, finished_lines_ok C r (CC.take t), ofSeq_list, comp_ok, pySub_int, e1, pyIx_list hix, hg, hcl]
        rw [compO_filter (e := tupI) (p := fun l => !decide (last ∈ l)) (h := tupI) (xs := (linesOf rows r).filter fun l => sub l (call.take t))]
        · rw [hdue, List.map_nil, lstD_ok, bind_ok, mkLst_nil, lstD_ok, bind_ok, pyNe_same (Sh.list (ShA.nil (n := 0)))]
          simp only [tst_bool, bind_ok, Bool.false_eq_true, if_false, go_nx]
        · intro l _
          rw [pyNotIn_tup, tst_bool, eltO_ok]
      have k3 : b_law_k05_k3 (cardD rows) (.str (ruleS r)) (.list (iL call)) (.int (t : Nat)) = .ok (.nx ()) := by
        unfold b_law_k05_k3
        simp only [bind_ok, waits_for_ok C r CC, hwn, mkLst_nil, lstD_ok, List.map_nil, pyNe_same (Sh.list (ShA.nil (n := 0))), tst_bool, Bool.false_eq_true, if_false, go_nx]
        exact k2
      have k6' := k6
      rw [ht] at k6'
      simp only [timeD, Option.isSome_some, if_true, pySub_int, bind_ok, e1, pyIx_list hix, hg, hcl, part_int, pySlice_take, waits_for_ok C r (CC.take (t - 1)), pyNotIn_list, hw, decide_true, Bool.not_true, tst_bool, Bool.false_eq_true, if_false, go_nx, k3]
      exact k6'
    | none =>
      have hno : someIn (linesOf rows r) call = false := by
        have := timeOf_some_iff L.ne (call := call)
        rw [ht] at this
        exact this.symm
      have k6' := k6
      rw [ht] at k6'
      simp only [Option.isSome_none, Bool.false_eq_true, if_false, waits_for_ok C r CC, bind_ok, ofSeq_list]
      rw [forO_unit, go_nx, go_nx]
      · exact k6'
      · intro d hd
        obtain ⟨n, hn, rfl⟩ := List.mem_map.mp hd
        unfold waitsOf at hn
        rw [if_neg (by rw [hno]; simp), mem_usort ltI_o, ones_iff] at hn
        obtain ⟨l, hl, hm⟩ := hn
        have hnm : n ∈ miss l call := by rw [hm]; simp
        have hnl := List.mem_filter.mp hnm
        have hnc : n ∉ call := by simpa using hnl.2
        have hnw : n ∈ isort ltI (nz rows.flatten) := (isort_perm _).mem_iff.mpr (line_in_card C hl n hnl.1)
        have C2 : Call (call ++ [n]) := Call.of (by
          rw [List.nodup_append]
          refine ⟨CC.nd, by simp, fun x hx y hy e => ?_⟩
          rw [List.mem_singleton.mp hy] at e
          exact hnc (e ▸ hx)) (fun x hx => by
          rcases List.mem_append.mp hx with q | q
          · exact CC.rng x q
          · rw [List.mem_singleton.mp q]
            exact L.rng l hl n hnl.1)
        have full : someIn (linesOf rows r) (call ++ [n]) = true := someIn_iff.mpr ⟨l, hl, fun x hx => by
          by_cases q : x ∈ call
          · exact List.mem_append_left _ q
          · have : x ∈ miss l call := List.mem_filter.mpr ⟨hx, by simp [q]⟩
            rw [hm] at this
            exact List.mem_append_right _ this⟩
        have ht2 : timeOf (linesOf rows r) (call ++ [n]) = some (call.length + 1) := timeOf_some (by omega) (by simp) (by
          rw [List.take_of_length_le (by simp)]
          exact full) (fun s h1 h2 => by
          rw [List.take_append_of_le_length (by omega)]
          refine Bool.eq_false_iff.mpr fun q => ?_
          have := someIn_mono (fun x hx => List.mem_of_mem_take hx) q
          rw [hno] at this
          cases this)
        have add : pyAdd (.list (iL call)) (.list [.int n]) = .ok (.list (iL (call ++ [n]))) := by
          rw [pyAdd_list (by simp [iL]; omega)]
          simp [iL]
        have k4 : b_law_k05_k4 (cardD rows) (.str (ruleS r)) (.list (iL call)) (.int n) = .ok (.nx ()) := by
          unfold b_law_k05_k4
          have en : pyNe (timeD (some (call.length + 1))) (.int ((call.length : Int) + 1)) = .ok (.bool false) := pyNe_same (Sh.int (n := 0) _)
          simp only [bind_ok, mkLst_ok (ds := [PyData.int n]) (by simp [sizeMax]), lstD_ok, add, finished_at_ok C r C2, ht2, pyLen_list, len, pyAdd_int, en, tst_bool, Bool.false_eq_true, if_false, go_nx]
        unfold b_law_k05_b5
        simp only [bind_ok, pyIn_list, hnc, decide_false, tst_bool, orT_ok, Bool.false_eq_true, if_false, pyNotIn_list, hnw, decide_true, Bool.not_true, go_nx]
        exact k4
  have k8 : b_law_k05_k8 (.list (iL call)) (cardD rows) (.str (ruleS r)) (timeD (timeOf (linesOf rows r) call)) (.list (iL (isort ltI (nz rows.flatten)))) = .ok (.rt (.bool true)) := by
    unfold b_law_k05_k8
    simp only [bind_ok, pyLen_list, len, pyAdd_int, pyRange0_ok call.length (by omega)]
    rw [forO_unit, go_nx]
    · exact k7
    · intro d hd
      obtain ⟨m, hm, rfl⟩ := List.mem_map.mp hd
      have e : (andV (pyIsNot (timeD (timeOf (linesOf rows r) call)) .none) (pyGe (.int (m : Nat)) (timeD (timeOf (linesOf rows r) call)))) = .ok (.bool (someIn (linesOf rows r) (call.take m))) := by
        rw [isNot_none_time]
        cases ht : timeOf (linesOf rows r) call with
        | none =>
          have hno : someIn (linesOf rows r) call = false := by
            have := timeOf_some_iff L.ne (call := call)
            rw [ht] at this
            exact this.symm
          have : someIn (linesOf rows r) (call.take m) = false := Bool.eq_false_iff.mpr fun q => by
            have := someIn_mono (fun x hx => List.mem_of_mem_take hx) q
            rw [hno] at this
            cases this
          rw [this]
          rfl
        | some t =>
          rw [someIn_take L.ne ht m]
          show Rs.ok (PyData.bool (decide ((t : Int) ≤ (m : Int)))) = _
          congr 2
          exact decide_eq_decide.mpr Int.ofNat_le
      unfold b_law_k05_b1
      simp only [bind_ok, part_int, pySlice_take, is_finished_ok C r (CC.take m), e, time_isSome C, pyNe_bool, bne_self_eq_false, tst_bool, Bool.false_eq_true, if_false, go_nx]
  have due : (!decide (((linesOf rows r).filter fun l => sub l call) = [])) = (timeOf (linesOf rows r) call).isSome := by
    rw [time_isSome C]
    cases h : someIn (linesOf rows r) call with
    | false => rw [decide_eq_true (filter_nil.mpr h)]; rfl
    | true => rw [decide_eq_false (fun e => by rw [filter_nil.mp e] at h; cases h)]; rfl
  have k9 : b_law_k05_k9 (timeD (timeOf (linesOf rows r) call)) (cardD rows) (.str (ruleS r)) (.list (iL call)) (.list (iL (isort ltI (nz rows.flatten)))) = .ok (.rt (.bool true)) := by
    unfold b_law_k05_k9
    simp only [bind_ok, isNot_none_time, finished_lines_ok C r CC, mkLst_nil, lstD_ok, ne_nilT, due, pyNe_bool, bne_self_eq_false, tst_bool, Bool.false_eq_true, if_false, go_nx]
    exact k8
  unfold m_law_k05 b_law_k05
  simp only [bind_ok, hc, hr, hcall, numbers_ok C, finished_at_ok C r CC, isNot_none_time, is_finished_ok C r CC, pyNe_bool, bne_self_eq_false, tst_bool, Bool.false_eq_true, if_false, go_nx]
  rw [k9]
  rfl
end BG
namespace BG
open PySem
theorem compO_exists {α β : Type} {f : D → Rs (Option D)} {e : α → D} {g : β → D} {P : β → Prop} : ∀ {xs : List α}, (∀ x ∈ xs, ∃ y, P y ∧ f (e x) = .ok (some (g y))) → ∃ ys : List β, ys.length = xs.length ∧ (∀ y ∈ ys, P y) ∧ compO f (xs.map e) = .ok (ys.map g)
  | [], _ => ⟨[], rfl, fun _ h => (List.not_mem_nil h).elim, rfl⟩
  | x :: xs, h => by
    obtain ⟨y, py, hy⟩ := h x (by simp)
    obtain ⟨ys, l, p, q⟩ := compO_exists (xs := xs) fun z hz => h z (by simp [hz])
    refine ⟨y :: ys, by simp [l], fun z hz => ?_, ?_⟩
    · rcases List.mem_cons.mp hz with rfl | hz
      · exact py
      · exact p z hz
    · rw [List.map_cons]
      unfold compO
      rw [hy]
      show (compO f (xs.map e)).bind _ = _
      rw [q]
      rfl
/-- cards of a hall, as the laws draw them -/
theorem hall_drawn (ns : List Int) (hl : ns.length ≤ 63) {n : Nat} (h1 : 1 ≤ n) (h6 : n ≤ 6) {f : D → Rs D} (hf : ∀ k : Nat, k < n → ∃ a : Int, f (.int (k : Int)) = m_law_card (.list (iL ns)) (.int a) (.int 16)) : ∃ hs : List (List (List Int)), Hall hs ∧ hs.length = n ∧ (∀ rows ∈ hs, ∀ x ∈ rows.flatten, x ≤ 16) ∧ compO (fun d => eltO (Rs.ok true) (f d)) ((List.range n).map fun (i : Nat) => PyData.int (i : Int)) = .ok (hs.map cardD) := by
  obtain ⟨hs, l, p, q⟩ := compO_exists (f := fun d => eltO (Rs.ok true) (f d)) (e := fun (i : Nat) => PyData.int (i : Int)) (g := cardD) (P := fun rows => Card rows ∧ ∀ x ∈ rows.flatten, x ≤ 16) (xs := List.range n) fun k hk => by
    obtain ⟨a, ha⟩ := hf k (List.mem_range.mp hk)
    obtain ⟨rows, C, h16, hc⟩ := card_ok ns hl a 16 (by decide) (by decide)
    refine ⟨rows, ⟨C, h16⟩, ?_⟩
    rw [ha, hc, eltO_true, bind_ok]
  rw [List.length_range] at l
  exact ⟨hs, ⟨by omega, by omega, fun rows h => (p rows h).1⟩, l, fun rows h => (p rows h).2, q⟩
def lnsD (r : Nat) (rows : List (List Int)) : D := .list ((linesOf rows r).map tupI)
theorem comp_known {hs : List (List (List Int))} (H : Hall hs) (r : Nat) : compO (fun d => eltO (Rs.ok true) (m_law_lines d (PyData.str (ruleS r)))) (hs.map cardD) = .ok (hs.map (lnsD r)) :=
  compO_map fun rows hr => by rw [law_lines_ok (H.ok rows hr), eltO_true, bind_ok]; rfl
theorem comp_ltimes (hs : List (List (List Int))) (r : Nat) {call : List Int} (hc : call.length ≤ 60) : compO (fun d => eltO (Rs.ok true) (m_law_time d (PyData.list (iL call)))) (hs.map (lnsD r)) = .ok ((timesOf hs r call).map timeD) := by
  rw [compO_map (e := lnsD r) (h := fun rows => timeD (timeOf (linesOf rows r) call))]
  · unfold timesOf
    rw [List.map_map]
    rfl
  · intro rows _
    unfold lnsD
    rw [law_time_ok _ _ hc, eltO_true, bind_ok]
theorem ixs_iff {ts : List (Option Nat)} {t : Nat} : ixs ts (t : Int) ≠ [] ↔ some t ∈ ts := by
  unfold ixs
  constructor
  · intro h
    obtain ⟨z, hz⟩ := List.exists_mem_of_ne_nil _ h
    obtain ⟨i, hi, _⟩ := List.mem_map.mp hz
    obtain ⟨h1, h2⟩ := List.mem_filter.mp hi
    have h1 := List.mem_range.mp h1
    have h2 : ts.getD i none = some t := by simpa using h2
    rw [← h2]
    exact getD_mem h1
  · intro h e
    obtain ⟨i, hi, hg⟩ := List.getElem_of_mem h
    have : (i : Int) ∈ ((List.range ts.length).filter fun i => decide (ts.getD i none = some (t : Int).toNat)).map fun (i : Nat) => (i : Int) :=
      List.mem_map.mpr ⟨i, List.mem_filter.mpr ⟨List.mem_range.mpr hi, by simp [List.getD_eq_getElem?_getD, hi, hg]⟩, rfl⟩
    rw [e] at this
    cases this
def dueOf (ts : List (Option Nat)) (ms : List Nat) : List (List Int) := (ms.map fun (m : Nat) => ixs ts (m : Int)).filter fun l => !decide (l = [])
theorem due_for {ts : List (Option Nat)} : ∀ {ms : List Nat} {acc : List (List Int)}, acc.length + ms.length ≤ 1000 → forO (b_law_k08_b1 (ts.map timeD)) (ms.map fun (i : Nat) => PyData.int (i : Int)) (.list (acc.map lstI)) = .ok (.nx (.list ((acc ++ dueOf ts ms).map lstI)))
  | [], acc, _ => by
    simp [dueOf]
    rfl
  | m :: ms, acc, h => by
    simp only [List.length_cons] at h
    show (b_law_k08_b1 (ts.map timeD) (.list (acc.map lstI)) (.int (m : Nat))).go _ = _
    have e3 : ∀ ds : List D, ofList (PyData.list ds) = .ok ds := fun _ => rfl
    have b : b_law_k08_b1 (ts.map timeD) (.list (acc.map lstI)) (.int (m : Nat)) = .ok (.nx (.list ((acc ++ dueOf ts [m]).map lstI))) := by
      unfold b_law_k08_b1
      simp only [bind_ok, e3, comp_ok, comp_ixs ts (t := (m : Int)) (by omega), mkLst_nil, lstD_ok, ne_nil, tst_bool, ifE_ok, mkLst_ok (ds := [PyData.list (iL (ixs ts (m : Int)))]) (by simp [sizeMax])]
      unfold dueOf
      by_cases q : ixs ts (m : Int) = []
      · simp only [q, decide_true, Bool.not_true, Bool.false_eq_true, if_false, bind_ok, List.map_cons, List.map_nil]
        rw [pyAdd_list (by simp; omega), bind_ok]
        simp
      · simp only [q, decide_false, Bool.not_false, if_true, bind_ok, List.map_cons, List.map_nil]
        rw [pyAdd_list (by simp; omega), bind_ok]
        simp [q]
    have dl : (dueOf ts [m]).length ≤ 1 := by unfold dueOf; exact List.length_filter_le _ _
    rw [b, go_nx, due_for (by rw [List.length_append]; omega)]
    have e : dueOf ts (m :: ms) = dueOf ts [m] ++ dueOf ts ms := by
      unfold dueOf
      rw [← List.filter_append]
      rfl
    rw [e, List.append_assoc]
theorem places_due {ts : List (Option Nat)} {n : Nat} (h : ∀ t : Nat, some t ∈ ts → 1 ≤ t ∧ t ≤ n) : placesOf ts = dueOf ts ((List.range n).map (· + 1)) := by
  unfold placesOf dueOf
  have e : usort ltI (somes ts) = (((List.range n).map (· + 1)).filter fun m => decide (some m ∈ ts)).map fun (m : Nat) => (m : Int) := by
    refine (usort_is ltI_o ?_ fun z => ?_).symm
    · refine List.Pairwise.map _ (R := fun a b : Nat => a < b) (fun a b hab => by simp [ltI]; omega) ?_
      exact List.Pairwise.filter _ (List.Pairwise.map _ (fun a b hab => by omega) List.pairwise_lt_range)
    · rw [mem_somes, List.mem_map]
      constructor
      · rintro ⟨m, hm, rfl⟩
        exact ⟨m, by simpa using (List.mem_filter.mp hm).2, rfl⟩
      · rintro ⟨t, ht, rfl⟩
        have := h t ht
        exact ⟨t, List.mem_filter.mpr ⟨List.mem_map.mpr ⟨t - 1, List.mem_range.mpr (by omega), by omega⟩, by simp [ht]⟩, rfl⟩
  rw [e]
  generalize (List.range n).map (· + 1) = ms
  rw [List.map_map, List.filter_map]
  refine congrArg (List.map _) (List.filter_congr fun m _ => ?_)
  show decide (some m ∈ ts) = !decide (ixs ts (m : Int) = [])
  by_cases q : some m ∈ ts
  · have := ixs_iff.mpr q
    simp [q, this]
  · have : ixs ts (m : Int) = [] := Classical.byContradiction fun z => q (ixs_iff.mp z)
    simp [q, this]
theorem times_rng {hs : List (List (List Int))} {r : Nat} {call : List Int} {t : Nat} (h : some t ∈ timesOf hs r call) : 1 ≤ t ∧ t ≤ call.length := by
  obtain ⟨rows, _, e⟩ := List.mem_map.mp h
  have := timeOf_spec e
  exact ⟨this.1, this.2.1⟩
theorem places_nil {hs : List (List (List Int))} (H : Hall hs) {r : Nat} {call : List Int} : placesOf (timesOf hs r call) = [] ↔ ∀ rows ∈ hs, someIn (linesOf rows r) call = false := by
  have e : placesOf (timesOf hs r call) = [] ↔ somes (timesOf hs r call) = [] := by
    unfold placesOf
    rw [List.map_eq_nil_iff]
    constructor
    · intro h
      refine List.eq_nil_iff_forall_not_mem.mpr fun z hz => ?_
      have := (mem_usort ltI_o).mpr hz
      rw [h] at this
      cases this
    · intro h
      rw [h]
      rfl
  rw [e]
  constructor
  · intro h rows hr
    have := timeOf_some_iff (lines_are (H.ok rows hr) r).ne (call := call)
    rw [← this]
    cases q : timeOf (linesOf rows r) call with
    | none => rfl
    | some t =>
      have : (t : Int) ∈ somes (timesOf hs r call) := mem_somes.mpr ⟨t, List.mem_map.mpr ⟨rows, hr, q⟩, rfl⟩
      rw [h] at this
      cases this
  · intro h
    refine List.eq_nil_iff_forall_not_mem.mpr fun z hz => ?_
    obtain ⟨t, ht, _⟩ := mem_somes.mp hz
    obtain ⟨rows, hr, e⟩ := List.mem_map.mp ht
    have := timeOf_some_iff (lines_are (H.ok rows hr) r).ne (call := call)
    rw [e, h rows hr] at this
    cases this
def rowsK (hs : List (List (List Int))) (r : Nat) (call : List Int) (n : Int) (ks : List Nat) : List (List Int) := (ks.filter fun k => someIn (linesOf (hs.getD k []) r) (call ++ [n])).map fun (k : Nat) => [n, (k : Int)]
def rowsOf (hs : List (List (List Int))) (r : Nat) (call : List Int) (ns : List Int) : List (List Int) := ns.flatMap fun n => if n ∈ call then [] else rowsK hs r call n (List.range hs.length)
theorem mkTup2I (a b : Int) : mkTup [PyData.int a, PyData.int b] = .ok (tupI [a, b]) := mkTup2 _ _
theorem rowsK_for {hs : List (List (List Int))} (H : Hall hs) {r : Nat} {call : List Int} (hc : call.length ≤ 50) {n : Int} : ∀ {ks : List Nat} {acc : List (List Int)}, (∀ k ∈ ks, k < hs.length) → acc.length + ks.length ≤ 10000 →
    forO (b_law_k08_b2 (hs.map (lnsD r)) (.list (iL call)) (.int n)) (ks.map fun (i : Nat) => PyData.int (i : Int)) (acc.map tupI) = .ok (.nx ((acc ++ rowsK hs r call n ks).map tupI))
  | [], acc, _, _ => by
    simp [rowsK]
    rfl
  | k :: ks, acc, hk, hl => by
    simp only [List.length_cons] at hl
    have hkl := hk k (by simp)
    have hm : hs.getD k [] ∈ hs := getD_mem hkl
    have C := H.ok _ hm
    have ix : pyIx (.list (hs.map (lnsD r))) (.int (k : Int)) = .ok (lnsD r (hs.getD k [])) := by
      rw [pyIx_list (by simpa using hkl)]
      simp [List.getD_eq_getElem?_getD, hkl]
    have add : pyAdd (.list (iL call)) (.list [.int n]) = .ok (.list (iL (call ++ [n]))) := by
      rw [pyAdd_list (by simp [iL]; omega)]
      simp [iL]
    have lt : m_law_time (lnsD r (hs.getD k [])) (.list (iL (call ++ [n]))) = .ok (timeD (timeOf (linesOf (hs.getD k []) r) (call ++ [n]))) := law_time_ok _ _ (by simp; omega)
    show (b_law_k08_b2 (hs.map (lnsD r)) (.list (iL call)) (.int n) (acc.map tupI) (.int (k : Nat))).go _ = _
    have b : b_law_k08_b2 (hs.map (lnsD r)) (.list (iL call)) (.int n) (acc.map tupI) (.int (k : Nat)) = .ok (.nx ((acc ++ rowsK hs r call n [k]).map tupI)) := by
      unfold b_law_k08_b2
      simp only [bind_ok, ix, mkLst_ok (ds := [PyData.int n]) (by simp [sizeMax]), lstD_ok, add, lt, isNot_none_time, timeOf_some_iff (lines_are C r).ne, tst_bool, mkTup2I]
      unfold rowsK
      by_cases q : someIn (linesOf (hs.getD k []) r) (call ++ [n]) = true
      · simp only [q, if_true]
        rw [if_pos (by rw [List.length_map]; unfold sizeMax; omega), go_nx, List.filter_cons_of_pos (p := fun k => someIn (linesOf (hs.getD k []) r) (call ++ [n])) q]
        simp
      · simp only [q, if_false, go_nx]
        rw [List.filter_cons_of_neg (p := fun k => someIn (linesOf (hs.getD k []) r) (call ++ [n])) q]
        simp
    have dl : (rowsK hs r call n [k]).length ≤ 1 := by
      unfold rowsK
      rw [List.length_map]
      exact List.length_filter_le _ _
    rw [b, go_nx, rowsK_for H hc (fun x hx => hk x (by simp [hx])) (by rw [List.length_append]; omega)]
    have e : rowsK hs r call n (k :: ks) = rowsK hs r call n [k] ++ rowsK hs r call n ks := by
      unfold rowsK
      rw [← List.map_append, ← List.filter_append]
      rfl
    rw [e, List.append_assoc]
theorem rows_for {hs : List (List (List Int))} (H : Hall hs) {r : Nat} {call : List Int} (hc : call.length ≤ 50) : ∀ {ns : List Int} {acc : List (List Int)}, acc.length + 10 * ns.length ≤ 5000 →
    forO (b_law_k08_b3 (.list (iL call)) (hs.map cardD) (hs.map (lnsD r))) (iL ns) (acc.map tupI) = .ok (.nx ((acc ++ rowsOf hs r call ns).map tupI))
  | [], acc, _ => by
    simp [rowsOf]
    rfl
  | n :: ns, acc, hl => by
    simp only [List.length_cons] at hl
    have hi := H.hi
    have e2 : pyLen (.list (hs.map cardD)) = .ok (.int (hs.length : Int)) := by simp
    have hr : pyRange (.int 0) (.int (hs.length : Int)) = .ok ((List.range hs.length).map fun (i : Nat) => PyData.int (i : Int)) := pyRange_ok _ (by omega)
    have f := rowsK_for H (r := r) hc (n := n) (ks := List.range hs.length) (acc := acc) (fun k hk => List.mem_range.mp hk) (by simp; omega)
    show (b_law_k08_b3 (.list (iL call)) (hs.map cardD) (hs.map (lnsD r)) (acc.map tupI) (.int n)).go (fun a' => forO _ (iL ns) a') = _
    have b : b_law_k08_b3 (.list (iL call)) (hs.map cardD) (hs.map (lnsD r)) (acc.map tupI) (.int n) = .ok (.nx ((acc ++ if n ∈ call then [] else rowsK hs r call n (List.range hs.length)).map tupI)) := by
      unfold b_law_k08_b3
      simp only [bind_ok, pyNotIn_list, tst_bool, e2, hr]
      by_cases q : n ∈ call
      · simp [q]
      · simp only [q, decide_false, Bool.not_false, if_true, f, go_nx, if_false]
    have dl : (if n ∈ call then [] else rowsK hs r call n (List.range hs.length)).length ≤ 10 := by
      split
      · simp
      · unfold rowsK
        rw [List.length_map]
        exact Nat.le_trans (List.length_filter_le _ _) (by simp; omega)
    rw [b, go_nx, rows_for H hc (by rw [List.length_append]; omega)]
    unfold rowsOf
    rw [List.flatMap_cons, List.append_assoc]
theorem mem_pairs {r : Nat} {call : List Int} {p : List Int} : ∀ {hs : List (List (List Int))} {k : Nat}, p ∈ pairsOf r call k hs ↔ ∃ i, i < hs.length ∧ ∃ n ∈ waitsOf (linesOf (hs.getD i []) r) call, p = [n, ((k + i : Nat) : Int)]
  | [], k => by
    unfold pairsOf
    simp
  | rows :: hs, k => by
    unfold pairsOf
    rw [List.mem_append, List.mem_map, mem_pairs (hs := hs) (k := k + 1)]
    constructor
    · rintro (⟨n, hn, rfl⟩ | ⟨i, hi, n, hn, rfl⟩)
      · exact ⟨0, by simp, n, hn, rfl⟩
      · exact ⟨i + 1, by simpa using hi, n, hn, by rw [show k + 1 + i = k + (i + 1) by omega]⟩
    · rintro ⟨i, hi, n, hn, rfl⟩
      cases i with
      | zero => exact .inl ⟨n, hn, rfl⟩
      | succ i => exact .inr ⟨i, by simpa using hi, n, hn, by rw [show k + 1 + i = k + (i + 1) by omega]⟩
theorem pairs_nodup {r : Nat} {call : List Int} : ∀ {hs : List (List (List Int))} {k : Nat}, (pairsOf r call k hs).Nodup
  | [], k => List.nodup_nil
  | rows :: hs, k => by
    unfold pairsOf
    rw [List.nodup_append]
    refine ⟨?_, pairs_nodup, fun x hx y hy e => ?_⟩
    · refine List.Pairwise.map _ (R := fun a b => a ≠ b) (fun a b hab e => hab (by simpa using e)) ?_
      unfold waitsOf
      split
      · exact List.Pairwise.nil
      · exact usort_nodup ltI_o _
    · obtain ⟨n, _, rfl⟩ := List.mem_map.mp hx
      obtain ⟨i, _, m, _, rfl⟩ := mem_pairs.mp hy
      simp at e
      omega
theorem rows_sorted {hs : List (List (List Int))} {r : Nat} {call : List Int} : ∀ {ns : List Int}, ns.Pairwise (fun a b => ltI a b = true) → (rowsOf hs r call ns).Pairwise (fun a b => ltL a b = true)
  | [], _ => List.Pairwise.nil
  | n :: ns, h => by
    have h' := List.pairwise_cons.mp h
    unfold rowsOf
    rw [List.flatMap_cons]
    rw [List.pairwise_append]
    refine ⟨?_, rows_sorted h'.2, fun x hx y hy => ?_⟩
    · split
      · exact List.Pairwise.nil
      · unfold rowsK
        refine List.Pairwise.map _ (R := fun a b : Nat => a < b) (fun a b hab => ?_) (List.Pairwise.filter _ List.pairwise_lt_range)
        simp [ltL]
        omega
    · have hx' : ∃ k : Nat, x = [n, (k : Int)] := by
        split at hx
        · cases hx
        · unfold rowsK at hx
          obtain ⟨k, _, rfl⟩ := List.mem_map.mp hx
          exact ⟨k, rfl⟩
      obtain ⟨k, rfl⟩ := hx'
      obtain ⟨m, hm, hy⟩ := List.mem_flatMap.mp hy
      split at hy
      · cases hy
      · unfold rowsK at hy
        obtain ⟨k', _, rfl⟩ := List.mem_map.mp hy
        have := h'.1 m hm
        simp [ltI] at this
        simp [ltL, this]
theorem waits_mem {ls : List (List Int)} (L : Lines ls) {call : List Int} (hno : someIn ls call = false) {ns : List Int} (hs : ns.Pairwise (fun a b => ltI a b = true)) (hn : ∀ x : Int, 1 ≤ x → x ≤ 60 → x ∈ ns) {z : Int} : z ∈ waitsOf ls call ↔ z ∈ ns ∧ z ∉ call ∧ someIn ls (call ++ [z]) = true := by
  rw [← waits_eq L (call := call) hs hn, filter_nil.mpr hno]
  unfold waitsLaw
  rw [List.mem_filter]
  simp only [decide_true, Bool.true_and, Bool.and_eq_true, Bool.not_eq_true', decide_eq_false_iff_not]
  constructor
  · rintro ⟨h1, h2, h3⟩
    refine ⟨h1, h2, ?_⟩
    cases q : someIn ls (call ++ [z]) with
    | true => rfl
    | false => exact absurd (filter_nil.mpr q) h3
  · rintro ⟨h1, h2, h3⟩
    exact ⟨h1, h2, fun q => by rw [filter_nil.mp q] at h3; cases h3⟩
theorem next_eq {hs : List (List (List Int))} (H : Hall hs) {r : Nat} {call : List Int} {ns : List Int} (hp : ns.Pairwise (fun a b => ltI a b = true)) (hn : ∀ x : Int, 1 ≤ x → x ≤ 60 → x ∈ ns) : nextOf hs r call = if placesOf (timesOf hs r call) = [] then rowsOf hs r call ns else [] := by
  unfold nextOf
  by_cases h : placesOf (timesOf hs r call) = []
  · rw [if_pos h, if_pos h]
    have hno := (places_nil H).mp h
    have srt := rows_sorted (hs := hs) (r := r) (call := call) hp
    refine (isort_is ltL_o (srt.imp fun {a b} q => ltL_o.asym q) ?_).symm
    have nd : (rowsOf hs r call ns).Nodup := srt.imp fun {a b} q e => by
      subst e
      rw [ltL_irr] at q
      cases q
    rw [List.perm_ext_iff_of_nodup nd pairs_nodup]
    intro p
    rw [mem_pairs]
    unfold rowsOf
    rw [List.mem_flatMap]
    constructor
    · rintro ⟨n, hn', hp'⟩
      split at hp'
      · cases hp'
      · rename_i hnc
        unfold rowsK at hp'
        obtain ⟨k, hk, rfl⟩ := List.mem_map.mp hp'
        obtain ⟨hk1, hk2⟩ := List.mem_filter.mp hk
        have hk1 := List.mem_range.mp hk1
        have hm : hs.getD k [] ∈ hs := getD_mem hk1
        exact ⟨k, hk1, n, (waits_mem (lines_are (H.ok _ hm) r) (hno _ hm) hp hn).mpr ⟨hn', hnc, hk2⟩, by rw [Nat.zero_add]⟩
    · rintro ⟨i, hi, n, hn', rfl⟩
      have hm : hs.getD i [] ∈ hs := getD_mem hi
      obtain ⟨q1, q2, q3⟩ := (waits_mem (lines_are (H.ok _ hm) r) (hno _ hm) hp hn).mp hn'
      refine ⟨n, q1, ?_⟩
      rw [if_neg q2]
      unfold rowsK
      exact List.mem_map.mpr ⟨i, List.mem_filter.mpr ⟨List.mem_range.mpr hi, q3⟩, by rw [Nat.zero_add]⟩
  · rw [if_neg h, if_neg h]
theorem ixG0 : (excIx ["InvalidCards", "InvalidRule", "InvalidCall"] "InvalidCards" : Rs (Out Unit)) = .ok (.rt (.int 0)) := by
  unfold excIx ixS
  rw [if_pos rfl]
  rfl
theorem ixG1 : (excIx ["InvalidCards", "InvalidRule", "InvalidCall"] "InvalidRule" : Rs (Out Unit)) = .ok (.rt (.int 1)) := by
  unfold excIx ixS ixS
  rw [if_neg (by decide +kernel), if_pos rfl]
  rfl
theorem ixG2 : (excIx ["InvalidCards", "InvalidRule", "InvalidCall"] "InvalidCall" : Rs (Out Unit)) = .ok (.rt (.int 2)) := by
  unfold excIx ixS ixS ixS
  rw [if_neg (by decide +kernel), if_neg (by decide +kernel), if_pos rfl]
  rfl
theorem error_3 {one two three : D} {c : Str} {j : Int} (h : m_find_places one two three = .exc c) (e : (excIx ["InvalidCards", "InvalidRule", "InvalidCall"] c : Rs (Out Unit)) = .ok (.rt (.int j))) {way : Nat} (hw : way < 3) : m_law_error_3 (.int (way : Int)) one two three = .ok (.int j) := by
  have e1 : m_next_winners one two three = .exc c := by unfold m_next_winners b_next_winners; simp only [bind_ok, h, bind_exc, tst, go_exc, fin_exc]
  have e2 : m_places one two three = .exc c := by unfold m_places b_places; simp only [bind_ok, h, bind_exc, fin_exc]
  have e3 : m_winners one two three = .exc c := by unfold m_winners b_winners; simp only [bind_ok, h, bind_exc, fin_exc]
  unfold m_law_error_3 b_law_error_3
  simp only [bind_ok]
  have : way = 0 ∨ way = 1 ∨ way = 2 := by omega
  rcases this with rfl | rfl | rfl
  · rw [pickF_ok (k := 0) rfl]
    simp only [lift3, e1, bind_exc, tryO, e, fin_rt]
  · rw [pickF_ok (k := 1) rfl]
    simp only [lift3, e2, bind_exc, tryO, e, fin_rt]
  · rw [pickF_ok (k := 2) rfl]
    simp only [lift3, e3, bind_exc, tryO, e, fin_rt]
/-- no list -/
theorem cards_bad_ty {d rule : D} (h : pyIsT "list" d = .ok (.bool false)) : m_check_cards d rule = .exc "InvalidCards" := by
  unfold m_check_cards b_check_cards
  simp only [bind_ok, h, tst_bool, notT_ok, Bool.not_false, orT_ok, if_true, go_exc, fin_exc]
theorem cards_bad_len {ds : List D} {rule : D} (h : ds.length < 1 ∨ 6 < ds.length) : m_check_cards (.list ds) rule = .exc "InvalidCards" := by
  unfold m_check_cards b_check_cards
  have e1 : pyIsT "list" (.list ds) = .ok (.bool true) := rfl
  simp only [bind_ok, e1, tst_bool, notT_ok, Bool.not_true, orT_ok, Bool.false_eq_true, if_false, pyLen_list, chainV_int]
  by_cases h1 : (1 : Int) ≤ ds.length
  · have h6 : ¬ ((ds.length : Int) ≤ 6) := by omega
    simp only [h1, decide_true, if_true, pyLe_int, h6, decide_false, tst_bool, notT_ok, Bool.not_false, bind_ok, orT_ok, go_exc, fin_exc]
  · simp only [h1, decide_false, Bool.false_eq_true, if_false, tst_bool, notT_ok, Bool.not_false, bind_ok, orT_ok, if_true, go_exc, fin_exc]
theorem cards_bad_one {hs : List (List (List Int))} (hc : ∀ rows ∈ hs, Card rows) {d rule : D} (h : m_is_card d = .ok (.bool false)) (hl : hs.length + 1 ≤ 6) : m_check_cards (.list (hs.map cardD ++ [d])) rule = .exc "InvalidCards" := by
  unfold m_check_cards b_check_cards
  have e1 : pyIsT "list" (.list (hs.map cardD ++ [d])) = .ok (.bool true) := rfl
  have e2 : ((hs.map cardD ++ [d]).length : Int) = (hs.length : Int) + 1 := by simp
  have h1 : (1 : Int) ≤ (hs.length : Int) + 1 := by omega
  have h6 : (hs.length : Int) + 1 ≤ 6 := by omega
  simp only [bind_ok, e1, tst_bool, notT_ok, Bool.not_true, orT_ok, Bool.false_eq_true, if_false, pyLen_list, e2, chainV_int, h1, h6, decide_true, if_true, pyLe_int, ofSeq_list, comp_ok]
  have c : compO (fun d => eltO (Rs.ok true) (m_is_card d)) (hs.map cardD ++ [d]) = .ok ((hs.map fun _ => PyData.bool true) ++ [PyData.bool false]) := by
    clear e1 e2 h1 h6 hl
    induction hs with
    | nil =>
      simp only [List.map_nil, List.nil_append]
      unfold compO compO
      rw [h, eltO_true, bind_ok]
      rfl
    | cons rows hs ih =>
      rw [List.map_cons, List.cons_append]
      unfold compO
      rw [is_card_ok (hc rows (by simp)), eltO_true, bind_ok]
      show (compO _ (hs.map cardD ++ [d])).bind _ = _
      rw [ih fun x hx => hc x (by simp [hx])]
      rfl
  have e : ((hs.map fun _ => PyData.bool true) ++ [PyData.bool false]) = ((hs.map fun _ => true) ++ [false]).map PyData.bool := by simp
  have ef : ((hs.map fun _ => true) ++ [false]).all id = false := by simp
  rw [c, e, lstD_ok, bind_ok, pyAll_map, ef]
  simp only [tst_bool, notT_ok, Bool.not_false, bind_ok, if_true, go_exc, fin_exc]
theorem places_bad0 {d two three : D} (h : m_check_cards d two = .exc "InvalidCards") : m_find_places d two three = .exc "InvalidCards" := by
  unfold m_find_places b_find_places
  simp only [bind_ok, h, bind_exc, fin_exc]
theorem cards_bad_rule {hs : List (List (List Int))} (H : Hall hs) {bad : D} (h : m_check_rule bad = .exc "InvalidRule") : m_check_cards (hallD hs) bad = .exc "InvalidRule" := by
  have lo := H.lo
  have hi := H.hi
  unfold m_check_cards b_check_cards b_check_cards_k1
  have e1 : pyIsT "list" (hallD hs) = .ok (.bool true) := rfl
  have e2 : pyLen (hallD hs) = .ok (.int (hs.length : Int)) := by simp [hallD]
  have h1 : (1 : Int) ≤ hs.length := by omega
  have h6 : (hs.length : Int) ≤ 6 := by omega
  simp only [bind_ok, e1, e2, tst_bool, notT_ok, Bool.not_true, orT_ok, Bool.false_eq_true, if_false, chainV_int, h1, h6, decide_true, if_true, pyLe_int, ofSeq_list, comp_ok]
  rw [compO_map (e := cardD) (h := fun _ => PyData.bool true) (xs := hs)]
  · have e : (hs.map fun _ => PyData.bool true) = (hs.map fun _ => true).map PyData.bool := by simp
    rw [e, lstD_ok, bind_ok, pyAll_map, all_map_true (fun x hx => rfl)]
    simp only [tst_bool, notT_ok, Bool.not_true, bind_ok, Bool.false_eq_true, if_false, go_nx, h, bind_exc, fin_exc]
  · intro rows hr
    rw [is_card_ok (H.ok rows hr), eltO_true, bind_ok]
theorem places_bad1 {hs : List (List (List Int))} (H : Hall hs) {bad three : D} (h : m_check_rule bad = .exc "InvalidRule") : m_find_places (hallD hs) bad three = .exc "InvalidRule" := by
  unfold m_find_places b_find_places
  simp only [bind_ok, cards_bad_rule H h, bind_exc, fin_exc]
theorem places_bad2 {hs : List (List (List Int))} (H : Hall hs) (r : Nat) {x : D} (h : m_is_call x = .ok (.bool false)) : m_find_places (hallD hs) (.str (ruleS r)) x = .exc "InvalidCall" := by
  have e : m_check_call x = .exc "InvalidCall" := by
    unfold m_check_call b_check_call
    simp only [bind_ok, h, tst_bool, notT_ok, Bool.not_false, if_true, go_exc, fin_exc]
  unfold m_find_places b_find_places
  simp only [bind_ok, check_cards_ok H, e, bind_exc, fin_exc]
def badC8 : List D := [.none, .tuple [], .list [.int 0], .list [.int 61], .list [.int 1, .int 1], .list [.bool true], .list [.str "1"], .str "1"]
theorem badC8_all : (badC8.all fun d => isF (m_is_call d)) = true := by decide +kernel
def badR8 : List D := [.none, .str "", .str "row", .int 7, .tuple [.str "all"]]
theorem badR8_all : (badR8.all fun d => isX "InvalidRule" (m_check_rule d)) = true := by decide +kernel
end BG
namespace BG
open PySem
def num60 : List Int := ((List.range 60).map (· + 1)).map fun (i : Nat) => (i : Int)
theorem num60_pw : num60.Pairwise (fun a b => ltI a b = true) := by decide +kernel
theorem num60_mem : ∀ x : Int, 1 ≤ x → x ≤ 60 → x ∈ num60 := fun x h1 h2 => by
  unfold num60
  rw [List.map_map]
  exact List.mem_map.mpr ⟨(x - 1).toNat, List.mem_range.mpr (by omega), by show (((x - 1).toNat + 1 : Nat) : Int) = x; omega⟩
theorem num60_range : pyRange (.int 1) (.int 61) = .ok (iL num60) := by
  have := pyRange1_ok 60 (by decide)
  rw [show pyRange (.int 1) (.int 61) = pyRange (.int 1) (.int (((60 : Nat) : Int) + 1)) from rfl, this]
  unfold iL num60
  rw [List.map_map, List.map_map, List.map_map]
  rfl
theorem k08_b6 {hs : List (List (List Int))} (H : Hall hs) (r : Nat) {call : List Int} (CC : Call call) (hc : call.length ≤ 50) : b_law_k08_b6 (hs.map cardD) (hs.map (lnsD r)) (.str (ruleS r)) () (.list (iL call)) = .ok (.nx ()) := by
  have f := rows_for H (r := r) (call := call) hc (ns := num60) (acc := []) (by decide)
  have f' : forO (b_law_k08_b3 (.list (iL call)) (hs.map cardD) (hs.map (lnsD r))) (iL num60) [] = .ok (.nx ((rowsOf hs r call num60).map tupI)) := f
  have nw := next_winners_ok H r CC
  rw [next_eq H num60_pw num60_mem] at nw
  have k4 : ∀ l : List (List Int), l = (if placesOf (timesOf hs r call) = [] then rowsOf hs r call num60 else []) → b_law_k08_k4 (hs.map cardD) (.str (ruleS r)) (.list (iL call)) (l.map tupI) = .ok (.nx ()) := fun l e => by
    subst e
    unfold b_law_k08_k4
    simp only [bind_ok, nw, pyNe_same (Sh.list (shA_tups (n := 0) _)), tst_bool, Bool.false_eq_true, if_false, go_nx]
  unfold b_law_k08_b6
  simp only [bind_ok, mkLst_nil, num60_range]
  rw [f', go_nx]
  unfold b_law_k08_k5
  simp only [bind_ok, ofSeq_list, comp_ok]
  rw [compO_filter (e := lnsD r) (p := fun rows => (timeOf (linesOf rows r) call).isSome) (h := lnsD r) (xs := hs)]
  · rw [lstD_ok, bind_ok, mkLst_nil, lstD_ok, bind_ok]
    have sh : ShA 2 ((hs.filter fun rows => (timeOf (linesOf rows r) call).isSome).map (lnsD r)) := .of fun d hd => by
      obtain ⟨rows, _, rfl⟩ := List.mem_map.mp hd
      exact Sh.list (shA_tups (n := 0) _)
    have en : pyNe (.list ((hs.filter fun rows => (timeOf (linesOf rows r) call).isSome).map (lnsD r))) (.list []) = .ok (.bool (!decide ((hs.filter fun rows => (timeOf (linesOf rows r) call).isSome) = []))) := by
      unfold pyNe
      rw [if_pos ⟨(Sh.list sh).shp, (Sh.list (ShA.nil (n := 0))).shp⟩]
      cases hs.filter fun rows => (timeOf (linesOf rows r) call).isSome with
      | nil => rfl
      | cons x xs => simp [PyData.eqv, PyData.eqvAll]
    rw [en, tst_bool, bind_ok]
    have iff : ((hs.filter fun rows => (timeOf (linesOf rows r) call).isSome) = []) ↔ placesOf (timesOf hs r call) = [] := by
      rw [places_nil H, List.filter_eq_nil_iff]
      constructor
      · intro h rows hr
        have := h rows hr
        rw [timeOf_some_iff (lines_are (H.ok rows hr) r).ne] at this
        exact Bool.eq_false_iff.mpr this
      · intro h rows hr
        rw [timeOf_some_iff (lines_are (H.ok rows hr) r).ne, h rows hr]
        simp
    by_cases h : placesOf (timesOf hs r call) = []
    · rw [decide_eq_true (iff.mpr h)]
      simp only [Bool.not_true, Bool.false_eq_true, if_false, go_nx]
      exact k4 _ (by rw [if_pos h])
    · rw [decide_eq_false (fun q => h (iff.mp q))]
      simp only [Bool.not_false, if_true, go_nx, bind_ok]
      exact k4 [] (by rw [if_neg h])
  · intro rows hr
    show eltO (tst ((m_law_time (lnsD r rows) (.list (iL call))).bind fun x => pyIsNot x .none)) (Rs.ok (lnsD r rows)) = _
    have lt : m_law_time (lnsD r rows) (.list (iL call)) = .ok (timeD (timeOf (linesOf rows r) call)) := law_time_ok _ _ (by omega)
    rw [lt, bind_ok, isNot_none_time, tst_bool, eltO_ok]
theorem law_k08_true (ns : List Int) (hl : ns.length ≤ 63) : m_law_k08 (.list (iL ns)) = .ok (.bool true) := by
  obtain ⟨j, j1, j2, j3⟩ := drawn_ok ns hl 1 4 (by decide)
  obtain ⟨n, hn⟩ : ∃ n : Nat, 1 + j = (n : Int) := ⟨(1 + j).toNat, by omega⟩
  have n1 : 1 ≤ n := by omega
  have n4 : n ≤ 4 := by omega
  have hrn : pyRange (.int 0) (.int (n : Int)) = .ok ((List.range n).map fun (i : Nat) => PyData.int (i : Int)) := pyRange_ok _ (by omega)
  obtain ⟨hs, H, hlen, _, hcards⟩ := hall_drawn ns hl n1 (by omega) (f := fun d => ((pyMul (.int 20) d).bind fun x => pyAdd (.int 10) x).bind fun x => m_law_card (.list (iL ns)) x (.int 16)) (fun k hk => by
    refine ⟨10 + 20 * (k : Int), ?_⟩
    show ((pyMul (.int 20) (.int (k : Int))).bind fun x => pyAdd (.int 10) x).bind _ = _
    rw [pyMul_l (by decide) (by decide), bind_ok, pyAdd_int, bind_ok])
  obtain ⟨r, _, hr⟩ := rule_ok ns hl 2
  obtain ⟨call, CC, _, c12, hcall⟩ := call_ok ns hl 100 16 (by decide) (by decide) 12 (by decide)
  have hcall : m_law_call (.list (iL ns)) (.int 100) (.int 16) (.int 12) = .ok (.list (iL call)) := hcall
  have lenc : ((iL call).length : Int) = (call.length : Int) := by simp [iL]
  -- exceptions
  have k7 : b_law_k08_k7 (hs.map cardD) (.list (iL ns)) (.str (ruleS r)) = .ok (.rt (.bool true)) := by
    obtain ⟨odd, o1, o2⟩ := badcard_ok ns hl 3
    obtain ⟨a, a1, a2, a3⟩ := drawn_ok ns hl 4 7 (by decide)
    obtain ⟨b, b1, b2, b3⟩ := drawn_ok ns hl 5 5 (by decide)
    obtain ⟨c, c1, c2, c3⟩ := drawn_ok ns hl 6 8 (by decide)
    obtain ⟨a', rfl⟩ : ∃ a' : Nat, a = (a' : Int) := ⟨a.toNat, by omega⟩
    obtain ⟨b', rfl⟩ : ∃ b' : Nat, b = (b' : Int) := ⟨b.toNat, by omega⟩
    obtain ⟨c', rfl⟩ : ∃ c' : Nat, c = (c' : Int) := ⟨c.toNat, by omega⟩
    have hb : b' < badR8.length := by show b' < 5; omega
    have hc : c' < badC8.length := by show c' < 8; omega
    have eB : pyIx (.list [.none, .str "", .str "row", .int 7, .tuple [.str "all"]]) (.int (b' : Int)) = .ok badR8[b'] := pyIx_list hb
    have eN : pyIx (.list [.none, .tuple [], .list [.int 0], .list [.int 61], .list [.int 1, .int 1], .list [.bool true], .list [.str "1"], .str "1"]) (.int (c' : Int)) = .ok badC8[c'] := pyIx_list hc
    have qB := isX_eq (List.all_eq_true.mp badR8_all _ (List.getElem_mem hb))
    have qN := isF_eq (List.all_eq_true.mp badC8_all _ (List.getElem_mem hc))
    generalize badR8[b'] = bad at *
    generalize badC8[c'] = wrong at *
    have h0 : 0 < hs.length := by omega
    have e0 : pyIx (.list (hs.map cardD)) (.int 0) = .ok (cardD (hs.getD 0 [])) := by
      rw [show (PyData.int 0) = PyData.int ((0 : Nat) : Int) from rfl, pyIx_list (by simpa using h0)]
      simp [List.getD_eq_getElem?_getD, h0]
    have eA : pyAdd (.list (hs.map cardD)) (.list [.none]) = .ok (.list (hs.map cardD ++ [.none])) := pyAdd_list (by simp; omega)
    have e3 : ofList (PyData.list (hs.map cardD)) = .ok (hs.map cardD) := rfl
    have ecut : (cutL (hs.map cardD) none (some 1)).length = 1 := by
      unfold cutL sIx
      simp
      omega
    have erep : repL (cutL (hs.map cardD) none (some 1)) (.int 7) = .ok (List.replicate 7 (cutL (hs.map cardD) none (some 1))).flatten := by
      show (if _ then _ else _) = _
      rw [if_pos ⟨by decide, by decide, by rw [ecut]; unfold sizeMax; decide⟩]
      rfl
    have l7 : (List.replicate 7 (cutL (hs.map cardD) none (some 1))).flatten.length = 7 := by
      simp [ecut]
    have none_bad : m_is_card .none = .ok (.bool false) := isF_eq (by decide +kernel)
    let oddL : List D := [.none, .list [], .tuple [cardD (hs.getD 0 [])], .list (hs.map cardD ++ [.none]), .list [odd], .list (List.replicate 7 (cutL (hs.map cardD) none (some 1))).flatten, .str "x"]
    have ha : a' < oddL.length := by show a' < 7; omega
    have eO : pyIx (.list oddL) (.int (a' : Int)) = .ok oddL[a'] := pyIx_list ha
    have qO : ∀ rule : D, m_check_cards oddL[a'] rule = .exc "InvalidCards" := fun rule => by
      have : oddL[a'] ∈ oddL := List.getElem_mem ha
      generalize oddL[a'] = o at *
      rcases List.mem_cons.mp this with rfl | this
      · exact cards_bad_ty rfl
      rcases List.mem_cons.mp this with rfl | this
      · exact cards_bad_len (.inl (by simp))
      rcases List.mem_cons.mp this with rfl | this
      · exact cards_bad_ty rfl
      rcases List.mem_cons.mp this with rfl | this
      · exact cards_bad_one H.ok none_bad (by omega)
      rcases List.mem_cons.mp this with rfl | this
      · exact cards_bad_one (hs := []) (fun _ h => (List.not_mem_nil h).elim) o2 (by simp)
      rcases List.mem_cons.mp this with rfl | this
      · exact cards_bad_len (.inr (by rw [l7]; decide))
      · rw [List.mem_singleton.mp this]
        exact cards_bad_ty rfl
    have eO' : pyIx (.list [.none, .list [], .tuple [cardD (hs.getD 0 [])], .list (hs.map cardD ++ [.none]), .list [odd], .list (List.replicate 7 (cutL (hs.map cardD) none (some 1))).flatten, .str "x"]) (.int (a' : Int)) = .ok oddL[a'] := eO
    generalize oddL[a'] = o at *
    have hr3 : pyRange (.int 0) (.int 3) = .ok [.int 0, .int 1, .int 2] := pyRange_ok 3 (by decide)
    have z0 : ∀ w : Nat, w < 3 → m_law_error_3 (.int (w : Int)) o bad wrong = .ok (.int 0) := fun w hw => error_3 (places_bad0 (qO bad)) ixG0 hw
    have z1 : ∀ w : Nat, w < 3 → m_law_error_3 (.int (w : Int)) (.list (hs.map cardD)) bad wrong = .ok (.int 1) := fun w hw => error_3 (places_bad1 H qB) ixG1 hw
    have z2 : ∀ w : Nat, w < 3 → m_law_error_3 (.int (w : Int)) (.list (hs.map cardD)) (.str (ruleS r)) wrong = .ok (.int 2) := fun w hw => error_3 (places_bad2 H r qN) ixG2 hw
    have cc : ∀ (f : D → Rs D) (j : Int), (∀ w : Nat, w < 3 → f (.int (w : Int)) = .ok (.int j)) → compO (fun d => eltO (Rs.ok true) (f d)) [.int 0, .int 1, .int 2] = .ok [.int j, .int j, .int j] := fun f j h => by
      have h0 : f (.int 0) = .ok (.int j) := h 0 (by decide)
      have h1 : f (.int 1) = .ok (.int j) := h 1 (by decide)
      have h2 : f (.int 2) = .ok (.int j) := h 2 (by decide)
      simp only [compO, eltO_true, h0, h1, h2, bind_ok]
    have q0 := cc (fun d => m_law_error_3 d o bad wrong) 0 z0
    have q1 := cc (fun d => m_law_error_3 d (.list (hs.map cardD)) bad wrong) 1 z1
    have q2 := cc (fun d => m_law_error_3 d (.list (hs.map cardD)) (.str (ruleS r)) wrong) 2 z2
    unfold b_law_k08_k7
    simp only [bind_ok, o1, a3, b3, c3, e0, eA, e3, part_int, erep, mkLst, mkTup, List.length_cons, List.length_nil, sizeMax, Nat.reduceAdd, Nat.reduceLeDiff, Nat.zero_le, if_true, lstD_ok]
    simp only [eO', eB, eN, hr3, comp_ok, q0, q1, q2, bind_ok, lstD_ok]
    have s1 : pyAdd (.list [.int 0, .int 0, .int 0]) (.list [.int 1, .int 1, .int 1]) = .ok (.list [.int 0, .int 0, .int 0, .int 1, .int 1, .int 1]) := rfl
    have s2 : pyAdd (.list [.int 0, .int 0, .int 0, .int 1, .int 1, .int 1]) (.list [.int 2, .int 2, .int 2]) = .ok (.list [.int 0, .int 0, .int 0, .int 1, .int 1, .int 1, .int 2, .int 2, .int 2]) := rfl
    have r0 : repL [.int 0] (.int 3) = .ok [.int 0, .int 0, .int 0] := rfl
    have r1 : repL [.int 1] (.int 3) = .ok [.int 1, .int 1, .int 1] := rfl
    have r2 : repL [.int 2] (.int 3) = .ok [.int 2, .int 2, .int 2] := rfl
    have m1 : pyEq (.list [.int 0, .int 0, .int 0, .int 1, .int 1, .int 1, .int 2, .int 2, .int 2]) (.list [.int 0, .int 0, .int 0, .int 1, .int 1, .int 1, .int 2, .int 2, .int 2]) = .ok (.bool true) := pyEq_same (Sh.list (shA_ints (n := 0) [0, 0, 0, 1, 1, 1, 2, 2, 2]))
    simp only [s1, s2, r0, r1, r2, m1, bind_ok, lstD_ok]
  have k8 : b_law_k08_k8 (.list (iL call)) ((timesOf hs r call).map timeD) (hs.map cardD) (hs.map (lnsD r)) (.str (ruleS r)) (.list (iL ns)) = .ok (.rt (.bool true)) := by
    have sl := somes_len (timesOf hs r call)
    have tl : (timesOf hs r call).length = hs.length := by simp [timesOf]
    have eA : pyAdd (.list (iL (somes (timesOf hs r call)))) (.list [.int ((call.length : Int) + 1)]) = .ok (.list (iL (somes (timesOf hs r call) ++ [(call.length : Int) + 1]))) := by
      rw [pyAdd_list (by simp [iL]; omega)]
      simp [iL]
    have hne : somes (timesOf hs r call) ++ [(call.length : Int) + 1] ≠ [] := by simp
    have hm := minL_mem hne
    have hpos : 1 ≤ minL (somes (timesOf hs r call) ++ [(call.length : Int) + 1]) := by
      rcases List.mem_append.mp hm with q | q
      · obtain ⟨t, ht, e⟩ := mem_somes.mp q
        have := times_rng ht
        omega
      · rw [List.mem_singleton.mp q]
        omega
    obtain ⟨m, hmm⟩ : ∃ m : Nat, minL (somes (timesOf hs r call) ++ [(call.length : Int) + 1]) - 1 = (m : Int) := ⟨(minL (somes (timesOf hs r call) ++ [(call.length : Int) + 1]) - 1).toNat, by omega⟩
    unfold b_law_k08_k8
    simp only [bind_ok, ofSeq_list, comp_ok, comp_somes, pyLen_list, lenc, pyAdd_int, mkLst_ok (ds := [PyData.int ((call.length : Int) + 1)]) (by simp [sizeMax]), lstD_ok, eA, pyMinI_ok hne, pySub_int, hmm, part_int, pySlice_take, mkTup2, ofSeq_tuple]
    rw [forO_unit, go_nx]
    · exact k7
    · intro d hd
      rcases List.mem_cons.mp hd with rfl | hd
      · exact k08_b6 H r CC (by omega)
      · rw [List.mem_singleton.mp hd]
        exact k08_b6 H r (CC.take m) (by rw [List.length_take]; omega)
  have k9 : b_law_k08_k9 (hs.map cardD) (.str (ruleS r)) (.list (iL call)) (.list ((placesOf (timesOf hs r call)).map lstI)) ((timesOf hs r call).map timeD) (hs.map (lnsD r)) (.list (iL ns)) = .ok (.rt (.bool true)) := by
    have w := winners_ok H r CC
    have ei : ifE (Rs.ok (!decide (placesOf (timesOf hs r call) = []))) (pyIx (.list ((placesOf (timesOf hs r call)).map lstI)) (.int 0)) (Rs.ok (.list [])) = .ok (lstI (headL (placesOf (timesOf hs r call)))) := by
      cases placesOf (timesOf hs r call) with
      | nil => rfl
      | cons l ls =>
        have e : pyIx (.list ((l :: ls).map lstI)) (.int 0) = .ok (lstI l) := by
          rw [show (PyData.int 0) = PyData.int ((0 : Nat) : Int) from rfl, pyIx_list (by simp)]
          rfl
        rw [decide_eq_false (by simp), e]
        rfl
    have w' : m_winners (.list (hs.map cardD)) (.str (ruleS r)) (.list (iL call)) = .ok (lstI (headL (placesOf (timesOf hs r call)))) := w
    unfold b_law_k08_k9
    simp only [bind_ok, w', mkLst_nil, lstD_ok, ne_nilL, tst_bool, ei, pyNe_same (Sh.list (shA_ints (n := 0) _)), Bool.false_eq_true, if_false, go_nx]
    exact k8
  have k10 : b_law_k08_k10 (hs.map cardD) (.str (ruleS r)) (.list (iL call)) (.list ((placesOf (timesOf hs r call)).map lstI)) ((timesOf hs r call).map timeD) (hs.map (lnsD r)) (.list (iL ns)) = .ok (.rt (.bool true)) := by
    have p' : m_places (.list (hs.map cardD)) (.str (ruleS r)) (.list (iL call)) = .ok (.list ((placesOf (timesOf hs r call)).map lstI)) := places_ok H r CC
    unfold b_law_k08_k10
    simp only [bind_ok, p', pyNe_same (Sh.list (shA_lsts (n := 0) _)), tst_bool, Bool.false_eq_true, if_false, go_nx]
    exact k9
  unfold m_law_k08 b_law_k08
  have due := due_for (ts := timesOf hs r call) (ms := (List.range call.length).map (· + 1)) (acc := []) (by simp; omega)
  rw [List.nil_append, ← places_due (n := call.length) (fun t ht => times_rng ht)] at due
  have due' : forO (b_law_k08_b1 ((timesOf hs r call).map timeD)) (((List.range call.length).map (· + 1)).map fun (i : Nat) => PyData.int (i : Int)) (.list []) = .ok (.nx (.list ((placesOf (timesOf hs r call)).map lstI))) := due
  simp only [bind_ok, j3, pyAdd_int, hn, hrn, comp_ok]
  rw [hcards]
  simp only [bind_ok, hr, hcall, ofSeq_list, comp_ok, comp_known H, comp_ltimes hs r (call := call) (by omega), mkLst_nil, lstD_ok, pyLen_list, lenc, pyAdd_int, pyRange1_ok call.length (by omega)]
  rw [due', go_nx, k10]
  rfl
end BG
namespace BG
open PySem
theorem head_places {ts : List (Option Nat)} {t : Nat} (h1 : some t ∈ ts) (h2 : ∀ s : Nat, some s ∈ ts → t ≤ s) : headL (placesOf ts) = ixs ts (t : Int) := by
  unfold placesOf headL
  have srt := usort_sorted ltI_o (somes ts)
  have mem : (t : Int) ∈ usort ltI (somes ts) := (mem_usort ltI_o).mpr (mem_somes.mpr ⟨t, h1, rfl⟩)
  have all : ∀ z ∈ usort ltI (somes ts), (t : Int) ≤ z := fun z hz => by
    obtain ⟨s, hs, rfl⟩ := mem_somes.mp ((mem_usort ltI_o).mp hz)
    have := h2 s hs
    omega
  cases hq : usort ltI (somes ts) with
  | nil => rw [hq] at mem; cases mem
  | cons x xs =>
    rw [hq] at srt mem all
    have hx := all x (by simp)
    have : x = (t : Int) := by
      rcases List.mem_cons.mp mem with e | e
      · exact e.symm
      · have := (List.pairwise_cons.mp srt).1 _ e
        simp [ltI] at this
        omega
    rw [this]
    rfl
theorem places_none {ts : List (Option Nat)} (h : ∀ t : Nat, some t ∉ ts) : placesOf ts = [] := by
  unfold placesOf
  have : somes ts = [] := List.eq_nil_iff_forall_not_mem.mpr fun z hz => by
    obtain ⟨t, ht, _⟩ := mem_somes.mp hz
    exact h t ht
  rw [this]
  rfl
/-- a least time -/
theorem least_time : ∀ {ts : List (Option Nat)} {t : Nat}, some t ∈ ts → ∃ s : Nat, some s ∈ ts ∧ ∀ u : Nat, some u ∈ ts → s ≤ u := fun {ts t} h => by
  have hne : somes ts ≠ [] := fun e => by
    have : (t : Int) ∈ somes ts := mem_somes.mpr ⟨t, h, rfl⟩
    rw [e] at this
    cases this
  obtain ⟨s, hs, e⟩ := mem_somes.mp (minL_mem hne)
  refine ⟨s, hs, fun u hu => ?_⟩
  have := minL_le (mem_somes.mpr ⟨u, hu, rfl⟩ : (u : Int) ∈ somes ts)
  omega
theorem places_nil_ts {ts : List (Option Nat)} : placesOf ts = [] ↔ ∀ t : Nat, some t ∉ ts := by
  constructor
  · intro h t ht
    unfold placesOf at h
    have h' := List.map_eq_nil_iff.mp h
    have : (t : Int) ∈ usort ltI (somes ts) := (mem_usort ltI_o).mpr (mem_somes.mpr ⟨t, ht, rfl⟩)
    rw [h'] at this
    cases this
  · exact places_none
theorem head_nil {ts : List (Option Nat)} : headL (placesOf ts) = [] ↔ placesOf ts = [] := by
  constructor
  · intro h
    refine places_nil_ts.mpr fun t ht => ?_
    obtain ⟨s, hs, hmin⟩ := least_time ht
    rw [head_places hs hmin] at h
    exact ixs_iff.mpr hs h
  · intro h
    rw [h]
    rfl
theorem mem_ixs {ts : List (Option Nat)} {t : Nat} {z : Int} : z ∈ ixs ts (t : Int) ↔ ∃ i : Nat, i < ts.length ∧ ts.getD i none = some t ∧ z = (i : Int) := by
  unfold ixs
  rw [List.mem_map]
  constructor
  · rintro ⟨i, hi, rfl⟩
    obtain ⟨h1, h2⟩ := List.mem_filter.mp hi
    exact ⟨i, List.mem_range.mp h1, by simpa using h2, rfl⟩
  · rintro ⟨i, h1, h2, rfl⟩
    exact ⟨i, List.mem_filter.mpr ⟨List.mem_range.mpr h1, decide_eq_true (show ts.getD i none = some ((t : Int).toNat) from h2)⟩, rfl⟩
theorem ixs_sorted (ts : List (Option Nat)) (t : Int) : (ixs ts t).Pairwise (fun a b => ltI a b = true) := by
  unfold ixs
  refine List.Pairwise.map _ (R := fun a b : Nat => a < b) (fun a b hab => by simp [ltI]; omega) ?_
  exact List.Pairwise.filter _ List.pairwise_lt_range
/-- equal lists of places, by their members -/
theorem sorted_eq {l m : List Int} (h1 : l.Pairwise (fun a b => ltI a b = true)) (h2 : m.Pairwise (fun a b => ltI a b = true)) (h : ∀ z, z ∈ l ↔ z ∈ m) : l = m := sorted_one ltI_o h1 h2 h
theorem times_getD {hs : List (List (List Int))} {r : Nat} {call : List Int} {i : Nat} (h : i < hs.length) : (timesOf hs r call).getD i none = timeOf (linesOf (hs.getD i []) r) call := by
  unfold timesOf
  simp [List.getD_eq_getElem?_getD, h]
theorem times_mem {hs : List (List (List Int))} {r : Nat} {call : List Int} {t : Option Nat} : t ∈ timesOf hs r call ↔ ∃ i, i < hs.length ∧ timeOf (linesOf (hs.getD i []) r) call = t := by
  unfold timesOf
  rw [List.mem_map]
  constructor
  · rintro ⟨rows, hr, rfl⟩
    obtain ⟨i, hi, rfl⟩ := List.getElem_of_mem hr
    exact ⟨i, hi, by simp [List.getD_eq_getElem?_getD, hi]⟩
  · rintro ⟨i, hi, rfl⟩
    exact ⟨_, getD_mem hi, rfl⟩
theorem times_len (hs : List (List (List Int))) (r : Nat) (call : List Int) : (timesOf hs r call).length = hs.length := by simp [timesOf]
theorem Hall.card {hs : List (List (List Int))} (H : Hall hs) {i : Nat} (h : i < hs.length) : Card (hs.getD i []) := H.ok _ (getD_mem h)
theorem Hall.ne {hs : List (List (List Int))} (H : Hall hs) {i : Nat} (h : i < hs.length) (r : Nat) : ∀ l ∈ linesOf (hs.getD i []) r, l ≠ [] := (lines_are (H.card h) r).ne
theorem ix_hall {hs : List (List (List Int))} {i : Nat} (h : i < hs.length) : pyIx (.list (hs.map cardD)) (.int (i : Int)) = .ok (cardD (hs.getD i [])) := by
  rw [pyIx_list (by simpa using h)]
  simp [List.getD_eq_getElem?_getD, h]
/-- a call's beginning: who is finished is so at the same time -/
theorem time_take {ls : List (List Int)} (ne : ∀ l ∈ ls, l ≠ []) {call : List Int} {m : Nat} {t : Nat} : timeOf ls (call.take m) = some t ↔ timeOf ls call = some t ∧ t ≤ m := by
  constructor
  · intro h
    obtain ⟨h1, h2, h3, h4⟩ := timeOf_spec h
    rw [List.length_take] at h2
    have tm : ∀ s, s ≤ m → (call.take m).take s = call.take s := fun s hs => by rw [List.take_take, Nat.min_eq_left hs]
    rw [tm t (by omega)] at h3
    exact ⟨timeOf_some h1 (by omega) h3 (fun s q1 q2 => by have := h4 s q1 q2; rwa [tm s (by omega)] at this), by omega⟩
  · rintro ⟨h, hm⟩
    obtain ⟨h1, h2, h3, h4⟩ := timeOf_spec h
    have tm : ∀ s, s ≤ m → (call.take m).take s = call.take s := fun s hs => by rw [List.take_take, Nat.min_eq_left hs]
    exact timeOf_some h1 (by rw [List.length_take]; omega) (by rw [tm t hm]; exact h3) (fun s q1 q2 => by rw [tm s (by omega)]; exact h4 s q1 q2)
end BG
namespace BG
open PySem
theorem ixs_time {hs : List (List (List Int))} {r : Nat} {call : List Int} {t : Nat} {z : Int} (h : z ∈ ixs (timesOf hs r call) (t : Int)) : ∃ i : Nat, i < hs.length ∧ z = (i : Int) ∧ timeOf (linesOf (hs.getD i []) r) call = some t := by
  obtain ⟨i, h1, h2, rfl⟩ := mem_ixs.mp h
  rw [times_len] at h1
  rw [times_getD h1] at h2
  exact ⟨i, h1, rfl, h2⟩
theorem group_times {hs : List (List (List Int))} (H : Hall hs) {r : Nat} {call : List Int} (CC : Call call) (t : Nat) : compO (fun d67 => eltO (Rs.ok true) ((pyIx (.list (hs.map cardD)) d67).bind fun x70 => m_finished_at x70 (.str (ruleS r)) (.list (iL call)))) (iL (ixs (timesOf hs r call) (t : Int))) = .ok (iL ((ixs (timesOf hs r call) (t : Int)).map fun _ => (t : Int))) := by
  rw [compO_map (e := PyData.int) (h := fun _ => PyData.int (t : Int))]
  · unfold iL
    rw [List.map_map]
    rfl
  · intro z hz
    obtain ⟨i, hi, rfl, ht⟩ := ixs_time hz
    rw [ix_hall hi, bind_ok, finished_at_ok (H.card hi) r CC, ht, eltO_true, bind_ok]
    rfl
theorem distinct_const {l : List Int} (h : l ≠ []) (t : Int) : distinctI (l.map fun _ => t) = 1 := by
  have e : usort ltI (l.map fun _ => t) = [t] := by
    refine (usort_is ltI_o (by simp) fun z => ?_).symm
    rw [List.mem_singleton, List.mem_map]
    constructor
    · rintro rfl
      obtain ⟨x, hx⟩ := List.exists_mem_of_ne_nil l h
      exact ⟨x, hx, rfl⟩
    · rintro ⟨_, _, rfl⟩
      rfl
  unfold distinctI
  rw [e]
  rfl
theorem group_b3 {hs : List (List (List Int))} (H : Hall hs) {r : Nat} {call : List Int} (CC : Call call) {t : Nat} (ht : some t ∈ timesOf hs r call) {before : Int} (hb : before < t) {acc : List Int} (ha : acc.length ≤ 500) :
    b_law_k10_b3 (hs.map cardD) (.str (ruleS r)) (.list (iL call)) (.list (iL acc), .int before) (lstI (ixs (timesOf hs r call) (t : Int))) = .ok (.nx (.list (iL (acc ++ ixs (timesOf hs r call) (t : Int))), .int (t : Nat))) := by
  have hi := H.hi
  have il := ixs_len (timesOf hs r call) (t : Int)
  rw [times_len] at il
  have ne := ixs_iff.mpr ht
  have g := group_times H CC (r := r) t
  have srt := ixs_sorted (timesOf hs r call) (t : Int)
  generalize ixs (timesOf hs r call) (t : Int) = grp at *
  have es : pySortedSet (.list (iL grp)) = .ok (iL grp) := by
    rw [pySortedSet_ints (by omega), ← usort_is ltI_o srt fun z => Iff.rfl]
  have el : pyLenSet (.list (iL (grp.map fun _ => (t : Int)))) = .ok (.int 1) := by
    rw [pyLenSet_ints (by rw [List.length_map]; omega), distinct_const ne]
    rfl
  have e0 : pyIx (.list (iL (grp.map fun _ => (t : Int)))) (.int 0) = .ok (.int (t : Nat)) := by
    cases grp with
    | nil => exact absurd rfl ne
    | cons x xs =>
      rw [show (PyData.int 0) = PyData.int ((0 : Nat) : Int) from rfl, pyIx_list (by simp [iL])]
      rfl
  have ei : pyIs (.int (t : Nat)) .none = .ok (.bool false) := rfl
  have hle : ¬ ((t : Int) ≤ before) := by omega
  have n1 : pyNe (.int 1) (.int 1) = .ok (.bool false) := rfl
  unfold b_law_k10_b3 b_law_k10_k2 b_law_k10_k1
  simp only [bind_ok, ofSeq_list, comp_ok, g, eq_nil, ne, mkLst_nil, lstD_ok, decide_false, tst_bool, orT_ok, Bool.false_eq_true, if_false, es, pyNe_same (Sh.list (shA_ints (n := 0) _)), el, n1, go_nx, e0, ei, pyLe_int, hle]
  rw [pyAdd_list (by simp [iL]; omega), bind_ok]
  simp [iL]
theorem groups_for {hs : List (List (List Int))} (H : Hall hs) {r : Nat} {call : List Int} (CC : Call call) : ∀ {us : List Int} {acc : List Int} {before : Int}, us.Pairwise (fun a b => ltI a b = true) → (∀ u ∈ us, before < u ∧ ∃ t : Nat, some t ∈ timesOf hs r call ∧ u = (t : Int)) → acc.length + 6 * us.length ≤ 500 →
    ∃ last : D, forO (b_law_k10_b3 (hs.map cardD) (.str (ruleS r)) (.list (iL call))) ((us.map (ixs (timesOf hs r call))).map lstI) (.list (iL acc), .int before) = .ok (.nx (.list (iL (acc ++ (us.map (ixs (timesOf hs r call))).flatten)), last))
  | [], acc, before, _, _, _ => ⟨.int before, by simp; rfl⟩
  | u :: us, acc, before, hp, hu, hl => by
    have hi := H.hi
    simp only [List.length_cons] at hl
    have hp' := List.pairwise_cons.mp hp
    obtain ⟨hb, t, ht, rfl⟩ := hu u (by simp)
    have il := ixs_len (timesOf hs r call) (t : Int)
    rw [times_len] at il
    obtain ⟨last, q⟩ := groups_for H CC (us := us) (acc := acc ++ ixs (timesOf hs r call) (t : Int)) (before := (t : Int)) hp'.2 (fun v hv => by
      have h1 := hp'.1 v hv
      simp [ltI] at h1
      exact ⟨h1, (hu v (by simp [hv])).2⟩) (by rw [List.length_append]; omega)
    refine ⟨last, ?_⟩
    show (b_law_k10_b3 (hs.map cardD) (.str (ruleS r)) (.list (iL call)) (.list (iL acc), .int before) (lstI (ixs (timesOf hs r call) (t : Int)))).go (fun a' => forO _ ((us.map (ixs (timesOf hs r call))).map lstI) a') = _
    rw [group_b3 H CC ht hb (by omega), go_nx, q]
    simp
theorem whole_eq {hs : List (List (List Int))} {r : Nat} {call : List Int} : isort ltI ((usort ltI (somes (timesOf hs r call))).map (ixs (timesOf hs r call))).flatten = ((List.range hs.length).filter fun i => (timeOf (linesOf (hs.getD i []) r) call).isSome).map fun (i : Nat) => (i : Int) := by
  have srt : (((List.range hs.length).filter fun i => (timeOf (linesOf (hs.getD i []) r) call).isSome).map fun (i : Nat) => (i : Int)).Pairwise (fun a b => ltI a b = true) := by
    refine List.Pairwise.map _ (R := fun a b : Nat => a < b) (fun a b hab => by simp [ltI]; omega) ?_
    exact List.Pairwise.filter _ List.pairwise_lt_range
  refine (isort_is ltI_o (srt.imp fun {a b} q => ltI_o.asym q) ?_).symm
  have nd1 : (((List.range hs.length).filter fun i => (timeOf (linesOf (hs.getD i []) r) call).isSome).map fun (i : Nat) => (i : Int)).Nodup := srt.imp fun {a b} q e => by
    subst e
    simp [ltI] at q
  have nd2 : ((usort ltI (somes (timesOf hs r call))).map (ixs (timesOf hs r call))).flatten.Nodup := by
    refine List.pairwise_flatten.mpr ⟨fun l hl => ?_, ?_⟩
    · obtain ⟨u, _, rfl⟩ := List.mem_map.mp hl
      exact (ixs_sorted _ _).imp fun {a b} q e => by
        subst e
        simp [ltI] at q
    · refine List.Pairwise.map _ (R := fun a b => a ≠ b ∧ (∃ t : Nat, a = (t : Int)) ∧ ∃ t : Nat, b = (t : Int)) (fun a b hab x hx y hy e => ?_) ?_
      · obtain ⟨hne, ⟨s, rfl⟩, t, rfl⟩ := hab
        subst e
        obtain ⟨i, _, rfl, h1⟩ := ixs_time hx
        obtain ⟨j, _, e, h2⟩ := ixs_time hy
        have : i = j := by omega
        subst this
        rw [h1] at h2
        cases h2
        exact hne rfl
      · refine List.Pairwise.imp_of_mem (fun {a b} ha hb hne => ⟨hne, ?_, ?_⟩) (usort_nodup ltI_o _)
        · obtain ⟨t, _, e⟩ := mem_somes.mp ((mem_usort ltI_o).mp ha)
          exact ⟨t, e⟩
        · obtain ⟨t, _, e⟩ := mem_somes.mp ((mem_usort ltI_o).mp hb)
          exact ⟨t, e⟩
  rw [List.perm_ext_iff_of_nodup nd1 nd2]
  intro z
  rw [List.mem_map, List.mem_flatten]
  constructor
  · rintro ⟨i, hi, rfl⟩
    obtain ⟨h1, h2⟩ := List.mem_filter.mp hi
    have h1 := List.mem_range.mp h1
    obtain ⟨t, ht⟩ := Option.isSome_iff_exists.mp h2
    refine ⟨ixs (timesOf hs r call) (t : Int), List.mem_map.mpr ⟨(t : Int), (mem_usort ltI_o).mpr (mem_somes.mpr ⟨t, times_mem.mpr ⟨i, h1, ht⟩, rfl⟩), rfl⟩, mem_ixs.mpr ⟨i, by rw [times_len]; exact h1, by rw [times_getD h1]; exact ht, rfl⟩⟩
  · rintro ⟨l, hl, hz⟩
    obtain ⟨u, hu, rfl⟩ := List.mem_map.mp hl
    obtain ⟨t, _, rfl⟩ := mem_somes.mp ((mem_usort ltI_o).mp hu)
    obtain ⟨i, hi, rfl, ht⟩ := ixs_time hz
    exact ⟨i, List.mem_filter.mpr ⟨List.mem_range.mpr hi, by rw [ht]; rfl⟩, rfl⟩
end BG
namespace BG
open PySem
theorem due_for10 {r : Nat} {call : List Int} (CC : Call call) : ∀ {hs : List (List (List Int))} {k : Nat} {acc : List (List Int)}, (∀ rows ∈ hs, Card rows) → acc.length + 10 * hs.length ≤ 1000 →
    forO (fun (s17 : D) d23 => un2 d23 (b_law_next_b1 (.str (ruleS r)) (.list (iL call)) s17)) ((List.range hs.length).map fun i => PyData.tuple [.int ((k + i : Nat) : Int), (hs.map cardD).getD i .none]) (.list (acc.map tupI)) = .ok (.nx (.list ((acc ++ pairsOf r call k hs).map tupI)))
  | [], k, acc, _, _ => by
    simp [pairsOf]
    rfl
  | rows :: hs, k, acc, hc, hl => by
    have C := hc rows (by simp)
    simp only [List.length_cons] at hl
    have wl : (waitsOf (linesOf rows r) call).length ≤ 10 := by
      unfold waitsOf
      split
      · simp
      · exact Nat.le_trans (usort_length ltI_o _) (Nat.le_trans (ones_len call _) (lines_are C r).few)
    rw [List.length_cons, List.range_succ_eq_map, List.map_cons]
    show (b_law_next_b1 (.str (ruleS r)) (.list (iL call)) (.list (acc.map tupI)) (.int ((k + 0 : Nat) : Int)) (cardD rows)).go _ = _
    have b : b_law_next_b1 (.str (ruleS r)) (.list (iL call)) (.list (acc.map tupI)) (.int ((k + 0 : Nat) : Int)) (cardD rows) = .ok (.nx (.list ((acc ++ (waitsOf (linesOf rows r) call).map fun n => [n, (k : Int)]).map tupI))) := by
      unfold b_law_next_b1
      simp only [bind_ok, waits_for_ok C r CC, ofSeq_list, comp_ok]
      rw [compO_map (e := PyData.int) (h := fun n => tupI [n, (k : Int)]) (xs := waitsOf (linesOf rows r) call)]
      · rw [lstD_ok, bind_ok, pyAdd_list (by simp only [List.length_map]; omega), bind_ok, List.map_append, List.map_map]
        rfl
      · intro n _
        rw [mkTup2, eltO_true, bind_ok]
        rfl
    rw [b, go_nx, List.map_map]
    have e : (List.range hs.length).map ((fun i => PyData.tuple [.int ((k + i : Nat) : Int), ((rows :: hs).map cardD).getD i .none]) ∘ Nat.succ) = (List.range hs.length).map fun i => PyData.tuple [.int (((k + 1) + i : Nat) : Int), (hs.map cardD).getD i .none] := List.map_congr_left fun i _ => by
      show PyData.tuple [.int ((k + (i + 1) : Nat) : Int), ((rows :: hs).map cardD).getD (i + 1) .none] = _
      rw [show k + (i + 1) = k + 1 + i by omega]
      rfl
    rw [e, due_for10 CC (fun x hx => hc x (by simp [hx])) (by rw [List.length_append, List.length_map]; omega)]
    rw [List.append_assoc]
    rfl
theorem mem_rows {hs : List (List (List Int))} {r : Nat} {call : List Int} {p : List Int} : p ∈ rowsOf hs r call num60 ↔ ∃ n ∈ num60, n ∉ call ∧ ∃ k : Nat, k < hs.length ∧ someIn (linesOf (hs.getD k []) r) (call ++ [n]) = true ∧ p = [n, (k : Int)] := by
  unfold rowsOf
  rw [List.mem_flatMap]
  constructor
  · rintro ⟨n, hn, h⟩
    split at h
    · cases h
    · rename_i hc
      unfold rowsK at h
      obtain ⟨k, hk, rfl⟩ := List.mem_map.mp h
      obtain ⟨h1, h2⟩ := List.mem_filter.mp hk
      exact ⟨n, hn, hc, k, List.mem_range.mp h1, h2, rfl⟩
  · rintro ⟨n, hn, hc, k, hk, hs', rfl⟩
    refine ⟨n, hn, ?_⟩
    rw [if_neg hc]
    unfold rowsK
    exact List.mem_map.mpr ⟨k, List.mem_filter.mpr ⟨List.mem_range.mpr hk, hs'⟩, rfl⟩
theorem num60_rng {n : Int} (h : n ∈ num60) : 1 ≤ n ∧ n ≤ 60 := by
  unfold num60 at h
  rw [List.map_map] at h
  obtain ⟨i, hi, e⟩ := List.mem_map.mp h
  have := List.mem_range.mp hi
  have e : ((i + 1 : Nat) : Int) = n := e
  omega
theorem call_snoc {call : List Int} (CC : Call call) {n : Int} (h1 : 1 ≤ n) (h2 : n ≤ 60) (h3 : n ∉ call) : Call (call ++ [n]) := Call.of (by
  rw [List.nodup_append]
  refine ⟨CC.nd, by simp, fun x hx y hy e => ?_⟩
  rw [List.mem_singleton.mp hy] at e
  exact h3 (e ▸ hx)) (fun x hx => by
  rcases List.mem_append.mp hx with q | q
  · exact CC.rng x q
  · rw [List.mem_singleton.mp q]
    exact ⟨h1, h2⟩)
theorem time_snoc {ls : List (List Int)} (ne : ∀ l ∈ ls, l ≠ []) {call : List Int} (h : someIn ls call = false) {n : Int} {t : Nat} : timeOf ls (call ++ [n]) = some t ↔ t = call.length + 1 ∧ someIn ls (call ++ [n]) = true := by
  have full : someIn ls (call ++ [n]) = true → timeOf ls (call ++ [n]) = some (call.length + 1) := fun q => timeOf_some (by omega) (by simp) (by
    rw [List.take_of_length_le (by simp)]
    exact q) (fun s h1 h2 => by
    rw [List.take_append_of_le_length (by omega)]
    refine Bool.eq_false_iff.mpr fun z => ?_
    have := someIn_mono (fun x hx => List.mem_of_mem_take hx) z
    rw [h] at this
    cases this)
  constructor
  · intro e
    have q : someIn ls (call ++ [n]) = true := by
      have := timeOf_some_iff ne (call := call ++ [n])
      rw [e] at this
      exact this.symm
    rw [full q] at e
    cases e
    exact ⟨rfl, q⟩
  · rintro ⟨rfl, q⟩
    exact full q
/-- a next winner wins, with all that wait for the same number -/
theorem next_b2 {hs : List (List (List Int))} (H : Hall hs) {r : Nat} {call : List Int} (CC : Call call) (hc : call.length ≤ 50) (hno : ∀ rows ∈ hs, someIn (linesOf rows r) call = false) {p : List Int} (hp : p ∈ rowsOf hs r call num60) :
    un2 (tupI p) (b_law_next_b2 (.list (hs.map cardD)) (.str (ruleS r)) (.list (iL call)) (.list ((rowsOf hs r call num60).map tupI)) ()) = .ok (.nx ()) := by
  obtain ⟨n, hn, hnc, k, hk, hsm, rfl⟩ := mem_rows.mp hp
  have rng := num60_rng hn
  have C2 := call_snoc CC rng.1 rng.2 hnc
  have add : pyAdd (.list (iL call)) (.list [.int n]) = .ok (.list (iL (call ++ [n]))) := by
    rw [pyAdd_list (by simp [iL]; omega)]
    simp [iL]
  have tm : ∀ {i : Nat}, i < hs.length → ∀ {t : Nat}, timeOf (linesOf (hs.getD i []) r) (call ++ [n]) = some t ↔ t = call.length + 1 ∧ someIn (linesOf (hs.getD i []) r) (call ++ [n]) = true := fun {i} hi {t} => time_snoc (H.ne hi r) (hno _ (getD_mem hi))
  have hd : headL (placesOf (timesOf hs r (call ++ [n]))) = ixs (timesOf hs r (call ++ [n])) ((call.length + 1 : Nat) : Int) := head_places (times_mem.mpr ⟨k, hk, (tm hk).mpr ⟨rfl, hsm⟩⟩) (fun s hs' => by
    obtain ⟨i, hi, e⟩ := times_mem.mp hs'
    have := ((tm hi).mp e).1
    omega)
  have w : m_winners (.list (hs.map cardD)) (.str (ruleS r)) (.list (iL (call ++ [n]))) = .ok (lstI (headL (placesOf (timesOf hs r (call ++ [n]))))) := winners_ok H r C2
  have srt := rows_sorted (hs := hs) (r := r) (call := call) num60_pw
  have e : compO (fun d107 => un2 d107 fun d105 d106 => eltO (tst (pyEq d105 (.int n))) (Rs.ok d106)) ((rowsOf hs r call num60).map tupI) = .ok (iL (((rowsOf hs r call num60).filter fun q => decide (q.getD 0 0 = n)).map fun q => q.getD 1 0)) := by
    rw [compO_filter (e := tupI) (p := fun q => decide (q.getD 0 0 = n)) (h := fun q => PyData.int (q.getD 1 0))]
    · unfold iL
      rw [List.map_map]
      rfl
    · intro q hq
      obtain ⟨n', _, _, k', _, _, rfl⟩ := mem_rows.mp hq
      show eltO (tst (pyEq (.int n') (.int n))) (Rs.ok (.int (k' : Int))) = _
      rw [pyEq_int, tst_bool, eltO_ok]
      congr 1
  have eq : (((rowsOf hs r call num60).filter fun q => decide (q.getD 0 0 = n)).map fun q => q.getD 1 0) = headL (placesOf (timesOf hs r (call ++ [n]))) := by
    rw [hd]
    refine sorted_eq ?_ (ixs_sorted _ _) fun z => ?_
    · refine List.Pairwise.map _ (R := fun a b : List Int => ltL a b = true ∧ (∃ k : Nat, a = [n, (k : Int)]) ∧ ∃ k : Nat, b = [n, (k : Int)]) (fun a b hab => ?_) ?_
      · obtain ⟨h, ⟨k1, rfl⟩, k2, rfl⟩ := hab
        simp [ltL] at h
        simp [ltI]
        omega
      · refine List.Pairwise.imp_of_mem (fun {a b} ha hb h => ⟨h, ?_, ?_⟩) (List.Pairwise.filter _ srt)
        · obtain ⟨ha, hq⟩ := List.mem_filter.mp ha
          obtain ⟨n', _, _, k', _, _, rfl⟩ := mem_rows.mp ha
          have : n' = n := by simpa using hq
          exact ⟨k', by rw [this]⟩
        · obtain ⟨hb, hq⟩ := List.mem_filter.mp hb
          obtain ⟨n', _, _, k', _, _, rfl⟩ := mem_rows.mp hb
          have : n' = n := by simpa using hq
          exact ⟨k', by rw [this]⟩
    · rw [List.mem_map, mem_ixs]
      constructor
      · rintro ⟨q, hq, rfl⟩
        obtain ⟨hq, hqn⟩ := List.mem_filter.mp hq
        obtain ⟨n', _, _, k', hk', hs', rfl⟩ := mem_rows.mp hq
        have : n' = n := by simpa using hqn
        subst this
        exact ⟨k', by rw [times_len]; exact hk', by rw [times_getD hk']; exact (tm hk').mpr ⟨rfl, hs'⟩, rfl⟩
      · rintro ⟨i, hi, ht, rfl⟩
        rw [times_len] at hi
        rw [times_getD hi] at ht
        exact ⟨[n, (i : Int)], List.mem_filter.mpr ⟨mem_rows.mpr ⟨n, hn, hnc, i, hi, ((tm hi).mp ht).2, rfl⟩, by simp⟩, rfl⟩
  show b_law_next_b2 (.list (hs.map cardD)) (.str (ruleS r)) (.list (iL call)) (.list ((rowsOf hs r call num60).map tupI)) () (.int n) (.int (k : Int)) = _
  unfold b_law_next_b2
  simp only [bind_ok, mkLst_ok (ds := [PyData.int n]) (by simp [sizeMax]), lstD_ok, add, w, ofSeq_list, comp_ok, e, eq, pyNe_same (Sh.list (shA_ints (n := 0) _)), tst_bool, Bool.false_eq_true, if_false, go_nx]
theorem slice_one {hs : List (List (List Int))} (h : 0 < hs.length) : pySlice (.list (hs.map cardD)) none (some 1) = .ok (.list ([hs.getD 0 []].map cardD)) := by
  cases hs with
  | nil => simp at h
  | cons x xs =>
    simp only [pySlice]
    unfold cutL sIx
    simp
theorem law_next_ok {hs : List (List (List Int))} (H : Hall hs) (h5 : hs.length ≤ 5) (r : Nat) {call : List Int} (CC : Call call) (hc : call.length ≤ 50) : m_law_next (.list (hs.map cardD)) (.str (ruleS r)) (.list (iL call)) (lstI (headL (placesOf (timesOf hs r call)))) = .ok (.bool true) := by
  have lo := H.lo
  have h0 : 0 < hs.length := by omega
  have e0 : pyIx (.list (hs.map cardD)) (.int 0) = .ok (cardD (hs.getD 0 [])) := by
    rw [show (PyData.int 0) = PyData.int ((0 : Nat) : Int) from rfl]
    exact ix_hall h0
  have C0 := H.card h0
  have ne0 := H.ne h0 r
  have k6 : b_law_next_k6 (.list (hs.map cardD)) (.str (ruleS r)) = .ok (.rt (.bool true)) := by
    have CE : Call [] := Call.of List.nodup_nil fun x hx => by cases hx
    have p : m_places (.list (hs.map cardD)) (.str (ruleS r)) (.list (iL [])) = .ok (.list ((placesOf (timesOf hs r [])).map lstI)) := places_ok H r CE
    have p' : m_places (.list (hs.map cardD)) (.str (ruleS r)) (.list []) = .ok (.list ((placesOf (timesOf hs r [])).map lstI)) := p
    have pn : placesOf (timesOf hs r []) = [] := places_nil_ts.mpr fun t ht => by
      have := times_rng ht
      simp at this
      omega
    rw [pn] at p'
    unfold b_law_next_k6
    simp only [bind_ok, mkLst_nil, lstD_ok, p', List.map_nil, pyEq_same (Sh.list (ShA.nil (n := 0)))]
  have k7 : b_law_next_k7 (.list (hs.map cardD)) (.str (ruleS r)) (.list (iL call)) = .ok (.rt (.bool true)) := by
    have H1 : Hall [hs.getD 0 []] := ⟨by simp, by simp, fun rows hr => by rw [List.mem_singleton.mp hr]; exact C0⟩
    have w : m_winners (.list ([hs.getD 0 []].map cardD)) (.str (ruleS r)) (.list (iL call)) = .ok (lstI (headL (placesOf (timesOf [hs.getD 0 []] r call)))) := winners_ok H1 r CC
    have key : headL (placesOf (timesOf [hs.getD 0 []] r call)) = if (timeOf (linesOf (hs.getD 0 []) r) call).isSome = true then [0] else [] := by
      have et : timesOf [hs.getD 0 []] r call = [timeOf (linesOf (hs.getD 0 []) r) call] := rfl
      rw [et]
      cases q : timeOf (linesOf (hs.getD 0 []) r) call with
      | none => rfl
      | some t =>
        rw [head_places (t := t) (by simp) (fun s hs' => by simp at hs'; omega)]
        unfold ixs
        simp
    have l0 : mkLst [PyData.int 0] = .ok [.int 0] := mkLst_ok (by simp [sizeMax])
    unfold b_law_next_k7
    simp only [bind_ok, part_int, slice_one h0, w, e0, finished_at_ok C0 r CC, isNot_none_time, tst_bool, l0, mkLst_nil, lstD_ok, ifE_ok]
    rw [key]
    by_cases q : (timeOf (linesOf (hs.getD 0 []) r) call).isSome = true
    · have z : pyEq (lstI [0]) (.list [.int 0]) = .ok (.bool true) := pyEq_same (Sh.list (shA_ints (n := 0) [0]))
      simp only [q, if_true, bind_ok]
      rw [z]
      simp only [tst_bool, notT_ok, Bool.not_true, bind_ok, Bool.false_eq_true, if_false, go_nx]
      exact k6
    · have z : pyEq (lstI []) (.list []) = .ok (.bool true) := pyEq_same (Sh.list (shA_ints (n := 0) []))
      rw [if_neg q, if_neg q, bind_ok, z]
      simp only [tst_bool, notT_ok, Bool.not_true, bind_ok, Bool.false_eq_true, if_false, go_nx]
      exact k6
  have k8 : b_law_next_k8 (.list (hs.map cardD)) (.str (ruleS r)) (.list (iL call)) = .ok (.rt (.bool true)) := by
    have H2 : Hall (hs ++ [hs.getD 0 []]) := ⟨by simp, by simp; omega, fun rows hr => by
      rcases List.mem_append.mp hr with q | q
      · exact H.ok rows q
      · rw [List.mem_singleton.mp q]; exact C0⟩
    have add : pyAdd (.list (hs.map cardD)) (.list [cardD (hs.getD 0 [])]) = .ok (.list ((hs ++ [hs.getD 0 []]).map cardD)) := by
      rw [pyAdd_list (by simp; omega), List.map_append]
      rfl
    have w : m_winners (.list ((hs ++ [hs.getD 0 []]).map cardD)) (.str (ruleS r)) (.list (iL call)) = .ok (lstI (headL (placesOf (timesOf (hs ++ [hs.getD 0 []]) r call)))) := winners_ok H2 r CC
    have g0 : (hs ++ [hs.getD 0 []]).getD 0 [] = hs.getD 0 [] := by
      cases hs with
      | nil => simp at h0
      | cons x xs => rfl
    have gn : (hs ++ [hs.getD 0 []]).getD hs.length [] = hs.getD 0 [] := by
      simp [List.getD_eq_getElem?_getD]
    have key : decide (((hs.length : Nat) : Int) ∈ headL (placesOf (timesOf (hs ++ [hs.getD 0 []]) r call))) = decide ((0 : Int) ∈ headL (placesOf (timesOf (hs ++ [hs.getD 0 []]) r call))) := by
      by_cases hq : ∃ t : Nat, some t ∈ timesOf (hs ++ [hs.getD 0 []]) r call
      · obtain ⟨t, ht⟩ := hq
        obtain ⟨s, hs', hmin⟩ := least_time ht
        rw [head_places hs' hmin]
        refine decide_eq_decide.mpr ?_
        rw [mem_ixs, mem_ixs]
        constructor
        · rintro ⟨i, hi, hg, e⟩
          have : i = hs.length := by omega
          subst this
          rw [times_getD (by simp), gn] at hg
          exact ⟨0, by rw [times_len]; simp, by rw [times_getD (by simp), g0]; exact hg, rfl⟩
        · rintro ⟨i, hi, hg, e⟩
          have : i = 0 := by omega
          subst this
          rw [times_getD (by simp), g0] at hg
          exact ⟨hs.length, by rw [times_len]; simp, by rw [times_getD (by simp), gn]; exact hg, rfl⟩
      · rw [places_none fun t ht => hq ⟨t, ht⟩]
        rfl
    have l1 : mkLst [cardD (hs.getD 0 [])] = .ok [cardD (hs.getD 0 [])] := mkLst_ok (by simp [sizeMax])
    have el : pyLen (.list (hs.map cardD)) = .ok (.int (hs.length : Int)) := by simp
    unfold b_law_next_k8
    simp only [bind_ok, e0, l1, lstD_ok, add, el, w, pyIn_list, pyNe_bool, key, bne_self_eq_false, tst_bool, Bool.false_eq_true, if_false, go_nx]
    exact k7
  have k9 : b_law_next_k9 (lstI (headL (placesOf (timesOf hs r call)))) (.list (hs.map cardD)) (.str (ruleS r)) (.list (iL call)) = .ok (.rt (.bool true)) := by
    unfold b_law_next_k9
    simp only [bind_ok, mkLst_nil, lstD_ok, ne_nil, tst_bool]
    by_cases hq : ∃ t : Nat, some t ∈ timesOf hs r call
    · obtain ⟨t0, ht0⟩ := hq
      obtain ⟨t, ht, hmin⟩ := least_time ht0
      have hd := head_places ht hmin
      have hne := ixs_iff.mpr ht
      have rng := times_rng ht
      rw [hd]
      have hix : ∃ i : Nat, i < hs.length ∧ timeOf (linesOf (hs.getD i []) r) call = some t ∧ pyIx (.list (iL (ixs (timesOf hs r call) (t : Int)))) (.int 0) = .ok (.int (i : Int)) := by
        cases hq : ixs (timesOf hs r call) (t : Int) with
        | nil => exact absurd hq hne
        | cons z zs =>
          obtain ⟨i, hi, e, h⟩ := ixs_time (hs := hs) (r := r) (call := call) (t := t) (z := z) (by rw [hq]; simp)
          refine ⟨i, hi, h, ?_⟩
          rw [show (PyData.int 0) = PyData.int ((0 : Nat) : Int) from rfl, pyIx_list (by simp [iL]), ← e]
          rfl
      obtain ⟨i, hi, hti, eix⟩ := hix
      have win : ∀ m : Nat, m_winners (.list (hs.map cardD)) (.str (ruleS r)) (.list (iL (call.take m))) = .ok (lstI (headL (placesOf (timesOf hs r (call.take m))))) := fun m => winners_ok H r (CC.take m)
      have w1 : headL (placesOf (timesOf hs r (call.take t))) = ixs (timesOf hs r call) (t : Int) := by
        rw [head_places (t := t) (times_mem.mpr ⟨i, hi, (time_take (H.ne hi r)).mpr ⟨hti, Nat.le_refl _⟩⟩) (fun s hs' => by
          obtain ⟨j, hj, e⟩ := times_mem.mp hs'
          exact hmin s (times_mem.mpr ⟨j, hj, ((time_take (H.ne hj r)).mp e).1⟩))]
        refine sorted_eq (ixs_sorted _ _) (ixs_sorted _ _) fun z => ?_
        rw [mem_ixs, mem_ixs, times_len, times_len]
        constructor
        · rintro ⟨j, hj, h, rfl⟩
          rw [times_getD hj] at h
          exact ⟨j, hj, by rw [times_getD hj]; exact ((time_take (H.ne hj r)).mp h).1, rfl⟩
        · rintro ⟨j, hj, h, rfl⟩
          rw [times_getD hj] at h
          exact ⟨j, hj, by rw [times_getD hj]; exact (time_take (H.ne hj r)).mpr ⟨h, Nat.le_refl _⟩, rfl⟩
      have w2 : headL (placesOf (timesOf hs r (call.take (t - 1)))) = [] := by
        rw [places_none]
        · rfl
        · intro s hs'
          obtain ⟨j, hj, e⟩ := times_mem.mp hs'
          have q := (time_take (H.ne hj r)).mp e
          have := hmin s (times_mem.mpr ⟨j, hj, q.1⟩)
          omega
      have e1 : (t : Int) - 1 = ((t - 1 : Nat) : Int) := by omega
      have zz : pyNe (lstI []) (.list []) = .ok (.bool false) := pyNe_same (Sh.list (shA_ints (n := 0) []))
      have k5 : b_law_next_k5 (.list (hs.map cardD)) (.str (ruleS r)) (.list (iL call)) (.int (t : Nat)) = .ok (.nx ()) := by
        unfold b_law_next_k5
        simp only [bind_ok, pySub_int, e1, part_int, pySlice_take, win, w2, mkLst_nil, lstD_ok, zz, tst_bool, Bool.false_eq_true, if_false, go_nx]
      simp only [hne, decide_false, Bool.not_false, if_true, eix, bind_ok, ix_hall hi, finished_at_ok (H.card hi) r CC, hti, timeD, part_int, pySlice_take, win, w1, pyNe_same (Sh.list (shA_ints (n := 0) _)), tst_bool, Bool.false_eq_true, if_false, go_nx, k5]
      exact k8
    · have hn : headL (placesOf (timesOf hs r call)) = [] := by
        rw [places_none fun t ht => hq ⟨t, ht⟩]
        rfl
      simp only [hn, decide_true, Bool.not_true, Bool.false_eq_true, if_false, go_nx]
      have k9' := k8
      exact k9'
  have nw : m_next_winners (.list (hs.map cardD)) (.str (ruleS r)) (.list (iL call)) = .ok (.list ((nextOf hs r call).map tupI)) := next_winners_ok H r CC
  have k10 : b_law_next_k10 (lstI (headL (placesOf (timesOf hs r call)))) (.list (hs.map cardD)) (.str (ruleS r)) (.list (iL call)) (.list ((nextOf hs r call).map tupI)) = .ok (.rt (.bool true)) := by
    unfold b_law_next_k10
    simp only [bind_ok, mkLst_nil, lstD_ok, eq_nil, tst_bool]
    by_cases hq : headL (placesOf (timesOf hs r call)) = []
    · have pn := head_nil.mp hq
      have hno := (places_nil H).mp pn
      have e3 : ofList (.list (hs.map cardD)) = .ok (hs.map cardD) := rfl
      have f := due_for10 (r := r) CC (hs := hs) (k := 0) (acc := []) H.ok (by simp; omega)
      have en : enumD (hs.map cardD) = (List.range hs.length).map fun i => PyData.tuple [.int ((0 + i : Nat) : Int), (hs.map cardD).getD i .none] := by
        unfold enumD
        rw [List.length_map]
        exact List.map_congr_left fun i _ => by rw [Nat.zero_add]
      rw [← en] at f
      have f' : forO (fun (s17 : D) d23 => un2 d23 (b_law_next_b1 (.str (ruleS r)) (.list (iL call)) s17)) (enumD (hs.map cardD)) (.list []) = .ok (.nx (.list ((pairsOf r call 0 hs).map tupI))) := f
      have ne : nextOf hs r call = isort ltL (pairsOf r call 0 hs) := by unfold nextOf; rw [if_pos pn]
      have ne2 : nextOf hs r call = rowsOf hs r call num60 := by rw [next_eq H num60_pw num60_mem, if_pos pn]
      have k3 : b_law_next_k3 (.list ((nextOf hs r call).map tupI)) (.list (hs.map cardD)) (.str (ruleS r)) (.list (iL call)) = .ok (.nx ()) := by
        unfold b_law_next_k3
        simp only [bind_ok, ofSeq_list]
        rw [forO_unit, go_nx]
        intro d hd
        obtain ⟨p, hp, rfl⟩ := List.mem_map.mp hd
        rw [ne2] at hp ⊢
        exact next_b2 H CC hc hno hp
      have k4 : b_law_next_k4 (.list ((nextOf hs r call).map tupI)) (.list ((pairsOf r call 0 hs).map tupI)) (.list (hs.map cardD)) (.str (ruleS r)) (.list (iL call)) = .ok (.nx ()) := by
        unfold b_law_next_k4
        simp only [bind_ok, pySorted_tups _ pairs_ne, lstD_ok]
        rw [← ne, pyNe_same (Sh.list (shA_tups (n := 0) _))]
        simp only [tst_bool, bind_ok, Bool.false_eq_true, if_false, go_nx]
        exact k3
      simp only [hq, decide_true, if_true, e3, bind_ok]
      rw [f', go_nx, k4, go_nx, ← hq]
      exact k9
    · simp only [hq, decide_false, Bool.false_eq_true, if_false, go_nx]
      exact k9
  unfold m_law_next b_law_next
  simp only [bind_ok, nw, mkLst_nil, lstD_ok, ne_nil, ne_nilT, tst_bool, andT_ok]
  by_cases hq : headL (placesOf (timesOf hs r call)) = []
  · simp only [hq, decide_true, Bool.not_true, Bool.false_eq_true, if_false, bind_ok, go_nx]
    rw [← hq, k10]
    rfl
  · have hp : ¬ (placesOf (timesOf hs r call) = []) := fun e => hq (head_nil.mpr e)
    have hn : nextOf hs r call = [] := by unfold nextOf; rw [if_neg hp]
    have k10' := k10
    rw [hn] at k10' ⊢
    simp only [hq, decide_false, Bool.not_false, if_true, decide_true, Bool.not_true, bind_ok, Bool.false_eq_true, if_false, go_nx]
    rw [k10']
    rfl
theorem comp_finished {hs : List (List (List Int))} (H : Hall hs) {r : Nat} {call : List Int} (CC : Call call) : compO (fun d124 => un2 d124 fun d122 d123 => eltO (tst ((m_finished_at d123 (.str (ruleS r)) (.list (iL call))).bind fun x131 => pyIsNot x131 .none)) (Rs.ok d122)) (enumD (hs.map cardD)) = .ok (iL (((List.range hs.length).filter fun i => (timeOf (linesOf (hs.getD i []) r) call).isSome).map fun (i : Nat) => (i : Int))) := by
  unfold enumD
  rw [List.length_map, compO_filter (e := fun (i : Nat) => PyData.tuple [.int (i : Nat), (hs.map cardD).getD i .none]) (p := fun i => (timeOf (linesOf (hs.getD i []) r) call).isSome) (h := fun (i : Nat) => PyData.int (i : Int))]
  · unfold iL
    rw [List.map_map]
    rfl
  · intro i hi
    have hi := List.mem_range.mp hi
    have e : (hs.map cardD).getD i .none = cardD (hs.getD i []) := by simp [List.getD_eq_getElem?_getD, hi]
    rw [e]
    show eltO (tst ((m_finished_at (cardD (hs.getD i [])) (.str (ruleS r)) (.list (iL call))).bind fun x131 => pyIsNot x131 .none)) (Rs.ok (.int (i : Nat))) = _
    rw [finished_at_ok (H.card hi) r CC, bind_ok, isNot_none_time, tst_bool, eltO_ok]
theorem law_k10_true (ns : List Int) (hl : ns.length ≤ 63) : m_law_k10 (.list (iL ns)) = .ok (.bool true) := by
  obtain ⟨j, j1, j2, j3⟩ := drawn_ok ns hl 1 4 (by decide)
  obtain ⟨n, hn⟩ : ∃ n : Nat, 1 + j = (n : Int) := ⟨(1 + j).toNat, by omega⟩
  have hrn : pyRange (.int 0) (.int (n : Int)) = .ok ((List.range n).map fun (i : Nat) => PyData.int (i : Int)) := pyRange_ok _ (by omega)
  obtain ⟨hs, H, hlen, _, hcards⟩ := hall_drawn ns hl (n := n) (by omega) (by omega) (f := fun d => ((pyMul (.int 20) d).bind fun x => pyAdd (.int 10) x).bind fun x => m_law_card (.list (iL ns)) x (.int 16)) (fun k hk => by
    refine ⟨10 + 20 * (k : Int), ?_⟩
    show ((pyMul (.int 20) (.int (k : Int))).bind fun x => pyAdd (.int 10) x).bind _ = _
    rw [pyMul_l (by decide) (by decide), bind_ok, pyAdd_int, bind_ok])
  obtain ⟨r, _, hr⟩ := rule_ok ns hl 2
  obtain ⟨call, CC, _, c12, hcall⟩ := call_ok ns hl 100 16 (by decide) (by decide) 12 (by decide)
  have hcall : m_law_call (.list (iL ns)) (.int 100) (.int 16) (.int 12) = .ok (.list (iL call)) := hcall
  have p' : m_places (.list (hs.map cardD)) (.str (ruleS r)) (.list (iL call)) = .ok (.list ((placesOf (timesOf hs r call)).map lstI)) := places_ok H r CC
  have w' : m_winners (.list (hs.map cardD)) (.str (ruleS r)) (.list (iL call)) = .ok (lstI (headL (placesOf (timesOf hs r call)))) := winners_ok H r CC
  have ei : ifE (Rs.ok (!decide (placesOf (timesOf hs r call) = []))) (pyIx (.list ((placesOf (timesOf hs r call)).map lstI)) (.int 0)) (Rs.ok (.list [])) = .ok (lstI (headL (placesOf (timesOf hs r call)))) := by
    cases placesOf (timesOf hs r call) with
    | nil => rfl
    | cons l ls =>
      have e : pyIx (.list ((l :: ls).map lstI)) (.int 0) = .ok (lstI l) := by
        rw [show (PyData.int 0) = PyData.int ((0 : Nat) : Int) from rfl, pyIx_list (by simp)]
        rfl
      rw [decide_eq_false (by simp), e]
      rfl
  have k4 : b_law_k10_k4 (hs.map cardD) (.str (ruleS r)) (.list (iL call)) (lstI (headL (placesOf (timesOf hs r call)))) = .ok (.rt (.bool true)) := by
    unfold b_law_k10_k4
    simp only [bind_ok, law_next_ok H (by omega) r CC (by omega)]
  have sl := somes_len (timesOf hs r call)
  rw [times_len] at sl
  have ul := usort_length ltI_o (somes (timesOf hs r call))
  obtain ⟨last, hg⟩ := groups_for H CC (r := r) (us := usort ltI (somes (timesOf hs r call))) (acc := []) (before := 0) (usort_sorted ltI_o _) (fun u hu => by
    obtain ⟨t, ht, rfl⟩ := mem_somes.mp ((mem_usort ltI_o).mp hu)
    have := times_rng ht
    exact ⟨by omega, t, ht, rfl⟩) (by simp; omega)
  rw [List.nil_append] at hg
  have hg' : forO (b_law_k10_b3 (hs.map cardD) (.str (ruleS r)) (.list (iL call))) ((placesOf (timesOf hs r call)).map lstI) (.list [], .int 0) = .ok (.nx (.list (iL ((usort ltI (somes (timesOf hs r call))).map (ixs (timesOf hs r call))).flatten), last)) := hg
  have e3 : ofList (.list (hs.map cardD)) = .ok (hs.map cardD) := rfl
  have k5 : b_law_k10_k5 (.list (iL ((usort ltI (somes (timesOf hs r call))).map (ixs (timesOf hs r call))).flatten), last) (hs.map cardD) (.str (ruleS r)) (.list (iL call)) (lstI (headL (placesOf (timesOf hs r call)))) = .ok (.rt (.bool true)) := by
    unfold b_law_k10_k5
    simp only [bind_ok, pySorted_ints, whole_eq, lstD_ok, e3, comp_ok, comp_finished H CC, pyNe_same (Sh.list (shA_ints (n := 0) _)), tst_bool, Bool.false_eq_true, if_false, go_nx]
    exact k4
  have k6 : b_law_k10_k6 (.list ((placesOf (timesOf hs r call)).map lstI)) (hs.map cardD) (.str (ruleS r)) (.list (iL call)) (lstI (headL (placesOf (timesOf hs r call)))) = .ok (.rt (.bool true)) := by
    unfold b_law_k10_k6
    simp only [bind_ok, mkLst_nil, lstD_ok, ofSeq_list, hg', go_nx]
    exact k5
  unfold m_law_k10 b_law_k10
  simp only [bind_ok, j3, pyAdd_int, hn, hrn, comp_ok]
  rw [hcards]
  simp only [bind_ok, hr, hcall, p', w', mkLst_nil, lstD_ok, ne_nilL, tst_bool, ei, pyNe_same (Sh.list (shA_ints (n := 0) _)), Bool.false_eq_true, if_false, go_nx]
  rw [k6]
  rfl
end BG
namespace BG
open PySem
theorem holds_tup (o l : List Int) : m_holds (tupI o) (tupI l) = .ok (.bool (sub o l)) := by
  have e : compO (fun d => eltO (Rs.ok true) (pyIn d (tupI l))) (iL o) = .ok ((o.map fun x => decide (x ∈ l)).map PyData.bool) := by
    rw [compO_map (e := PyData.int) (h := fun x => PyData.bool (decide (x ∈ l)))]
    · rw [List.map_map]; rfl
    · intro x _
      rw [pyIn_tup, eltO_true, bind_ok]
  unfold m_holds b_holds
  have e0 : ofSeq (tupI o) = .ok (iL o) := rfl
  simp only [bind_ok, e0, comp_ok, e, lstD_ok, pyAll_map, fin_rt]
  congr 2
  unfold sub
  rw [List.all_map]
  rfl
theorem enum_hall (hs : List (List (List Int))) : enumD (hs.map cardD) = (List.range hs.length).map fun (i : Nat) => PyData.tuple [.int (i : Int), cardD (hs.getD i [])] := by
  unfold enumD
  rw [List.length_map]
  refine List.map_congr_left fun i hi => ?_
  have hi := List.mem_range.mp hi
  simp [List.getD_eq_getElem?_getD, hi]
def otherK (hs : List (List (List Int))) (r idx : Nat) (ks : List Nat) : List (List Int) := (ks.filter fun k => !(k == idx)).flatMap fun k => linesOf (hs.getD k []) r
def otherOf (hs : List (List (List Int))) (r idx : Nat) : List (List Int) := otherK hs r idx (List.range hs.length)
theorem other_for {hs : List (List (List Int))} (H : Hall hs) {r idx : Nat} : ∀ {ks : List Nat} {acc : List (List Int)}, (∀ k ∈ ks, k < hs.length) → acc.length + 10 * ks.length ≤ 1000 →
    forO (fun (s2 : List D) d8 => un2 d8 (b_other_lines_b1 (.int (idx : Int)) (.str (ruleS r)) s2)) (ks.map fun (i : Nat) => PyData.tuple [.int (i : Int), cardD (hs.getD i [])]) (acc.map tupI) = .ok (.nx ((acc ++ otherK hs r idx ks).map tupI))
  | [], acc, _, _ => by simp [otherK]; rfl
  | k :: ks, acc, hk, hl => by
    simp only [List.length_cons] at hl
    have C := H.card (hk k (by simp))
    have few := (lines_are C r).few
    rw [List.map_cons]
    show (b_other_lines_b1 (.int (idx : Int)) (.str (ruleS r)) (acc.map tupI) (.int (k : Int)) (cardD (hs.getD k []))).go _ = _
    have nk : pyNe (.int (k : Int)) (.int (idx : Int)) = .ok (.bool (!(k == idx))) := by
      rw [pyNe_int]
      congr 3
      rw [Bool.eq_iff_iff]
      simp
      omega
    by_cases q : k = idx
    · have b : b_other_lines_b1 (.int (idx : Int)) (.str (ruleS r)) (acc.map tupI) (.int (k : Int)) (cardD (hs.getD k [])) = .ok (.nx (acc.map tupI)) := by
        unfold b_other_lines_b1
        have nq : (!(k == idx)) = false := by simp [q]
        simp only [bind_ok, nk, tst_bool, nq, Bool.false_eq_true, if_false, go_nx]
      rw [b, go_nx, other_for H (fun z hz => hk z (by simp [hz])) (by omega)]
      unfold otherK
      rw [List.filter_cons_of_neg (by simp [q])]
    · have b : b_other_lines_b1 (.int (idx : Int)) (.str (ruleS r)) (acc.map tupI) (.int (k : Int)) (cardD (hs.getD k [])) = .ok (.nx ((acc ++ linesOf (hs.getD k []) r).map tupI)) := by
        unfold b_other_lines_b1
        have nq : (!(k == idx)) = true := by simp [q]
        simp only [bind_ok, nk, tst_bool, nq, if_true, find_lines_ok C, ofSeq_list]
        rw [if_pos (by simp only [List.length_map]; unfold sizeMax; omega), go_nx, List.map_append]
      rw [b, go_nx, other_for H (fun z hz => hk z (by simp [hz])) (by rw [List.length_append]; omega)]
      unfold otherK
      rw [List.filter_cons_of_pos (by simp [q]), List.flatMap_cons, List.append_assoc]
theorem other_lines_ok {hs : List (List (List Int))} (H : Hall hs) (r idx : Nat) : m_other_lines (hallD hs) (.str (ruleS r)) (.int (idx : Int)) = .ok (.list ((otherOf hs r idx).map tupI)) := by
  have hi := H.hi
  have f := other_for H (r := r) (idx := idx) (ks := List.range hs.length) (acc := []) (fun k hk => List.mem_range.mp hk) (by simp; omega)
  have e3 : ofList (hallD hs) = .ok (hs.map cardD) := rfl
  unfold m_other_lines b_other_lines b_other_lines_k2
  simp only [bind_ok, mkLst_nil, e3, enum_hall]
  have f' : forO (fun (s2 : List D) d8 => un2 d8 (b_other_lines_b1 (.int (idx : Int)) (.str (ruleS r)) s2)) ((List.range hs.length).map fun (i : Nat) => PyData.tuple [.int (i : Int), cardD (hs.getD i [])]) [] = .ok (.nx ((otherOf hs r idx).map tupI)) := f
  rw [f', go_nx, fin_rt]
theorem mem_other {hs : List (List (List Int))} {r idx : Nat} {o : List Int} : o ∈ otherOf hs r idx ↔ ∃ k, k < hs.length ∧ k ≠ idx ∧ o ∈ linesOf (hs.getD k []) r := by
  unfold otherOf otherK
  rw [List.mem_flatMap]
  constructor
  · rintro ⟨k, hk, ho⟩
    obtain ⟨h1, h2⟩ := List.mem_filter.mp hk
    exact ⟨k, List.mem_range.mp h1, by simpa using h2, ho⟩
  · rintro ⟨k, h1, h2, ho⟩
    exact ⟨k, List.mem_filter.mpr ⟨List.mem_range.mpr h1, by simpa using h2⟩, ho⟩
def loneOf (ls known : List (List Int)) : List (List Int) := ls.filter fun l => !(known.any fun o => sub o l)
theorem mem_lone {ls known : List (List Int)} {l : List Int} : l ∈ loneOf ls known ↔ l ∈ ls ∧ ∀ o ∈ known, sub o l = false := by
  unfold loneOf
  rw [List.mem_filter]
  simp
theorem any_holds (known : List (List Int)) (l : List Int) : compO (fun d9 => eltO (Rs.ok true) (m_holds d9 (tupI l))) (known.map tupI) = .ok ((known.map fun o => sub o l).map PyData.bool) := by
  rw [compO_map (e := tupI) (h := fun o => PyData.bool (sub o l))]
  · rw [List.map_map]; rfl
  · intro o _
    rw [holds_tup, eltO_true, bind_ok]
theorem lone_lines_ok {rows : List (List Int)} (C : Card rows) (r : Nat) (known : List (List Int)) : m_lone_lines (cardD rows) (.list (known.map tupI)) (.str (ruleS r)) = .ok (.list ((loneOf (linesOf rows r) known).map tupI)) := by
  unfold m_lone_lines b_lone_lines
  simp only [bind_ok, find_lines_ok C, ofSeq_list, comp_ok]
  rw [compO_filter (e := tupI) (p := fun l => !(known.any fun o => sub o l)) (h := tupI)]
  · rfl
  · intro l _
    simp only [any_holds, lstD_ok, bind_ok, pyAny_map, tst_bool, notT_ok, eltO_ok]
    rw [List.any_map]
    rfl
def shLt (y a : List Int) : Bool := decide (y.length < a.length) || (decide (y.length = a.length) && ltL y a)
theorem shLt_o : StrictO shLt := by
  refine ⟨fun a => by simp [shLt, ltL_irr], fun a b c h1 h2 => ?_, fun a b h1 h2 => ?_⟩
  · simp only [shLt, Bool.or_eq_true, Bool.and_eq_true, decide_eq_true_eq] at *
    rcases h1 with h1 | ⟨h1, g1⟩
    · rcases h2 with h2 | ⟨h2, g2⟩ <;> exact .inl (by omega)
    · rcases h2 with h2 | ⟨h2, g2⟩
      · exact .inl (by omega)
      · exact .inr ⟨by omega, ltL_tr a b c g1 g2⟩
  · simp only [shLt, Bool.or_eq_false_iff, Bool.and_eq_false_iff, decide_eq_false_iff_not] at *
    have e : a.length = b.length := by omega
    rcases h1.2 with q | q
    · exact absurd e q
    · rcases h2.2 with q2 | q2
      · exact absurd e.symm q2
      · exact ltL_tri a b q q2
def minF {α : Type} (lt : α → α → Bool) (x : α) (xs : List α) : α := xs.foldl (fun a y => if lt y a = true then y else a) x
theorem minF_ok {α : Type} {lt : α → α → Bool} (o : StrictO lt) : ∀ (xs : List α) (x : α), minF lt x xs ∈ x :: xs ∧ ∀ y ∈ x :: xs, lt y (minF lt x xs) = false
  | [], x => ⟨by simp [minF], fun y hy => by
    rw [List.mem_singleton.mp hy]
    exact o.irr x⟩
  | z :: xs, x => by
    have e : minF lt x (z :: xs) = minF lt (if lt z x = true then z else x) xs := rfl
    obtain ⟨h1, h2⟩ := minF_ok o xs (if lt z x = true then z else x)
    rw [e]
    generalize hm : minF lt (if lt z x = true then z else x) xs = m at *
    have h0 := h2 _ (List.mem_cons_self)
    by_cases q : lt z x = true
    · rw [if_pos q] at *
      refine ⟨by rcases List.mem_cons.mp h1 with h | h <;> simp [h], fun y hy => ?_⟩
      rcases List.mem_cons.mp hy with rfl | hy
      · by_cases z1 : lt y m = true
        · rw [o.tr z y m q z1] at h0
          cases h0
        · exact Bool.eq_false_iff.mpr z1
      · exact h2 y hy
    · rw [if_neg q] at *
      refine ⟨by rcases List.mem_cons.mp h1 with h | h <;> simp [h], fun y hy => ?_⟩
      rcases List.mem_cons.mp hy with rfl | hy
      · exact h0
      · rcases List.mem_cons.mp hy with rfl | hy
        · by_cases z1 : lt y m = true
          · -- y < m ≤ x, not y < x
            by_cases z2 : lt m x = true
            · exact absurd (o.tr y m x z1 z2) q
            · have := o.tri m x (Bool.eq_false_iff.mpr z2) h0
              rw [this] at z1
              exact absurd z1 q
          · exact Bool.eq_false_iff.mpr z1
        · exact h2 y (List.mem_cons_of_mem _ hy)
def shortOf : List (List Int) → Option (List Int)
  | [] => none
  | l :: ls => some (minF shLt l ls)
def optD : Option (List Int) → D
  | none => .none
  | some l => lstI l
theorem short_some {ls : List (List Int)} {l : List Int} (h : shortOf ls = some l) : l ∈ ls ∧ ∀ m ∈ ls, shLt m l = false := by
  cases ls with
  | nil => cases h
  | cons x xs =>
    cases h
    exact minF_ok shLt_o xs x
theorem short_none {ls : List (List Int)} : shortOf ls = none ↔ ls = [] := by
  cases ls with
  | nil => simp [shortOf]
  | cons x xs => simp [shortOf]
def pairL (l : List Int) : D := .tuple [.int (l.length : Int), tupI l]
theorem alike_tup (a b : List Int) : PySem.W.alike (tupI a) (tupI b) = true := alike_tupI a b
theorem alike_pair (a b : List Int) : PySem.W.alike (pairL a) (pairL b) = true := by
  have h := alike_tupI a b
  simp only [pairL, PySem.W.alike, PySem.W.alikeAll, Bool.and_true]
  simpa [PySem.W.alike] using h
theorem depthA_le {n : Nat} {ds : List D} (h : ShA n ds) : PyData.depthAll ds ≤ n := h.2
theorem sh_pair {n : Nat} (l : List Int) : Sh (n + 2) (pairL l) := Sh.tuple (ShA.cons (Sh.int _) (ShA.cons (sh_tupI l) ShA.nil))
theorem alikeB_pairs (ls : List (List Int)) : alikeB (ls.map pairL) = true := by
  unfold alikeB
  rw [Bool.and_eq_true, Bool.and_eq_true]
  refine ⟨⟨List.all_eq_true.mpr fun x hx => List.all_eq_true.mpr fun y hy => ?_, List.all_eq_true.mpr fun x hx => ?_⟩, decide_eq_true (Nat.le_trans (depthA_le (n := 2) (ShA.of fun d hd => ?_)) (by decide))⟩
  · obtain ⟨a, _, rfl⟩ := List.mem_map.mp hx
    obtain ⟨b, _, rfl⟩ := List.mem_map.mp hy
    exact alike_pair a b
  · obtain ⟨a, _, rfl⟩ := List.mem_map.mp hx
    rfl
  · obtain ⟨a, _, rfl⟩ := List.mem_map.mp hd
    exact sh_pair (n := 0) a
theorem pair_lt (a b : List Int) : PySem.W.dataLt (pairL a) (pairL b) = shLt a b := by
  unfold pairL
  rw [PySem.W.dataLt_pair rfl (alike_tupI a b)]
  have e1 : PyData.eqv (.int (a.length : Int)) (.int (b.length : Int)) = decide (a.length = b.length) := by
    simp only [PyData.eqv]
    rw [Bool.eq_iff_iff]
    simp
    omega
  rw [e1, PySem.W.dataLt_int, dataLt_tupI]
  unfold shLt
  by_cases q : a.length = b.length
  · simp only [q, decide_true, if_true, Nat.lt_irrefl, decide_false, Bool.false_or, Bool.true_and]
    split
    · rename_i h
      have : a = b := by
        rw [eqv_tupI] at h
        exact of_decide_eq_true h
      rw [this, ltL_irr]
    · rfl
  · simp only [q, decide_false, Bool.false_eq_true, if_false, Bool.false_and, Bool.or_false]
    rw [Bool.eq_iff_iff]
    simp
theorem minD_map {α : Type} {enc : α → D} {lt : α → α → Bool} (h : ∀ a b, PySem.W.dataLt (enc a) (enc b) = lt a b) (xs : List α) : ∀ (x : α), PySem.W.minD (enc x) (xs.map enc) = enc (minF lt x xs) := by
  induction xs with
  | nil => intro x; rfl
  | cons y ys ih =>
    intro x
    show PySem.W.minD (if PySem.W.dataLt (enc y) (enc x) = true then enc y else enc x) (ys.map enc) = _
    rw [h]
    have e : (if lt y x = true then enc y else enc x) = enc (if lt y x = true then y else x) := by split <;> rfl
    rw [e, ih]
    rfl
theorem pyMinD_pairs (l : List Int) (ls : List (List Int)) : pyMinD (.list ((l :: ls).map pairL)) = .ok (pairL (minF shLt l ls)) := by
  have ha := alikeB_pairs (l :: ls)
  rw [List.map_cons] at ha ⊢
  show (if alikeB (pairL l :: ls.map pairL) = true then Rs.ok (PySem.W.minD (pairL l) (ls.map pairL)) else .bad) = _
  rw [if_pos ha, minD_map pair_lt]
theorem comp_pairs (ls : List (List Int)) : compO (fun d40 => eltO (Rs.ok true) ((((Rs.ok d40).bind pyLen).bind fun x43 => ((Rs.ok d40).bind fun x41 => (Rs.ok []).bind fun x42 => Rs.ok (x41 :: x42)).bind fun x44 => Rs.ok (x43 :: x44)).bind mkTup)) (ls.map tupI) = .ok (ls.map pairL) :=
  compO_map fun l _ => by
    have e : pyLen (tupI l) = .ok (.int (l.length : Int)) := by
      unfold tupI
      simp
    simp only [bind_ok, e, mkTup2, eltO_true]
    rfl
theorem shortest_ok (ls : List (List Int)) : m_shortest (.list (ls.map tupI)) = .ok (optD (shortOf ls)) := by
  unfold m_shortest b_shortest
  simp only [bind_ok (PyData.list (ls.map tupI)), ofSeq_list, comp_ok, comp_pairs]
  cases ls with
  | nil =>
    simp only [List.map_nil, bind_ok, mkLst_nil, lstD_ok]
    rfl
  | cons l ls =>
    have ix : pyIx (pairL (minF shLt l ls)) (.int 1) = .ok (tupI (minF shLt l ls)) := rfl
    have el : pyList (tupI (minF shLt l ls)) = .ok (iL (minF shLt l ls)) := rfl
    simp only [bind_ok, mkLst_nil, lstD_ok, ne_nilT, tst_bool, pyMinD_pairs, ix, el]
    rfl
end BG
namespace BG
open PySem
theorem is_int_nat {i n : Nat} (h : i < n) : m_is_int (.int (i : Int)) (.int 0) (.int ((n : Int) - 1)) = .ok (.bool true) := by
  rw [is_int_ok]
  have h1 : (0 : Int) ≤ (i : Int) := by omega
  have h2 : (i : Int) ≤ (n : Int) - 1 := by omega
  simp [h1, h2]
theorem check_index_ok {hs : List (List (List Int))} (H : Hall hs) (r : Nat) {i : Nat} (h : i < hs.length) : m_check_index (hallD hs) (.str (ruleS r)) (.int (i : Int)) = .ok .none := by
  have e : pyLen (hallD hs) = .ok (.int (hs.length : Int)) := by simp
  unfold m_check_index b_check_index
  simp only [bind_ok, check_cards_ok H, e, pySub_int, is_int_nat h, tst_bool, notT_ok, Bool.not_true, Bool.false_eq_true, if_false, go_nx, fin_nx]
abbrev loneI (hs : List (List (List Int))) (r i : Nat) : List (List Int) := loneOf (linesOf (hs.getD i []) r) (otherOf hs r i)
theorem ix_hallD {hs : List (List (List Int))} {i : Nat} (h : i < hs.length) : pyIx (hallD hs) (.int (i : Int)) = .ok (cardD (hs.getD i [])) := ix_hall h
theorem can_win_alone_ok {hs : List (List (List Int))} (H : Hall hs) (r : Nat) {i : Nat} (h : i < hs.length) : m_can_win_alone (hallD hs) (.str (ruleS r)) (.int (i : Int)) = .ok (.bool (!decide (loneI hs r i = []))) := by
  unfold m_can_win_alone b_can_win_alone
  simp only [bind_ok, check_index_ok H r h, ix_hallD h, other_lines_ok H, lone_lines_ok (H.card h), mkLst_nil, lstD_ok, ne_nilT, fin_rt]
theorem winning_call_ok {hs : List (List (List Int))} (H : Hall hs) (r : Nat) {i : Nat} (h : i < hs.length) : m_winning_call (hallD hs) (.str (ruleS r)) (.int (i : Int)) = .ok (optD (shortOf (loneI hs r i))) := by
  unfold m_winning_call b_winning_call
  simp only [bind_ok, check_index_ok H r h, ix_hallD h, other_lines_ok H, lone_lines_ok (H.card h), shortest_ok, fin_rt]
def nearB (known : List (List Int)) (l : List Int) : Bool := l.any fun n => (known.filter fun o => sub o l).all fun o => decide (n ∈ o)
def canWinB (ls known : List (List Int)) : Bool := ls.any fun l => nearB known l
theorem can_win_b1 (known : List (List Int)) (l : List Int) : b_can_win_b1 (.list (known.map tupI)) () (tupI l) = if nearB known l = true then .ok (.rt (.bool true)) else .ok (.nx ()) := by
  have e1 : compO (fun d23 => eltO (tst (m_holds d23 (tupI l))) (Rs.ok d23)) (known.map tupI) = .ok ((known.filter fun o => sub o l).map tupI) :=
    compO_filter fun o _ => by rw [holds_tup, tst_bool, eltO_ok]
  have e2 : compO (fun d33 => eltO (Rs.ok true) ((lstD (compO (fun d37 => eltO (Rs.ok true) (pyIn d33 d37)) ((known.filter fun o => sub o l).map tupI))).bind pyAll)) (iL l) = .ok ((l.map fun n => (known.filter fun o => sub o l).all fun o => decide (n ∈ o)).map PyData.bool) := by
    rw [compO_map (e := PyData.int) (h := fun n => PyData.bool ((known.filter fun o => sub o l).all fun o => decide (n ∈ o)))]
    · rw [List.map_map]; rfl
    · intro n _
      rw [compO_map (e := tupI) (h := fun o => PyData.bool (decide (n ∈ o)))]
      · have q : ((known.filter fun o => sub o l).map fun o => PyData.bool (decide (n ∈ o))) = ((known.filter fun o => sub o l).map fun o => decide (n ∈ o)).map PyData.bool := by rw [List.map_map]; rfl
        rw [q, lstD_ok, bind_ok, pyAll_map, eltO_true, bind_ok, List.all_map]
        rfl
      · intro o _
        rw [pyIn_tup, eltO_true, bind_ok]
  have e3 : ofSeq (tupI l) = .ok (iL l) := rfl
  unfold b_can_win_b1
  simp only [bind_ok, ofSeq_list, comp_ok, e1, e3, e2, lstD_ok, pyAny_map, tst_bool]
  rw [List.any_map]
  have q : (l.any (id ∘ fun n => (known.filter fun o => sub o l).all fun o => decide (n ∈ o))) = nearB known l := rfl
  rw [q]
  by_cases z : nearB known l = true
  · simp only [z, if_true, go_rt]
  · simp only [z, Bool.false_eq_true, if_false, go_nx]
theorem can_win_for (known : List (List Int)) : ∀ ls : List (List Int), forO (b_can_win_b1 (.list (known.map tupI))) (ls.map tupI) () = if canWinB ls known = true then .ok (.rt (.bool true)) else .ok (.nx ())
  | [] => rfl
  | l :: ls => by
    rw [List.map_cons]
    show (b_can_win_b1 (.list (known.map tupI)) () (tupI l)).go _ = _
    rw [can_win_b1]
    by_cases z : nearB known l = true
    · rw [if_pos z, go_rt, if_pos (by simp [canWinB, z])]
    · rw [if_neg z, go_nx, can_win_for known ls]
      have : canWinB (l :: ls) known = canWinB ls known := by
        unfold canWinB
        rw [List.any_cons, Bool.eq_false_iff.mpr z, Bool.false_or]
      rw [this]
theorem can_win_ok {hs : List (List (List Int))} (H : Hall hs) (r : Nat) {i : Nat} (h : i < hs.length) : m_can_win (hallD hs) (.str (ruleS r)) (.int (i : Int)) = .ok (.bool (canWinB (linesOf (hs.getD i []) r) (otherOf hs r i))) := by
  unfold m_can_win b_can_win b_can_win_k2
  simp only [bind_ok, check_index_ok H r h, ix_hallD h, other_lines_ok H, find_lines_ok (H.card h), ofSeq_list, can_win_for]
  by_cases z : canWinB (linesOf (hs.getD i []) r) (otherOf hs r i) = true
  · rw [if_pos z, go_rt, fin_rt, z]
  · rw [if_neg z, go_nx, fin_rt, Bool.eq_false_iff.mpr z]
theorem find_later_ok {one other : List (List Int)} (C1 : Card one) (C2 : Card other) (r : Nat) : m_find_later (cardD one) (cardD other) (.str (ruleS r)) = .ok (.list ((loneOf (linesOf other r) (linesOf one r)).map tupI)) := by
  unfold m_find_later b_find_later
  simp only [bind_ok, check_card_ok C1, check_card_ok C2, check_rule_ok, find_lines_ok C1, lone_lines_ok C2, fin_rt]
theorem is_never_later_ok {one other : List (List Int)} (C1 : Card one) (C2 : Card other) (r : Nat) : m_is_never_later (cardD one) (cardD other) (.str (ruleS r)) = .ok (.bool (decide (loneOf (linesOf other r) (linesOf one r) = []))) := by
  unfold m_is_never_later b_is_never_later
  simp only [bind_ok, find_later_ok C1 C2, mkLst_nil, lstD_ok, eq_nilT, fin_rt]
theorem later_call_ok {one other : List (List Int)} (C1 : Card one) (C2 : Card other) (r : Nat) : m_later_call (cardD one) (cardD other) (.str (ruleS r)) = .ok (optD (shortOf (loneOf (linesOf other r) (linesOf one r)))) := by
  unfold m_later_call b_later_call
  simp only [bind_ok, find_later_ok C1 C2, shortest_ok, fin_rt]
theorem lines_some {rows : List (List Int)} (C : Card rows) (r : Nat) : linesOf rows r ≠ [] := by
  have h : 0 < rows.length := by have := C.lo; omega
  refine List.ne_nil_of_mem (mem_lines.mpr ⟨rows.getD 0 [], ?_, rfl⟩)
  unfold srcOf
  exact List.mem_append_left _ (List.mem_append_left _ (getD_mem h))
/-- a line within another one of no greater length: all of it -/
theorem sub_all {o l : List Int} (ho : o.Nodup) (hs : ∀ x ∈ o, x ∈ l) (hl : l.length ≤ o.length) : ∀ x ∈ l, x ∈ o := fun x hx => by
  refine Classical.byContradiction fun q => ?_
  have := nodup_sub (l := o) (m := l.erase x) ho fun y hy => (List.mem_erase_of_ne (fun e => q (by rw [← e]; exact hy))).mpr (hs y hy)
  rw [List.length_erase_of_mem hx] at this
  have : 0 < l.length := List.length_pos_of_mem hx
  omega
theorem lone_nil {ls known : List (List Int)} : loneOf ls known = [] ↔ ∀ l ∈ ls, ∃ o ∈ known, sub o l = true := by
  rw [List.eq_nil_iff_forall_not_mem]
  constructor
  · intro h l hl
    refine Classical.byContradiction fun q => h l (mem_lone.mpr ⟨hl, fun o ho => ?_⟩)
    exact Bool.eq_false_iff.mpr fun z => q ⟨o, ho, z⟩
  · intro h l hl
    obtain ⟨h1, h2⟩ := mem_lone.mp hl
    obtain ⟨o, ho, z⟩ := h l h1
    rw [h2 o ho] at z
    cases z
theorem sub_trans {a b c : List Int} (h1 : sub a b = true) (h2 : sub b c = true) : sub a c = true := sub_iff.mpr fun x hx => sub_iff.mp h2 x (sub_iff.mp h1 x hx)
/-- the shortest lone line finishes its card at its end -/
theorem lone_time {rows : List (List Int)} (C : Card rows) {r : Nat} {known : List (List Int)} {l : List Int} (h : shortOf (loneOf (linesOf rows r) known) = some l) : timeOf (linesOf rows r) l = some l.length := by
  obtain ⟨hm, hmin⟩ := short_some h
  obtain ⟨hl, hno⟩ := mem_lone.mp hm
  have L := lines_are C r
  have hne : 1 ≤ l.length := List.length_pos_iff.mpr (L.ne l hl)
  refine timeOf_some hne (Nat.le_refl _) ?_ fun s h1 h2 => Bool.eq_false_iff.mpr fun z => ?_
  · rw [List.take_length]
    exact someIn_iff.mpr ⟨l, hl, fun x hx => hx⟩
  · obtain ⟨m, hm', hs⟩ := someIn_iff.mp z
    have hsl : sub m l = true := sub_iff.mpr fun x hx => List.mem_of_mem_take (hs x hx)
    have hml : m ∈ loneOf (linesOf rows r) known := mem_lone.mpr ⟨hm', fun o ho => Bool.eq_false_iff.mpr fun q => by
      have := sub_trans q hsl
      rw [hno o ho] at this
      cases this⟩
    have hlt := hmin m hml
    have len := nodup_sub (L.nd m hm') hs
    rw [List.length_take] at len
    have : shLt m l = true := by
      unfold shLt
      rw [decide_eq_true (show m.length < l.length by omega), Bool.true_or]
    rw [this] at hlt
    cases hlt
theorem lone_out {ls known : List (List Int)} {l : List Int} (h : shortOf (loneOf ls known) = some l) {os : List (List Int)} (hos : ∀ o ∈ os, o ∈ known) : timeOf os l = none := by
  obtain ⟨hm, _⟩ := short_some h
  obtain ⟨_, hno⟩ := mem_lone.mp hm
  refine timeOf_none (Bool.eq_false_iff.mpr fun z => ?_)
  obtain ⟨o, ho, hs⟩ := someIn_iff.mp z
  have := hno o (hos o ho)
  rw [sub_iff.mpr hs] at this
  cases this
/-- whoever can win alone can win -/
theorem lone_win {rows : List (List Int)} (C : Card rows) {r : Nat} {known : List (List Int)} {l : List Int} (h : l ∈ loneOf (linesOf rows r) known) : canWinB (linesOf rows r) known = true := by
  obtain ⟨hl, hno⟩ := mem_lone.mp h
  have L := lines_are C r
  obtain ⟨n, hn⟩ := List.exists_mem_of_ne_nil l (L.ne l hl)
  refine List.any_eq_true.mpr ⟨l, hl, List.any_eq_true.mpr ⟨n, hn, List.all_eq_true.mpr fun o ho => ?_⟩⟩
  obtain ⟨h1, h2⟩ := List.mem_filter.mp ho
  rw [hno o h1] at h2
  cases h2
theorem nat_least {P : Nat → Prop} (h : ∃ n, P n) : ∃ n, P n ∧ ∀ m, P m → n ≤ m := by
  obtain ⟨n, hn⟩ := h
  induction n using Nat.strongRecOn with
  | ind n ih =>
    by_cases q : ∃ m, m < n ∧ P m
    · obtain ⟨m, hm, pm⟩ := q
      exact ih m hm pm
    · exact ⟨n, hn, fun m pm => Classical.byContradiction fun z => q ⟨m, by omega, pm⟩⟩
/-- some card can always win -/
theorem some_win {hs : List (List (List Int))} (H : Hall hs) (r : Nat) : ∃ i, i < hs.length ∧ canWinB (linesOf (hs.getD i []) r) (otherOf hs r i) = true := by
  have h0 : 0 < hs.length := H.lo
  have L0 := lines_are (H.card h0) r
  obtain ⟨l0, hl0⟩ := List.exists_mem_of_ne_nil _ (lines_some (H.card h0) r)
  obtain ⟨n, ⟨i, l, hi, hl, rfl⟩, hmin⟩ := nat_least (P := fun n => ∃ i l, i < hs.length ∧ l ∈ linesOf (hs.getD i []) r ∧ l.length = n) ⟨_, 0, l0, h0, hl0, rfl⟩
  have L := lines_are (H.card hi) r
  obtain ⟨x, hx⟩ := List.exists_mem_of_ne_nil l (L.ne l hl)
  refine ⟨i, hi, List.any_eq_true.mpr ⟨l, hl, List.any_eq_true.mpr ⟨x, hx, List.all_eq_true.mpr fun o ho => decide_eq_true ?_⟩⟩⟩
  obtain ⟨h1, h2⟩ := List.mem_filter.mp ho
  obtain ⟨k, hk, _, hok⟩ := mem_other.mp h1
  exact sub_all ((lines_are (H.card hk) r).nd o hok) (sub_iff.mp h2) (hmin _ ⟨k, o, hk, hok, rfl⟩) x hx
end BG
namespace BG
open PySem
def Hit (X : List Int) (ls : List (List Int)) : Prop := ∀ l ∈ ls, ∃ x ∈ l, x ∈ X
def CanHit (ls : List (List Int)) (m : Nat) : Prop := ∃ X : List Int, Hit X ls ∧ X.length ≤ m
def apartOf : List (List Int) → List Int → Nat
  | [], _ => 0
  | l :: ls, t => if (l.any fun x => decide (x ∈ t)) = true then apartOf ls t else 1 + apartOf ls (t ++ l)
theorem apart_b1 (t : List Int) (n : Nat) (l : List Int) (h : t.length + l.length ≤ 10000) : b_count_apart_b1 (iL t, .int (n : Int)) (tupI l) = .ok (.nx (if (l.any fun x => decide (x ∈ t)) = true then (iL t, .int (n : Int)) else (iL (t ++ l), .int ((n + 1 : Nat) : Int)))) := by
  have e0 : ofSeq (tupI l) = .ok (iL l) := rfl
  have e1 : compO (fun d9 => eltO (Rs.ok true) (pyIn d9 (.list (iL t)))) (iL l) = .ok ((l.map fun x => decide (x ∈ t)).map PyData.bool) := by
    rw [compO_map (e := PyData.int) (h := fun x => PyData.bool (decide (x ∈ t)))]
    · rw [List.map_map]; rfl
    · intro x _
      rw [pyIn_list, eltO_true, bind_ok]
  have e2 : (l.map fun x => decide (x ∈ t)).any id = l.any fun x => decide (x ∈ t) := by rw [List.any_map]; rfl
  unfold b_count_apart_b1
  simp only [bind_ok, e0, comp_ok, e1, lstD_ok, pyAny_map, e2, tst_bool, notT_ok]
  by_cases q : (l.any fun x => decide (x ∈ t)) = true
  · rw [q]
    simp only [Bool.not_true, Bool.false_eq_true, if_false, go_nx, if_true]
  · rw [Bool.eq_false_iff.mpr q]
    simp only [Bool.not_false, if_true, Bool.false_eq_true, if_false]
    rw [if_pos (by unfold sizeMax; simp [iL]; omega)]
    simp only [pyAdd_int, bind_ok, go_nx]
    simp [iL]
theorem apart_for : ∀ (ls : List (List Int)) (t : List Int) (n : Nat), (∀ l ∈ ls, l.length ≤ 60) → t.length + 60 * ls.length ≤ 10000 → ∃ t' : List D, forO b_count_apart_b1 (ls.map tupI) (iL t, .int (n : Int)) = .ok (.nx (t', .int ((n + apartOf ls t : Nat) : Int)))
  | [], t, n, _, _ => ⟨_, rfl⟩
  | l :: ls, t, n, h1, h2 => by
    simp only [List.length_cons] at h2
    have hl := h1 l (by simp)
    show ∃ t' : List D, (b_count_apart_b1 (iL t, .int (n : Int)) (tupI l)).go _ = _
    rw [apart_b1 t n l (by omega), go_nx]
    unfold apartOf
    by_cases q : (l.any fun x => decide (x ∈ t)) = true
    · rw [if_pos q, if_pos q]
      exact apart_for ls t n (fun l hl => h1 l (by simp [hl])) (by omega)
    · rw [if_neg q, if_neg q]
      obtain ⟨t', e⟩ := apart_for ls (t ++ l) (n + 1) (fun l hl => h1 l (by simp [hl])) (by rw [List.length_append]; omega)
      refine ⟨t', ?_⟩
      rw [e]
      congr 5
      omega
theorem count_apart_ok {ls : List (List Int)} (h1 : ∀ l ∈ ls, l.length ≤ 60) (h2 : ls.length ≤ 100) : m_count_apart (.list (ls.map tupI)) = .ok (.int (apartOf ls [] : Nat)) := by
  obtain ⟨t', e⟩ := apart_for ls [] 0 h1 (by simp; omega)
  have e' : forO b_count_apart_b1 (ls.map tupI) ([], .int 0) = .ok (.nx (t', .int ((0 + apartOf ls [] : Nat) : Int))) := e
  unfold m_count_apart b_count_apart
  simp only [bind_ok, mkLst_nil, ofSeq_list, e', go_nx, fin_rt, Nat.zero_add]
theorem filter_less {p q : Int → Bool} (hpq : ∀ x, p x = true → q x = true) : ∀ {X : List Int} {x : Int}, x ∈ X → q x = true → p x = false → 1 + (X.filter p).length ≤ (X.filter q).length
  | y :: X, x, hx, h1, h2 => by
    have sub : ∀ X : List Int, (X.filter p).length ≤ (X.filter q).length := fun X => by
      induction X with
      | nil => simp
      | cons z Z ih =>
        rw [List.filter_cons, List.filter_cons]
        by_cases hz : p z = true
        · rw [if_pos hz, if_pos (hpq z hz)]
          simpa using ih
        · rw [if_neg hz]
          split
          · simp; omega
          · exact ih
    rcases List.mem_cons.mp hx with rfl | hx
    · rw [List.filter_cons, List.filter_cons, if_pos h1, if_neg (by simp [h2])]
      have := sub X
      simp
      omega
    · have := filter_less hpq hx h1 h2
      rw [List.filter_cons, List.filter_cons]
      by_cases hy : p y = true
      · rw [if_pos hy, if_pos (hpq y hy)]
        simp
        omega
      · rw [if_neg hy]
        split
        · simp; omega
        · exact this
theorem apart_le : ∀ {ls : List (List Int)} {t X : List Int}, Hit X ls → apartOf ls t ≤ (X.filter fun x => !decide (x ∈ t)).length
  | [], t, X, _ => Nat.zero_le _
  | l :: ls, t, X, h => by
    unfold apartOf
    split
    · exact apart_le fun m hm => h m (by simp [hm])
    · rename_i q
      have ih := apart_le (ls := ls) (t := t ++ l) (X := X) fun m hm => h m (by simp [hm])
      obtain ⟨x, hx, hX⟩ := h l (by simp)
      have hxt : x ∉ t := fun z => q (List.any_eq_true.mpr ⟨x, hx, decide_eq_true z⟩)
      have := filter_less (p := fun x => !decide (x ∈ t ++ l)) (q := fun x => !decide (x ∈ t)) (fun y hy => by
        simp at hy ⊢
        exact hy.1) hX (by simp [hxt]) (by simp [hx])
      omega
theorem apart_low {ls : List (List Int)} {m : Nat} (h : CanHit ls m) : apartOf ls [] ≤ m := by
  obtain ⟨X, h1, h2⟩ := h
  have := apart_le (t := []) h1
  have := List.length_filter_le (fun x : Int => !decide (x ∈ ([] : List Int))) X
  omega
theorem apart_pos (l : List Int) (ls : List (List Int)) : 1 ≤ apartOf (l :: ls) [] := by
  unfold apartOf
  rw [if_neg (by simp)]
  omega
def leftOf (ls : List (List Int)) (n : Int) : List (List Int) := ls.filter fun l => !decide (n ∈ l)
theorem hit_step {l : List Int} {ls : List (List Int)} {m : Nat} : CanHit (l :: ls) (m + 1) ↔ ∃ n ∈ l, CanHit (leftOf (l :: ls) n) m := by
  constructor
  · rintro ⟨X, h1, h2⟩
    obtain ⟨n, hn, hX⟩ := h1 l (by simp)
    refine ⟨n, hn, X.erase n, fun k hk => ?_, ?_⟩
    · obtain ⟨g1, g2⟩ := List.mem_filter.mp hk
      obtain ⟨x, hx, hxX⟩ := h1 k g1
      have hne : x ≠ n := fun e => by
        rw [e] at hx
        simp [hx] at g2
      exact ⟨x, hx, (List.mem_erase_of_ne hne).mpr hxX⟩
    · rw [List.length_erase_of_mem hX]
      omega
  · rintro ⟨n, hn, X, h1, h2⟩
    refine ⟨n :: X, fun k hk => ?_, by simp; omega⟩
    by_cases q : n ∈ k
    · exact ⟨n, q, by simp⟩
    · obtain ⟨x, hx, hX⟩ := h1 k (List.mem_filter.mpr ⟨hk, by simp [q]⟩)
      exact ⟨x, hx, by simp [hX]⟩
theorem comp_left (n : Int) (ls : List (List Int)) : compO (fun d28 => eltO (tst (pyNotIn (.int n) d28)) (Rs.ok d28)) (ls.map tupI) = .ok ((leftOf ls n).map tupI) :=
  compO_filter fun l _ => by rw [pyNotIn_tup, tst_bool, eltO_ok]
open Classical in
noncomputable def canB (ls : List (List Int)) (m : Nat) : Bool := decide (CanHit ls m)
theorem canB_iff {ls : List (List Int)} {m : Nat} : canB ls m = true ↔ CanHit ls m := by
  unfold canB
  exact @decide_eq_true_iff _ (Classical.propDecidable _)
theorem can_meet_n_ok : ∀ (n m : Nat) (ls : List (List Int)), m < n → (∀ l ∈ ls, l.length ≤ 60) → ls.length ≤ 100 → m_can_meet_n n (.list (ls.map tupI)) (.int (m : Int)) = .ok (.bool (canB ls m))
  | 0, m, ls, h, _, _ => absurd h (Nat.not_lt_zero _)
  | n + 1, m, ls, h, h1, h2 => by
    show (b_can_meet (m_can_meet_n n) (.list (ls.map tupI)) (.int (m : Int))).fin = _
    unfold b_can_meet
    simp only [bind_ok, mkLst_nil, lstD_ok, eq_nilT, tst_bool]
    cases ls with
    | nil =>
      have : canB [] m = true := canB_iff.mpr ⟨[], fun l hl => (by cases hl), Nat.zero_le _⟩
      rw [this]
      simp only [decide_true, if_true, go_rt, fin_rt]
    | cons l ls =>
      rw [decide_eq_false (by simp)]
      simp only [Bool.false_eq_true, if_false, go_nx]
      unfold b_can_meet_k2
      simp only [bind_ok, count_apart_ok h1 h2, pyGt_int, tst_bool]
      by_cases q : m < apartOf (l :: ls) []
      · have : canB (l :: ls) m = false := Bool.eq_false_iff.mpr fun z => by
          have := apart_low (canB_iff.mp z)
          omega
        rw [this, if_pos (decide_eq_true (by omega)), go_rt, fin_rt]
      · have ap := apart_pos l ls
        obtain ⟨k, rfl⟩ : ∃ k, m = k + 1 := ⟨m - 1, by omega⟩
        rw [if_neg (by simp; omega), go_nx]
        unfold b_can_meet_k1
        have ix : pyIx (.list ((l :: ls).map tupI)) (.int 0) = .ok (tupI l) := by
          rw [show (PyData.int 0) = PyData.int ((0 : Nat) : Int) from rfl, pyIx_list (by simp)]
          rfl
        have e0 : ofSeq (tupI l) = .ok (iL l) := rfl
        have es : ((k + 1 : Nat) : Int) - 1 = (k : Int) := by omega
        simp only [bind_ok, ix, e0, comp_ok, ofSeq_list, comp_left, lstD_ok, pySub_int, es]
        rw [compO_map (e := PyData.int) (h := fun x => PyData.bool (canB (leftOf (l :: ls) x) k))]
        · have e : (l.map fun x => PyData.bool (canB (leftOf (l :: ls) x) k)) = (l.map fun x => canB (leftOf (l :: ls) x) k).map PyData.bool := by rw [List.map_map]; rfl
          rw [e, lstD_ok, bind_ok, pyAny_map, bind_ok, fin_rt]
          congr 2
          rw [List.any_map, Bool.eq_iff_iff, canB_iff, hit_step, List.any_eq_true]
          constructor
          · rintro ⟨x, hx, hb⟩
            exact ⟨x, hx, canB_iff.mp hb⟩
          · rintro ⟨x, hx, hb⟩
            exact ⟨x, hx, canB_iff.mpr hb⟩
        · intro x _
          rw [comp_left, lstD_ok, bind_ok, can_meet_n_ok n k (leftOf (l :: ls) x) (by omega) (fun z hz => h1 z (List.mem_filter.mp hz).1) (Nat.le_trans (List.length_filter_le _ _) h2), eltO_true, bind_ok]
theorem can_meet_ok {ls : List (List Int)} {m : Nat} (h : m < 24) (h1 : ∀ l ∈ ls, l.length ≤ 60) (h2 : ls.length ≤ 100) : m_can_meet (.list (ls.map tupI)) (.int (m : Int)) = .ok (.bool (canB ls m)) := can_meet_n_ok 24 m ls h h1 h2
structure Few (ls : List (List Int)) (f : Nat) : Prop where
  can : CanHit ls f
  low : ∀ m, CanHit ls m → f ≤ m
theorem can_all : ∀ {ls : List (List Int)}, (∀ l ∈ ls, l ≠ []) → CanHit ls ls.length
  | [], _ => ⟨[], fun l hl => (by cases hl), Nat.le_refl _⟩
  | l :: ls, h => by
    obtain ⟨X, h1, h2⟩ := can_all (ls := ls) fun m hm => h m (by simp [hm])
    obtain ⟨x, hx⟩ := List.exists_mem_of_ne_nil l (h l (by simp))
    refine ⟨x :: X, fun k hk => ?_, by simpa using h2⟩
    rcases List.mem_cons.mp hk with rfl | hk
    · exact ⟨x, hx, by simp⟩
    · obtain ⟨y, hy, hX⟩ := h1 k hk
      exact ⟨y, hy, by simp [hX]⟩
theorem few_is {ls : List (List Int)} (h : ∀ l ∈ ls, l ≠ []) : ∃ f, Few ls f ∧ f ≤ ls.length := by
  obtain ⟨f, h1, h2⟩ := nat_least ⟨_, can_all h⟩
  exact ⟨f, ⟨h1, h2⟩, h2 _ (can_all h)⟩
theorem Few.one {ls : List (List Int)} {f g : Nat} (a : Few ls f) (b : Few ls g) : f = g := Nat.le_antisymm (a.low _ b.can) (b.low _ a.can)
theorem can_mono {ls : List (List Int)} {m k : Nat} (h : CanHit ls m) (hk : m ≤ k) : CanHit ls k := by
  obtain ⟨X, h1, h2⟩ := h
  exact ⟨X, h1, by omega⟩
theorem fewest_while {ls : List (List Int)} {f : Nat} (F : Few ls f) (hf : f < 24) (h1 : ∀ l ∈ ls, l.length ≤ 60) (h2 : ls.length ≤ 100) : ∀ (d m fuel : Nat), m + d = f → d < fuel → whileO (b_find_fewest_c1 (.list (ls.map tupI))) b_find_fewest_b2 fuel (.int (m : Int)) = .ok (.nx (.int (f : Int)))
  | d, m, 0, _, h => absurd h (Nat.not_lt_zero _)
  | d, m, fuel + 1, hd, hfu => by
    unfold whileO b_find_fewest_c1
    simp only [bind_ok, can_meet_ok (show m < 24 by omega) h1 h2, tst_bool, notT_ok]
    cases d with
    | zero =>
      have : canB ls m = true := canB_iff.mpr (by rw [show m = f by omega]; exact F.can)
      rw [this]
      simp only [Bool.not_true, Bool.false_eq_true, if_false]
      rw [show m = f by omega]
    | succ d =>
      have : canB ls m = false := Bool.eq_false_iff.mpr fun z => by
        have := F.low _ (canB_iff.mp z)
        omega
      rw [this]
      simp only [Bool.not_false, if_true]
      have b : b_find_fewest_b2 (.int (m : Int)) = .ok (.nx (.int ((m + 1 : Nat) : Int))) := by
        unfold b_find_fewest_b2
        simp only [bind_ok, pyAdd_int]
        rfl
      rw [b, go_nx]
      exact fewest_while F hf h1 h2 d (m + 1) fuel (by omega) (by omega)
theorem find_fewest_ok {ls : List (List Int)} {f : Nat} (F : Few ls f) (hf : f < 24) (h1 : ∀ l ∈ ls, l.length ≤ 60) (h2 : ls.length ≤ 100) : m_find_fewest (.list (ls.map tupI)) = .ok (.int (f : Int)) := by
  have al := apart_low F.can
  have w := fewest_while F hf h1 h2 (f - apartOf ls []) (apartOf ls []) 200 (by omega) (by omega)
  unfold m_find_fewest b_find_fewest
  simp only [bind_ok, count_apart_ok h1 h2, w, go_nx, fin_rt]
abbrev Asc (Y : List Int) : Prop := Y.Pairwise (fun a b => ltI a b = true)
theorem asc_nodup {Y : List Int} (h : Asc Y) : Y.Nodup := h.imp fun {a b} q e => by
  subst e
  simp [ltI] at q
/-- the first difference tells the order -/
theorem lt_of_first : ∀ {R Y : List Int} {m : Int}, Asc R → Asc Y → m ∈ R → m ∉ Y → (∀ k, k < m → (k ∈ R ↔ k ∈ Y)) → R.length ≤ Y.length → ltL R Y = true
  | [], Y, m, _, _, hm, _, _, _ => by cases hm
  | a :: R, [], m, _, _, _, _, _, hl => by simp at hl
  | a :: R, b :: Y, m, hR, hY, hm, hn, hk, hl => by
    have hR' := List.pairwise_cons.mp hR
    have hY' := List.pairwise_cons.mp hY
    have hbm : b ≠ m := fun e => hn (by simp [e])
    have key : a = b ∨ a < b := by
      by_cases q : b < m
      · -- b is in R
        have hb := (hk b q).mpr (by simp)
        rcases List.mem_cons.mp hb with e | hb
        · exact .inl e.symm
        · have := hR'.1 b hb
          simp [ltI] at this
          exact .inr this
      · rcases List.mem_cons.mp hm with e | hm'
        · subst e
          exact .inr (by omega)
        · have := hR'.1 m hm'
          simp [ltI] at this
          exact .inr (by omega)
    rcases key with rfl | hlt
    · have hma : m ≠ a := fun e => hbm e.symm
      have hm' : m ∈ R := by
        rcases List.mem_cons.mp hm with e | e
        · exact absurd e hma
        · exact e
      have := lt_of_first (R := R) (Y := Y) (m := m) hR'.2 hY'.2 hm' (fun z => hn (by simp [z])) (fun k hkm => by
        have h := hk k hkm
        by_cases e : k = a
        · subst e
          constructor
          · intro z
            have := hR'.1 k z
            simp [ltI] at this
          · intro z
            have := hY'.1 k z
            simp [ltI] at this
        · simpa [e] using h) (by simpa using hl)
      simp [ltL, this]
    · simp [ltL, hlt]
theorem usort_hit {X : List Int} {ls : List (List Int)} (h : Hit X ls) : Hit (usort ltI X) ls := fun l hl => by
  obtain ⟨x, hx, hX⟩ := h l hl
  exact ⟨x, hx, (mem_usort ltI_o).mpr hX⟩
/-- a least meeting row: each of its numbers is in a line that no other one meets -/
theorem least_need {ls : List (List Int)} {f : Nat} (F : Few ls f) {Y : List Int} (hY : Hit Y ls) (hl : Y.length = f) {y : Int} (hy : y ∈ Y) : ∃ l ∈ ls, y ∈ l ∧ ∀ x ∈ l, x ∈ Y → x = y := by
  refine Classical.byContradiction fun q => ?_
  have h : Hit (Y.erase y) ls := fun l hl => by
    refine Classical.byContradiction fun z => ?_
    have all : ∀ x ∈ l, x ∈ Y → x = y := fun x hx hxY => Classical.byContradiction fun ne => z ⟨x, hx, (List.mem_erase_of_ne ne).mpr hxY⟩
    obtain ⟨x, hx, hxY⟩ := hY l hl
    have : x = y := all x hx hxY
    subst this
    exact q ⟨l, hl, hx, all⟩
  have := F.low _ ⟨_, h, Nat.le_refl _⟩
  rw [List.length_erase_of_mem hy] at this
  have : 0 < Y.length := List.length_pos_of_mem hy
  omega
/-- the numbers below n -/
def below (Y : List Int) (n : Int) : List Int := Y.filter fun y => decide (y < n)
def restOf (ls : List (List Int)) (ch : List Int) : List (List Int) := ls.filter fun l => !(l.any fun x => decide (x ∈ ch))
theorem mem_rest {ls : List (List Int)} {ch l : List Int} : l ∈ restOf ls ch ↔ l ∈ ls ∧ ∀ x ∈ l, x ∉ ch := by
  unfold restOf
  rw [List.mem_filter]
  simp
theorem rest_snoc (ls : List (List Int)) (ch : List Int) (n : Int) : leftOf (restOf ls ch) n = restOf ls (ch ++ [n]) := by
  unfold leftOf restOf
  rw [List.filter_filter]
  refine List.filter_congr fun l _ => ?_
  rw [Bool.eq_iff_iff]
  simp only [Bool.and_eq_true, Bool.not_eq_true', decide_eq_false_iff_not, List.any_eq_false, decide_eq_true_eq, List.mem_append, List.mem_singleton, not_or]
  constructor
  · rintro ⟨h1, h2⟩ x hx
    exact ⟨h2 x hx, fun e => h1 (e ▸ hx)⟩
  · intro h
    exact ⟨fun hn => (h n hn).2 rfl, fun x hx => (h x hx).1⟩
structure Step (ls : List (List Int)) (f : Nat) (n : Int) (ch : List Int) : Prop where
  asc : Asc ch
  lt : ∀ x ∈ ch, x < n
  all : ∀ Y : List Int, Asc Y → Hit Y ls → Y.length = f → below Y n = ch ∨ ∃ m ∈ ch, m < n ∧ m ∉ Y ∧ ∀ k, k < m → (k ∈ ch ↔ k ∈ Y)
  one : ∃ Y : List Int, Asc Y ∧ Hit Y ls ∧ Y.length = f ∧ below Y n = ch
theorem below_asc {Y : List Int} (h : Asc Y) (n : Int) : Asc (below Y n) := List.Pairwise.filter _ h
theorem below_succ {Y : List Int} (h : Asc Y) (n : Int) : below Y (n + 1) = below Y n ++ if n ∈ Y then [n] else [] := by
  refine sorted_eq (below_asc h _) ?_ fun z => ?_
  · refine List.pairwise_append.mpr ⟨below_asc h n, ?_, fun a ha b hb => ?_⟩
    · split <;> simp
    · have := of_decide_eq_true (List.mem_filter.mp ha).2
      split at hb
      · rw [List.mem_singleton.mp hb]
        simp [ltI]
        exact this
      · cases hb
  · unfold below
    rw [List.mem_filter, List.mem_append, List.mem_filter]
    by_cases q : n ∈ Y
    · rw [if_pos q, List.mem_singleton]
      constructor
      · rintro ⟨h1, h2⟩
        have h2 := of_decide_eq_true h2
        by_cases e : z = n
        · exact .inr e
        · exact .inl ⟨h1, decide_eq_true (by omega)⟩
      · rintro (⟨h1, h2⟩ | rfl)
        · have h2 := of_decide_eq_true h2
          exact ⟨h1, decide_eq_true (by omega)⟩
        · exact ⟨q, decide_eq_true (by omega)⟩
    · rw [if_neg q]
      constructor
      · rintro ⟨h1, h2⟩
        have h2 := of_decide_eq_true h2
        have : z ≠ n := fun e => q (e ▸ h1)
        exact .inl ⟨h1, decide_eq_true (by omega)⟩
      · rintro (⟨h1, h2⟩ | h)
        · have h2 := of_decide_eq_true h2
          exact ⟨h1, decide_eq_true (by omega)⟩
        · cases h
/-- what is taken: with the number, so many of those behind are enough -/
def Takes1 (ls : List (List Int)) (f : Nat) (n : Int) (ch : List Int) : Prop := ch.length < f ∧ (leftOf (restOf ls ch) n).length < (restOf ls ch).length ∧ CanHit (leftOf (restOf ls ch) n) (f - ch.length - 1)
theorem left_less {ls : List (List Int)} {n : Int} : (leftOf ls n).length < ls.length ↔ ∃ l ∈ ls, n ∈ l := by
  unfold leftOf
  constructor
  · intro h
    refine Classical.byContradiction fun q => ?_
    have : (ls.filter fun l => !decide (n ∈ l)) = ls := List.filter_eq_self.mpr fun l hl => by
      have : n ∉ l := fun z => q ⟨l, hl, z⟩
      simp [this]
    rw [this] at h
    exact Nat.lt_irrefl _ h
  · rintro ⟨l, hl, hn⟩
    refine Nat.lt_of_le_of_ne (List.length_filter_le _ _) fun e => ?_
    have := List.filter_eq_self.mp (List.filter_sublist.eq_of_length e) l hl
    simp [hn] at this
/-- a least row that begins so and holds n: n is taken -/
theorem takes_of_mem {ls : List (List Int)} {f : Nat} (F : Few ls f) {n : Int} {Y : List Int} (hA : Asc Y) (hY : Hit Y ls) (hl : Y.length = f) (hn : n ∈ Y) : Takes1 ls f n (below Y n) := by
  have split3 : Y.length = (below Y n).length + 1 + (Y.filter fun y => decide (n < y)).length := by
    have nd := asc_nodup hA
    have : (below Y n ++ [n] ++ Y.filter fun y => decide (n < y)).Perm Y := by
      rw [List.perm_ext_iff_of_nodup ?_ nd]
      · intro z
        unfold below
        rw [List.mem_append, List.mem_append, List.mem_filter, List.mem_filter, List.mem_singleton]
        constructor
        · rintro ((⟨h, _⟩ | rfl) | ⟨h, _⟩)
          · exact h
          · exact hn
          · exact h
        · intro h
          rcases Int.lt_trichotomy z n with q | q | q
          · exact .inl (.inl ⟨h, decide_eq_true q⟩)
          · exact .inl (.inr q)
          · exact .inr ⟨h, decide_eq_true q⟩
      · refine List.nodup_append.mpr ⟨List.nodup_append.mpr ⟨nd.filter _, by simp, fun a ha b hb e => ?_⟩, nd.filter _, fun a ha b hb e => ?_⟩
        · have := of_decide_eq_true (List.mem_filter.mp ha).2
          rw [List.mem_singleton.mp hb] at e
          omega
        · have hb2 := of_decide_eq_true (List.mem_filter.mp hb).2
          rcases List.mem_append.mp ha with h | h
          · have := of_decide_eq_true (List.mem_filter.mp h).2
            omega
          · rw [List.mem_singleton.mp h] at e
            omega
    have := this.length_eq
    simp only [List.length_append, List.length_singleton] at this
    omega
  refine ⟨by omega, left_less.mpr ?_, Y.filter fun y => decide (n < y), fun l hl => ?_, by omega⟩
  · obtain ⟨l, hl, h1, h2⟩ := least_need F hY hl hn
    refine ⟨l, mem_rest.mpr ⟨hl, fun x hx hb => ?_⟩, h1⟩
    obtain ⟨hbY, hlt⟩ := List.mem_filter.mp hb
    have hlt := of_decide_eq_true hlt
    have := h2 x hx hbY
    omega
  · obtain ⟨h1, h2⟩ := List.mem_filter.mp hl
    obtain ⟨h3, h4⟩ := mem_rest.mp h1
    obtain ⟨x, hx, hxY⟩ := hY l h3
    refine ⟨x, hx, List.mem_filter.mpr ⟨hxY, decide_eq_true ?_⟩⟩
    have h5 : ¬ (x < n) := fun q => h4 x hx (List.mem_filter.mpr ⟨hxY, decide_eq_true q⟩)
    have h6 : x ≠ n := fun e => by
      rw [e] at hx
      simp [hx] at h2
    omega
theorem step_no {ls : List (List Int)} {f : Nat} (F : Few ls f) {n : Int} {ch : List Int} (S : Step ls f n ch) (h : ¬ Takes1 ls f n ch) : Step ls f (n + 1) ch := by
  have key : ∀ Y : List Int, Asc Y → Hit Y ls → Y.length = f → below Y n = ch → below Y (n + 1) = ch := fun Y a b c d => by
    have : n ∉ Y := fun z => h (by rw [← d]; exact takes_of_mem F a b c z)
    rw [below_succ a, if_neg this, List.append_nil, d]
  refine ⟨S.asc, fun x hx => by have := S.lt x hx; omega, fun Y a b c => ?_, ?_⟩
  · rcases S.all Y a b c with q | ⟨m, m1, m2, m3, m4⟩
    · exact .inl (key Y a b c q)
    · exact .inr ⟨m, m1, by omega, m3, m4⟩
  · obtain ⟨Y, a, b, c, d⟩ := S.one
    exact ⟨Y, a, b, c, key Y a b c d⟩
theorem step_yes {ls : List (List Int)} {f : Nat} (F : Few ls f) {n : Int} {ch : List Int} (S : Step ls f n ch) (h : Takes1 ls f n ch) : Step ls f (n + 1) (ch ++ [n]) := by
  obtain ⟨h1, h2, Z, hZ, hZl⟩ := h
  have asc' : Asc (ch ++ [n]) := List.pairwise_append.mpr ⟨S.asc, by simp, fun a ha b hb => by
    rw [List.mem_singleton.mp hb]
    simp [ltI]
    exact S.lt a ha⟩
  have hnc : n ∉ ch := fun z => by have := S.lt n z; omega
  refine ⟨asc', fun x hx => ?_, fun Y a b c => ?_, ?_⟩
  · rcases List.mem_append.mp hx with q | q
    · have := S.lt x q; omega
    · rw [List.mem_singleton.mp q]; omega
  · rcases S.all Y a b c with q | ⟨m, m1, m2, m3, m4⟩
    · by_cases hn : n ∈ Y
      · exact .inl (by rw [below_succ a, if_pos hn, q])
      · refine .inr ⟨n, by simp, by omega, hn, fun k hk => ?_⟩
        have : k ∈ ch ↔ k ∈ Y := by
          rw [← q]
          unfold below
          rw [List.mem_filter]
          exact ⟨fun z => z.1, fun z => ⟨z, decide_eq_true hk⟩⟩
        rw [← this, List.mem_append, List.mem_singleton]
        exact ⟨fun z => z.elim id fun e => absurd e (by omega), .inl⟩
    · refine .inr ⟨m, by simp [m1], by omega, m3, fun k hk => ?_⟩
      rw [← m4 k hk, List.mem_append, List.mem_singleton]
      exact ⟨fun z => z.elim id fun e => absurd e (by omega), .inl⟩
  · -- a least row that begins so
    have hit : Hit (ch ++ [n] ++ Z) ls := fun l hl => by
      by_cases q : ∃ x ∈ l, x ∈ ch ++ [n]
      · obtain ⟨x, hx, hc⟩ := q
        exact ⟨x, hx, List.mem_append_left _ hc⟩
      · have hl' : l ∈ leftOf (restOf ls ch) n := by
          rw [rest_snoc]
          exact mem_rest.mpr ⟨hl, fun x hx hc => q ⟨x, hx, hc⟩⟩
        obtain ⟨x, hx, hz⟩ := hZ l hl'
        exact ⟨x, hx, List.mem_append_right _ hz⟩
    have hW := usort_hit hit
    have len : (usort ltI (ch ++ [n] ++ Z)).length = f := by
      have u1 := usort_length ltI_o (ch ++ [n] ++ Z)
      simp only [List.length_append, List.length_singleton] at u1
      have := F.low _ ⟨_, hW, Nat.le_refl _⟩
      omega
    have aW : Asc (usort ltI (ch ++ [n] ++ Z)) := usort_sorted ltI_o _
    have mem : ∀ z, z ∈ ch ++ [n] → z ∈ usort ltI (ch ++ [n] ++ Z) := fun z hz => (mem_usort ltI_o).mpr (List.mem_append_left _ hz)
    refine ⟨_, aW, hW, len, ?_⟩
    rcases S.all _ aW hW len with q | ⟨m, m1, _, m3, _⟩
    · rw [below_succ aW, if_pos (mem n (by simp)), q]
    · exact absurd (mem m (by simp [m1])) m3
theorem least_in {ls : List (List Int)} {f : Nat} (F : Few ls f) {Y : List Int} (hY : Hit Y ls) (hl : Y.length = f) {y : Int} (hy : y ∈ Y) : ∃ l ∈ ls, y ∈ l := by
  obtain ⟨l, h1, h2, _⟩ := least_need F hY hl hy
  exact ⟨l, h1, h2⟩
/-- all numbers seen: the first of the fewest -/
theorem step_end {ls : List (List Int)} {f : Nat} (F : Few ls f) {n : Int} {ch : List Int} (S : Step ls f n ch) (hn : ∀ l ∈ ls, ∀ x ∈ l, x < n) : Asc ch ∧ Hit ch ls ∧ ch.length = f ∧ ∀ Y : List Int, Asc Y → Hit Y ls → Y.length = f → Y = ch ∨ ltL ch Y = true := by
  have whole : ∀ Y : List Int, Hit Y ls → Y.length = f → below Y n = Y := fun Y b c => List.filter_eq_self.mpr fun y hy => by
    obtain ⟨l, hl, hyl⟩ := least_in F b c hy
    exact decide_eq_true (hn l hl y hyl)
  obtain ⟨Y, a, b, c, d⟩ := S.one
  rw [whole Y b c] at d
  subst d
  refine ⟨a, b, c, fun Z a' b' c' => ?_⟩
  rcases S.all Z a' b' c' with q | ⟨m, m1, _, m3, m4⟩
  · rw [whole Z b' c'] at q
    exact .inl q
  · exact .inr (lt_of_first a a' m1 m3 m4 (by omega))
theorem step_start {ls : List (List Int)} {f : Nat} (F : Few ls f) {n : Int} (hn : ∀ l ∈ ls, ∀ x ∈ l, n ≤ x) : Step ls f n [] := by
  have no : ∀ Y : List Int, Hit Y ls → Y.length = f → below Y n = [] := fun Y b c => List.filter_eq_nil_iff.mpr fun y hy => by
    obtain ⟨l, hl, hyl⟩ := least_in F b c hy
    have := hn l hl y hyl
    simp
    omega
  refine ⟨List.Pairwise.nil, fun x hx => (by cases hx), fun Y a b c => .inl (no Y b c), ?_⟩
  obtain ⟨X, h1, h2⟩ := F.can
  have hW := usort_hit h1
  have u1 := usort_length ltI_o X
  have := F.low _ ⟨_, hW, Nat.le_refl _⟩
  exact ⟨_, usort_sorted ltI_o X, hW, by omega, no _ hW (by omega)⟩
theorem open_b1 {ls : List (List Int)} {f : Nat} (F : Few ls f) (hf : f < 24) (h1 : ∀ l ∈ ls, l.length ≤ 60) (h2 : ls.length ≤ 100) {n : Int} {ch : List Int} (S : Step ls f n ch) (hc : ch.length ≤ 100) :
    ∃ ch' : List Int, Step ls f (n + 1) ch' ∧ ch'.length ≤ ch.length + 1 ∧ b_open_numbers_b1 (.int (f : Int)) (.list ((restOf ls ch).map tupI), tupI ch) (.int n) = .ok (.nx (.list ((restOf ls ch').map tupI), tupI ch')) := by
  have r1 : ∀ l ∈ leftOf (restOf ls ch) n, l.length ≤ 60 := fun l hl => h1 l (mem_rest.mp (List.mem_filter.mp hl).1).1
  have r2 : (leftOf (restOf ls ch) n).length ≤ 100 := Nat.le_trans (List.length_filter_le _ _) (Nat.le_trans (List.length_filter_le _ _) h2)
  have el : pyLen (tupI ch) = .ok (.int (ch.length : Int)) := by simp [tupI]
  have no : b_open_numbers_b1 (.int (f : Int)) (.list ((restOf ls ch).map tupI), tupI ch) (.int n) = .ok (.nx (.list ((restOf ls ch).map tupI), tupI ch)) ∨ Takes1 ls f n ch := by
    by_cases q : Takes1 ls f n ch
    · exact .inr q
    · refine .inl ?_
      unfold b_open_numbers_b1
      simp only [bind_ok, ofSeq_list, comp_ok, comp_left, el, pyLt_int, tst_bool, pyLen_list, List.length_map, andT_ok]
      by_cases q1 : ch.length < f
      · have q1' : (ch.length : Int) < (f : Int) := by omega
        rw [if_pos (decide_eq_true q1')]
        by_cases q2 : (leftOf (restOf ls ch) n).length < (restOf ls ch).length
        · have q2' : ((leftOf (restOf ls ch) n).length : Int) < ((restOf ls ch).length : Int) := by omega
          rw [if_pos (decide_eq_true q2')]
          have e : (f : Int) - (ch.length : Int) - 1 = ((f - ch.length - 1 : Nat) : Int) := by omega
          simp only [pySub_int, bind_ok, e, can_meet_ok (show f - ch.length - 1 < 24 by omega) r1 r2, tst_bool]
          have : canB (leftOf (restOf ls ch) n) (f - ch.length - 1) = false := Bool.eq_false_iff.mpr fun z => q ⟨q1, q2, canB_iff.mp z⟩
          rw [this]
          simp only [Bool.false_eq_true, if_false, go_nx]
        · have q2' : ¬ (((leftOf (restOf ls ch) n).length : Int) < ((restOf ls ch).length : Int)) := by omega
          rw [if_neg (by rw [decide_eq_false q2']; simp)]
          simp only [bind_ok, Bool.false_eq_true, if_false, go_nx]
      · have q1' : ¬ ((ch.length : Int) < (f : Int)) := by omega
        rw [if_neg (by rw [decide_eq_false q1']; simp)]
        simp only [bind_ok, Bool.false_eq_true, if_false, go_nx]
  by_cases q : Takes1 ls f n ch
  · obtain ⟨q1, q2, q3⟩ := q
    refine ⟨ch ++ [n], step_yes F S ⟨q1, q2, q3⟩, by simp, ?_⟩
    have q1' : (ch.length : Int) < (f : Int) := by omega
    have q2' : ((leftOf (restOf ls ch) n).length : Int) < ((restOf ls ch).length : Int) := by omega
    have e : (f : Int) - (ch.length : Int) - 1 = ((f - ch.length - 1 : Nat) : Int) := by omega
    have mt : mkTup [PyData.int n] = .ok (.tuple [.int n]) := mkTup_ok (by simp [sizeMax])
    have add : pyAdd (tupI ch) (.tuple [.int n]) = .ok (tupI (ch ++ [n])) := by
      show (if _ then _ else _) = _
      rw [if_pos (by unfold sizeMax; simp; omega)]
      simp [tupI]
    unfold b_open_numbers_b1
    simp only [bind_ok, ofSeq_list, comp_ok, comp_left, el, pyLt_int, tst_bool, pyLen_list, List.length_map, andT_ok, q1', q2', decide_true, if_true, pySub_int, e, can_meet_ok (show f - ch.length - 1 < 24 by omega) r1 r2, canB_iff.mpr q3, mt, add, go_nx]
    rw [rest_snoc]
  · rcases no with z | z
    · exact ⟨ch, step_no F S q, by omega, z⟩
    · exact absurd z q
theorem open_for {ls : List (List Int)} {f : Nat} (F : Few ls f) (hf : f < 24) (h1 : ∀ l ∈ ls, l.length ≤ 60) (h2 : ls.length ≤ 100) : ∀ (k : Nat) {n : Int} {ch : List Int}, Step ls f n ch → ch.length + k ≤ 100 → ∃ ch' : List Int, Step ls f (n + k) ch' ∧ forO (b_open_numbers_b1 (.int (f : Int))) ((List.range k).map fun (i : Nat) => PyData.int (n + (i : Int))) (.list ((restOf ls ch).map tupI), tupI ch) = .ok (.nx (.list ((restOf ls ch').map tupI), tupI ch'))
  | 0, n, ch, S, _ => ⟨ch, by simpa using S, rfl⟩
  | k + 1, n, ch, S, hl => by
    obtain ⟨ch1, S1, l1, e1⟩ := open_b1 F hf h1 h2 S (by omega)
    obtain ⟨ch2, S2, e2⟩ := open_for F hf h1 h2 k S1 (by omega)
    refine ⟨ch2, by rw [show n + ((k + 1 : Nat) : Int) = n + 1 + (k : Int) by omega]; exact S2, ?_⟩
    rw [List.range_succ_eq_map, List.map_cons, List.map_map]
    show (b_open_numbers_b1 (.int (f : Int)) (.list ((restOf ls ch).map tupI), tupI ch) (.int (n + ((0 : Nat) : Int)))).go _ = _
    rw [show n + ((0 : Nat) : Int) = n by omega, e1, go_nx]
    have : ((List.range k).map ((fun (i : Nat) => PyData.int (n + (i : Int))) ∘ Nat.succ)) = (List.range k).map fun (i : Nat) => PyData.int (n + 1 + (i : Int)) := List.map_congr_left fun i _ => by
      show PyData.int (n + ((i + 1 : Nat) : Int)) = _
      congr 1
      omega
    rw [this]
    exact e2
/-- the first of the fewest numbers -/
structure First (ls : List (List Int)) (f : Nat) (R : List Int) : Prop where
  asc : Asc R
  hit : Hit R ls
  len : R.length = f
  min : ∀ Y : List Int, Asc Y → Hit Y ls → Y.length = f → Y = R ∨ ltL R Y = true
theorem few_card {rows : List (List Int)} (C : Card rows) (r : Nat) : ∃ f, Few (linesOf rows r) f ∧ f ≤ 10 := by
  have L := lines_are C r
  obtain ⟨f, F, hf⟩ := few_is L.ne
  exact ⟨f, F, Nat.le_trans hf L.few⟩
theorem line_len {rows : List (List Int)} (C : Card rows) {r : Nat} : ∀ l ∈ linesOf rows r, l.length ≤ 60 := fun l hl => (line_call C hl).few
theorem check_two_ok {rows : List (List Int)} (C : Card rows) (r : Nat) : m_check_two (cardD rows) (.str (ruleS r)) = .ok .none := by
  unfold m_check_two b_check_two
  simp only [bind_ok, check_card_ok C, check_rule_ok, fin_nx]
section
variable {rows : List (List Int)} (C : Card rows) (r : Nat) {f : Nat} (F : Few (linesOf rows r) f) (hf : f ≤ 10)
include C F hf
theorem fewest_open_ok : m_fewest_open (cardD rows) (.str (ruleS r)) = .ok (.int (f : Int)) := by
  have := (lines_are C r).few
  unfold m_fewest_open b_fewest_open
  simp only [bind_ok, check_two_ok C, find_lines_ok C, find_fewest_ok F (by omega) (line_len C) (by omega), fin_rt]
theorem latest_ok : m_latest (cardD rows) (.str (ruleS r)) = .ok (.int (60 - (f : Int))) := by
  have := (lines_are C r).few
  unfold m_latest b_latest
  simp only [bind_ok, check_two_ok C, find_lines_ok C, find_fewest_ok F (by omega) (line_len C) (by omega), pySub_int, fin_rt]
theorem open_numbers_ok : ∃ R, First (linesOf rows r) f R ∧ m_open_numbers (cardD rows) (.str (ruleS r)) = .ok (tupI R) := by
  have L := lines_are C r
  have few := L.few
  have S0 : Step (linesOf rows r) f 1 [] := step_start F fun l hl x hx => (L.rng l hl x hx).1
  obtain ⟨R, S, e⟩ := open_for F (by omega) (line_len C) (by omega) 60 S0 (by simp)
  obtain ⟨z1, z2, z3, z4⟩ := step_end F S fun l hl x hx => by have := (L.rng l hl x hx).2; omega
  refine ⟨R, ⟨z1, z2, z3, z4⟩, ?_⟩
  have hr : pyRange (.int 1) (.int (60 + 1)) = .ok ((List.range 60).map fun (i : Nat) => PyData.int (1 + (i : Int))) := rfl
  have r0 : restOf (linesOf rows r) [] = linesOf rows r := List.filter_eq_self.mpr fun l _ => by simp
  have t0 : tupI [] = .tuple [] := rfl
  rw [r0] at e
  have mt : mkTup [] = .ok (.tuple []) := mkTup_ok (by simp)
  have e' : forO (b_open_numbers_b1 (.int (f : Int))) ((List.range 60).map fun (i : Nat) => PyData.int (1 + (i : Int))) (.list ((linesOf rows r).map tupI), .tuple []) = .ok (.nx (.list ((restOf (linesOf rows r) R).map tupI), tupI R)) := e
  unfold m_open_numbers b_open_numbers
  simp only [bind_ok, check_two_ok C, find_lines_ok C, mt, find_fewest_ok F (by omega) (line_len C) (by omega), pyAdd_int, hr, e', go_nx, fin_rt]
end
end BG
namespace BG
open PySem
theorem Few.congr {ls ms : List (List Int)} (h : ∀ l, l ∈ ls ↔ l ∈ ms) {f : Nat} (F : Few ls f) : Few ms f := by
  have c : ∀ m, CanHit ls m ↔ CanHit ms m := fun m => by
    constructor
    · rintro ⟨X, h1, h2⟩
      exact ⟨X, fun l hl => h1 l ((h l).mpr hl), h2⟩
    · rintro ⟨X, h1, h2⟩
      exact ⟨X, fun l hl => h1 l ((h l).mp hl), h2⟩
  exact ⟨(c f).mp F.can, fun m hm => F.low m ((c m).mpr hm)⟩
theorem Few.mono {ls ms : List (List Int)} (h : ∀ l ∈ ls, l ∈ ms) {f g : Nat} (F : Few ls f) (G : Few ms g) : f ≤ g := by
  obtain ⟨X, h1, h2⟩ := G.can
  exact F.low g ⟨X, fun l hl => h1 l (h l hl), h2⟩
def hallL (hs : List (List (List Int))) (r : Nat) : List (List Int) := usort ltL (hs.flatMap fun rows => linesOf rows r)
theorem mem_hallL {hs : List (List (List Int))} {r : Nat} {l : List Int} : l ∈ hallL hs r ↔ ∃ rows ∈ hs, l ∈ linesOf rows r := by
  unfold hallL
  rw [mem_usort ltL_o, List.mem_flatMap]
theorem flat_few {hs : List (List (List Int))} {r : Nat} (h : ∀ rows ∈ hs, Card rows) : (hs.flatMap fun rows => linesOf rows r).length ≤ 10 * hs.length := by
  induction hs with
  | nil => simp
  | cons x xs ih =>
    rw [List.flatMap_cons, List.length_append, List.length_cons]
    have := (lines_are (h x (by simp)) r).few
    have := ih fun y hy => h y (by simp [hy])
    omega
theorem few_hall {hs : List (List (List Int))} (H : Hall hs) (h2 : hs.length ≤ 2) (r : Nat) : ∃ f, Few (hallL hs r) f ∧ f ≤ 20 := by
  obtain ⟨f, F, hf⟩ := few_is (ls := hallL hs r) fun l hl => by
    obtain ⟨rows, hr, h⟩ := mem_hallL.mp hl
    exact (lines_are (H.ok rows hr) r).ne l h
  have := usort_length ltL_o (hs.flatMap fun rows => linesOf rows r)
  have := flat_few (r := r) H.ok
  exact ⟨f, F, by unfold hallL at hf; omega⟩
theorem latest_hall_ok {hs : List (List (List Int))} (H : Hall hs) (h2 : hs.length ≤ 2) (r : Nat) {f : Nat} (F : Few (hallL hs r) f) (hf : f ≤ 20) : m_latest_hall (hallD hs) (.str (ruleS r)) = .ok (.int (60 - (f : Int))) := by
  have fl := flat_few (r := r) H.ok
  have ul := usort_length ltL_o (hs.flatMap fun rows => linesOf rows r)
  have e0 : ofSeq (hallD hs) = .ok (hs.map cardD) := rfl
  have e1 : comp2 (Rs.ok (hs.map cardD)) (fun d22 => comp ((m_find_lines d22 (.str (ruleS r))).bind ofSeq) fun d23 => eltO (Rs.ok true) (Rs.ok d23)) = .ok ((hs.flatMap fun rows => linesOf rows r).map tupI) := by
    unfold comp2
    rw [bind_ok, compF_map (e := cardD) (h := fun rows => (linesOf rows r).map tupI)]
    · have e : (hs.map fun rows => (linesOf rows r).map tupI).flatten = (hs.flatMap fun rows => linesOf rows r).map tupI := by
        rw [List.map_flatMap]
        rfl
      rw [e, bind_ok, mkLst_ok (by rw [List.length_map]; unfold sizeMax; omega)]
    · intro rows hr
      rw [find_lines_ok (H.ok rows hr), bind_ok, ofSeq_list, comp_ok]
      exact (compO_map (e := tupI) (h := tupI) fun l _ => rfl)
  have e2 : pySortedSet (.list ((hs.flatMap fun rows => linesOf rows r).map tupI)) = .ok ((hallL hs r).map tupI) := pySortedSet_tups _ (by omega) fun l hl => by
    obtain ⟨rows, hr, h⟩ := List.mem_flatMap.mp hl
    exact (lines_are (H.ok rows hr) r).ne l h
  have ll : ∀ l ∈ hallL hs r, l.length ≤ 60 := fun l hl => by
    obtain ⟨rows, hr, h⟩ := mem_hallL.mp hl
    exact line_len (H.ok rows hr) l h
  have hl : (hallL hs r).length ≤ 100 := by unfold hallL; omega
  unfold m_latest_hall b_latest_hall
  simp only [bind_ok, check_cards_ok H, e0, e1, lstD_ok, e2, find_fewest_ok F (by omega) ll hl, pySub_int, fin_rt]
def lensOf (ls : List (List Int)) : List Int := ls.map fun l => (l.length : Int)
def minLen (ls : List (List Int)) : Int := minL (lensOf ls)
theorem comp_lens (ls : List (List Int)) : compO (fun d12 => eltO (Rs.ok true) (pyLen d12)) (ls.map tupI) = .ok (iL (lensOf ls)) := by
  rw [compO_map (e := tupI) (h := fun l => PyData.int (l.length : Int))]
  · unfold lensOf iL
    rw [List.map_map]
    rfl
  · intro l _
    have e : pyLen (tupI l) = .ok (.int (l.length : Int)) := by simp [tupI]
    rw [e, eltO_true, bind_ok]
theorem earliest_ok {rows : List (List Int)} (C : Card rows) (r : Nat) : m_earliest (cardD rows) (.str (ruleS r)) = .ok (.int (minLen (linesOf rows r))) := by
  have ne : lensOf (linesOf rows r) ≠ [] := by
    unfold lensOf
    simpa using lines_some C r
  unfold m_earliest b_earliest
  simp only [bind_ok, check_two_ok C, find_lines_ok C, ofSeq_list, comp_ok, comp_lens, lstD_ok, pyMinI_ok ne, fin_rt]
  rfl
theorem minLen_le {ls : List (List Int)} {l : List Int} (h : l ∈ ls) : minLen ls ≤ (l.length : Int) := minL_le (List.mem_map.mpr ⟨l, h, rfl⟩)
theorem minLen_mem {ls : List (List Int)} (h : ls ≠ []) : ∃ l ∈ ls, minLen ls = (l.length : Int) := by
  have := minL_mem (ns := lensOf ls) (by unfold lensOf; simpa using h)
  obtain ⟨l, hl, e⟩ := List.mem_map.mp this
  exact ⟨l, hl, e.symm⟩
structure Full (call : List Int) : Prop where
  ok : Call call
  all : ∀ x : Int, 1 ≤ x → x ≤ 60 → x ∈ call
theorem Full.len {call : List Int} (F : Full call) : call.length = 60 := by
  have h1 := F.ok.few
  have := nodup_sub (l := num60) (m := call) (by
    refine num60_pw.imp fun {a b} q e => ?_
    subst e
    simp [ltI] at q) fun x hx => F.all x (num60_rng hx).1 (num60_rng hx).2
  have : num60.length = 60 := rfl
  omega
/-- a full call finishes in time -/
theorem full_time {ls : List (List Int)} (ne : ∀ l ∈ ls, l ≠ []) (rng : ∀ l ∈ ls, ∀ x ∈ l, 1 ≤ x ∧ x ≤ 60) {f : Nat} (F : Few ls f) (hf1 : 1 ≤ f) (hf2 : f ≤ 60) {call : List Int} (FC : Full call) : ∃ t, timeOf ls call = some t ∧ t ≤ 61 - f := by
  have len := FC.len
  have key : someIn ls (call.take (61 - f)) = true := by
    refine Classical.byContradiction fun q => ?_
    have h : Hit (call.drop (61 - f)) ls := fun l hl => by
      refine Classical.byContradiction fun z => q (someIn_iff.mpr ⟨l, hl, fun x hx => ?_⟩)
      have hc := FC.all x (rng l hl x hx).1 (rng l hl x hx).2
      rw [← List.take_append_drop (61 - f) call] at hc
      rcases List.mem_append.mp hc with h | h
      · exact h
      · exact absurd ⟨x, hx, h⟩ z
    have := F.low _ ⟨_, h, Nat.le_refl _⟩
    rw [List.length_drop, len] at this
    omega
  obtain ⟨t, ht⟩ := timeOf_is ne (someIn_mono (fun x hx => List.mem_of_mem_take hx) key)
  have := someIn_take ne ht (61 - f)
  rw [key] at this
  exact ⟨t, ht, of_decide_eq_true this.symm⟩
theorem few_pos {ls : List (List Int)} {f : Nat} (F : Few ls f) (h : ls ≠ []) : 1 ≤ f := by
  obtain ⟨X, h1, h2⟩ := F.can
  obtain ⟨l, hl⟩ := List.exists_mem_of_ne_nil ls h
  obtain ⟨x, _, hx⟩ := h1 l hl
  have := List.length_pos_of_mem hx
  omega
theorem time_long {ls : List (List Int)} (nd : ∀ l ∈ ls, l.Nodup) {call : List Int} {t : Nat} (h : timeOf ls call = some t) : minLen ls ≤ (t : Int) := by
  obtain ⟨t1, t2, t3, _⟩ := timeOf_spec h
  obtain ⟨l, hl, hs⟩ := someIn_iff.mp t3
  have h1 := minLen_le hl
  have h2 := nodup_sub (nd l hl) hs
  rw [List.length_take] at h2
  omega
/-- rows alone: as many as there are -/
theorem few_rows {rows : List (List Int)} (C : Card rows) : Few (linesOf rows 0) rows.length := by
  have L := lines_are C 0
  have src : srcOf rows 0 = rows := by
    unfold srcOf
    simp
  refine ⟨can_mono (can_all L.ne) ?_, fun m ⟨X, h1, h2⟩ => ?_⟩
  · unfold linesOf
    rw [src]
    have := usort_length ltL_o (rows.map clean)
    rw [List.length_map] at this
    exact this
  · have pick : ∀ i, i < rows.length → ∃ x, x ∈ rows.getD i [] ∧ x ∈ X := fun i hi => by
      obtain ⟨x, hx, hX⟩ := h1 (clean (rows.getD i [])) (mem_lines.mpr ⟨_, by rw [src]; exact getD_mem hi, rfl⟩)
      unfold clean at hx
      have hx := (isort_perm (lt := ltI) _).mem_iff.mp hx
      exact ⟨x, (List.mem_filter.mp hx).1, hX⟩
    let g : Nat → Int := fun i => if h : i < rows.length then Classical.choose (pick i h) else 0
    have hg : ∀ i (h : i < rows.length), g i ∈ rows.getD i [] ∧ g i ∈ X := fun i h => by
      have e : g i = Classical.choose (pick i h) := dif_pos h
      rw [e]
      exact Classical.choose_spec (pick i h)
    have nd : ((List.range rows.length).map g).Nodup := map_range_nodup fun a b hab hb e => by
      have pw := C.rows_pw.2
      rw [List.pairwise_iff_getElem] at pw
      have ga := hg a (by omega)
      have gb := hg b hb
      have e1 : rows.getD a [] = rows[a] := by simp [List.getD_eq_getElem?_getD, show a < rows.length by omega]
      have e2 : rows.getD b [] = rows[b] := by simp [List.getD_eq_getElem?_getD, hb]
      rw [e1] at ga
      rw [e2] at gb
      exact pw a b (by omega) hb hab _ ga.1 _ gb.1 e
    have := nodup_sub nd fun x hx => by
      obtain ⟨i, hi, rfl⟩ := List.mem_map.mp hx
      exact (hg i (List.mem_range.mp hi)).2
    rw [List.length_map, List.length_range] at this
    omega
/-- two sets of lines -/
theorem few_add {ls ms us : List (List Int)} {f g h : Nat} (F : Few ls f) (G : Few ms g) (U : Few us h) (hu : ∀ l ∈ us, l ∈ ls ∨ l ∈ ms) : h ≤ f + g := by
  obtain ⟨X, x1, x2⟩ := F.can
  obtain ⟨Y, y1, y2⟩ := G.can
  refine U.low _ ⟨X ++ Y, fun l hl => ?_, by rw [List.length_append]; omega⟩
  rcases hu l hl with q | q
  · obtain ⟨x, a, b⟩ := x1 l q
    exact ⟨x, a, List.mem_append_left _ b⟩
  · obtain ⟨x, a, b⟩ := y1 l q
    exact ⟨x, a, List.mem_append_right _ b⟩
theorem few_apart {ls ms us : List (List Int)} {f g h : Nat} (F : Few ls f) (G : Few ms g) (U : Few us h) (hl : ∀ l ∈ ls, l ∈ us) (hm : ∀ l ∈ ms, l ∈ us) {P : Int → Bool} (p1 : ∀ l ∈ ls, ∀ x ∈ l, P x = true) (p2 : ∀ l ∈ ms, ∀ x ∈ l, P x = false) : f + g ≤ h := by
  obtain ⟨X, x1, x2⟩ := U.can
  have a := F.low _ ⟨X.filter P, fun l q => by
    obtain ⟨x, hx, hX⟩ := x1 l (hl l q)
    exact ⟨x, hx, List.mem_filter.mpr ⟨hX, p1 l q x hx⟩⟩, Nat.le_refl _⟩
  have b := G.low _ ⟨X.filter fun x => !P x, fun l q => by
    obtain ⟨x, hx, hX⟩ := x1 l (hm l q)
    exact ⟨x, hx, List.mem_filter.mpr ⟨hX, by rw [p2 l q x hx]; rfl⟩⟩, Nat.le_refl _⟩
  have c : (X.filter P).length + (X.filter fun x => !P x).length = X.length := by
    clear x1 x2 a b
    induction X with
    | nil => rfl
    | cons x X ih =>
      rw [List.filter_cons, List.filter_cons]
      cases P x <;> simp <;> omega
  omega
end BG
namespace BG
open PySem
def num9 : List Int := [1, 2, 3, 4, 5, 6, 7, 8, 9]
def levS : Nat → List (List Int)
  | 0 => [[]]
  | k + 1 => (levS k).flatMap fun s => (num9.filter fun x => s.all fun y => decide (y < x)).map fun x => s ++ [x]
def setsL : List (List Int) := levS 0 ++ levS 1 ++ levS 2 ++ levS 3 ++ levS 4 ++ levS 5
def chkS : Rs D → Option (List (List Int))
  | .ok (.list ds) => tupsOf ds
  | _ => none
theorem chkS_ok {m : Rs D} {ls : List (List Int)} (h : chkS m = some ls) : m = .ok (.list (ls.map tupI)) := by
  unfold chkS at h
  split at h
  · rw [tupsOf_eq h]
  · cases h
theorem law_sets_ok : m_law_sets (.int 5) = .ok (.list (setsL.map tupI)) := chkS_ok (by decide +kernel)
def chainB : List (List Int) → Bool
  | a :: b :: r => shLt a b && chainB (b :: r)
  | _ => true
theorem chain_pw : ∀ {l : List (List Int)}, chainB l = true → l.Pairwise (fun a b => shLt a b = true)
  | [], _ => .nil
  | [a], _ => by simp
  | a :: b :: r, h => by
    unfold chainB at h
    obtain ⟨h1, h2⟩ := Bool.and_eq_true_iff.mp h
    have ih := chain_pw h2
    refine List.pairwise_cons.mpr ⟨fun c hc => ?_, ih⟩
    rcases List.mem_cons.mp hc with rfl | hc
    · exact h1
    · exact shLt_o.tr a b c h1 ((List.pairwise_cons.mp ih).1 c hc)
theorem sets_sorted : setsL.Pairwise (fun a b => shLt a b = true) := chain_pw (by decide +kernel)
theorem num9_mem {x : Int} (h1 : 1 ≤ x) (h2 : x ≤ 9) : x ∈ num9 := by
  have : x = 1 ∨ x = 2 ∨ x = 3 ∨ x = 4 ∨ x = 5 ∨ x = 6 ∨ x = 7 ∨ x = 8 ∨ x = 9 := by omega
  unfold num9
  rcases this with h | h | h | h | h | h | h | h | h <;> simp [h]
theorem lev_asc : ∀ {k : Nat} {s : List Int}, s ∈ levS k → Asc s ∧ s.length = k
  | 0, s, h => by
    rw [List.mem_singleton.mp h]
    exact ⟨.nil, rfl⟩
  | k + 1, s, h => by
    obtain ⟨t, ht, h⟩ := List.mem_flatMap.mp h
    obtain ⟨x, hx, rfl⟩ := List.mem_map.mp h
    obtain ⟨a, b⟩ := lev_asc ht
    have hx := (List.mem_filter.mp hx).2
    refine ⟨List.pairwise_append.mpr ⟨a, by simp, fun y hy z hz => ?_⟩, by simp [b]⟩
    rw [List.mem_singleton.mp hz]
    have := List.all_eq_true.mp hx y hy
    simpa [ltI] using this
theorem lev_mem : ∀ {k : Nat} {s : List Int}, Asc s → (∀ x ∈ s, 1 ≤ x ∧ x ≤ 9) → s.length = k → s ∈ levS k
  | 0, s, _, _, h => by
    rw [List.eq_nil_of_length_eq_zero h]
    exact List.mem_singleton.mpr rfl
  | k + 1, s, ha, hr, h => by
    have hne : s ≠ [] := fun e => by rw [e] at h; cases h
    have e := List.dropLast_concat_getLast hne
    have ha' : Asc (s.dropLast ++ [s.getLast hne]) := by rw [e]; exact ha
    obtain ⟨h1, _, h3⟩ := List.pairwise_append.mp ha'
    refine List.mem_flatMap.mpr ⟨s.dropLast, lev_mem h1 (fun x hx => hr x (List.dropLast_subset _ hx)) (by simp; omega), List.mem_map.mpr ⟨s.getLast hne, List.mem_filter.mpr ⟨?_, List.all_eq_true.mpr fun y hy => ?_⟩, e⟩⟩
    · have := hr _ (List.getLast_mem hne)
      exact num9_mem this.1 this.2
    · have := h3 y hy _ (List.mem_singleton.mpr rfl)
      simpa [ltI] using this
theorem sets_asc {s : List Int} (h : s ∈ setsL) : Asc s ∧ s.length ≤ 5 := by
  unfold setsL at h
  simp only [List.mem_append] at h
  rcases h with ((((h | h) | h) | h) | h) | h <;> (obtain ⟨a, b⟩ := lev_asc h; exact ⟨a, by omega⟩)
theorem sets_mem {s : List Int} (ha : Asc s) (hr : ∀ x ∈ s, 1 ≤ x ∧ x ≤ 9) (hl : s.length ≤ 5) : s ∈ setsL := by
  have m := lev_mem ha hr rfl
  unfold setsL
  simp only [List.mem_append]
  have : s.length = 0 ∨ s.length = 1 ∨ s.length = 2 ∨ s.length = 3 ∨ s.length = 4 ∨ s.length = 5 := by omega
  rcases this with e | e | e | e | e | e <;> rw [e] at m <;> simp only [m, true_or, or_true]
def hitB (ls : List (List Int)) (X : List Int) : Bool := ls.all fun l => l.any fun x => decide (x ∈ X)
theorem hitB_iff {ls : List (List Int)} {X : List Int} : hitB ls X = true ↔ Hit X ls := by
  unfold hitB Hit
  simp
def bestOf (ls : List (List Int)) : Option (List Int) := setsL.find? (hitB ls)
def bestD : Option (List Int) → D
  | none => .none
  | some X => tupI X
theorem best_b1 (ls : List (List Int)) (X : List Int) : b_law_best_b1 (.list (ls.map tupI)) () (tupI X) = if hitB ls X = true then .ok (.rt (tupI X)) else .ok (.nx ()) := by
  have e1 : compO (fun d15 => eltO (tst ((lstD (comp (ofSeq d15) fun d19 => eltO (tst (pyIn d19 (tupI X))) (Rs.ok d19))).bind fun x22 => pyEq x22 (.list []))) (Rs.ok d15)) (ls.map tupI) = .ok ((ls.filter fun l => decide ((l.filter fun x => decide (x ∈ X)) = [])).map tupI) := compO_filter fun l _ => by
    have e0 : ofSeq (tupI l) = .ok (iL l) := rfl
    have e2 : compO (fun d19 => eltO (tst (pyIn d19 (tupI X))) (Rs.ok d19)) (iL l) = .ok (iL (l.filter fun x => decide (x ∈ X))) := compO_filter (e := PyData.int) (h := PyData.int) fun x _ => by rw [pyIn_tup, tst_bool, eltO_ok]
    rw [e0, comp_ok, e2, lstD_ok, bind_ok, eq_nil, tst_bool, eltO_ok]
  have e3 : decide ((ls.filter fun l => decide ((l.filter fun x => decide (x ∈ X)) = [])) = []) = hitB ls X := by
    rw [Bool.eq_iff_iff, decide_eq_true_iff, hitB_iff, List.filter_eq_nil_iff]
    constructor
    · intro h l hl
      have := h l hl
      simp only [decide_eq_true_eq] at this
      obtain ⟨x, hx⟩ := List.exists_mem_of_ne_nil _ this
      obtain ⟨h1, h2⟩ := List.mem_filter.mp hx
      exact ⟨x, h1, of_decide_eq_true h2⟩
    · intro h l hl
      obtain ⟨x, hx, hX⟩ := h l hl
      simp only [decide_eq_true_eq]
      exact List.ne_nil_of_mem (List.mem_filter.mpr ⟨hx, decide_eq_true hX⟩)
  unfold b_law_best_b1
  simp only [bind_ok, ofSeq_list, comp_ok, mkLst_nil, lstD_ok]
  rw [e1]
  simp only [lstD_ok, bind_ok, eq_nilT, e3, tst_bool]
  by_cases q : hitB ls X = true
  · simp only [if_pos q, go_rt]
  · simp only [if_neg q, go_nx]
theorem best_for (ls : List (List Int)) : ∀ Xs : List (List Int), forO (b_law_best_b1 (.list (ls.map tupI))) (Xs.map tupI) () = match Xs.find? (hitB ls) with
    | some X => .ok (.rt (tupI X))
    | none => .ok (.nx ())
  | [] => rfl
  | X :: Xs => by
    rw [List.map_cons]
    show (b_law_best_b1 (.list (ls.map tupI)) () (tupI X)).go _ = _
    rw [best_b1, List.find?_cons]
    by_cases q : hitB ls X = true
    · rw [if_pos q, q, go_rt]
    · rw [if_neg q, go_nx, Bool.eq_false_iff.mpr q, best_for ls Xs]
theorem law_best_ok (ls : List (List Int)) : m_law_best (.list (ls.map tupI)) = .ok (bestD (bestOf ls)) := by
  unfold m_law_best b_law_best b_law_best_k2
  simp only [bind_ok, law_sets_ok, ofSeq_list, best_for]
  unfold bestOf
  cases setsL.find? (hitB ls) with
  | none => rfl
  | some X => rfl
/-- the first one that meets all is the least one -/
theorem find_least : ∀ {l : List (List Int)} {p : List Int → Bool} {B : List Int}, l.Pairwise (fun a b => shLt a b = true) → l.find? p = some B → B ∈ l ∧ p B = true ∧ ∀ Y ∈ l, p Y = true → shLt Y B = false
  | [], p, B, _, h => by cases h
  | a :: l, p, B, pw, h => by
    have pw' := List.pairwise_cons.mp pw
    rw [List.find?_cons] at h
    cases q : p a with
    | true =>
      rw [q] at h
      cases h
      refine ⟨by simp, q, fun Y hY _ => ?_⟩
      rcases List.mem_cons.mp hY with rfl | hY
      · exact shLt_o.irr _
      · exact shLt_o.asym (pw'.1 Y hY)
    | false =>
      rw [q] at h
      obtain ⟨h1, h2, h3⟩ := find_least pw'.2 h
      refine ⟨by simp [h1], h2, fun Y hY hp => ?_⟩
      rcases List.mem_cons.mp hY with rfl | hY
      · rw [q] at hp
        cases hp
      · exact h3 Y hY hp
theorem shLt_len {a b : List Int} (h : shLt a b = false) : b.length ≤ a.length := by
  unfold shLt at h
  simp only [Bool.or_eq_false_iff, decide_eq_false_iff_not] at h
  omega
section
variable {ls : List (List Int)} {f : Nat} (F : Few ls f) (rng : ∀ l ∈ ls, ∀ x ∈ l, 1 ≤ x ∧ x ≤ 9)
include F rng
theorem least_sets {Y : List Int} (ha : Asc Y) (hY : Hit Y ls) (hl : Y.length = f) (h5 : f ≤ 5) : Y ∈ setsL := sets_mem ha (fun y hy => by
  obtain ⟨l, h1, h2⟩ := least_in F hY hl hy
  exact rng l h1 y h2) (by omega)
theorem best_len {B : List Int} (h : bestOf ls = some B) : B.length = f := by
  obtain ⟨h1, h2, h3⟩ := find_least sets_sorted h
  have hB := hitB_iff.mp h2
  have low := F.low _ ⟨B, hB, Nat.le_refl _⟩
  have b5 := (sets_asc h1).2
  obtain ⟨X, x1, x2⟩ := F.can
  have hW := usort_hit x1
  have u1 := usort_length ltI_o X
  have l2 := F.low _ ⟨_, hW, Nat.le_refl _⟩
  have wl : (usort ltI X).length = f := by omega
  have := shLt_len (h3 _ (least_sets F rng (usort_sorted ltI_o X) hW wl (by omega)) (hitB_iff.mpr hW))
  omega
theorem best_some (h5 : f ≤ 5) : ∃ B, bestOf ls = some B := by
  obtain ⟨X, x1, x2⟩ := F.can
  have hW := usort_hit x1
  have u1 := usort_length ltI_o X
  have l2 := F.low _ ⟨_, hW, Nat.le_refl _⟩
  have m := least_sets F rng (usort_sorted ltI_o X) hW (by omega) h5
  cases q : bestOf ls with
  | some B => exact ⟨B, rfl⟩
  | none =>
    have := List.find?_eq_none.mp q _ m
    exact absurd (hitB_iff.mpr hW) this
theorem best_first (h5 : f ≤ 5) {R : List Int} (hR : First ls f R) : bestOf ls = some R := by
  obtain ⟨B, hB⟩ := best_some F rng h5
  have bl := best_len F rng hB
  obtain ⟨h1, h2, h3⟩ := find_least sets_sorted hB
  have m := least_sets F rng hR.asc hR.hit hR.len h5
  have q := h3 R m (hitB_iff.mpr hR.hit)
  have aB := (sets_asc h1).1
  rcases hR.min B aB (hitB_iff.mp h2) bl with e | e
  · rw [hB, e]
  · have hl := hR.len
    unfold shLt at q
    simp only [Bool.or_eq_false_iff, Bool.and_eq_false_iff, decide_eq_false_iff_not] at q
    rcases q.2 with z | z
    · omega
    · rw [e] at z
      cases z
end
theorem mem_clean {l : List Int} {x : Int} : x ∈ clean l ↔ x ∈ l ∧ x ≠ 0 := by
  unfold clean
  rw [(isort_perm (lt := ltI) _).mem_iff, List.mem_filter]
  simp
theorem small_size {rows : List (List Int)} (C : Card rows) (h9 : ∀ x ∈ rows.flatten, x ≤ 9) : rows.length ≤ 3 := by
  refine Classical.byContradiction fun q => ?_
  have : rows.length = 4 := by have := C.hi; omega
  have fl := C.flat
  rw [this] at fl
  have := nodup_sub (l := rows.flatten) (m := 0 :: num9) C.nd fun x hx => by
    have h1 := (C.rng x hx).1
    have h2 := h9 x hx
    by_cases e : x = 0
    · simp [e]
    · exact List.mem_cons_of_mem _ (num9_mem (by omega) h2)
  have : (0 :: num9).length = 10 := rfl
  omega
abbrev entry (rows : List (List Int)) (a b : Nat) : Int := (rows.getD a []).getD b 0
theorem entry_row {rows : List (List Int)} (C : Card rows) {a b : Nat} (ha : a < rows.length) (hb : b < rows.length) : entry rows a b ∈ rows.getD a [] := getD_mem (by rw [C.row_len ha]; exact hb)
theorem entry_col {rows : List (List Int)} {a b : Nat} (ha : a < rows.length) : entry rows a b ∈ colOf rows b := by
  rw [col_range]
  exact List.mem_map.mpr ⟨a, List.mem_range.mpr ha, rfl⟩
theorem entry_diag {rows : List (List Int)} {a : Nat} (ha : a < rows.length) : entry rows a a ∈ diagOf rows := List.mem_map.mpr ⟨a, List.mem_range.mpr ha, rfl⟩
theorem entry_anti {rows : List (List Int)} {a : Nat} (ha : a < rows.length) : entry rows a (rows.length - 1 - a) ∈ antiOf rows := List.mem_map.mpr ⟨a, List.mem_range.mpr ha, rfl⟩
/-- cells that stand in each row, each column and both diagonals -/
theorem cells_hit {rows : List (List Int)} (C : Card rows) (r : Nat) {cells : List (Nat × Nat)} (ok : ∀ q ∈ cells, q.1 < rows.length ∧ q.2 < rows.length ∧ entry rows q.1 q.2 ≠ 0)
    (hr : ∀ a, a < rows.length → ∃ b, (a, b) ∈ cells) (hc : ∀ b, b < rows.length → ∃ a, (a, b) ∈ cells) (hd : ∃ a, (a, a) ∈ cells) (ha : ∃ a, (a, rows.length - 1 - a) ∈ cells) : CanHit (linesOf rows r) cells.length := by
  refine ⟨cells.map fun q => entry rows q.1 q.2, fun l hl => ?_, by simp⟩
  obtain ⟨s, hs, rfl⟩ := mem_lines.mp hl
  have pick : ∀ a b, (a, b) ∈ cells → entry rows a b ∈ s → ∃ x ∈ clean s, x ∈ cells.map fun q => entry rows q.1 q.2 := fun a b h1 h2 => ⟨entry rows a b, mem_clean.mpr ⟨h2, (ok _ h1).2.2⟩, List.mem_map.mpr ⟨(a, b), h1, rfl⟩⟩
  rcases src_iff.mp hs with ⟨a, h, rfl⟩ | ⟨_, b, h, rfl⟩ | ⟨_, h⟩
  · obtain ⟨b, hb⟩ := hr a h
    exact pick a b hb (entry_row C h (ok _ hb).2.1)
  · obtain ⟨a, ha⟩ := hc b h
    exact pick a b ha (entry_col (ok _ ha).1)
  · rcases h with rfl | rfl
    · obtain ⟨a, h⟩ := hd
      exact pick a a h (entry_diag (ok _ h).1)
    · obtain ⟨a, h⟩ := ha
      exact pick a _ h (entry_anti (ok _ h).1)
theorem small_few {rows : List (List Int)} (C : Card rows) (h9 : ∀ x ∈ rows.flatten, x ≤ 9) (r : Nat) {f : Nat} (F : Few (linesOf rows r) f) : f ≤ 5 := by
  have lo := C.lo
  have s3 := small_size C h9
  have one0 : ∀ {a b c d : Nat}, a < rows.length → b < rows.length → c < rows.length → d < rows.length → (a ≠ c ∨ b ≠ d) → entry rows a b = 0 → entry rows c d ≠ 0 := fun {a b c d} ha hb hc hd h e1 e2 => C.dif2 ha hc hb hd h (e1.trans e2.symm)
  have : rows.length = 2 ∨ rows.length = 3 := by omega
  rcases this with n | n
  · -- all numbers
    have hit : Hit (nz rows.flatten) (linesOf rows r) := fun l hl => by
      obtain ⟨x, hx⟩ := List.exists_mem_of_ne_nil l ((lines_are C r).ne l hl)
      exact ⟨x, hx, line_in_card C hl x hx⟩
    have := F.low _ ⟨_, hit, Nat.le_refl _⟩
    have h1 := List.length_filter_le (fun x : Int => !(x == 0)) rows.flatten
    have h2 := C.flat
    rw [n] at h2
    unfold nz at this
    omega
  · have lt : ∀ {a : Nat}, a ≤ 2 → a < rows.length := fun h => by omega
    by_cases c : entry rows 1 1 = 0
    · have w := F.low _ (cells_hit C r (cells := [(0, 1), (1, 0), (2, 2), (0, 2)]) (fun q hq => by
        have nz : ∀ a b, a ≤ 2 → b ≤ 2 → (1 ≠ a ∨ 1 ≠ b) → a < rows.length ∧ b < rows.length ∧ entry rows a b ≠ 0 := fun a b ha hb h => ⟨lt ha, lt hb, one0 (lt (by omega)) (lt (by omega)) (lt ha) (lt hb) h c⟩
        simp only [List.mem_cons, List.not_mem_nil, or_false] at hq
        rcases hq with rfl | rfl | rfl | rfl
        · exact nz 0 1 (by omega) (by omega) (by omega)
        · exact nz 1 0 (by omega) (by omega) (by omega)
        · exact nz 2 2 (by omega) (by omega) (by omega)
        · exact nz 0 2 (by omega) (by omega) (by omega)) (fun a ha => by
        have : a = 0 ∨ a = 1 ∨ a = 2 := by omega
        rcases this with rfl | rfl | rfl
        · exact ⟨1, by simp⟩
        · exact ⟨0, by simp⟩
        · exact ⟨2, by simp⟩) (fun b hb => by
        have : b = 0 ∨ b = 1 ∨ b = 2 := by omega
        rcases this with rfl | rfl | rfl
        · exact ⟨1, by simp⟩
        · exact ⟨0, by simp⟩
        · exact ⟨2, by simp⟩) ⟨2, by simp⟩ ⟨0, by rw [n]; simp⟩)
      simp at w
      omega
    · by_cases d : entry rows 0 0 = 0 ∨ entry rows 2 2 = 0
      · -- the other diagonal
        have nz : ∀ a b, a ≤ 2 → b ≤ 2 → a + b = 2 → a < rows.length ∧ b < rows.length ∧ entry rows a b ≠ 0 := fun a b ha hb h => by
          refine ⟨lt ha, lt hb, ?_⟩
          by_cases e : a = 1
          · have : b = 1 := by omega
            subst e this
            exact c
          · rcases d with d | d
            · exact one0 (lt (by omega)) (lt (by omega)) (lt ha) (lt hb) (by omega) d
            · exact one0 (lt (by omega)) (lt (by omega)) (lt ha) (lt hb) (by omega) d
        have w := F.low _ (cells_hit C r (cells := [(0, 2), (1, 1), (2, 0)]) (fun q hq => by
          simp only [List.mem_cons, List.not_mem_nil, or_false] at hq
          rcases hq with rfl | rfl | rfl
          · exact nz 0 2 (by omega) (by omega) (by omega)
          · exact nz 1 1 (by omega) (by omega) (by omega)
          · exact nz 2 0 (by omega) (by omega) (by omega)) (fun a ha => by
          have : a = 0 ∨ a = 1 ∨ a = 2 := by omega
          rcases this with rfl | rfl | rfl
          · exact ⟨2, by simp⟩
          · exact ⟨1, by simp⟩
          · exact ⟨0, by simp⟩) (fun b hb => by
          have : b = 0 ∨ b = 1 ∨ b = 2 := by omega
          rcases this with rfl | rfl | rfl
          · exact ⟨2, by simp⟩
          · exact ⟨1, by simp⟩
          · exact ⟨0, by simp⟩) ⟨1, by simp⟩ ⟨0, by rw [n]; simp⟩)
        simp at w
        omega
      · have d1 : entry rows 0 0 ≠ 0 := fun e => d (.inl e)
        have d2 : entry rows 2 2 ≠ 0 := fun e => d (.inr e)
        have w := F.low _ (cells_hit C r (cells := [(0, 0), (1, 1), (2, 2)]) (fun q hq => by
          simp only [List.mem_cons, List.not_mem_nil, or_false] at hq
          rcases hq with rfl | rfl | rfl
          · exact ⟨lt (by omega), lt (by omega), d1⟩
          · exact ⟨lt (by omega), lt (by omega), c⟩
          · exact ⟨lt (by omega), lt (by omega), d2⟩) (fun a ha => by
          have : a = 0 ∨ a = 1 ∨ a = 2 := by omega
          rcases this with rfl | rfl | rfl
          · exact ⟨0, by simp⟩
          · exact ⟨1, by simp⟩
          · exact ⟨2, by simp⟩) (fun b hb => by
          have : b = 0 ∨ b = 1 ∨ b = 2 := by omega
          rcases this with rfl | rfl | rfl
          · exact ⟨0, by simp⟩
          · exact ⟨1, by simp⟩
          · exact ⟨2, by simp⟩) ⟨0, by simp⟩ ⟨1, by rw [n]; simp⟩)
        simp at w
        omega
theorem lines9 {rows : List (List Int)} (C : Card rows) (h9 : ∀ x ∈ rows.flatten, x ≤ 9) {r : Nat} : ∀ l ∈ linesOf rows r, ∀ x ∈ l, 1 ≤ x ∧ x ≤ 9 := fun l hl x hx => by
  have h1 := ((lines_are C r).rng l hl x hx).1
  have h2 := line_in_card C hl x hx
  exact ⟨h1, h9 x (List.mem_filter.mp h2).1⟩
end BG
namespace BG
open PySem
theorem lst2 (a b : D) : mkLst [a, b] = .ok [a, b] := mkLst_ok (by simp [sizeMax])
theorem lst1 (a : D) : mkLst [a] = .ok [a] := mkLst_ok (by simp [sizeMax])
theorem comp_notin (ns ms : List Int) : compO (fun d => eltO (tst (pyNotIn d (.list (iL ms)))) (Rs.ok d)) (iL ns) = .ok (iL (ns.filter fun x => !decide (x ∈ ms))) :=
  compO_filter (e := PyData.int) (h := PyData.int) fun x _ => by rw [pyNotIn_list, tst_bool, eltO_ok]
theorem comp_notinT (ns ms : List Int) : compO (fun d => eltO (tst (pyNotIn d (tupI ms))) (Rs.ok d)) (iL ns) = .ok (iL (ns.filter fun x => !decide (x ∈ ms))) :=
  compO_filter (e := PyData.int) (h := PyData.int) fun x _ => by rw [pyNotIn_tup, tst_bool, eltO_ok]
theorem num60_call : Call num60 := Call.of (num60_pw.imp fun {a b} q e => by subst e; simp [ltI] at q) fun x hx => num60_rng hx
theorem sub_call {call : List Int} (C : Call call) (p : Int → Bool) : Call (call.filter p) := Call.of (C.nd.filter p) fun x hx => C.rng x (List.mem_filter.mp hx).1
/-- numbers kept: the others -/
theorem rest_len {R : List Int} (nd : R.Nodup) (rng : ∀ x ∈ R, 1 ≤ x ∧ x ≤ 60) : (num60.filter fun x => !decide (x ∈ R)).length + R.length = 60 := by
  have p : ((num60.filter fun x => !decide (x ∈ R)) ++ R).Perm num60 := by
    rw [List.perm_ext_iff_of_nodup ?_ num60_call.nd]
    · intro z
      rw [List.mem_append, List.mem_filter]
      constructor
      · rintro (⟨h, _⟩ | h)
        · exact h
        · exact num60_mem z (rng z h).1 (rng z h).2
      · intro h
        by_cases q : z ∈ R
        · exact .inr q
        · exact .inl ⟨h, by simp [q]⟩
    · refine List.nodup_append.mpr ⟨num60_call.nd.filter _, nd, fun a ha b hb e => ?_⟩
      subst e
      have := (List.mem_filter.mp ha).2
      simp [hb] at this
  have := p.length_eq
  rw [List.length_append] at this
  exact this.trans rfl
theorem sort_up {a b c : Int} (h1 : a ≤ b) (h2 : b ≤ c) : isort ltI [a, b, c] = [a, b, c] := (isort_is ltI_o (by simp [ltI]; omega) (List.Perm.refl _)).symm
section
variable {rows : List (List Int)} (C : Card rows) (r : Nat) {f : Nat} (F : Few (linesOf rows r) f) (hf : f ≤ 10)
include C F hf
theorem kept_rng {R : List Int} (hR : First (linesOf rows r) f R) : ∀ x ∈ R, 1 ≤ x ∧ x ≤ 60 ∧ x ∈ isort ltI (nz rows.flatten) := fun x hx => by
  obtain ⟨l, hl, hxl⟩ := least_in F hR.hit hR.len hx
  have := (lines_are C r).rng l hl x hxl
  exact ⟨this.1, this.2, (isort_perm _).mem_iff.mpr (line_in_card C hl x hxl)⟩
theorem kept_open {R : List Int} (hR : First (linesOf rows r) f R) : someIn (linesOf rows r) (num60.filter fun x => !decide (x ∈ R)) = false := Bool.eq_false_iff.mpr fun q => by
  obtain ⟨l, hl, hs⟩ := someIn_iff.mp q
  obtain ⟨x, hx, hxR⟩ := hR.hit l hl
  have := (List.mem_filter.mp (hs x hx)).2
  simp [hxR] at this
theorem kept_last {R : List Int} (hR : First (linesOf rows r) f R) {n : Int} (hn : n ∈ R) : timeOf (linesOf rows r) ((num60.filter fun x => !decide (x ∈ R)) ++ [n]) = some ((num60.filter fun x => !decide (x ∈ R)).length + 1) := by
  refine (time_snoc (lines_are C r).ne (kept_open C r F hf hR)).mpr ⟨rfl, ?_⟩
  obtain ⟨l, hl, _, h2⟩ := least_need F hR.hit hR.len hn
  refine someIn_iff.mpr ⟨l, hl, fun x hx => ?_⟩
  by_cases q : x ∈ R
  · rw [h2 x hx q]
    simp
  · have := (lines_are C r).rng l hl x hx
    exact List.mem_append_left _ (List.mem_filter.mpr ⟨num60_mem x this.1 this.2, by simp [q]⟩)
end
theorem hallD_two (a b : List (List Int)) : PyData.list [cardD a, cardD b] = hallD [a, b] := rfl
theorem hallD_one (a : List (List Int)) : PyData.list [cardD a] = hallD [a] := rfl
theorem hall_two {a b : List (List Int)} (CA : Card a) (CB : Card b) : Hall [a, b] := ⟨by simp, by simp, fun rows h => by
  rcases List.mem_cons.mp h with rfl | h
  · exact CA
  · rw [List.mem_singleton.mp h]; exact CB⟩
theorem hall_one {a : List (List Int)} (CA : Card a) : Hall [a] := ⟨by simp, by simp, fun rows h => by rw [List.mem_singleton.mp h]; exact CA⟩
theorem halls_ok {A B : List (List Int)} (CA : Card A) (CB : Card B) (r : Nat) {call : List Int} (FC : Full call) : m_law_halls (cardD A) (cardD B) (.str (ruleS r)) (.list (iL call)) = .ok (.bool true) := by
  obtain ⟨fa, FA, ha⟩ := few_card CA r
  obtain ⟨fb, FB, hb⟩ := few_card CB r
  obtain ⟨f0, F0, h0⟩ := few_card CA 0
  have H2 := hall_two CA CB
  obtain ⟨fh, FH, hh⟩ := few_hall H2 (by simp) r
  have sa : ∀ l ∈ linesOf A r, l ∈ hallL [A, B] r := fun l hl => mem_hallL.mpr ⟨A, by simp, hl⟩
  have sb : ∀ l ∈ linesOf B r, l ∈ hallL [A, B] r := fun l hl => mem_hallL.mpr ⟨B, by simp, hl⟩
  have ab : ∀ l ∈ hallL [A, B] r, l ∈ linesOf A r ∨ l ∈ linesOf B r := fun l hl => by
    obtain ⟨x, hx, h⟩ := mem_hallL.mp hl
    rcases List.mem_cons.mp hx with rfl | hx
    · exact .inl h
    · rw [List.mem_singleton.mp hx] at h
      exact .inr h
  have ga := FA.mono sa FH
  have gb := FB.mono sb FH
  have gab := few_add FA FB FH ab
  have lh := latest_hall_ok H2 (by simp) r FH hh
  rw [← hallD_two] at lh
  have la := latest_ok CA r FA ha
  have lb := latest_ok CB r FB hb
  have CR := CA.rev
  have lrev : m_latest_hall (.list [cardD A, cardD A.reverse]) (.str "rows") = .ok (.int (60 - (f0 : Int))) := latest_hall_ok (hall_two CA CR) (by simp) 0 (F0.congr fun l => by
    rw [mem_hallL]
    constructor
    · intro h
      exact ⟨A, by simp, h⟩
    · rintro ⟨x, hx, h⟩
      rcases List.mem_cons.mp hx with rfl | hx
      · exact h
      · rw [List.mem_singleton.mp hx, lines_rev] at h
        exact h) (by omega)
  have l0 : m_latest (cardD A) (.str "rows") = .ok (.int (60 - (f0 : Int))) := latest_ok CA 0 F0 h0
  have lone : m_latest_hall (.list [cardD A]) (.str (ruleS r)) = .ok (.int (60 - (fa : Int))) := latest_hall_ok (hall_one CA) (by simp) r (FA.congr fun l => by
    rw [mem_hallL]
    constructor
    · intro h
      exact ⟨A, by simp, h⟩
    · rintro ⟨x, hx, h⟩
      rw [List.mem_singleton.mp hx] at h
      exact h) (by omega)
  have mn : ∃ m : Int, pyMin2 (.int (60 - (fa : Int))) (.int (60 - (fb : Int))) = .ok (.int m) ∧ 60 - (fh : Int) ≤ m := by
    refine ⟨_, rfl, ?_⟩
    split <;> omega
  obtain ⟨m, hm1, hm2⟩ := mn
  have n1 : ¬ (m < 60 - (fh : Int)) := by omega
  have n2 : ¬ (60 - (fh : Int) < 60 - (fa : Int) + (60 - (fb : Int)) - 60) := by omega
  have z0 : ∀ i : Int, pyNe (.int i) (.int i) = .ok (.bool false) := fun i => by rw [pyNe_int]; simp
  unfold m_law_halls b_law_halls b_law_halls_k6 b_law_halls_k5 b_law_halls_k4
  simp only [bind_ok, lst2, lst1, lstD_ok, lh, la, lb, hm1, pyGt_int, n1, decide_false, tst_bool, Bool.false_eq_true, if_false, go_nx, pyAdd_int, pySub_int, pyLt_int, n2, pyRev_card, lrev, l0, z0, lone]
  -- the winners
  have ne : ∀ l ∈ hallL [A, B] r, l ≠ [] := fun l hl => by
    rcases ab l hl with h | h
    · exact (lines_are CA r).ne l h
    · exact (lines_are CB r).ne l h
  have rng : ∀ l ∈ hallL [A, B] r, ∀ x ∈ l, 1 ≤ x ∧ x ≤ 60 := fun l hl => by
    rcases ab l hl with h | h
    · exact (lines_are CA r).rng l h
    · exact (lines_are CB r).rng l h
  have fpos : 1 ≤ fh := few_pos FH (List.ne_nil_of_mem (sa _ (Classical.choose_spec (List.exists_mem_of_ne_nil _ (lines_some CA r)))))
  obtain ⟨t0, ht0, hle⟩ := full_time ne rng FH fpos (by omega) FC
  obtain ⟨s1, s2, s3, _⟩ := timeOf_spec ht0
  obtain ⟨l, hl, hs⟩ := someIn_iff.mp s3
  have hw : ∃ i t : Nat, i < 2 ∧ timeOf (linesOf (([A, B] : List (List (List Int))).getD i []) r) call = some t ∧ t ≤ t0 := by
    have sub : ∀ {R : List (List Int)}, Card R → l ∈ linesOf R r → ∃ t, timeOf (linesOf R r) call = some t ∧ t ≤ t0 := fun {R} CR h => by
      have h1 : someIn (linesOf R r) (call.take t0) = true := someIn_iff.mpr ⟨l, h, hs⟩
      obtain ⟨t, ht⟩ := timeOf_is (lines_are CR r).ne (someIn_mono (fun x hx => List.mem_of_mem_take hx) h1)
      have := someIn_take (lines_are CR r).ne ht t0
      rw [h1] at this
      exact ⟨t, ht, of_decide_eq_true this.symm⟩
    rcases ab l hl with h | h
    · obtain ⟨t, a, b⟩ := sub CA h
      exact ⟨0, t, by omega, a, b⟩
    · obtain ⟨t, a, b⟩ := sub CB h
      exact ⟨1, t, by omega, a, b⟩
  obtain ⟨i, t, hi, ht, htt⟩ := hw
  obtain ⟨s, hs', hmin⟩ := least_time (ts := timesOf [A, B] r call) (times_mem.mpr ⟨i, hi, ht⟩)
  have hst : s ≤ t := hmin t (times_mem.mpr ⟨i, hi, ht⟩)
  have hd := head_places hs' hmin
  have w := winners_ok H2 r FC.ok
  rw [hd] at w
  have hne := ixs_iff.mpr hs'
  have hj : ∃ j : Nat, j < 2 ∧ timeOf (linesOf (([A, B] : List (List (List Int))).getD j []) r) call = some s ∧ pyIx (lstI (ixs (timesOf [A, B] r call) (s : Int))) (.int 0) = .ok (.int (j : Int)) := by
    cases hq : ixs (timesOf [A, B] r call) (s : Int) with
    | nil => exact absurd hq hne
    | cons z zs =>
      obtain ⟨j, hj, e, h⟩ := ixs_time (hs := [A, B]) (r := r) (call := call) (t := s) (z := z) (by rw [hq]; simp)
      refine ⟨j, hj, h, ?_⟩
      rw [show (PyData.int 0) = PyData.int ((0 : Nat) : Int) from rfl, pyIx_list (by simp [iL]), ← e]
      rfl
  obtain ⟨j, hj, hts, eix⟩ := hj
  have CJ : Card (([A, B] : List (List (List Int))).getD j []) := H2.card hj
  have fin := finished_at_ok CJ r FC.ok
  rw [hts] at fin
  have ixj := ix_hall (hs := [A, B]) (i := j) hj
  have n3 : ¬ (60 - (fh : Int) + 1 < (s : Int)) := by omega
  have w' : m_winners (.list [cardD A, cardD B]) (.str (ruleS r)) (.list (iL call)) = .ok (lstI (ixs (timesOf [A, B] r call) (s : Int))) := w
  have ixj' : pyIx (.list [cardD A, cardD B]) (.int (j : Int)) = .ok (cardD (([A, B] : List (List (List Int))).getD j [])) := ixj
  unfold b_law_halls_k3
  simp only [bind_ok, lst2, lstD_ok, w', eix, ixj', fin, timeD, pyAdd_int, pyGt_int, n3, decide_false, tst_bool, Bool.false_eq_true, if_false, go_nx]
  -- apart
  have ec : compO (fun d180 => eltO (tst (pyIn d180 (.list (iL (isort ltI (nz B.flatten)))))) (Rs.ok d180)) (iL (isort ltI (nz A.flatten))) = .ok (iL ((isort ltI (nz A.flatten)).filter fun x => decide (x ∈ isort ltI (nz B.flatten)))) := compO_filter (e := PyData.int) (h := PyData.int) fun x _ => by rw [pyIn_list, tst_bool, eltO_ok]
  unfold b_law_halls_k2 b_law_halls_k1
  simp only [bind_ok, numbers_ok CA, numbers_ok CB, ofSeq_list, comp_ok, ec, lstD_ok, mkLst_nil, eq_nil, tst_bool, la, lb, pyAdd_int, pySub_int, pyEq_int]
  by_cases q : ((isort ltI (nz A.flatten)).filter fun x => decide (x ∈ isort ltI (nz B.flatten))) = []
  · have dis : ∀ x, x ∈ nz A.flatten → x ∉ nz B.flatten := fun x hx hy => by
      have := List.filter_eq_nil_iff.mp q x ((isort_perm _).mem_iff.mpr hx)
      exact this (decide_eq_true ((isort_perm _).mem_iff.mpr hy))
    have ge := few_apart FA FB FH sa sb (P := fun x => decide (x ∈ nz A.flatten)) (fun l hl x hx => decide_eq_true (line_in_card CA hl x hx)) (fun l hl x hx => decide_eq_false fun z => dis x z (line_in_card CB hl x hx))
    have e : (60 - (fh : Int) == 60 - (fa : Int) + (60 - (fb : Int)) - 60) = true := by
      simp
      omega
    rw [decide_eq_true q, if_pos rfl, go_rt, fin_rt, e]
  · rw [decide_eq_false q, if_neg (by simp), go_nx, fin_rt]
theorem k19_k4 {A B : List (List Int)} (CA : Card A) (CB : Card B) (r : Nat) {call : List Int} (FC : Full call) : b_law_k19_k4 (cardD A) (cardD B) (.str (ruleS r)) (.list (iL call)) = .ok (.rt (.bool true)) := by
  obtain ⟨f0, F0, h0⟩ := few_card CA 0
  obtain ⟨f1, F1, h1⟩ := few_card CA 1
  obtain ⟨f2, F2, h2⟩ := few_card CA 2
  have g1 := F0.mono (lines_mono (rows := A) (r := 0) (s := 1) (by omega)) F1
  have g2 := F1.mono (lines_mono (rows := A) (r := 1) (s := 2) (by omega)) F2
  have e0 := (few_rows CA).one F0
  have o0 : m_fewest_open (cardD A) (.str "rows") = .ok (.int (f0 : Int)) := fewest_open_ok CA 0 F0 h0
  have o1 : m_fewest_open (cardD A) (.str "lines") = .ok (.int (f1 : Int)) := fewest_open_ok CA 1 F1 h1
  have o2 : m_fewest_open (cardD A) (.str "all") = .ok (.int (f2 : Int)) := fewest_open_ok CA 2 F2 h2
  have r0 : m_earliest (cardD A) (.str "rows") = .ok (.int (minLen (linesOf A 0))) := earliest_ok CA 0
  have r1 : m_earliest (cardD A) (.str "lines") = .ok (.int (minLen (linesOf A 1))) := earliest_ok CA 1
  have r2 : m_earliest (cardD A) (.str "all") = .ok (.int (minLen (linesOf A 2))) := earliest_ok CA 2
  have ml : ∀ {a b : Nat}, a ≤ b → minLen (linesOf A b) ≤ minLen (linesOf A a) := fun {a b} h => by
    obtain ⟨l, hl, e⟩ := minLen_mem (lines_some CA a)
    rw [e]
    exact minLen_le (lines_mono h l hl)
  have m1 := ml (a := 0) (b := 1) (by omega)
  have m2 := ml (a := 1) (b := 2) (by omega)
  have mt : mkTup [PyData.str "rows", .str "lines", .str "all"] = .ok (.tuple [.str "rows", .str "lines", .str "all"]) := mkTup_ok (by simp [sizeMax])
  have c1 : compO (fun d293 => eltO (Rs.ok true) (m_fewest_open (cardD A) d293)) [.str "rows", .str "lines", .str "all"] = .ok (iL [(f0 : Int), f1, f2]) := by
    unfold compO
    rw [o0]
    show Rs.bind (compO _ [PyData.str "lines", .str "all"]) _ = _
    unfold compO
    rw [o1]
    show Rs.bind (Rs.bind (compO _ [PyData.str "all"]) _) _ = _
    unfold compO
    rw [o2]
    rfl
  have c2 : compO (fun d319 => eltO (Rs.ok true) (m_earliest (cardD A) d319)) [.str "rows", .str "lines", .str "all"] = .ok (iL [minLen (linesOf A 0), minLen (linesOf A 1), minLen (linesOf A 2)]) := by
    unfold compO
    rw [r0]
    show Rs.bind (compO _ [PyData.str "lines", .str "all"]) _ = _
    unfold compO
    rw [r1]
    show Rs.bind (Rs.bind (compO _ [PyData.str "all"]) _) _ = _
    unfold compO
    rw [r2]
    rfl
  have ix0 : pyIx (.list (iL [(f0 : Int), f1, f2])) (.int 0) = .ok (.int (f0 : Int)) := rfl
  have el : pyLen (cardD A) = .ok (.int (A.length : Int)) := by simp [cardD]
  have z0 : pyNe (.int (f0 : Int)) (.int (A.length : Int)) = .ok (.bool false) := by rw [pyNe_int, e0]; simp
  have rv : pyRev (.list (iL [minLen (linesOf A 2), minLen (linesOf A 1), minLen (linesOf A 0)])) = .ok (.list (iL [minLen (linesOf A 0), minLen (linesOf A 1), minLen (linesOf A 2)])) := rfl
  unfold b_law_k19_k4 b_law_k19_k3 b_law_k19_k2
  simp only [bind_ok, mt, ofSeq_tuple, comp_ok, c1, c2, pySorted_ints, sort_up (a := (f0 : Int)) (b := (f1 : Int)) (c := (f2 : Int)) (by omega) (by omega), lstD_ok, pyNe_same (Sh.list (shA_ints (n := 0) _)), tst_bool, orT_ok, Bool.false_eq_true, if_false, ix0, el, z0, go_nx, sort3 m1 m2, rv, halls_ok CA CB r FC]
theorem k19_k6 (ns : List Int) (hl : ns.length ≤ 63) {A B : List (List Int)} (CA : Card A) (CB : Card B) (r : Nat) {f : Nat} (F : Few (linesOf A r) f) (hf : f ≤ 10) : b_law_k19_k6 (.list (iL ns)) (cardD A) (.str (ruleS r)) (cardD B) = .ok (.rt (.bool true)) := by
  obtain ⟨call0, CC, _, c60, hcall⟩ := call_ok ns hl 70 60 (by decide) (by decide) 60 (by decide)
  have hcall : m_law_call (.list (iL ns)) (.int 70) (.int 60) (.int 60) = .ok (.list (iL call0)) := hcall
  have fl := List.length_filter_le (fun x => !decide (x ∈ call0)) num60
  have : num60.length = 60 := rfl
  have add : pyAdd (.list (iL call0)) (.list (iL (num60.filter fun x => !decide (x ∈ call0)))) = .ok (.list (iL (call0 ++ num60.filter fun x => !decide (x ∈ call0)))) := by
    rw [pyAdd_list (by simp only [iL, List.length_map]; omega)]
    simp [iL]
  have FC : Full (call0 ++ num60.filter fun x => !decide (x ∈ call0)) := by
    refine ⟨Call.of ?_ fun x hx => ?_, fun x h1 h2 => ?_⟩
    · refine List.nodup_append.mpr ⟨CC.nd, num60_call.nd.filter _, fun a ha b hb e => ?_⟩
      subst e
      have := (List.mem_filter.mp hb).2
      simp [ha] at this
    · rcases List.mem_append.mp hx with h | h
      · exact CC.rng x h
      · exact num60_rng (List.mem_filter.mp h).1
    · by_cases q : x ∈ call0
      · exact List.mem_append_left _ q
      · exact List.mem_append_right _ (List.mem_filter.mpr ⟨num60_mem x h1 h2, by simp [q]⟩)
  generalize hcl : call0 ++ num60.filter (fun x => !decide (x ∈ call0)) = call at *
  have L := lines_are CA r
  obtain ⟨t, ht, hle⟩ := full_time L.ne L.rng F (few_pos F (lines_some CA r)) (by omega) FC
  have fin := finished_at_ok CA r FC.ok
  rw [ht] at fin
  have tl := time_long L.nd ht
  have hle' : (t : Int) ≤ 60 - (f : Int) + 1 := by omega
  -- the shortest line
  obtain ⟨best, hb⟩ : ∃ b, shortOf (linesOf A r) = some b := by
    cases q : shortOf (linesOf A r) with
    | none => exact absurd (short_none.mp q) (lines_some CA r)
    | some b => exact ⟨b, rfl⟩
  have hlone : loneOf (linesOf A r) [] = linesOf A r := List.filter_eq_self.mpr fun l _ => rfl
  have bt := lone_time CA (r := r) (known := []) (l := best) (by rw [hlone]; exact hb)
  obtain ⟨bm, bmin⟩ := short_some hb
  have bl : minLen (linesOf A r) = (best.length : Int) := by
    obtain ⟨l, hl, e⟩ := minLen_mem (lines_some CA r)
    have h1 := minLen_le bm
    have h2 := bmin l hl
    unfold shLt at h2
    simp only [Bool.or_eq_false_iff, decide_eq_false_iff_not] at h2
    omega
  have pm : pyMinD (.list ((linesOf A r).map pairL)) = .ok (pairL best) := by
    cases q : linesOf A r with
    | nil => exact absurd q (lines_some CA r)
    | cons l ls =>
      rw [pyMinD_pairs]
      rw [q] at hb
      cases hb
      rfl
  have ix : pyIx (pairL best) (.int 1) = .ok (tupI best) := rfl
  have el : pyList (tupI best) = .ok (iL best) := rfl
  have fb := finished_at_ok CA r (line_call CA bm)
  rw [bt] at fb
  have z0 : ∀ i : Int, pyNe (.int i) (.int i) = .ok (.bool false) := fun i => by rw [pyNe_int]; simp
  have k5 : b_law_k19_k5 (cardD A) (.str (ruleS r)) (cardD B) (.list (iL call)) = .ok (.rt (.bool true)) := by
    unfold b_law_k19_k5
    simp only [lines_ok CA, bind_ok (PyData.str (ruleS r)), bind_ok (cardD A), bind_ok (PyData.list ((linesOf A r).map tupI)), ofSeq_list, comp_ok, comp_pairs]
    simp only [lstD_ok, bind_ok, pm, ix, el, fb, earliest_ok CA, bl, timeD, z0, tst_bool, Bool.false_eq_true, if_false, go_nx]
    exact k19_k4 CA CB r FC
  unfold b_law_k19_k6
  simp only [bind_ok, hcall, num60_range, comp_ok, comp_notin, lstD_ok, add, fin, timeD, earliest_ok CA, latest_ok CA r F hf, pyAdd_int, chainV_int, tl, hle', decide_true, if_true, pyLe_int, tst_bool, notT_ok, Bool.not_true, Bool.false_eq_true, if_false, go_nx]
  exact k5
theorem law_k19_true (ns : List Int) (hl : ns.length ≤ 63) : m_law_k19 (.list (iL ns)) = .ok (.bool true) := by
  obtain ⟨j3, j31, j32, j33⟩ := drawn_ok ns hl 3 2 (by decide)
  obtain ⟨t, ht1, ht2, ht⟩ : ∃ t : Int, 9 ≤ t ∧ t ≤ 60 ∧ pyIx (.list [.int 16, .int 60]) (.int j3) = .ok (.int t) := by
    have : j3 = 0 ∨ j3 = 1 := by omega
    rcases this with rfl | rfl
    · exact ⟨16, by decide, by decide, rfl⟩
    · exact ⟨60, by decide, by decide, rfl⟩
  obtain ⟨r, _, hr⟩ := rule_ok ns hl 2
  obtain ⟨A, CA, _, hA⟩ := card_ok ns hl 10 t ht1 ht2
  obtain ⟨B, CB, _, hB⟩ := card_ok ns hl 40 t ht1 ht2
  obtain ⟨f, F, hf⟩ := few_card CA r
  obtain ⟨R, hR, hopen⟩ := open_numbers_ok CA r F hf
  have rng := kept_rng CA r F hf hR
  have nd := asc_nodup hR.asc
  have rl := rest_len nd fun x hx => ⟨(rng x hx).1, (rng x hx).2.1⟩
  have RC : Call (num60.filter fun x => !decide (x ∈ R)) := sub_call num60_call _
  have hlen := hR.len
  have el : pyLen (tupI R) = .ok (.int (f : Int)) := by
    rw [← hlen]
    simp [tupI]
  have z0 : ∀ i : Int, pyNe (.int i) (.int i) = .ok (.bool false) := fun i => by rw [pyNe_int]; simp
  have es : pySortedSetT (tupI R) = .ok (iL R) := by
    show (match intsOf (iL R) with | some ns => if ns.length < 64 then Rs.ok ((usort ltI ns).map PyData.int) else Rs.bad | none => Rs.bad) = _
    rw [intsOf_iL]
    show (if R.length < 64 then _ else _) = _
    rw [if_pos (by omega), ← usort_is ltI_o hR.asc fun z => Iff.rfl]
  have et : pyTuple (.list (iL R)) = .ok (tupI R) := rfl
  have l2 : mkLst [PyData.int 16, .int 60] = .ok [.int 16, .int 60] := mkLst_ok (by simp [sizeMax])
  have e0 : ofSeq (tupI R) = .ok (iL R) := rfl
  have ck : (R.filter fun x => !decide (x ∈ isort ltI (nz A.flatten))) = [] := List.filter_eq_nil_iff.mpr fun x hx => by
    have := (rng x hx).2.2
    simp [this]
  have en : pyNe (.list []) (.list []) = .ok (.bool false) := pyNe_same (Sh.list (shA_ints (n := 0) []))
  have isf : m_is_finished (cardD A) (.str (ruleS r)) (.list (iL (num60.filter fun x => !decide (x ∈ R)))) = .ok (.bool false) := by
    rw [is_finished_ok CA r RC, time_isSome CA, kept_open CA r F hf hR]
  have elr : pyLen (.list (iL (num60.filter fun x => !decide (x ∈ R)))) = .ok (.int (60 - (f : Int))) := by
    rw [pyLen_list]
    congr 2
    simp only [iL, List.length_map]
    omega
  have b1 : forO (b_law_k19_b1 (cardD A) (.str (ruleS r)) (iL (num60.filter fun x => !decide (x ∈ R)))) (iL R) () = .ok (.nx ()) := forO_unit fun d hd => by
    obtain ⟨n, hn, rfl⟩ := List.mem_map.mp hd
    have rn := rng n hn
    have hnr : n ∉ num60.filter fun x => !decide (x ∈ R) := fun z => by
      have := (List.mem_filter.mp z).2
      simp [hn] at this
    have C2 := call_snoc RC rn.1 rn.2.1 hnr
    have add : pyAdd (.list (iL (num60.filter fun x => !decide (x ∈ R)))) (.list [.int n]) = .ok (.list (iL ((num60.filter fun x => !decide (x ∈ R)) ++ [n]))) := by
      rw [pyAdd_list (by simp only [iL, List.length_map, List.length_singleton]; omega)]
      simp [iL]
    have fin := finished_at_ok CA r C2
    rw [kept_last CA r F hf hR hn] at fin
    have e : (((num60.filter fun x => !decide (x ∈ R)).length + 1 : Nat) : Int) = 60 - (f : Int) + 1 := by omega
    unfold b_law_k19_b1
    simp only [bind_ok, lst1, lstD_ok, add, fin, timeD, elr, pyAdd_int, e, z0, tst_bool, Bool.false_eq_true, if_false, go_nx]
  unfold m_law_k19 b_law_k19
  simp only [bind_ok, l2, lstD_ok, j33, ht, hr, hA, hB, fewest_open_ok CA r F hf, hopen, el, z0, tst_bool, orT_ok, Bool.false_eq_true, if_false, es, et, pyNe_same (sh_tupI (n := 0) R), go_nx]
  unfold b_law_k19_k9 b_law_k19_k8 b_law_k19_k7
  simp only [bind_ok, e0, comp_ok, numbers_ok CA, comp_notin, ck, lstD_ok, mkLst_nil]
  simp only [show iL [] = ([] : List D) from rfl, en, tst_bool, bind_ok, Bool.false_eq_true, if_false, go_nx, num60_range, comp_ok, comp_notinT, isf, orT_ok, elr, latest_ok CA r F hf, z0, e0, b1, k19_k6 ns hl CA CB r F hf, fin_rt]
end BG
namespace BG
open PySem
theorem pyNe_i (i : Int) : pyNe (.int i) (.int i) = .ok (.bool false) := by rw [pyNe_int]; simp
theorem ixH0 : (excIx ["InvalidCard", "InvalidRule", "InvalidCards"] "InvalidCard" : Rs (Out Unit)) = .ok (.rt (.int 0)) := by
  unfold excIx ixS
  rw [if_pos rfl]
  rfl
theorem ixH1 : (excIx ["InvalidCard", "InvalidRule", "InvalidCards"] "InvalidRule" : Rs (Out Unit)) = .ok (.rt (.int 1)) := by
  unfold excIx ixS ixS
  rw [if_neg (by decide +kernel), if_pos rfl]
  rfl
theorem ixH2 : (excIx ["InvalidCard", "InvalidRule", "InvalidCards"] "InvalidCards" : Rs (Out Unit)) = .ok (.rt (.int 2)) := by
  unfold excIx ixS ixS ixS
  rw [if_neg (by decide +kernel), if_neg (by decide +kernel), if_pos rfl]
  rfl
theorem error_5 {one two : D} {c : Str} {j : Int} (h : m_check_two one two = .exc c) (e : (excIx ["InvalidCard", "InvalidRule", "InvalidCards"] c : Rs (Out Unit)) = .ok (.rt (.int j))) {way : Nat} (hw : way < 4) : m_law_error_5 (.int (way : Int)) one two = .ok (.int j) := by
  have e1 : m_earliest one two = .exc c := by unfold m_earliest b_earliest; simp only [bind_ok, h, bind_exc, fin_exc]
  have e2 : m_fewest_open one two = .exc c := by unfold m_fewest_open b_fewest_open; simp only [bind_ok, h, bind_exc, fin_exc]
  have e3 : m_latest one two = .exc c := by unfold m_latest b_latest; simp only [bind_ok, h, bind_exc, fin_exc]
  have e4 : m_open_numbers one two = .exc c := by unfold m_open_numbers b_open_numbers; simp only [bind_ok, h, bind_exc, fin_exc]
  unfold m_law_error_5 b_law_error_5
  simp only [bind_ok]
  have : way = 0 ∨ way = 1 ∨ way = 2 ∨ way = 3 := by omega
  rcases this with rfl | rfl | rfl | rfl
  · rw [pickF_ok (k := 0) rfl]
    simp only [lift2, e1, bind_exc, tryO, e, fin_rt]
  · rw [pickF_ok (k := 1) rfl]
    simp only [lift2, e2, bind_exc, tryO, e, fin_rt]
  · rw [pickF_ok (k := 2) rfl]
    simp only [lift2, e3, bind_exc, tryO, e, fin_rt]
  · rw [pickF_ok (k := 3) rfl]
    simp only [lift2, e4, bind_exc, tryO, e, fin_rt]
theorem error_5h {one two : D} {c : Str} {j : Int} (h : m_check_cards one two = .exc c) (e : (excIx ["InvalidCard", "InvalidRule", "InvalidCards"] c : Rs (Out Unit)) = .ok (.rt (.int j))) : m_law_error_5 (.int 4) one two = .ok (.int j) := by
  have e1 : m_latest_hall one two = .exc c := by unfold m_latest_hall b_latest_hall; simp only [bind_ok, h, bind_exc, fin_exc]
  unfold m_law_error_5 b_law_error_5
  simp only [bind_ok]
  rw [show (PyData.int 4) = PyData.int ((4 : Nat) : Int) from rfl, pickF_ok (k := 4) rfl]
  simp only [lift2, e1, bind_exc, tryO, e, fin_rt]
theorem rep_seven {c : List D} (h : c.length = 1) : repL c (.int 7) = .ok (List.replicate 7 c).flatten := by
  show (if _ then _ else _) = _
  rw [if_pos ⟨by decide, by decide, by rw [h]; unfold sizeMax; decide⟩]
  rfl
/-- one card -/
theorem k17_b3 {rows : List (List Int)} (C : Card rows) (h9 : ∀ x ∈ rows.flatten, x ≤ 9) (r : Nat) : b_law_k17_b3 (.str (ruleS r)) () (cardD rows) = .ok (.nx ()) := by
  obtain ⟨f, F, hf⟩ := few_card C r
  have f5 := small_few C h9 r F
  obtain ⟨R, hR, hO⟩ := open_numbers_ok C r F hf
  have hb := best_first F (lines9 C h9) f5 hR
  have ne : lensOf (linesOf rows r) ≠ [] := by
    unfold lensOf
    simpa using lines_some C r
  have hl : pyLen (tupI R) = .ok (.int (f : Int)) := by
    show pyLen (.tuple (iL R)) = _
    rw [pyLen_tuple]
    simp [iL, hR.len]
  have sR : pyNe (tupI R) (tupI R) = .ok (.bool false) := pyNe_same (Sh.tuple (shA_ints (n := 0) _))
  have eq : minL (lensOf (linesOf rows r)) = minLen (linesOf rows r) := rfl
  unfold b_law_k17_b3 b_law_k17_k2 b_law_k17_k1
  simp only [bind_ok, law_lines_ok C, law_best_ok, hb, bestD, fewest_open_ok C r F hf, hl, pyNe_i, hO, sR, tst_bool, orT_ok, Bool.false_eq_true, if_false, go_nx, latest_ok C r F hf, pySub_int, earliest_ok C, ofSeq_list, comp_ok, comp_lens, lstD_ok, pyMinI_ok ne, eq]
section
variable {A B : List (List Int)} (CA : Card A) (CB : Card B) (hA : ∀ x ∈ A.flatten, x ≤ 9) (hB : ∀ x ∈ B.flatten, x ≤ 9)
include CA CB
theorem k17_k4 (ns : List Int) (hl : ns.length ≤ 63) : b_law_k17_k4 (.list (iL ns)) (.list [cardD A, cardD B]) = .ok (.rt (.bool true)) := by
  have H2 := hall_two CA CB
  obtain ⟨odd, o1, o2⟩ := badcard_ok ns hl 3
  obtain ⟨b, b1, b2, b3⟩ := drawn_ok ns hl 4 5 (by decide)
  obtain ⟨a, a1, a2, a3⟩ := drawn_ok ns hl 5 5 (by decide)
  obtain ⟨a', rfl⟩ : ∃ a' : Nat, a = (a' : Int) := ⟨a.toNat, by omega⟩
  obtain ⟨b', rfl⟩ : ∃ b' : Nat, b = (b' : Int) := ⟨b.toNat, by omega⟩
  have hb : b' < badR8.length := by show b' < 5; omega
  have eB : pyIx (.list [.none, .str "", .str "row", .int 7, .tuple [.str "all"]]) (.int (b' : Int)) = .ok badR8[b'] := pyIx_list hb
  have qB := isX_eq (List.all_eq_true.mp badR8_all _ (List.getElem_mem hb))
  generalize badR8[b'] = bad at *
  have e0 : pyIx (.list [cardD A, cardD B]) (.int 0) = .ok (cardD A) := by
    rw [show (PyData.int 0) = PyData.int ((0 : Nat) : Int) from rfl, pyIx_list (by simp)]
    rfl
  have eA : pyAdd (.list [cardD A, cardD B]) (.list [odd]) = .ok (.list ([A, B].map cardD ++ [odd])) := pyAdd_list (by simp)
  have e3 : ofList (PyData.list [cardD A, cardD B]) = .ok [cardD A, cardD B] := rfl
  have ecut : (cutL [cardD A, cardD B] none (some 1)).length = 1 := by
    unfold cutL sIx
    simp
  have erep := rep_seven ecut
  have l7 : (List.replicate 7 (cutL [cardD A, cardD B] none (some 1))).flatten.length = 7 := by
    simp [ecut]
  let oddL : List D := [.none, .list [], .tuple [cardD A], .list ([A, B].map cardD ++ [odd]), .list (List.replicate 7 (cutL [cardD A, cardD B] none (some 1))).flatten]
  have ha : a' < oddL.length := by show a' < 5; omega
  have eO : pyIx (.list oddL) (.int (a' : Int)) = .ok oddL[a'] := pyIx_list ha
  have qO : ∀ rule : D, m_check_cards oddL[a'] rule = .exc "InvalidCards" := fun rule => by
    have : oddL[a'] ∈ oddL := List.getElem_mem ha
    generalize oddL[a'] = o at *
    rcases List.mem_cons.mp this with rfl | this
    · exact cards_bad_ty rfl
    rcases List.mem_cons.mp this with rfl | this
    · exact cards_bad_len (.inl (by simp))
    rcases List.mem_cons.mp this with rfl | this
    · exact cards_bad_ty rfl
    rcases List.mem_cons.mp this with rfl | this
    · exact cards_bad_one H2.ok o2 (by simp)
    · rw [List.mem_singleton.mp this]
      exact cards_bad_len (.inr (by rw [l7]; decide))
  have eO' : pyIx (.list [.none, .list [], .tuple [cardD A], .list ([A, B].map cardD ++ [odd]), .list (List.replicate 7 (cutL [cardD A, cardD B] none (some 1))).flatten]) (.int (a' : Int)) = .ok oddL[a'] := eO
  generalize oddL[a'] = o at *
  have hr4 : pyRange (.int 0) (.int 4) = .ok [.int 0, .int 1, .int 2, .int 3] := pyRange_ok 4 (by decide)
  have t0 : m_check_two odd bad = .exc "InvalidCard" := by
    unfold m_check_two b_check_two
    simp only [bind_ok, check_card_bad o2, bind_exc, fin_exc]
  have t1 : m_check_two (cardD A) bad = .exc "InvalidRule" := by
    unfold m_check_two b_check_two
    simp only [bind_ok, check_card_ok CA, qB, bind_exc, fin_exc]
  have z0 : ∀ w : Nat, w < 4 → m_law_error_5 (.int (w : Int)) odd bad = .ok (.int 0) := fun w hw => error_5 t0 ixH0 hw
  have z1 : ∀ w : Nat, w < 4 → m_law_error_5 (.int (w : Int)) (cardD A) bad = .ok (.int 1) := fun w hw => error_5 t1 ixH1 hw
  have z2 : m_law_error_5 (.int 4) o bad = .ok (.int 2) := error_5h (qO bad) ixH2
  have z3 : m_law_error_5 (.int 4) (.list [cardD A, cardD B]) bad = .ok (.int 1) := error_5h (cards_bad_rule H2 qB) ixH1
  have cc : ∀ (f : D → Rs D) (j : Int), (∀ w : Nat, w < 4 → f (.int (w : Int)) = .ok (.int j)) → compO (fun d => eltO (Rs.ok true) (f d)) [.int 0, .int 1, .int 2, .int 3] = .ok [.int j, .int j, .int j, .int j] := fun f j h => by
    have h0 : f (.int 0) = .ok (.int j) := h 0 (by decide)
    have h1 : f (.int 1) = .ok (.int j) := h 1 (by decide)
    have h2 : f (.int 2) = .ok (.int j) := h 2 (by decide)
    have h3 : f (.int 3) = .ok (.int j) := h 3 (by decide)
    simp only [compO, eltO_true, h0, h1, h2, h3, bind_ok]
  have q0 := cc (fun d => m_law_error_5 d odd bad) 0 z0
  have q1 := cc (fun d => m_law_error_5 d (cardD A) bad) 1 z1
  unfold b_law_k17_k4
  simp only [bind_ok, o1, a3, b3, e0, eA, e3, part_int, erep, mkLst, mkTup, List.length_cons, List.length_nil, sizeMax, Nat.reduceAdd, Nat.reduceLeDiff, Nat.zero_le, if_true, lstD_ok]
  simp only [eO', eB, hr4, comp_ok, q0, q1, z2, z3, bind_ok, lstD_ok, List.length_cons, List.length_nil, Nat.reduceAdd, Nat.reduceLeDiff, Nat.zero_le, if_true]
  have s1 : pyAdd (.list [.int 0, .int 0, .int 0, .int 0]) (.list [.int 2]) = .ok (.list [.int 0, .int 0, .int 0, .int 0, .int 2]) := rfl
  have s2 : pyAdd (.list [.int 0, .int 0, .int 0, .int 0, .int 2]) (.list [.int 1, .int 1, .int 1, .int 1]) = .ok (.list [.int 0, .int 0, .int 0, .int 0, .int 2, .int 1, .int 1, .int 1, .int 1]) := rfl
  have s3 : pyAdd (.list [.int 0, .int 0, .int 0, .int 0, .int 2, .int 1, .int 1, .int 1, .int 1]) (.list [.int 1]) = .ok (.list [.int 0, .int 0, .int 0, .int 0, .int 2, .int 1, .int 1, .int 1, .int 1, .int 1]) := rfl
  have s4 : pyAdd (.list [.int 0, .int 0, .int 0, .int 0, .int 2]) (.list [.int 1, .int 1, .int 1, .int 1, .int 1]) = .ok (.list [.int 0, .int 0, .int 0, .int 0, .int 2, .int 1, .int 1, .int 1, .int 1, .int 1]) := rfl
  have r0 : repL [.int 0] (.int 4) = .ok [.int 0, .int 0, .int 0, .int 0] := rfl
  have r1 : repL [.int 1] (.int 5) = .ok [.int 1, .int 1, .int 1, .int 1, .int 1] := rfl
  have m1 : pyEq (.list [.int 0, .int 0, .int 0, .int 0, .int 2, .int 1, .int 1, .int 1, .int 1, .int 1]) (.list [.int 0, .int 0, .int 0, .int 0, .int 2, .int 1, .int 1, .int 1, .int 1, .int 1]) = .ok (.bool true) := pyEq_same (Sh.list (shA_ints (n := 0) [0, 0, 0, 0, 2, 1, 1, 1, 1, 1]))
  simp only [lst1, s1, s2, s3, s4, r0, r1, m1, bind_ok, lstD_ok]
theorem k17_k6 (ns : List Int) (hl : ns.length ≤ 63) (r : Nat) : b_law_k17_k6 (.list (iL ns)) (.str (ruleS r)) (.list [cardD A, cardD B]) = .ok (.rt (.bool true)) := by
  obtain ⟨L, CL, _, hL⟩ := card_ok ns hl 70 60 (by decide) (by decide)
  have F0 := few_rows CL
  have h0 : L.length ≤ 10 := by
    obtain ⟨f, G, hf⟩ := few_card CL 0
    rw [F0.one G]
    exact hf
  have e0 : m_fewest_open (cardD L) (.str "rows") = .ok (.int (L.length : Int)) := fewest_open_ok CL 0 F0 h0
  have el : pyLen (cardD L) = .ok (.int (L.length : Int)) := by
    unfold cardD
    rw [pyLen_tuple]
    simp
  obtain ⟨f, F, hf⟩ := few_card CL r
  have lone : m_latest_hall (.list [cardD L]) (.str (ruleS r)) = .ok (.int (60 - (f : Int))) := latest_hall_ok (hall_one CL) (by simp) r (F.congr fun l => by
    rw [mem_hallL]
    constructor
    · intro h
      exact ⟨L, by simp, h⟩
    · rintro ⟨x, hx, h⟩
      rw [List.mem_singleton.mp hx] at h
      exact h) (by omega)
  unfold b_law_k17_k6 b_law_k17_k5
  simp only [bind_ok, hL, e0, el, pyNe_i, tst_bool, Bool.false_eq_true, if_false, go_nx, lst1, lstD_ok, lone, latest_ok CL r F hf]
  exact k17_k4 CA CB ns hl
include hA hB
theorem k17_k8 (ns : List Int) (hl : ns.length ≤ 63) (r : Nat) : b_law_k17_k8 (.list [cardD A, cardD B]) (.str (ruleS r)) (.list (iL ns)) = .ok (.rt (.bool true)) := by
  have H2 := hall_two CA CB
  have e0 : pyIx (.list [cardD A, cardD B]) (.int 0) = .ok (cardD A) := by
    rw [show (PyData.int 0) = PyData.int ((0 : Nat) : Int) from rfl, pyIx_list (by simp)]
    rfl
  have e1 : pyIx (.list [cardD A, cardD B]) (.int 1) = .ok (cardD B) := by
    rw [show (PyData.int 1) = PyData.int ((1 : Nat) : Int) from rfl, pyIx_list (by simp)]
    rfl
  have fA := (lines_are CA r).few
  have fB := (lines_are CB r).few
  have eA : pyAdd (.list ((linesOf A r).map tupI)) (.list ((linesOf B r).map tupI)) = .ok (.list ((linesOf A r ++ linesOf B r).map tupI)) := by
    rw [pyAdd_list (by simp; omega), List.map_append]
  obtain ⟨fh, FH, hh⟩ := few_hall H2 (by simp) r
  have lh : m_latest_hall (.list [cardD A, cardD B]) (.str (ruleS r)) = .ok (.int (60 - (fh : Int))) := latest_hall_ok H2 (by simp) r FH hh
  have FU : Few (linesOf A r ++ linesOf B r) fh := FH.congr fun l => by
    rw [mem_hallL, List.mem_append]
    constructor
    · rintro ⟨x, hx, h⟩
      rcases List.mem_cons.mp hx with rfl | hx
      · exact .inl h
      · rw [List.mem_singleton.mp hx] at h
        exact .inr h
    · rintro (h | h)
      · exact ⟨A, by simp, h⟩
      · exact ⟨B, by simp, h⟩
  have rng : ∀ l ∈ linesOf A r ++ linesOf B r, ∀ x ∈ l, 1 ≤ x ∧ x ≤ 9 := fun l h => by
    rcases List.mem_append.mp h with h | h
    · exact lines9 CA hA l h
    · exact lines9 CB hB l h
  have k6 := k17_k6 CA CB ns hl r
  unfold b_law_k17_k8 b_law_k17_k7
  simp only [bind_ok, e0, e1, law_lines_ok CA, law_lines_ok CB, eA, law_best_ok, lh]
  cases hb : bestOf (linesOf A r ++ linesOf B r) with
  | some X =>
    have lx := best_len FU rng hb
    have hl : pyLen (tupI X) = .ok (.int (fh : Int)) := by
      show pyLen (.tuple (iL X)) = _
      rw [pyLen_tuple]
      simp [iL, lx]
    have i1 : pyIsNot (tupI X) .none = .ok (.bool true) := rfl
    have i2 : pyIs (tupI X) .none = .ok (.bool false) := rfl
    simp only [bestD, i1, i2, hl, pySub_int, bind_ok, pyNe_i, tst_bool, andT_ok, if_true, Bool.false_eq_true, if_false, go_nx, pyGe_int, k6]
  | none =>
    have h5 : ¬ fh ≤ 5 := fun h => by
      obtain ⟨X, hX⟩ := best_some FU rng h
      rw [hb] at hX
      cases hX
    have i1 : pyIsNot .none .none = .ok (.bool false) := rfl
    have i2 : pyIs .none .none = .ok (.bool true) := rfl
    have n55 : ¬ (55 ≤ 60 - (fh : Int)) := by omega
    simp only [bestD, i1, i2, bind_ok, tst_bool, andT_ok, pyGe_int, n55, decide_false, Bool.false_eq_true, if_false, if_true, go_nx, k6]
end
theorem law_k17_true (ns : List Int) (hl : ns.length ≤ 63) : m_law_k17 (.list (iL ns)) = .ok (.bool true) := by
  obtain ⟨A, CA, hA, eA⟩ := card_ok ns hl 10 9 (by decide) (by decide)
  obtain ⟨B, CB, hB, eB⟩ := card_ok ns hl 40 9 (by decide) (by decide)
  obtain ⟨r, _, hr⟩ := rule_ok ns hl 2
  unfold m_law_k17 b_law_k17
  simp only [bind_ok, eA, eB, lst2, lstD_ok, hr, ofSeq_list]
  rw [forO_unit, go_nx, k17_k8 CA CB hA hB ns hl r]
  · rfl
  · intro d hd
    rcases List.mem_cons.mp hd with rfl | hd
    · exact k17_b3 CA hA r
    · rw [List.mem_singleton.mp hd]
      exact k17_b3 CB hB r
end BG
namespace BG.k17
open PySem PySem.Spec PyProof.Rows L2 BG
namespace Hd
def top (i : Nat) : Stmt := PySem.Challenge.pw_bingocards_k17_latest.main.body.getD i (.Pass ⟨0, 0, 0, 0⟩)
def mkD (n : Str) (i : Nat) : He.DefD := ⟨(n, none), n, n, defArgs (top i), defBody (top i), defScope (top i), [], []⟩
def mkA (g n : Str) (i : Nat) : He.DefD := ⟨(g, none), n, n, defArgs (top i), defBody (top i), defScope (top i), [], []⟩
def fn : List He.DefD := ([mkD "is_int" 12, mkD "fields" 13, mkD "is_card" 14, mkD "check_card" 15, mkD "check_rule" 16, mkD "find_lines" 17, mkD "check_cards" 20, mkD "count_apart" 22, mkD "can_meet" 23, mkD "find_fewest" 24, mkD "check_two" 25, mkD "fewest_open" 26, mkD "open_numbers" 27, mkD "latest" 28, mkD "earliest" 29, mkD "latest_hall" 30, mkD "_law_drawn" 32, mkD "_law_card" 33, mkD "_law_rule" 34, mkD "_law_lines" 35, mkD "_law_badcard" 36, mkD "_law_error" 37, mkD "_law_sets" 38, mkD "_law_best" 39, mkD "law" 40] : List He.DefD)
def fa : List He.Fa := ([.glo "is_int", .glo "fields", .glo "is_card", .glo "check_card", .glo "check_rule", .glo "find_lines", .glo "check_cards", .glo "count_apart", .glo "can_meet", .glo "find_fewest", .glo "check_two", .glo "fewest_open", .glo "open_numbers", .glo "latest", .glo "earliest", .glo "latest_hall", .glo "_law_drawn", .glo "_law_card", .glo "_law_rule", .glo "_law_lines", .glo "_law_badcard", .glo "_law_error", .glo "_law_sets", .glo "_law_best", .glo "law", .glo "BingoError", .glo "InvalidCard", .glo "InvalidRule", .glo "InvalidCards", .free "ValueError"] : List He.Fa) ++ ([.free "all", .free "any", .free "bool", .free "int", .free "isinstance", .free "len", .free "list", .free "min", .free "range", .free "set", .free "sorted", .free "str", .free "tuple", .int "TOP" 60, .int "MIN_SIZE" 2, .int "MAX_SIZE" 4, .str "ROWS" "rows", .str "LINES" "lines", .str "ALL" "all", .int "MAX_CARDS" 6, .exc "InvalidCard", .exm "InvalidCard" "BingoError" true, .exc "InvalidRule", .exm "InvalidRule" "BingoError" true, .exc "InvalidCards", .exm "InvalidCards" "BingoError" true] : List He.Fa)
def cs : List PySem.Str := (["InvalidCard", "InvalidRule", "InvalidCards"] : List PySem.Str)
def loose : List PySem.Str := (["is_int", "fields", "is_card", "check_card", "check_rule", "find_lines", "check_cards", "count_apart", "can_meet", "find_fewest", "check_two", "fewest_open", "open_numbers", "latest", "earliest", "latest_hall", "_law_drawn", "_law_card", "_law_rule", "_law_lines", "_law_badcard", "_law_error", "_law_sets", "_law_best", "BingoError", "InvalidCard", "InvalidRule", "InvalidCards", "TOP", "MIN_SIZE"] : List PySem.Str) ++ (["MAX_SIZE", "ROWS", "LINES", "ALL", "MAX_CARDS"] : List PySem.Str)
abbrev R : PySem.W.OpenRow := PySem.W.OpenLaw.row PySem.Challenge.rw_bingocards_k17_latest
abbrev hk : PySem.W.Hook := hookB 4 fa fn cs
def ob (s : PySem.W.SharedT) : He.AlD × Bool := obsB 4 fa fn cs (HandSHeadRun.getT s)
theorem ob_eq (s : PySem.W.SharedT) : ob s = hk.obs s.abs := obsB_eq (HandSHeadRun.getT_eq s)
theorem run (w : World) : HandSHeadRun.RunEq R (PySem.W.view R.prog [40]) hk ob 4000 loose w := by
  intro os
  kernel_rfl
end Hd
abbrev Fc (K : PySem.W.Frag) (mg : Str → Option Value) : Prop := Fcs Hd.fa Hd.fn Hd.cs K mg
section
variable {K : PySem.W.Frag} {mg : Str → Option Value}
theorem Fc.o_is_int (fc : Fc K mg) : mg "is_int" = some (.ref (He.ga K "is_int")) := Fcs.glo fc 0
theorem Fc.d_is_int (fc : Fc K mg) : ∃ fd, FunD K "is_int" "is_int" (defArgs (Hd.top 12)) (defBody (Hd.top 12)) (defScope (Hd.top 12)) [] [] (He.ga K "is_int") fd := Fcs.def_ fc 0 (d := Hd.mkD "is_int" 12)
theorem Fc.o_fields (fc : Fc K mg) : mg "fields" = some (.ref (He.ga K "fields")) := Fcs.glo fc 1
theorem Fc.d_fields (fc : Fc K mg) : ∃ fd, FunD K "fields" "fields" (defArgs (Hd.top 13)) (defBody (Hd.top 13)) (defScope (Hd.top 13)) [] [] (He.ga K "fields") fd := Fcs.def_ fc 1 (d := Hd.mkD "fields" 13)
theorem Fc.o_is_card (fc : Fc K mg) : mg "is_card" = some (.ref (He.ga K "is_card")) := Fcs.glo fc 2
theorem Fc.d_is_card (fc : Fc K mg) : ∃ fd, FunD K "is_card" "is_card" (defArgs (Hd.top 14)) (defBody (Hd.top 14)) (defScope (Hd.top 14)) [] [] (He.ga K "is_card") fd := Fcs.def_ fc 2 (d := Hd.mkD "is_card" 14)
theorem Fc.o_check_card (fc : Fc K mg) : mg "check_card" = some (.ref (He.ga K "check_card")) := Fcs.glo fc 3
theorem Fc.d_check_card (fc : Fc K mg) : ∃ fd, FunD K "check_card" "check_card" (defArgs (Hd.top 15)) (defBody (Hd.top 15)) (defScope (Hd.top 15)) [] [] (He.ga K "check_card") fd := Fcs.def_ fc 3 (d := Hd.mkD "check_card" 15)
theorem Fc.o_check_rule (fc : Fc K mg) : mg "check_rule" = some (.ref (He.ga K "check_rule")) := Fcs.glo fc 4
theorem Fc.d_check_rule (fc : Fc K mg) : ∃ fd, FunD K "check_rule" "check_rule" (defArgs (Hd.top 16)) (defBody (Hd.top 16)) (defScope (Hd.top 16)) [] [] (He.ga K "check_rule") fd := Fcs.def_ fc 4 (d := Hd.mkD "check_rule" 16)
theorem Fc.o_find_lines (fc : Fc K mg) : mg "find_lines" = some (.ref (He.ga K "find_lines")) := Fcs.glo fc 5
theorem Fc.d_find_lines (fc : Fc K mg) : ∃ fd, FunD K "find_lines" "find_lines" (defArgs (Hd.top 17)) (defBody (Hd.top 17)) (defScope (Hd.top 17)) [] [] (He.ga K "find_lines") fd := Fcs.def_ fc 5 (d := Hd.mkD "find_lines" 17)
theorem Fc.o_check_cards (fc : Fc K mg) : mg "check_cards" = some (.ref (He.ga K "check_cards")) := Fcs.glo fc 6
theorem Fc.d_check_cards (fc : Fc K mg) : ∃ fd, FunD K "check_cards" "check_cards" (defArgs (Hd.top 20)) (defBody (Hd.top 20)) (defScope (Hd.top 20)) [] [] (He.ga K "check_cards") fd := Fcs.def_ fc 6 (d := Hd.mkD "check_cards" 20)
theorem Fc.o_count_apart (fc : Fc K mg) : mg "count_apart" = some (.ref (He.ga K "count_apart")) := Fcs.glo fc 7
theorem Fc.d_count_apart (fc : Fc K mg) : ∃ fd, FunD K "count_apart" "count_apart" (defArgs (Hd.top 22)) (defBody (Hd.top 22)) (defScope (Hd.top 22)) [] [] (He.ga K "count_apart") fd := Fcs.def_ fc 7 (d := Hd.mkD "count_apart" 22)
theorem Fc.o_can_meet (fc : Fc K mg) : mg "can_meet" = some (.ref (He.ga K "can_meet")) := Fcs.glo fc 8
theorem Fc.d_can_meet (fc : Fc K mg) : ∃ fd, FunD K "can_meet" "can_meet" (defArgs (Hd.top 23)) (defBody (Hd.top 23)) (defScope (Hd.top 23)) [] [] (He.ga K "can_meet") fd := Fcs.def_ fc 8 (d := Hd.mkD "can_meet" 23)
theorem Fc.o_find_fewest (fc : Fc K mg) : mg "find_fewest" = some (.ref (He.ga K "find_fewest")) := Fcs.glo fc 9
theorem Fc.d_find_fewest (fc : Fc K mg) : ∃ fd, FunD K "find_fewest" "find_fewest" (defArgs (Hd.top 24)) (defBody (Hd.top 24)) (defScope (Hd.top 24)) [] [] (He.ga K "find_fewest") fd := Fcs.def_ fc 9 (d := Hd.mkD "find_fewest" 24)
theorem Fc.o_check_two (fc : Fc K mg) : mg "check_two" = some (.ref (He.ga K "check_two")) := Fcs.glo fc 10
theorem Fc.d_check_two (fc : Fc K mg) : ∃ fd, FunD K "check_two" "check_two" (defArgs (Hd.top 25)) (defBody (Hd.top 25)) (defScope (Hd.top 25)) [] [] (He.ga K "check_two") fd := Fcs.def_ fc 10 (d := Hd.mkD "check_two" 25)
theorem Fc.o_fewest_open (fc : Fc K mg) : mg "fewest_open" = some (.ref (He.ga K "fewest_open")) := Fcs.glo fc 11
theorem Fc.d_fewest_open (fc : Fc K mg) : ∃ fd, FunD K "fewest_open" "fewest_open" (defArgs (Hd.top 26)) (defBody (Hd.top 26)) (defScope (Hd.top 26)) [] [] (He.ga K "fewest_open") fd := Fcs.def_ fc 11 (d := Hd.mkD "fewest_open" 26)
theorem Fc.o_open_numbers (fc : Fc K mg) : mg "open_numbers" = some (.ref (He.ga K "open_numbers")) := Fcs.glo fc 12
theorem Fc.d_open_numbers (fc : Fc K mg) : ∃ fd, FunD K "open_numbers" "open_numbers" (defArgs (Hd.top 27)) (defBody (Hd.top 27)) (defScope (Hd.top 27)) [] [] (He.ga K "open_numbers") fd := Fcs.def_ fc 12 (d := Hd.mkD "open_numbers" 27)
theorem Fc.o_latest (fc : Fc K mg) : mg "latest" = some (.ref (He.ga K "latest")) := Fcs.glo fc 13
theorem Fc.d_latest (fc : Fc K mg) : ∃ fd, FunD K "latest" "latest" (defArgs (Hd.top 28)) (defBody (Hd.top 28)) (defScope (Hd.top 28)) [] [] (He.ga K "latest") fd := Fcs.def_ fc 13 (d := Hd.mkD "latest" 28)
theorem Fc.o_earliest (fc : Fc K mg) : mg "earliest" = some (.ref (He.ga K "earliest")) := Fcs.glo fc 14
theorem Fc.d_earliest (fc : Fc K mg) : ∃ fd, FunD K "earliest" "earliest" (defArgs (Hd.top 29)) (defBody (Hd.top 29)) (defScope (Hd.top 29)) [] [] (He.ga K "earliest") fd := Fcs.def_ fc 14 (d := Hd.mkD "earliest" 29)
theorem Fc.o_latest_hall (fc : Fc K mg) : mg "latest_hall" = some (.ref (He.ga K "latest_hall")) := Fcs.glo fc 15
theorem Fc.d_latest_hall (fc : Fc K mg) : ∃ fd, FunD K "latest_hall" "latest_hall" (defArgs (Hd.top 30)) (defBody (Hd.top 30)) (defScope (Hd.top 30)) [] [] (He.ga K "latest_hall") fd := Fcs.def_ fc 15 (d := Hd.mkD "latest_hall" 30)
theorem Fc.o__law_drawn (fc : Fc K mg) : mg "_law_drawn" = some (.ref (He.ga K "_law_drawn")) := Fcs.glo fc 16
theorem Fc.d__law_drawn (fc : Fc K mg) : ∃ fd, FunD K "_law_drawn" "_law_drawn" (defArgs (Hd.top 32)) (defBody (Hd.top 32)) (defScope (Hd.top 32)) [] [] (He.ga K "_law_drawn") fd := Fcs.def_ fc 16 (d := Hd.mkD "_law_drawn" 32)
theorem Fc.o__law_card (fc : Fc K mg) : mg "_law_card" = some (.ref (He.ga K "_law_card")) := Fcs.glo fc 17
theorem Fc.d__law_card (fc : Fc K mg) : ∃ fd, FunD K "_law_card" "_law_card" (defArgs (Hd.top 33)) (defBody (Hd.top 33)) (defScope (Hd.top 33)) [] [] (He.ga K "_law_card") fd := Fcs.def_ fc 17 (d := Hd.mkD "_law_card" 33)
theorem Fc.o__law_rule (fc : Fc K mg) : mg "_law_rule" = some (.ref (He.ga K "_law_rule")) := Fcs.glo fc 18
theorem Fc.d__law_rule (fc : Fc K mg) : ∃ fd, FunD K "_law_rule" "_law_rule" (defArgs (Hd.top 34)) (defBody (Hd.top 34)) (defScope (Hd.top 34)) [] [] (He.ga K "_law_rule") fd := Fcs.def_ fc 18 (d := Hd.mkD "_law_rule" 34)
theorem Fc.o__law_lines (fc : Fc K mg) : mg "_law_lines" = some (.ref (He.ga K "_law_lines")) := Fcs.glo fc 19
theorem Fc.d__law_lines (fc : Fc K mg) : ∃ fd, FunD K "_law_lines" "_law_lines" (defArgs (Hd.top 35)) (defBody (Hd.top 35)) (defScope (Hd.top 35)) [] [] (He.ga K "_law_lines") fd := Fcs.def_ fc 19 (d := Hd.mkD "_law_lines" 35)
theorem Fc.o__law_badcard (fc : Fc K mg) : mg "_law_badcard" = some (.ref (He.ga K "_law_badcard")) := Fcs.glo fc 20
theorem Fc.d__law_badcard (fc : Fc K mg) : ∃ fd, FunD K "_law_badcard" "_law_badcard" (defArgs (Hd.top 36)) (defBody (Hd.top 36)) (defScope (Hd.top 36)) [] [] (He.ga K "_law_badcard") fd := Fcs.def_ fc 20 (d := Hd.mkD "_law_badcard" 36)
theorem Fc.o__law_error (fc : Fc K mg) : mg "_law_error" = some (.ref (He.ga K "_law_error")) := Fcs.glo fc 21
theorem Fc.d__law_error (fc : Fc K mg) : ∃ fd, FunD K "_law_error" "_law_error" (defArgs (Hd.top 37)) (defBody (Hd.top 37)) (defScope (Hd.top 37)) [] [] (He.ga K "_law_error") fd := Fcs.def_ fc 21 (d := Hd.mkD "_law_error" 37)
theorem Fc.o__law_sets (fc : Fc K mg) : mg "_law_sets" = some (.ref (He.ga K "_law_sets")) := Fcs.glo fc 22
theorem Fc.d__law_sets (fc : Fc K mg) : ∃ fd, FunD K "_law_sets" "_law_sets" (defArgs (Hd.top 38)) (defBody (Hd.top 38)) (defScope (Hd.top 38)) [] [] (He.ga K "_law_sets") fd := Fcs.def_ fc 22 (d := Hd.mkD "_law_sets" 38)
theorem Fc.o__law_best (fc : Fc K mg) : mg "_law_best" = some (.ref (He.ga K "_law_best")) := Fcs.glo fc 23
theorem Fc.d__law_best (fc : Fc K mg) : ∃ fd, FunD K "_law_best" "_law_best" (defArgs (Hd.top 39)) (defBody (Hd.top 39)) (defScope (Hd.top 39)) [] [] (He.ga K "_law_best") fd := Fcs.def_ fc 23 (d := Hd.mkD "_law_best" 39)
theorem Fc.o_law (fc : Fc K mg) : mg "law" = some (.ref (He.ga K "law")) := Fcs.glo fc 24
theorem Fc.d_law (fc : Fc K mg) : ∃ fd, FunD K "law" "law" (defArgs (Hd.top 40)) (defBody (Hd.top 40)) (defScope (Hd.top 40)) [] [] (He.ga K "law") fd := Fcs.def_ fc 24 (d := Hd.mkD "law" 40)
theorem Fc.f_ValueError (fc : Fc K mg) : mg "ValueError" = none := Fcs.free fc 29
theorem Fc.f_all (fc : Fc K mg) : mg "all" = none := Fcs.free fc 30
theorem Fc.f_any (fc : Fc K mg) : mg "any" = none := Fcs.free fc 31
theorem Fc.f_bool (fc : Fc K mg) : mg "bool" = none := Fcs.free fc 32
theorem Fc.f_int (fc : Fc K mg) : mg "int" = none := Fcs.free fc 33
theorem Fc.f_isinstance (fc : Fc K mg) : mg "isinstance" = none := Fcs.free fc 34
theorem Fc.f_len (fc : Fc K mg) : mg "len" = none := Fcs.free fc 35
theorem Fc.f_list (fc : Fc K mg) : mg "list" = none := Fcs.free fc 36
theorem Fc.f_min (fc : Fc K mg) : mg "min" = none := Fcs.free fc 37
theorem Fc.f_range (fc : Fc K mg) : mg "range" = none := Fcs.free fc 38
theorem Fc.f_set (fc : Fc K mg) : mg "set" = none := Fcs.free fc 39
theorem Fc.f_sorted (fc : Fc K mg) : mg "sorted" = none := Fcs.free fc 40
theorem Fc.f_str (fc : Fc K mg) : mg "str" = none := Fcs.free fc 41
theorem Fc.f_tuple (fc : Fc K mg) : mg "tuple" = none := Fcs.free fc 42
theorem Fc.g_TOP (fc : Fc K mg) : ∃ t, mg "TOP" = some (.int 60 t) := Fcs.int fc 43
theorem Fc.g_MIN_SIZE (fc : Fc K mg) : ∃ t, mg "MIN_SIZE" = some (.int 2 t) := Fcs.int fc 44
theorem Fc.g_MAX_SIZE (fc : Fc K mg) : ∃ t, mg "MAX_SIZE" = some (.int 4 t) := Fcs.int fc 45
theorem Fc.g_ROWS (fc : Fc K mg) : ∃ t, mg "ROWS" = some (.str "rows" t) := Fcs.str fc 46
theorem Fc.g_LINES (fc : Fc K mg) : ∃ t, mg "LINES" = some (.str "lines" t) := Fcs.str fc 47
theorem Fc.g_ALL (fc : Fc K mg) : ∃ t, mg "ALL" = some (.str "all" t) := Fcs.str fc 48
theorem Fc.g_MAX_CARDS (fc : Fc K mg) : ∃ t, mg "MAX_CARDS" = some (.int 6 t) := Fcs.int fc 49
theorem Fc.x_InvalidCard (fc : Fc K mg) : ExcK K mg "InvalidCard" := Fcs.exc fc 26 50
theorem Fc.x_InvalidRule (fc : Fc K mg) : ExcK K mg "InvalidRule" := Fcs.exc fc 27 52
theorem Fc.x_InvalidCards (fc : Fc K mg) : ExcK K mg "InvalidCards" := Fcs.exc fc 28 54
theorem Fc.t_InvalidCard_InvalidRule_InvalidCards (fc : Fc K mg) : ExcT K mg "BingoError" ["InvalidCard", "InvalidRule", "InvalidCards"] := Fcs.three fc 25 26 27 28 51 53 55
end
end BG.k17
namespace BG.k17
open PySem PySem.Spec PyProof.Rows L2 BG
variable {P : Program} {w : World} {K : PySem.W.Frag} {mg : Str → Option Value} {base : Heap}
theorem z_is_int : FnScope ["value", "least", "most"] ["value", "least", "most"] (defScope (Hd.top 12)) := ⟨rfl, rfl, rfl, by decide +kernel, rfl, by decide +kernel, by decide +kernel⟩
theorem y_is_int (fc : Fc K mg) : BodyOk P w K mg base ["value", "least", "most"] (defScope (Hd.top 12)) (defBody (Hd.top 12)) 0 3 (lB3 b_is_int) := by
  intro W Bd Bh ds hds
  match ds, hds with
  | [a_value, a_least, a_most], _ =>
    show DB _ [Slot.dat a_value, Slot.dat a_least, Slot.dat a_most] (defBody (Hd.top 12)) _ (b_is_int a_value a_least a_most)
    unfold b_is_int
    exact (db_ret (de_and (de_isT tt_int fc.f_isinstance fc.f_int (by decide +kernel) (DE.q (de_var 0))) (de_and (de_not (de_isT tt_bool fc.f_isinstance fc.f_bool (by decide +kernel) (DE.q (de_var 0)))) (de_one (de_chain od_le od_le (DE.q (de_var 1)) (DE.q (de_var 0)) (DE.q (de_var 2)))))))
theorem c_is_int (fc : Fc K mg) : Cal P w K mg base "is_int" 1 3 (lift3 m_is_int) := by
  obtain ⟨fd, F⟩ := fc.d_is_int
  exact cal_eq (cal_of F z_is_int rfl (by decide) fc.o_is_int (F.bindsN fun _ _ _ _ _ _ us hl => match us, hl with | [_, _, _], _ => rfl) (y_is_int fc)) (fun ds h => lB3_fin ds h)

theorem z_fields : FnScope ["card", "row", "number"] ["card"] (defScope (Hd.top 13)) := ⟨rfl, rfl, rfl, by decide +kernel, rfl, by decide +kernel, by decide +kernel⟩
theorem y_fields (fc : Fc K mg) : BodyOk P w K mg base ["card", "row", "number"] (defScope (Hd.top 13)) (defBody (Hd.top 13)) 0 1 (lB1 b_fields) := by
  intro W Bd Bh ds hds
  match ds, hds with
  | [a_card], _ =>
    show DB _ [Slot.dat a_card, Slot.no, Slot.no] (defBody (Hd.top 13)) _ (b_fields a_card)
    unfold b_fields
    exact (db_ret (DF.de (DFL.df (df_compNN 1 2 (DI.q (di_seq (de_var 0))) (by rfl) (fun d1 => (di_seq (de_var 1))) (fun d1 d2 => dts_nil) (fun d1 d2 => (de_var 2))))))
theorem c_fields (fc : Fc K mg) : Cal P w K mg base "fields" 1 1 (lift1 m_fields) := by
  obtain ⟨fd, F⟩ := fc.d_fields
  exact cal_eq (cal_of F z_fields rfl (by decide) fc.o_fields (F.bindsN fun _ _ _ _ _ _ us hl => match us, hl with | [_], _ => rfl) (y_fields fc)) (fun ds h => lB1_fin ds h)

theorem z_check_rule : FnScope ["value"] ["value"] (defScope (Hd.top 16)) := ⟨rfl, rfl, rfl, by decide +kernel, rfl, by decide +kernel, by decide +kernel⟩
theorem y_check_rule (fc : Fc K mg) : BodyOk P w K mg base ["value"] (defScope (Hd.top 16)) (defBody (Hd.top 16)) 0 1 (lB1 b_check_rule) := by
  intro W Bd Bh ds hds
  match ds, hds with
  | [a_value], _ =>
    show DB _ [Slot.dat a_value] (defBody (Hd.top 16)) _ (b_check_rule a_value)
    unfold b_check_rule
    exact (db_if (GB := fun (s15 : Unit) => [Slot.dat a_value]) (DW.t (dw_or (dt_not (dt_val (de_isT tt_str fc.f_isinstance fc.f_str (by decide +kernel) (DE.q (de_var 0))))) (dw_or1 (dt_cmp od_notIn (DE.q (de_var 0)) (DE.q (de_tup (da_cons (de_gstr fc.g_ROWS) (da_cons (de_gstr fc.g_LINES) (da_cons (de_gstr fc.g_ALL) da_nil))))))))) (db_raise fc.x_InvalidRule) (db_nil (wk_by [])) (fun s15 => (db_nil (wk_no _))))
theorem c_check_rule (fc : Fc K mg) : Cal P w K mg base "check_rule" 1 1 (lift1 m_check_rule) := by
  obtain ⟨fd, F⟩ := fc.d_check_rule
  exact cal_eq (cal_of F z_check_rule rfl (by decide) fc.o_check_rule (F.bindsN fun _ _ _ _ _ _ us hl => match us, hl with | [_], _ => rfl) (y_check_rule fc)) (fun ds h => lB1_fin ds h)

theorem z_find_lines : FnScope ["card", "rule", "size", "found", "place", "line", "row", "number"] ["card", "rule"] (defScope (Hd.top 17)) := ⟨rfl, rfl, rfl, by decide +kernel, rfl, by decide +kernel, by decide +kernel⟩
theorem y_find_lines (fc : Fc K mg) : BodyOk P w K mg base ["card", "rule", "size", "found", "place", "line", "row", "number"] (defScope (Hd.top 17)) (defBody (Hd.top 17)) 0 2 (lB2 b_find_lines) := by
  intro W Bd Bh ds hds
  match ds, hds with
  | [a_card, a_rule], _ =>
    show DB _ [Slot.dat a_card, Slot.dat a_rule, Slot.no, Slot.no, Slot.no, Slot.no, Slot.no, Slot.no] (defBody (Hd.top 17)) _ (b_find_lines a_card a_rule)
    unfold b_find_lines
    exact (db_two 2 3 Kd.dat Kd.own two_any (DE.k (de_b1 bl_len fc.f_len cd_len (DE.q (de_var 0)))) (DF.k (df_b1 bl_list fc.f_list cf_list (DE.q (de_var 0)))) (fun v1 v2 => (db_if (GB := fun (s23 : List D) => [Slot.dat a_card, Slot.dat a_rule, Slot.dat v1, Slot.own s23, Slot.no, Slot.no, Slot.no, Slot.no]) (dt_cmp od_ne (DE.q (de_var 1)) (DE.q (de_gstr fc.g_ROWS))) (db_extend 3 rfl (DE.q (DF.de (DFL.df (df_compN 4 (DI.q (di_range1 fc.f_range (de_var 2))) (by rfl) (fun d14 => dts_nil) (fun d14 => (de_b1 bl_tuple fc.f_tuple cd_tuple (DE.q (DF.de (DFL.df (df_compN 6 (DI.q (di_seq (de_var 0))) (by rfl) (fun d18 => dts_nil) (fun d18 => (de_ix (DE.q (de_var 6)) (DE.q (de_var 4)))))))))))))) (fun x22 => (db_nil (wk_by [])))) (db_nil (wk_by [])) (fun s23 => (db_if (GB := fun (s84 : List D) => [Slot.dat a_card, Slot.dat a_rule, Slot.dat v1, Slot.own s84, Slot.no, Slot.no, Slot.no, Slot.no]) (dt_cmp od_eq (DE.q (de_var 1)) (DE.q (de_gstr fc.g_ALL))) (db_append 3 rfl (de_b1 bl_tuple fc.f_tuple cd_tuple (DE.q (DF.de (DFL.df (df_compN 4 (DI.q (di_range1 fc.f_range (de_var 2))) (by rfl) (fun d35 => dts_nil) (fun d35 => (de_ix (DE.q (de_ix (DE.q (de_var 0)) (DE.q (de_var 4)))) (DE.q (de_var 4))))))))) (fun x42 => (db_append 3 rfl (de_b1 bl_tuple fc.f_tuple cd_tuple (DE.q (DF.de (DFL.df (df_compN 4 (DI.q (di_range1 fc.f_range (de_var 2))) (by rfl) (fun d64 => dts_nil) (fun d64 => (de_ix (DE.q (de_ix (DE.q (de_var 0)) (DE.q (de_var 4)))) (DE.q (de_bin od_sub (DE.q (de_bin od_sub (DE.q (de_var 2)) (DE.q de_int))) (DE.q (de_var 4))))))))))) (fun x83 => (db_nil (wk_by [])))))) (db_nil (wk_by [])) (fun s84 => (db_ret (DF.de (df_sortedSet fc.f_sorted fc.f_set (DE.q (DF.de (DFL.df (df_compN 5 (di_seqQ (dq_own 3)) (by rfl) (fun d98 => dts_nil) (fun d98 => (de_b1 bl_tuple fc.f_tuple cd_tuple (DE.q (DF.de (df_b1 bl_sorted fc.f_sorted cf_sorted (DE.q (DF.de (DFL.df (df_compN 7 (DI.q (di_seq (de_var 5))) (by rfl) (fun d108 => (dts_one (dt_cmp od_ne (DE.q (de_var 7)) (DE.q de_int)))) (fun d108 => (de_var 7))))))))))))))))))))))))
theorem c_find_lines (fc : Fc K mg) : Cal P w K mg base "find_lines" 1 2 (lift2 m_find_lines) := by
  obtain ⟨fd, F⟩ := fc.d_find_lines
  exact cal_eq (cal_of F z_find_lines rfl (by decide) fc.o_find_lines (F.bindsN fun _ _ _ _ _ _ us hl => match us, hl with | [_, _], _ => rfl) (y_find_lines fc)) (fun ds h => lB2_fin ds h)

theorem z_count_apart : FnScope ["some", "line", "taken", "found", "number"] ["some"] (defScope (Hd.top 22)) := ⟨rfl, rfl, rfl, by decide +kernel, rfl, by decide +kernel, by decide +kernel⟩
theorem y_count_apart (fc : Fc K mg) : BodyOk P w K mg base ["some", "line", "taken", "found", "number"] (defScope (Hd.top 22)) (defBody (Hd.top 22)) 0 1 (lB1 b_count_apart) := by
  intro W Bd Bh ds hds
  match ds, hds with
  | [a_some], _ =>
    show DB _ [Slot.dat a_some, Slot.no, Slot.no, Slot.no, Slot.no] (defBody (Hd.top 22)) _ (b_count_apart a_some)
    unfold b_count_apart
    exact (db_two 2 3 Kd.own Kd.dat two_any (DF.k (df_lst da_nil)) (DE.k de_int) (fun v1 v2 => (db_forN 1 (GB := fun (s3 : List D × D) => [Slot.dat a_some, Slot.no, Slot.own s3.1, Slot.dat s3.2, Slot.no]) (s0 := (v1, v2)) (di_seq (de_var 0)) (fun s3 d5 => (db_if (GB := fun (s19 : List D × D) => [Slot.dat a_some, Slot.dat d5, Slot.own s19.1, Slot.dat s19.2, Slot.no]) (dt_not (dt_val (de_b1 bl_any fc.f_any cd_any (DE.q (DF.de (DFL.df (df_compN 4 (DI.q (di_seq (de_var 1))) (by rfl) (fun d9 => dts_nil) (fun d9 => (de_cmp od_in (DE.q (de_var 4)) (dq_own 2)))))))))) (db_extend 2 rfl (DE.q (de_var 1)) (fun x13 => (db_set 3 (de_bin od_add (DE.q (de_var 3)) (DE.q de_int)) (fun v14 => (db_nil (wk_by [])))))) (db_nil (wk_by [])) (fun s19 => (db_nil (wk_by [1]))))) (fun s3 => (db_ret (de_var 3))) (wk_by []))))
theorem c_count_apart (fc : Fc K mg) : Cal P w K mg base "count_apart" 1 1 (lift1 m_count_apart) := by
  obtain ⟨fd, F⟩ := fc.d_count_apart
  exact cal_eq (cal_of F z_count_apart rfl (by decide) fc.o_count_apart (F.bindsN fun _ _ _ _ _ _ us hl => match us, hl with | [_], _ => rfl) (y_count_apart fc)) (fun ds h => lB1_fin ds h)

theorem z__law_drawn : FnScope ["script", "k", "many", "cell", "turn", "rest"] ["script", "k", "many"] (defScope (Hd.top 32)) := ⟨rfl, rfl, rfl, by decide +kernel, rfl, by decide +kernel, by decide +kernel⟩
theorem y__law_drawn (fc : Fc K mg) : BodyOk P w K mg base ["script", "k", "many", "cell", "turn", "rest"] (defScope (Hd.top 32)) (defBody (Hd.top 32)) 0 3 (lB3 b_law_drawn) := by
  intro W Bd Bh ds hds
  match ds, hds with
  | [a_script, a_k, a_many], _ =>
    show DB _ [Slot.dat a_script, Slot.dat a_k, Slot.dat a_many, Slot.no, Slot.no, Slot.no] (defBody (Hd.top 32)) _ (b_law_drawn a_script a_k a_many)
    unfold b_law_drawn
    exact (db_set 3 (de_bin od_mul (DE.q de_int) (DE.q (de_var 1))) (fun v1 => (db_if (GB := fun (s104 : D) => [Slot.dat a_script, Slot.dat a_k, Slot.dat a_many, Slot.dat s104, Slot.no, Slot.no]) (dt_cmp od_ne (DE.q (de_var 0)) (DE.q (DF.de (df_lst da_nil)))) (db_set 3 (de_ix (DE.q (de_var 0)) (DE.q (de_bin od_mod (DE.q (de_var 1)) (DE.q (de_b1 bl_len fc.f_len cd_len (DE.q (de_var 0))))))) (fun v8 => (db_set 4 (de_bin od_div (DE.q (de_var 1)) (DE.q (de_b1 bl_len fc.f_len cd_len (DE.q (de_var 0))))) (fun v21 => (db_if (GB := fun (s73 : D) => [Slot.dat a_script, Slot.dat a_k, Slot.dat a_many, Slot.dat v8, Slot.dat s73, Slot.no]) (DW.t (dw_and (dt_cmp od_ge (DE.q (de_var 3)) (DE.q (de_bin od_pow (DE.q de_int) (DE.q de_int)))) (dw_and1 (dt_cmp od_lt (DE.q (de_var 4)) (DE.q de_int))))) (db_set 5 (de_bin od_div (DE.q (de_var 3)) (DE.q (de_bin od_pow (DE.q de_int) (DE.q de_int)))) (fun v34 => (db_while (GB := fun (s47 : D × D) => [Slot.dat a_script, Slot.dat a_k, Slot.dat a_many, Slot.dat v8, Slot.dat s47.1, Slot.dat s47.2]) (s0 := (v21, v34)) 64 (fun s47 => (DW.t (dw_and (dt_cmp od_gt (DE.q (de_var 5)) (DE.q de_int)) (dw_and1 (dt_cmp od_gt (DE.q (de_var 4)) (DE.q de_int)))))) (fun s47 => (db_set 5 (de_bin od_div (DE.q (de_var 5)) (DE.q de_int)) (fun v52 => (db_set 4 (de_bin od_sub (DE.q (de_var 4)) (DE.q de_int)) (fun v57 => (db_nil (wk_by []))))))) (fun s47 => (db_if (GB := fun (s71 : Unit) => [Slot.dat a_script, Slot.dat a_k, Slot.dat a_many, Slot.dat v8, Slot.dat s47.1, Slot.dat s47.2]) (dt_cmp od_gt (DE.q (de_var 5)) (DE.q de_int)) (db_ret (de_bin od_mod (DE.q (de_bin od_mod (DE.q (de_var 5)) (DE.q de_int))) (DE.q (de_var 2)))) (db_nil (wk_by [])) (fun s71 => (db_nil (wk_by [5]))))) (wk_by [])))) (db_nil (wk_by [])) (fun s73 => (db_set 3 (de_bin od_add (DE.q (de_var 3)) (DE.q (de_bin od_mul (DE.q de_int) (DE.q (de_bin od_div (DE.q (de_var 1)) (DE.q (de_b1 bl_len fc.f_len cd_len (DE.q (de_var 0))))))))) (fun v74 => (db_nil (wk_by [4])))))))))) (db_nil (wk_by [])) (fun s104 => (db_set 3 (de_bin od_mod (DE.q (de_bin od_add (DE.q (de_bin od_mul (DE.q (de_bin od_mod (DE.q (de_var 3)) (DE.q de_int))) (DE.q de_int))) (DE.q (de_bin od_mul (DE.q de_int) (DE.q (de_bin od_add (DE.q (de_var 1)) (DE.q de_int))))))) (DE.q de_int)) (fun v105 => (db_set 3 (de_bin od_mod (DE.q (de_bin od_add (DE.q (de_bin od_mul (DE.q (de_var 3)) (DE.q (de_var 3)))) (DE.q (de_bin od_div (DE.q (de_var 3)) (DE.q de_int))))) (DE.q de_int)) (fun v214 => (db_ret (de_bin od_mod (DE.q (de_bin od_div (DE.q (de_bin od_mod (DE.q (de_bin od_add (DE.q (de_bin od_mul (DE.q (de_var 3)) (DE.q (de_var 3)))) (DE.q (de_bin od_div (DE.q (de_var 3)) (DE.q de_int))))) (DE.q de_int))) (DE.q de_int))) (DE.q (de_var 2))))))))))))
theorem c__law_drawn (fc : Fc K mg) : Cal P w K mg base "_law_drawn" 1 3 (lift3 m_law_drawn) := by
  obtain ⟨fd, F⟩ := fc.d__law_drawn
  exact cal_eq (cal_of F z__law_drawn rfl (by decide) fc.o__law_drawn (F.bindsN fun _ _ _ _ _ _ us hl => match us, hl with | [_, _, _], _ => rfl) (y__law_drawn fc)) (fun ds h => lB3_fin ds h)

theorem z__law_lines : FnScope ["card", "rule", "size", "some", "found", "line", "row", "column", "k"] ["card", "rule"] (defScope (Hd.top 35)) := ⟨rfl, rfl, rfl, by decide +kernel, rfl, by decide +kernel, by decide +kernel⟩
theorem y__law_lines (fc : Fc K mg) : BodyOk P w K mg base ["card", "rule", "size", "some", "found", "line", "row", "column", "k"] (defScope (Hd.top 35)) (defBody (Hd.top 35)) 0 2 (lB2 b_law_lines) := by
  intro W Bd Bh ds hds
  match ds, hds with
  | [a_card, a_rule], _ =>
    show DB _ [Slot.dat a_card, Slot.dat a_rule, Slot.no, Slot.no, Slot.no, Slot.no, Slot.no, Slot.no, Slot.no] (defBody (Hd.top 35)) _ (b_law_lines a_card a_rule)
    unfold b_law_lines
    exact (db_set 2 (de_b1 bl_len fc.f_len cd_len (DE.q (de_var 0))) (fun v1 => (db_setLc 3 (df_compN 6 (DI.q (di_range1 fc.f_range (de_var 2))) (by rfl) (fun d4 => dts_nil) (fun d4 => (DF.de (DFL.df (df_compN 7 (DI.q (di_range1 fc.f_range (de_var 2))) (by rfl) (fun d6 => dts_nil) (fun d6 => (de_tup (da_cons (de_var 6) (da_cons (de_var 7) da_nil))))))))) (fun v2 => (db_if (GB := fun (s50 : D) => [Slot.dat a_card, Slot.dat a_rule, Slot.dat v1, Slot.dat s50, Slot.no, Slot.no, Slot.no, Slot.no, Slot.no]) (dt_cmp od_ne (DE.q (de_var 1)) (DE.q de_str)) (db_set 3 (de_bin od_add (DE.q (de_var 3)) (DE.q (DF.de (DFL.df (df_compN 7 (DI.q (di_range1 fc.f_range (de_var 2))) (by rfl) (fun d41 => dts_nil) (fun d41 => (DF.de (DFL.df (df_compN 6 (DI.q (di_range1 fc.f_range (de_var 2))) (by rfl) (fun d43 => dts_nil) (fun d43 => (de_tup (da_cons (de_var 6) (da_cons (de_var 7) da_nil))))))))))))) (fun v13 => (db_nil (wk_by [])))) (db_nil (wk_by [])) (fun s50 => (db_if (GB := fun (s146 : D) => [Slot.dat a_card, Slot.dat a_rule, Slot.dat v1, Slot.dat s146, Slot.no, Slot.no, Slot.no, Slot.no, Slot.no]) (dt_cmp od_eq (DE.q (de_var 1)) (DE.q de_str)) (db_set 3 (de_bin od_add (DE.q (de_var 3)) (DE.q (DF.de (df_lst (da_cons (DF.de (DFL.df (df_compN 8 (DI.q (di_range1 fc.f_range (de_var 2))) (by rfl) (fun d123 => dts_nil) (fun d123 => (de_tup (da_cons (de_var 8) (da_cons (de_var 8) da_nil))))))) (da_cons (DF.de (DFL.df (df_compN 8 (DI.q (di_range1 fc.f_range (de_var 2))) (by rfl) (fun d129 => dts_nil) (fun d129 => (de_tup (da_cons (de_var 8) (da_cons (de_bin od_sub (DE.q (de_bin od_sub (DE.q (de_var 2)) (DE.q de_int))) (DE.q (de_var 8))) da_nil))))))) da_nil)))))) (fun v53 => (db_nil (wk_by [])))) (db_nil (wk_by [])) (fun s146 => (db_setOwn 4 (df_lst da_nil) (fun v147 => (db_forN 5 (GB := fun (s148 : List D) => [Slot.dat a_card, Slot.dat a_rule, Slot.dat v1, Slot.dat s146, Slot.own s148, Slot.no, Slot.no, Slot.no, Slot.no]) (s0 := v147) (di_seq (de_var 3)) (fun s148 d150 => (db_append 4 rfl (de_b1 bl_tuple fc.f_tuple cd_tuple (DE.q (DF.de (df_b1 bl_sorted fc.f_sorted cf_sorted (DE.q (DF.de (DFL.df (df_comp2 6 7 (DI.q (di_seq (de_var 5))) (by rfl) (fun d220 d221 => (dts_one (dt_cmp od_ne (DE.q (de_ix (DE.q (de_ix (DE.q (de_var 0)) (DE.q (de_var 6)))) (DE.q (de_var 7)))) (DE.q de_int)))) (fun d220 d221 => (de_ix (DE.q (de_ix (DE.q (de_var 0)) (DE.q (de_var 6)))) (DE.q (de_var 7)))))))))))) (fun x243 => (db_nil (wk_by [5]))))) (fun s148 => (db_ret (DF.de (df_sortedSet fc.f_sorted fc.f_set (dq_own 4))))) (wk_by []))))))))))))
theorem c__law_lines (fc : Fc K mg) : Cal P w K mg base "_law_lines" 1 2 (lift2 m_law_lines) := by
  obtain ⟨fd, F⟩ := fc.d__law_lines
  exact cal_eq (cal_of F z__law_lines rfl (by decide) fc.o__law_lines (F.bindsN fun _ _ _ _ _ _ us hl => match us, hl with | [_, _], _ => rfl) (y__law_lines fc)) (fun ds h => lB2_fin ds h)

theorem z__law_sets : FnScope ["most", "turn", "found", "last", "longer", "some", "number"] ["most"] (defScope (Hd.top 38)) := ⟨rfl, rfl, rfl, by decide +kernel, rfl, by decide +kernel, by decide +kernel⟩
theorem y__law_sets (fc : Fc K mg) : BodyOk P w K mg base ["most", "turn", "found", "last", "longer", "some", "number"] (defScope (Hd.top 38)) (defBody (Hd.top 38)) 0 1 (lB1 b_law_sets) := by
  intro W Bd Bh ds hds
  match ds, hds with
  | [a_most], _ =>
    show DB _ [Slot.dat a_most, Slot.no, Slot.no, Slot.no, Slot.no, Slot.no, Slot.no] (defBody (Hd.top 38)) _ (b_law_sets a_most)
    unfold b_law_sets
    exact (db_two 2 3 Kd.dat Kd.dat two_loc (DE.k (DF.de (df_lst (da_cons (de_tup da_nil) da_nil)))) (DE.k (DF.de (df_lst (da_cons (de_tup da_nil) da_nil)))) (fun v3 v8 => (db_forN 1 (GB := fun (s11 : D × D) => [Slot.dat a_most, Slot.no, Slot.dat s11.1, Slot.dat s11.2, Slot.no, Slot.no, Slot.no]) (s0 := (v3, v8)) (di_range1 fc.f_range (de_var 0)) (fun s11 d14 => (db_set 4 (DF.de (df_lst da_nil)) (fun v15 => (db_forN 5 (GB := fun (s16 : D) => [Slot.dat a_most, Slot.dat d14, Slot.dat s11.1, Slot.dat s11.2, Slot.dat s16, Slot.no, Slot.no]) (s0 := v15) (di_seq (de_var 3)) (fun s16 d18 => (db_set 4 (de_bin od_add (DE.q (de_var 4)) (DE.q (DF.de (DFL.df (df_compN 6 (DI.q (di_range2 fc.f_range (de_bin od_add (DE.q (de_if (dt_cmp od_ne (DE.q (de_var 5)) (DE.q (de_tup da_nil))) (de_ix (DE.q (de_var 5)) (DE.q (de_neg de_int))) de_int)) (DE.q de_int)) de_int)) (by rfl) (fun d91 => dts_nil) (fun d91 => (de_bin od_add (DE.q (de_var 5)) (DE.q (de_tup (da_cons (de_var 6) da_nil)))))))))) (fun v19 => (db_nil (wk_by [5]))))) (fun s16 => (db_two 2 3 Kd.dat Kd.dat two_loc (DE.k (de_bin od_add (DE.q (de_var 2)) (DE.q (de_var 4)))) (DE.k (de_var 4)) (fun v102 v105 => (db_nil (wk_by [1, 4]))))) (wk_by []))))) (fun s11 => (db_ret (de_var 2))) (wk_by []))))
theorem c__law_sets (fc : Fc K mg) : Cal P w K mg base "_law_sets" 1 1 (lift1 m_law_sets) := by
  obtain ⟨fd, F⟩ := fc.d__law_sets
  exact cal_eq (cal_of F z__law_sets rfl (by decide) fc.o__law_sets (F.bindsN fun _ _ _ _ _ _ us hl => match us, hl with | [_], _ => rfl) (y__law_sets fc)) (fun ds h => lB1_fin ds h)

theorem z_is_card : FnScope ["candidate", "known", "row", "number"] ["candidate"] (defScope (Hd.top 14)) := ⟨rfl, rfl, rfl, by decide +kernel, rfl, by decide +kernel, by decide +kernel⟩
theorem y_is_card (fc : Fc K mg) : BodyOk P w K mg base ["candidate", "known", "row", "number"] (defScope (Hd.top 14)) (defBody (Hd.top 14)) 1 1 (lB1 b_is_card) := by
  intro W Bd Bh ds hds
  match ds, hds with
  | [a_candidate], _ =>
    show DB _ [Slot.dat a_candidate, Slot.no, Slot.no, Slot.no] (defBody (Hd.top 14)) _ (b_is_card a_candidate)
    unfold b_is_card
    exact (db_if (GB := fun (s2 : Unit) => [Slot.dat a_candidate, Slot.no, Slot.no, Slot.no]) (DW.t (dw_or (dt_not (dt_val (de_isT tt_tuple fc.f_isinstance fc.f_tuple (by decide +kernel) (DE.q (de_var 0))))) (dw_or1 (dt_not (dt_chain od_le od_le (DE.q (de_gint fc.g_MIN_SIZE)) (DE.q (de_b1 bl_len fc.f_len cd_len (DE.q (de_var 0)))) (DE.q (de_gint fc.g_MAX_SIZE))))))) (db_ret de_bool) (db_nil (wk_by [])) (fun s2 => (db_if (GB := fun (s10 : Unit) => [Slot.dat a_candidate, Slot.no, Slot.no, Slot.no]) (dt_not (dt_val (de_b1 bl_all fc.f_all cd_all (DE.q (DF.de (DFL.df (df_compN 2 (DI.q (di_seq (de_var 0))) (by rfl) (fun d6 => dts_nil) (fun d6 => (de_and (de_isT tt_tuple fc.f_isinstance fc.f_tuple (by decide +kernel) (DE.q (de_var 2))) (de_one (de_cmp od_eq (DE.q (de_b1 bl_len fc.f_len cd_len (DE.q (de_var 2)))) (DE.q (de_b1 bl_len fc.f_len cd_len (DE.q (de_var 0))))))))))))))) (db_ret de_bool) (db_nil (wk_by [])) (fun s10 => (db_set 1 (de_call1 (c_fields fc) (Nat.le_of_ble_eq_true rfl) (de_var 0)) (fun v11 => (db_ret (de_and (de_b1 bl_all fc.f_all cd_all (DE.q (DF.de (DFL.df (df_compN 3 (DI.q (di_seq (de_var 1))) (by rfl) (fun d18 => dts_nil) (fun d18 => (de_call3 (c_is_int fc) (Nat.le_of_ble_eq_true rfl) (de_var 3) de_int (de_gint fc.g_TOP)))))))) (de_one (de_cmp od_eq (DE.q (de_lenSet fc.f_len fc.f_set (DE.q (de_var 1)))) (DE.q (de_b1 bl_len fc.f_len cd_len (DE.q (de_var 1))))))))))))))
theorem c_is_card (fc : Fc K mg) : Cal P w K mg base "is_card" 2 1 (lift1 m_is_card) := by
  obtain ⟨fd, F⟩ := fc.d_is_card
  exact cal_eq (cal_of F z_is_card rfl (by decide) fc.o_is_card (F.bindsN fun _ _ _ _ _ _ us hl => match us, hl with | [_], _ => rfl) (y_is_card fc)) (fun ds h => lB1_fin ds h)

theorem z__law_card : FnScope ["script", "at", "top", "k", "size", "found", "number"] ["script", "at", "top"] (defScope (Hd.top 33)) := ⟨rfl, rfl, rfl, by decide +kernel, rfl, by decide +kernel, by decide +kernel⟩
theorem y__law_card (fc : Fc K mg) : BodyOk P w K mg base ["script", "at", "top", "k", "size", "found", "number"] (defScope (Hd.top 33)) (defBody (Hd.top 33)) 1 3 (lB3 b_law_card) := by
  intro W Bd Bh ds hds
  match ds, hds with
  | [a_script, a_at, a_top], _ =>
    show DB _ [Slot.dat a_script, Slot.dat a_at, Slot.dat a_top, Slot.no, Slot.no, Slot.no, Slot.no] (defBody (Hd.top 33)) _ (b_law_card a_script a_at a_top)
    unfold b_law_card
    exact (db_two 4 5 Kd.dat Kd.own two_any (DE.k (de_bin od_add (DE.q de_int) (DE.q (de_call3 (c__law_drawn fc) (Nat.le_of_ble_eq_true rfl) (de_var 0) (de_var 1) de_int)))) (DF.k (df_lst da_nil)) (fun v9 v18 => (db_if (GB := fun (s26 : D) => [Slot.dat a_script, Slot.dat a_at, Slot.dat a_top, Slot.no, Slot.dat s26, Slot.own v18, Slot.no]) (dt_cmp od_gt (DE.q (de_bin od_mul (DE.q (de_var 4)) (DE.q (de_var 4)))) (DE.q (de_var 2))) (db_set 4 de_int (fun v25 => (db_nil (wk_by [])))) (db_nil (wk_by [])) (fun s26 => (db_forN 3 (GB := fun (s27 : List D) => [Slot.dat a_script, Slot.dat a_at, Slot.dat a_top, Slot.no, Slot.dat s26, Slot.own s27, Slot.no]) (s0 := v18) (di_range1 fc.f_range (de_bin od_mul (DE.q (de_var 4)) (DE.q (de_var 4)))) (fun s27 d32 => (db_set 6 (de_bin od_add (DE.q de_int) (DE.q (de_call3 (c__law_drawn fc) (Nat.le_of_ble_eq_true rfl) (de_var 0) (de_bin od_add (DE.q (de_bin od_add (DE.q (de_var 1)) (DE.q de_int))) (DE.q (de_var 3))) (de_var 2)))) (fun v33 => (db_while (GB := fun (s74 : D) => [Slot.dat a_script, Slot.dat a_at, Slot.dat a_top, Slot.dat d32, Slot.dat s26, Slot.own s27, Slot.dat s74]) (s0 := v33) 200 (fun s74 => (dt_cmp od_in (DE.q (de_var 6)) (dq_own 5))) (fun s74 => (db_set 6 (de_bin od_add (DE.q (de_bin od_mod (DE.q (de_var 6)) (DE.q (de_var 2)))) (DE.q de_int)) (fun v77 => (db_nil (wk_by []))))) (fun s74 => (db_append 5 rfl (de_var 6) (fun x90 => (db_nil (wk_by [3, 6]))))) (wk_by []))))) (fun s27 => (db_if (GB := fun (s116 : List D) => [Slot.dat a_script, Slot.dat a_at, Slot.dat a_top, Slot.no, Slot.dat s26, Slot.own s116, Slot.no]) (dt_cmp od_eq (DE.q (de_call3 (c__law_drawn fc) (Nat.le_of_ble_eq_true rfl) (de_var 0) (de_bin od_add (DE.q (de_var 1)) (DE.q de_int)) de_int)) (DE.q de_int)) (db_setItem 5 rfl de_int (de_call3 (c__law_drawn fc) (Nat.le_of_ble_eq_true rfl) (de_var 0) (de_bin od_add (DE.q (de_var 1)) (DE.q de_int)) (de_bin od_mul (DE.q (de_var 4)) (DE.q (de_var 4)))) (fun n115 x113 => (db_nil (wk_by [])))) (db_nil (wk_by [])) (fun s116 => (db_ret (de_b1 bl_tuple fc.f_tuple cd_tuple (DE.q (DF.de (DFL.df (df_compN 3 (DI.q (di_range1 fc.f_range (de_var 4))) (by rfl) (fun d142 => dts_nil) (fun d142 => (de_b1 bl_tuple fc.f_tuple cd_tuple (DE.q (de_slice (dq_own 5) (do_some (de_bin od_mul (DE.q (de_var 4)) (DE.q (de_var 3)))) (do_some (de_bin od_add (DE.q (de_bin od_mul (DE.q (de_var 4)) (DE.q (de_var 3)))) (DE.q (de_var 4))))))))))))))))) (wk_by []))))))
theorem c__law_card (fc : Fc K mg) : Cal P w K mg base "_law_card" 2 3 (lift3 m_law_card) := by
  obtain ⟨fd, F⟩ := fc.d__law_card
  exact cal_eq (cal_of F z__law_card rfl (by decide) fc.o__law_card (F.bindsN fun _ _ _ _ _ _ us hl => match us, hl with | [_, _, _], _ => rfl) (y__law_card fc)) (fun ds h => lB3_fin ds h)

theorem z__law_rule : FnScope ["script", "at"] ["script", "at"] (defScope (Hd.top 34)) := ⟨rfl, rfl, rfl, by decide +kernel, rfl, by decide +kernel, by decide +kernel⟩
theorem y__law_rule (fc : Fc K mg) : BodyOk P w K mg base ["script", "at"] (defScope (Hd.top 34)) (defBody (Hd.top 34)) 1 2 (lB2 b_law_rule) := by
  intro W Bd Bh ds hds
  match ds, hds with
  | [a_script, a_at], _ =>
    show DB _ [Slot.dat a_script, Slot.dat a_at] (defBody (Hd.top 34)) _ (b_law_rule a_script a_at)
    unfold b_law_rule
    exact (db_ret (de_ix (DE.q (DF.de (df_lst (da_cons de_str (da_cons de_str (da_cons de_str da_nil)))))) (DE.q (de_call3 (c__law_drawn fc) (Nat.le_of_ble_eq_true rfl) (de_var 0) (de_var 1) de_int))))
theorem c__law_rule (fc : Fc K mg) : Cal P w K mg base "_law_rule" 2 2 (lift2 m_law_rule) := by
  obtain ⟨fd, F⟩ := fc.d__law_rule
  exact cal_eq (cal_of F z__law_rule rfl (by decide) fc.o__law_rule (F.bindsN fun _ _ _ _ _ _ us hl => match us, hl with | [_, _], _ => rfl) (y__law_rule fc)) (fun ds h => lB2_fin ds h)

theorem z__law_badcard : FnScope ["script", "at", "bad"] ["script", "at"] (defScope (Hd.top 36)) := ⟨rfl, rfl, rfl, by decide +kernel, rfl, by decide +kernel, by decide +kernel⟩
theorem y__law_badcard (fc : Fc K mg) : BodyOk P w K mg base ["script", "at", "bad"] (defScope (Hd.top 36)) (defBody (Hd.top 36)) 1 2 (lB2 b_law_badcard) := by
  intro W Bd Bh ds hds
  match ds, hds with
  | [a_script, a_at], _ =>
    show DB _ [Slot.dat a_script, Slot.dat a_at, Slot.no] (defBody (Hd.top 36)) _ (b_law_badcard a_script a_at)
    unfold b_law_badcard
    exact (db_set 2 (DF.de (df_lst (da_cons de_none (da_cons (DF.de (df_lst da_nil)) (da_cons (de_tup (da_cons (de_tup (da_cons de_int da_nil)) da_nil)) (da_cons (de_tup (da_cons (de_tup (da_cons de_int (da_cons de_int da_nil))) da_nil)) (da_cons (de_tup (da_cons (de_tup (da_cons de_int (da_cons de_int da_nil))) (da_cons (de_tup (da_cons de_int (da_cons de_int da_nil))) da_nil))) (da_cons (de_tup (da_cons (de_tup (da_cons de_int (da_cons de_int da_nil))) (da_cons (de_tup (da_cons de_int (da_cons de_int da_nil))) da_nil))) da_nil)))))))) (fun v1 => (db_set 2 (de_bin od_add (DE.q (de_var 2)) (DE.q (DF.de (df_lst (da_cons (de_tup (da_cons (de_tup (da_cons de_int (da_cons de_int da_nil))) (da_cons (de_tup (da_cons de_int (da_cons de_int da_nil))) da_nil))) (da_cons (de_tup (da_cons (de_tup (da_cons de_int (da_cons de_int da_nil))) (da_cons (DF.de (df_lst (da_cons de_int (da_cons de_int da_nil)))) da_nil))) da_nil)))))) (fun v94 => (db_set 2 (de_bin od_add (DE.q (de_var 2)) (DE.q (DF.de (df_lst (da_cons (de_tup (da_cons (de_tup (da_cons de_int (da_cons de_int da_nil))) (da_cons (de_tup (da_cons de_int (da_cons de_str da_nil))) da_nil))) (da_cons (DF.de (df_lst (da_cons (de_tup (da_cons de_int (da_cons de_int da_nil))) (da_cons (de_tup (da_cons de_int (da_cons de_int da_nil))) da_nil)))) (da_cons (de_tup (da_cons (de_tup (da_cons de_bool (da_cons de_int da_nil))) (da_cons (de_tup (da_cons de_int (da_cons de_int da_nil))) da_nil))) (da_cons (de_tup (da_cons (de_tup (da_cons de_int (da_cons de_int da_nil))) (da_cons (de_tup (da_cons de_int (da_cons (de_neg de_int) da_nil))) da_nil))) da_nil)))))))) (fun v211 => (db_set 2 (de_bin od_add (DE.q (de_var 2)) (DE.q (DF.de (df_lst (da_cons (de_tup (da_cons (de_tup (da_cons de_int (da_cons de_int (da_cons de_int da_nil)))) (da_cons (de_tup (da_cons de_int (da_cons de_int (da_cons de_int da_nil)))) da_nil))) da_nil))))) (fun v440 => (db_ret (de_ix (DE.q (de_var 2)) (DE.q (de_call3 (c__law_drawn fc) (Nat.le_of_ble_eq_true rfl) (de_var 0) (de_var 1) de_int))))))))))))
theorem c__law_badcard (fc : Fc K mg) : Cal P w K mg base "_law_badcard" 2 2 (lift2 m_law_badcard) := by
  obtain ⟨fd, F⟩ := fc.d__law_badcard
  exact cal_eq (cal_of F z__law_badcard rfl (by decide) fc.o__law_badcard (F.bindsN fun _ _ _ _ _ _ us hl => match us, hl with | [_, _], _ => rfl) (y__law_badcard fc)) (fun ds h => lB2_fin ds h)

theorem z__law_best : FnScope ["known", "some", "line", "number"] ["known"] (defScope (Hd.top 39)) := ⟨rfl, rfl, rfl, by decide +kernel, rfl, by decide +kernel, by decide +kernel⟩
theorem y__law_best (fc : Fc K mg) : BodyOk P w K mg base ["known", "some", "line", "number"] (defScope (Hd.top 39)) (defBody (Hd.top 39)) 1 1 (lB1 b_law_best) := by
  intro W Bd Bh ds hds
  match ds, hds with
  | [a_known], _ =>
    show DB _ [Slot.dat a_known, Slot.no, Slot.no, Slot.no] (defBody (Hd.top 39)) _ (b_law_best a_known)
    unfold b_law_best
    exact (db_forN 1 (GB := fun (s1 : Unit) => [Slot.dat a_known, Slot.no, Slot.no, Slot.no]) (s0 := ()) (di_seq (de_call1 (c__law_sets fc) (Nat.le_of_ble_eq_true rfl) de_int)) (fun s1 d5 => (db_if (GB := fun (s27 : Unit) => [Slot.dat a_known, Slot.dat d5, Slot.no, Slot.no]) (dt_cmp od_eq (DE.q (DF.de (DFL.df (df_compN 2 (DI.q (di_seq (de_var 0))) (by rfl) (fun d15 => (dts_one (dt_cmp od_eq (DE.q (DF.de (DFL.df (df_compN 3 (DI.q (di_seq (de_var 2))) (by rfl) (fun d19 => (dts_one (dt_cmp od_in (DE.q (de_var 3)) (DE.q (de_var 1))))) (fun d19 => (de_var 3)))))) (DE.q (DF.de (df_lst da_nil)))))) (fun d15 => (de_var 2)))))) (DE.q (DF.de (df_lst da_nil)))) (db_ret (de_var 1)) (db_nil (wk_by [])) (fun s27 => (db_nil (wk_by [1]))))) (fun s1 => (db_ret de_none)) (wk_by []))
theorem c__law_best (fc : Fc K mg) : Cal P w K mg base "_law_best" 2 1 (lift1 m_law_best) := by
  obtain ⟨fd, F⟩ := fc.d__law_best
  exact cal_eq (cal_of F z__law_best rfl (by decide) fc.o__law_best (F.bindsN fun _ _ _ _ _ _ us hl => match us, hl with | [_], _ => rfl) (y__law_best fc)) (fun ds h => lB1_fin ds h)

theorem z_check_card : FnScope ["value"] ["value"] (defScope (Hd.top 15)) := ⟨rfl, rfl, rfl, by decide +kernel, rfl, by decide +kernel, by decide +kernel⟩
theorem y_check_card (fc : Fc K mg) : BodyOk P w K mg base ["value"] (defScope (Hd.top 15)) (defBody (Hd.top 15)) 2 1 (lB1 b_check_card) := by
  intro W Bd Bh ds hds
  match ds, hds with
  | [a_value], _ =>
    show DB _ [Slot.dat a_value] (defBody (Hd.top 15)) _ (b_check_card a_value)
    unfold b_check_card
    exact (db_if (GB := fun (s2 : Unit) => [Slot.dat a_value]) (dt_not (dt_val (de_call1 (c_is_card fc) (Nat.le_of_ble_eq_true rfl) (de_var 0)))) (db_raise fc.x_InvalidCard) (db_nil (wk_by [])) (fun s2 => (db_nil (wk_no _))))
theorem c_check_card (fc : Fc K mg) : Cal P w K mg base "check_card" 3 1 (lift1 m_check_card) := by
  obtain ⟨fd, F⟩ := fc.d_check_card
  exact cal_eq (cal_of F z_check_card rfl (by decide) fc.o_check_card (F.bindsN fun _ _ _ _ _ _ us hl => match us, hl with | [_], _ => rfl) (y_check_card fc)) (fun ds h => lB1_fin ds h)

theorem z_check_cards : FnScope ["cards", "rule", "card"] ["cards", "rule"] (defScope (Hd.top 20)) := ⟨rfl, rfl, rfl, by decide +kernel, rfl, by decide +kernel, by decide +kernel⟩
theorem y_check_cards (fc : Fc K mg) : BodyOk P w K mg base ["cards", "rule", "card"] (defScope (Hd.top 20)) (defBody (Hd.top 20)) 2 2 (lB2 b_check_cards) := by
  intro W Bd Bh ds hds
  match ds, hds with
  | [a_cards, a_rule], _ =>
    show DB _ [Slot.dat a_cards, Slot.dat a_rule, Slot.no] (defBody (Hd.top 20)) _ (b_check_cards a_cards a_rule)
    unfold b_check_cards
    exact (db_if (GB := fun (s5 : Unit) => [Slot.dat a_cards, Slot.dat a_rule, Slot.no]) (DW.t (dw_or (dt_not (dt_val (de_isT tt_list fc.f_isinstance fc.f_list (by decide +kernel) (DE.q (de_var 0))))) (dw_or (dt_not (dt_chain od_le od_le (DE.q de_int) (DE.q (de_b1 bl_len fc.f_len cd_len (DE.q (de_var 0)))) (DE.q (de_gint fc.g_MAX_CARDS)))) (dw_or1 (dt_not (dt_val (de_b1 bl_all fc.f_all cd_all (DE.q (DF.de (DFL.df (df_compN 2 (DI.q (di_seq (de_var 0))) (by rfl) (fun d3 => dts_nil) (fun d3 => (de_call1 (c_is_card fc) (Nat.le_of_ble_eq_true rfl) (de_var 2)))))))))))))) (db_raise fc.x_InvalidCards) (db_nil (wk_by [])) (fun s5 => (db_expr (de_call1 (c_check_rule fc) (Nat.le_of_ble_eq_true rfl) (de_var 1)) (db_nil (wk_no _)))))
theorem c_check_cards (fc : Fc K mg) : Cal P w K mg base "check_cards" 3 2 (lift2 m_check_cards) := by
  obtain ⟨fd, F⟩ := fc.d_check_cards
  exact cal_eq (cal_of F z_check_cards rfl (by decide) fc.o_check_cards (F.bindsN fun _ _ _ _ _ _ us hl => match us, hl with | [_, _], _ => rfl) (y_check_cards fc)) (fun ds h => lB2_fin ds h)

theorem z_check_two : FnScope ["card", "rule"] ["card", "rule"] (defScope (Hd.top 25)) := ⟨rfl, rfl, rfl, by decide +kernel, rfl, by decide +kernel, by decide +kernel⟩
theorem y_check_two (fc : Fc K mg) : BodyOk P w K mg base ["card", "rule"] (defScope (Hd.top 25)) (defBody (Hd.top 25)) 3 2 (lB2 b_check_two) := by
  intro W Bd Bh ds hds
  match ds, hds with
  | [a_card, a_rule], _ =>
    show DB _ [Slot.dat a_card, Slot.dat a_rule] (defBody (Hd.top 25)) _ (b_check_two a_card a_rule)
    unfold b_check_two
    exact (db_expr (de_call1 (c_check_card fc) (Nat.le_of_ble_eq_true rfl) (de_var 0)) (db_expr (de_call1 (c_check_rule fc) (Nat.le_of_ble_eq_true rfl) (de_var 1)) (db_nil (wk_no _))))
theorem c_check_two (fc : Fc K mg) : Cal P w K mg base "check_two" 4 2 (lift2 m_check_two) := by
  obtain ⟨fd, F⟩ := fc.d_check_two
  exact cal_eq (cal_of F z_check_two rfl (by decide) fc.o_check_two (F.bindsN fun _ _ _ _ _ _ us hl => match us, hl with | [_, _], _ => rfl) (y_check_two fc)) (fun ds h => lB2_fin ds h)

theorem z_earliest : FnScope ["card", "rule", "line"] ["card", "rule"] (defScope (Hd.top 29)) := ⟨rfl, rfl, rfl, by decide +kernel, rfl, by decide +kernel, by decide +kernel⟩
theorem y_earliest (fc : Fc K mg) : BodyOk P w K mg base ["card", "rule", "line"] (defScope (Hd.top 29)) (defBody (Hd.top 29)) 4 2 (lB2 b_earliest) := by
  intro W Bd Bh ds hds
  match ds, hds with
  | [a_card, a_rule], _ =>
    show DB _ [Slot.dat a_card, Slot.dat a_rule, Slot.no] (defBody (Hd.top 29)) _ (b_earliest a_card a_rule)
    unfold b_earliest
    exact (db_expr (de_call2 (c_check_two fc) (Nat.le_of_ble_eq_true rfl) (de_var 0) (de_var 1)) (db_ret (de_b1 bl_min fc.f_min cd_minI (DE.q (DF.de (DFL.df (df_compN 2 (DI.q (di_seq (de_call2 (c_find_lines fc) (Nat.le_of_ble_eq_true rfl) (de_var 0) (de_var 1)))) (by rfl) (fun d12 => dts_nil) (fun d12 => (de_b1 bl_len fc.f_len cd_len (DE.q (de_var 2)))))))))))
theorem c_earliest (fc : Fc K mg) : Cal P w K mg base "earliest" 5 2 (lift2 m_earliest) := by
  obtain ⟨fd, F⟩ := fc.d_earliest
  exact cal_eq (cal_of F z_earliest rfl (by decide) fc.o_earliest (F.bindsN fun _ _ _ _ _ _ us hl => match us, hl with | [_, _], _ => rfl) (y_earliest fc)) (fun ds h => lB2_fin ds h)

theorem z_can_meet : FnScope ["some", "many", "number", "line"] ["some", "many"] (defScope (Hd.top 23)) := ⟨rfl, rfl, rfl, by decide +kernel, rfl, by decide +kernel, by decide +kernel⟩
theorem y_can_meet (fc : Fc K mg) (n : Nat) {recF : D → D → Rs D} (ih : Cal P w K mg base "can_meet" (n + 2) 2 (lift2 recF)) : BodyOk P w K mg base ["some", "many", "number", "line"] (defScope (Hd.top 23)) (defBody (Hd.top 23)) (n + 2) 2 (lB2 (b_can_meet recF)) := by
  intro W Bd Bh ds hds
  match ds, hds with
  | [a_some, a_many], _ =>
    show DB _ [Slot.dat a_some, Slot.dat a_many, Slot.no, Slot.no] (defBody (Hd.top 23)) _ (b_can_meet recF a_some a_many)
    unfold b_can_meet
    exact (db_if (GB := fun (s4 : Unit) => [Slot.dat a_some, Slot.dat a_many, Slot.no, Slot.no]) (dt_cmp od_eq (DE.q (de_var 0)) (DE.q (DF.de (df_lst da_nil)))) (db_ret de_bool) (db_nil (wk_by [])) (fun s4 => (db_if (GB := fun (s10 : Unit) => [Slot.dat a_some, Slot.dat a_many, Slot.no, Slot.no]) (dt_cmp od_gt (DE.q (de_call1 (c_count_apart fc) (Nat.le_trans (Nat.le_of_ble_eq_true rfl) (Nat.le_add_left _ _)) (de_var 0))) (DE.q (de_var 1))) (db_ret de_bool) (db_nil (wk_by [])) (fun s10 => (db_ret (de_b1 bl_any fc.f_any cd_any (DE.q (DF.de (DFL.df (df_compN 2 (DI.q (di_seq (de_ix (DE.q (de_var 0)) (DE.q de_int)))) (by rfl) (fun d27 => dts_nil) (fun d27 => (de_call2 ih (Nat.le_refl _) (DF.de (DFL.df (df_compN 3 (DI.q (di_seq (de_var 0))) (by rfl) (fun d28 => (dts_one (dt_cmp od_notIn (DE.q (de_var 2)) (DE.q (de_var 3))))) (fun d28 => (de_var 3))))) (de_bin od_sub (DE.q (de_var 1)) (DE.q de_int))))))))))))))
theorem c_can_meet_n (fc : Fc K mg) : ∀ n : Nat, Cal P w K mg base "can_meet" (n + 2) 2 (lift2 (m_can_meet_n n))
  | 0 => by
    obtain ⟨fd, F⟩ := fc.d_can_meet
    have h := cal_of (P := P) (w := w) (base := base) (k := 1) (n := 2) (mb := fun _ => Rs.bad) F z_can_meet rfl (by decide) fc.o_can_meet (F.bindsN fun _ _ _ _ _ _ us hl => match us, hl with | [_, _], _ => rfl) (fun _ _ _ ds _ => ⟨tNever, fun _ _ => pss_never, fun _ _ _ _ _ p => p⟩)
    exact cal_eq (h.mono (by omega)) (fun ds h => match ds, h with | [_, _], _ => rfl)
  | n + 1 => by
    obtain ⟨fd, F⟩ := fc.d_can_meet
    have h := cal_of F z_can_meet rfl (by decide) fc.o_can_meet (F.bindsN fun _ _ _ _ _ _ us hl => match us, hl with | [_, _], _ => rfl) (y_can_meet fc n (c_can_meet_n fc n))
    exact cal_eq (h.mono (by omega)) (fun ds h => lB2_fin ds h)
theorem c_can_meet (fc : Fc K mg) : Cal P w K mg base "can_meet" 26 2 (lift2 m_can_meet) := c_can_meet_n fc 24

theorem z_find_fewest : FnScope ["some", "many"] ["some"] (defScope (Hd.top 24)) := ⟨rfl, rfl, rfl, by decide +kernel, rfl, by decide +kernel, by decide +kernel⟩
theorem y_find_fewest (fc : Fc K mg) : BodyOk P w K mg base ["some", "many"] (defScope (Hd.top 24)) (defBody (Hd.top 24)) 26 1 (lB1 b_find_fewest) := by
  intro W Bd Bh ds hds
  match ds, hds with
  | [a_some], _ =>
    show DB _ [Slot.dat a_some, Slot.no] (defBody (Hd.top 24)) _ (b_find_fewest a_some)
    unfold b_find_fewest
    exact (db_set 1 (de_call1 (c_count_apart fc) (Nat.le_of_ble_eq_true rfl) (de_var 0)) (fun v1 => (db_while (GB := fun (s4 : D) => [Slot.dat a_some, Slot.dat s4]) (s0 := v1) 200 (fun s4 => (dt_not (dt_val (de_call2 (c_can_meet fc) (Nat.le_of_ble_eq_true rfl) (de_var 0) (de_var 1))))) (fun s4 => (db_set 1 (de_bin od_add (DE.q (de_var 1)) (DE.q de_int)) (fun v7 => (db_nil (wk_by []))))) (fun s4 => (db_ret (de_var 1))) (wk_by []))))
theorem c_find_fewest (fc : Fc K mg) : Cal P w K mg base "find_fewest" 27 1 (lift1 m_find_fewest) := by
  obtain ⟨fd, F⟩ := fc.d_find_fewest
  exact cal_eq (cal_of F z_find_fewest rfl (by decide) fc.o_find_fewest (F.bindsN fun _ _ _ _ _ _ us hl => match us, hl with | [_], _ => rfl) (y_find_fewest fc)) (fun ds h => lB1_fin ds h)

theorem z_fewest_open : FnScope ["card", "rule"] ["card", "rule"] (defScope (Hd.top 26)) := ⟨rfl, rfl, rfl, by decide +kernel, rfl, by decide +kernel, by decide +kernel⟩
theorem y_fewest_open (fc : Fc K mg) : BodyOk P w K mg base ["card", "rule"] (defScope (Hd.top 26)) (defBody (Hd.top 26)) 27 2 (lB2 b_fewest_open) := by
  intro W Bd Bh ds hds
  match ds, hds with
  | [a_card, a_rule], _ =>
    show DB _ [Slot.dat a_card, Slot.dat a_rule] (defBody (Hd.top 26)) _ (b_fewest_open a_card a_rule)
    unfold b_fewest_open
    exact (db_expr (de_call2 (c_check_two fc) (Nat.le_of_ble_eq_true rfl) (de_var 0) (de_var 1)) (db_ret (de_call1 (c_find_fewest fc) (Nat.le_of_ble_eq_true rfl) (de_call2 (c_find_lines fc) (Nat.le_of_ble_eq_true rfl) (de_var 0) (de_var 1)))))
theorem c_fewest_open (fc : Fc K mg) : Cal P w K mg base "fewest_open" 28 2 (lift2 m_fewest_open) := by
  obtain ⟨fd, F⟩ := fc.d_fewest_open
  exact cal_eq (cal_of F z_fewest_open rfl (by decide) fc.o_fewest_open (F.bindsN fun _ _ _ _ _ _ us hl => match us, hl with | [_, _], _ => rfl) (y_fewest_open fc)) (fun ds h => lB2_fin ds h)

theorem z_open_numbers : FnScope ["card", "rule", "many", "number", "left", "chosen", "rest", "line"] ["card", "rule"] (defScope (Hd.top 27)) := ⟨rfl, rfl, rfl, by decide +kernel, rfl, by decide +kernel, by decide +kernel⟩
theorem y_open_numbers (fc : Fc K mg) : BodyOk P w K mg base ["card", "rule", "many", "number", "left", "chosen", "rest", "line"] (defScope (Hd.top 27)) (defBody (Hd.top 27)) 27 2 (lB2 b_open_numbers) := by
  intro W Bd Bh ds hds
  match ds, hds with
  | [a_card, a_rule], _ =>
    show DB _ [Slot.dat a_card, Slot.dat a_rule, Slot.no, Slot.no, Slot.no, Slot.no, Slot.no, Slot.no] (defBody (Hd.top 27)) _ (b_open_numbers a_card a_rule)
    unfold b_open_numbers
    exact (db_expr (de_call2 (c_check_two fc) (Nat.le_of_ble_eq_true rfl) (de_var 0) (de_var 1)) (db_two 4 5 Kd.dat Kd.dat two_loc (DE.k (de_call2 (c_find_lines fc) (Nat.le_of_ble_eq_true rfl) (de_var 0) (de_var 1))) (DE.k (de_tup da_nil)) (fun v5 v8 => (db_set 2 (de_call1 (c_find_fewest fc) (Nat.le_of_ble_eq_true rfl) (de_var 4)) (fun v9 => (db_forN 3 (GB := fun (s12 : D × D) => [Slot.dat a_card, Slot.dat a_rule, Slot.dat v9, Slot.no, Slot.dat s12.1, Slot.dat s12.2, Slot.no, Slot.no]) (s0 := (v5, v8)) (di_range2 fc.f_range de_int (de_bin od_add (DE.q (de_gint fc.g_TOP)) (DE.q de_int))) (fun s12 d18 => (db_setLc 6 (df_compN 7 (DI.q (di_seq (de_var 4))) (by rfl) (fun d20 => (dts_one (dt_cmp od_notIn (DE.q (de_var 3)) (DE.q (de_var 7))))) (fun d20 => (de_var 7))) (fun v19 => (db_if (GB := fun (s49 : D × D) => [Slot.dat a_card, Slot.dat a_rule, Slot.dat v9, Slot.dat d18, Slot.dat s49.1, Slot.dat s49.2, Slot.dat (PyData.list v19), Slot.no]) (DW.t (dw_and (dt_cmp od_lt (DE.q (de_b1 bl_len fc.f_len cd_len (DE.q (de_var 5)))) (DE.q (de_var 2))) (dw_and (dt_cmp od_lt (DE.q (de_b1 bl_len fc.f_len cd_len (DE.q (de_var 6)))) (DE.q (de_b1 bl_len fc.f_len cd_len (DE.q (de_var 4))))) (dw_and1 (dt_val (de_call2 (c_can_meet fc) (Nat.le_of_ble_eq_true rfl) (de_var 6) (de_bin od_sub (DE.q (de_bin od_sub (DE.q (de_var 2)) (DE.q (de_b1 bl_len fc.f_len cd_len (DE.q (de_var 5)))))) (DE.q de_int)))))))) (db_two 4 5 Kd.dat Kd.dat two_loc (DE.k (de_var 6)) (DE.k (de_bin od_add (DE.q (de_var 5)) (DE.q (de_tup (da_cons (de_var 3) da_nil))))) (fun v35 v42 => (db_nil (wk_by [])))) (db_nil (wk_by [])) (fun s49 => (db_nil (wk_by [3, 6]))))))) (fun s12 => (db_ret (de_var 5))) (wk_by [])))))))
theorem c_open_numbers (fc : Fc K mg) : Cal P w K mg base "open_numbers" 28 2 (lift2 m_open_numbers) := by
  obtain ⟨fd, F⟩ := fc.d_open_numbers
  exact cal_eq (cal_of F z_open_numbers rfl (by decide) fc.o_open_numbers (F.bindsN fun _ _ _ _ _ _ us hl => match us, hl with | [_, _], _ => rfl) (y_open_numbers fc)) (fun ds h => lB2_fin ds h)

theorem z_latest : FnScope ["card", "rule"] ["card", "rule"] (defScope (Hd.top 28)) := ⟨rfl, rfl, rfl, by decide +kernel, rfl, by decide +kernel, by decide +kernel⟩
theorem y_latest (fc : Fc K mg) : BodyOk P w K mg base ["card", "rule"] (defScope (Hd.top 28)) (defBody (Hd.top 28)) 27 2 (lB2 b_latest) := by
  intro W Bd Bh ds hds
  match ds, hds with
  | [a_card, a_rule], _ =>
    show DB _ [Slot.dat a_card, Slot.dat a_rule] (defBody (Hd.top 28)) _ (b_latest a_card a_rule)
    unfold b_latest
    exact (db_expr (de_call2 (c_check_two fc) (Nat.le_of_ble_eq_true rfl) (de_var 0) (de_var 1)) (db_ret (de_bin od_sub (DE.q (de_gint fc.g_TOP)) (DE.q (de_call1 (c_find_fewest fc) (Nat.le_of_ble_eq_true rfl) (de_call2 (c_find_lines fc) (Nat.le_of_ble_eq_true rfl) (de_var 0) (de_var 1)))))))
theorem c_latest (fc : Fc K mg) : Cal P w K mg base "latest" 28 2 (lift2 m_latest) := by
  obtain ⟨fd, F⟩ := fc.d_latest
  exact cal_eq (cal_of F z_latest rfl (by decide) fc.o_latest (F.bindsN fun _ _ _ _ _ _ us hl => match us, hl with | [_, _], _ => rfl) (y_latest fc)) (fun ds h => lB2_fin ds h)

theorem z_latest_hall : FnScope ["cards", "rule", "known", "card", "line"] ["cards", "rule"] (defScope (Hd.top 30)) := ⟨rfl, rfl, rfl, by decide +kernel, rfl, by decide +kernel, by decide +kernel⟩
theorem y_latest_hall (fc : Fc K mg) : BodyOk P w K mg base ["cards", "rule", "known", "card", "line"] (defScope (Hd.top 30)) (defBody (Hd.top 30)) 27 2 (lB2 b_latest_hall) := by
  intro W Bd Bh ds hds
  match ds, hds with
  | [a_cards, a_rule], _ =>
    show DB _ [Slot.dat a_cards, Slot.dat a_rule, Slot.no, Slot.no, Slot.no] (defBody (Hd.top 30)) _ (b_latest_hall a_cards a_rule)
    unfold b_latest_hall
    exact (db_expr (de_call2 (c_check_cards fc) (Nat.le_of_ble_eq_true rfl) (de_var 0) (de_var 1)) (db_set 2 (DF.de (df_sortedSet fc.f_sorted fc.f_set (DE.q (DF.de (DFL.df (df_compNN 3 4 (DI.q (di_seq (de_var 0))) (by rfl) (fun d22 => (di_seq (de_call2 (c_find_lines fc) (Nat.le_of_ble_eq_true rfl) (de_var 3) (de_var 1)))) (fun d22 d23 => dts_nil) (fun d22 d23 => (de_var 4)))))))) (fun v3 => (db_ret (de_bin od_sub (DE.q (de_gint fc.g_TOP)) (DE.q (de_call1 (c_find_fewest fc) (Nat.le_of_ble_eq_true rfl) (de_var 2))))))))
theorem c_latest_hall (fc : Fc K mg) : Cal P w K mg base "latest_hall" 28 2 (lift2 m_latest_hall) := by
  obtain ⟨fd, F⟩ := fc.d_latest_hall
  exact cal_eq (cal_of F z_latest_hall rfl (by decide) fc.o_latest_hall (F.bindsN fun _ _ _ _ _ _ us hl => match us, hl with | [_, _], _ => rfl) (y_latest_hall fc)) (fun ds h => lB2_fin ds h)

theorem z__law_error : FnScope ["way", "one", "two", "e"] ["way", "one", "two"] (defScope (Hd.top 37)) := ⟨rfl, rfl, rfl, by decide +kernel, rfl, by decide +kernel, by decide +kernel⟩
theorem y__law_error (fc : Fc K mg) : BodyOk P w K mg base ["way", "one", "two", "e"] (defScope (Hd.top 37)) (defBody (Hd.top 37)) 28 3 (lB3 b_law_error_5) := by
  intro W Bd Bh ds hds
  match ds, hds with
  | [a_way, a_one, a_two], _ =>
    show DB _ [Slot.dat a_way, Slot.dat a_one, Slot.dat a_two, Slot.no] (defBody (Hd.top 37)) _ (b_law_error_5 a_way a_one a_two)
    unfold b_law_error_5
    exact (db_try3 3 (GB := fun _ : Unit => [Slot.dat a_way, Slot.dat a_one, Slot.dat a_two, Slot.no]) fc.t_InvalidCard_InvalidRule_InvalidCards (fun _ => (db_expr (de_callIx (k := 28) (n := 2) (DFns.cons (c_earliest fc) (Nat.le_of_ble_eq_true rfl) rfl (by decide) (DFns.cons (c_fewest_open fc) (Nat.le_of_ble_eq_true rfl) rfl (by decide) (DFns.cons (c_latest fc) (Nat.le_of_ble_eq_true rfl) rfl (by decide) (DFns.cons (c_open_numbers fc) (Nat.le_of_ble_eq_true rfl) rfl (by decide) (DFns.cons (c_latest_hall fc) (Nat.le_of_ble_eq_true rfl) rfl (by decide) DFns.nil))))) (Nat.le_of_ble_eq_true rfl) (de_var 0) (da_cons (de_var 1) (da_cons (de_var 2) da_nil)) (by decide) (hlen := by intro ds h; cases h; rfl)) (db_nil (wk_by [])))) (fun u9 => (db_ret de_none)) fc.f_isinstance rfl)
theorem c__law_error (fc : Fc K mg) : Cal P w K mg base "_law_error" 29 3 (lift3 m_law_error_5) := by
  obtain ⟨fd, F⟩ := fc.d__law_error
  exact cal_eq (cal_of F z__law_error rfl (by decide) fc.o__law_error (F.bindsN fun _ _ _ _ _ _ us hl => match us, hl with | [_, _, _], _ => rfl) (y__law_error fc)) (fun ds h => lB3_fin ds h)

theorem z_law : FnScope ["script", "card", "both", "large", "wrong", "told", "cards", "rule", "known", "best", "odd", "bad", "way", "line"] ["script"] (defScope (Hd.top 40)) := ⟨rfl, rfl, rfl, by decide +kernel, rfl, by decide +kernel, by decide +kernel⟩
theorem y_law (fc : Fc K mg) : BodyOk P w K mg base ["script", "card", "both", "large", "wrong", "told", "cards", "rule", "known", "best", "odd", "bad", "way", "line"] (defScope (Hd.top 40)) (defBody (Hd.top 40)) 29 1 (lB1 b_law_k17) := by
  intro W Bd Bh ds hds
  match ds, hds with
  | [a_script], _ =>
    show DB _ [Slot.dat a_script, Slot.no, Slot.no, Slot.no, Slot.no, Slot.no, Slot.no, Slot.no, Slot.no, Slot.no, Slot.no, Slot.no, Slot.no, Slot.no] (defBody (Hd.top 40)) _ (b_law_k17 a_script)
    unfold b_law_k17
    exact (db_two 6 7 Kd.dat Kd.dat two_any (DE.k (DF.de (df_lst (da_cons (de_call3 (c__law_card fc) (Nat.le_of_ble_eq_true rfl) (de_var 0) de_int de_int) (da_cons (de_call3 (c__law_card fc) (Nat.le_of_ble_eq_true rfl) (de_var 0) de_int de_int) da_nil))))) (DE.k (de_call2 (c__law_rule fc) (Nat.le_of_ble_eq_true rfl) (de_var 0) de_int)) (fun v11 v24 => (db_forN 1 (GB := fun (s27 : Unit) => [Slot.dat a_script, Slot.no, Slot.no, Slot.no, Slot.no, Slot.no, Slot.dat v11, Slot.dat v24, Slot.no, Slot.no, Slot.no, Slot.no, Slot.no, Slot.no]) (s0 := ()) (di_seq (de_var 6)) (fun s27 d29 => (db_set 8 (de_call2 (c__law_lines fc) (Nat.le_of_ble_eq_true rfl) (de_var 1) (de_var 7)) (fun v30 => (db_set 9 (de_call1 (c__law_best fc) (Nat.le_of_ble_eq_true rfl) (de_var 8)) (fun v35 => (db_if (GB := fun (s51 : Unit) => [Slot.dat a_script, Slot.dat d29, Slot.no, Slot.no, Slot.no, Slot.no, Slot.dat v11, Slot.dat v24, Slot.dat v30, Slot.dat v35, Slot.no, Slot.no, Slot.no, Slot.no]) (DW.t (dw_or (dt_cmp od_ne (DE.q (de_call2 (c_fewest_open fc) (Nat.le_of_ble_eq_true rfl) (de_var 1) (de_var 7))) (DE.q (de_b1 bl_len fc.f_len cd_len (DE.q (de_var 9))))) (dw_or1 (dt_cmp od_ne (DE.q (de_call2 (c_open_numbers fc) (Nat.le_of_ble_eq_true rfl) (de_var 1) (de_var 7))) (DE.q (de_var 9)))))) (db_ret de_bool) (db_nil (wk_by [])) (fun s51 => (db_if (GB := fun (s63 : Unit) => [Slot.dat a_script, Slot.dat d29, Slot.no, Slot.no, Slot.no, Slot.no, Slot.dat v11, Slot.dat v24, Slot.dat v30, Slot.dat v35, Slot.no, Slot.no, Slot.no, Slot.no]) (dt_cmp od_ne (DE.q (de_call2 (c_latest fc) (Nat.le_of_ble_eq_true rfl) (de_var 1) (de_var 7))) (DE.q (de_bin od_sub (DE.q de_int) (DE.q (de_b1 bl_len fc.f_len cd_len (DE.q (de_var 9))))))) (db_ret de_bool) (db_nil (wk_by [])) (fun s63 => (db_if (GB := fun (s75 : Unit) => [Slot.dat a_script, Slot.dat d29, Slot.no, Slot.no, Slot.no, Slot.no, Slot.dat v11, Slot.dat v24, Slot.dat v30, Slot.dat v35, Slot.no, Slot.no, Slot.no, Slot.no]) (dt_cmp od_ne (DE.q (de_call2 (c_earliest fc) (Nat.le_of_ble_eq_true rfl) (de_var 1) (de_var 7))) (DE.q (de_b1 bl_min fc.f_min cd_minI (DE.q (DF.de (DFL.df (df_compN 13 (DI.q (di_seq (de_var 8))) (by rfl) (fun d71 => dts_nil) (fun d71 => (de_b1 bl_len fc.f_len cd_len (DE.q (de_var 13))))))))))) (db_ret de_bool) (db_nil (wk_by [])) (fun s75 => (db_nil (wk_by [1, 8, 9]))))))))))))) (fun s27 => (db_set 2 (de_call1 (c__law_best fc) (Nat.le_of_ble_eq_true rfl) (de_bin od_add (DE.q (de_call2 (c__law_lines fc) (Nat.le_of_ble_eq_true rfl) (de_ix (DE.q (de_var 6)) (DE.q de_int)) (de_var 7))) (DE.q (de_call2 (c__law_lines fc) (Nat.le_of_ble_eq_true rfl) (de_ix (DE.q (de_var 6)) (DE.q de_int)) (de_var 7))))) (fun v79 => (db_if (GB := fun (s131 : Unit) => [Slot.dat a_script, Slot.no, Slot.dat v79, Slot.no, Slot.no, Slot.no, Slot.dat v11, Slot.dat v24, Slot.no, Slot.no, Slot.no, Slot.no, Slot.no, Slot.no]) (DW.t (dw_and (dt_cmp od_isNot (DE.q (de_var 2)) (DE.q de_none)) (dw_and1 (dt_cmp od_ne (DE.q (de_call2 (c_latest_hall fc) (Nat.le_of_ble_eq_true rfl) (de_var 6) (de_var 7))) (DE.q (de_bin od_sub (DE.q de_int) (DE.q (de_b1 bl_len fc.f_len cd_len (DE.q (de_var 2)))))))))) (db_ret de_bool) (db_nil (wk_by [])) (fun s131 => (db_if (GB := fun (s141 : Unit) => [Slot.dat a_script, Slot.no, Slot.dat v79, Slot.no, Slot.no, Slot.no, Slot.dat v11, Slot.dat v24, Slot.no, Slot.no, Slot.no, Slot.no, Slot.no, Slot.no]) (DW.t (dw_and (dt_cmp od_is (DE.q (de_var 2)) (DE.q de_none)) (dw_and1 (dt_cmp od_ge (DE.q (de_call2 (c_latest_hall fc) (Nat.le_of_ble_eq_true rfl) (de_var 6) (de_var 7))) (DE.q de_int))))) (db_ret de_bool) (db_nil (wk_by [])) (fun s141 => (db_set 3 (de_call3 (c__law_card fc) (Nat.le_of_ble_eq_true rfl) (de_var 0) de_int de_int) (fun v142 => (db_if (GB := fun (s156 : Unit) => [Slot.dat a_script, Slot.no, Slot.dat v79, Slot.dat v142, Slot.no, Slot.no, Slot.dat v11, Slot.dat v24, Slot.no, Slot.no, Slot.no, Slot.no, Slot.no, Slot.no]) (dt_cmp od_ne (DE.q (de_call2 (c_fewest_open fc) (Nat.le_of_ble_eq_true rfl) (de_var 3) de_str)) (DE.q (de_b1 bl_len fc.f_len cd_len (DE.q (de_var 3))))) (db_ret de_bool) (db_nil (wk_by [])) (fun s156 => (db_if (GB := fun (s172 : Unit) => [Slot.dat a_script, Slot.no, Slot.dat v79, Slot.dat v142, Slot.no, Slot.no, Slot.dat v11, Slot.dat v24, Slot.no, Slot.no, Slot.no, Slot.no, Slot.no, Slot.no]) (dt_cmp od_ne (DE.q (de_call2 (c_latest_hall fc) (Nat.le_of_ble_eq_true rfl) (DF.de (df_lst (da_cons (de_var 3) da_nil))) (de_var 7))) (DE.q (de_call2 (c_latest fc) (Nat.le_of_ble_eq_true rfl) (de_var 3) (de_var 7)))) (db_ret de_bool) (db_nil (wk_by [])) (fun s172 => (db_two 10 11 Kd.dat Kd.dat two_any (DE.k (de_call2 (c__law_badcard fc) (Nat.le_of_ble_eq_true rfl) (de_var 0) de_int)) (DE.k (de_ix (DE.q (DF.de (df_lst (da_cons de_none (da_cons de_str (da_cons de_str (da_cons de_int (da_cons (de_tup (da_cons de_str da_nil)) da_nil)))))))) (DE.q (de_call3 (c__law_drawn fc) (Nat.le_of_ble_eq_true rfl) (de_var 0) de_int de_int)))) (fun v175 v210 => (db_set 4 (de_ix (DE.q (DF.de (df_lst (da_cons de_none (da_cons (DF.de (df_lst da_nil)) (da_cons (de_tup (da_cons (de_ix (DE.q (de_var 6)) (DE.q de_int)) da_nil)) (da_cons (de_bin od_add (DE.q (de_var 6)) (DE.q (DF.de (df_lst (da_cons (de_var 10) da_nil))))) (da_cons (DF.de (df_rep (df_slice (DE.q (de_var 6)) do_none (do_some de_int)) de_int)) da_nil)))))))) (DE.q (de_call3 (c__law_drawn fc) (Nat.le_of_ble_eq_true rfl) (de_var 0) de_int de_int))) (fun v243 => (db_set 5 (de_bin od_add (DE.q (DF.de (DFL.df (df_compN 12 (DI.q (di_range1 fc.f_range de_int)) (by rfl) (fun d397 => dts_nil) (fun d397 => (de_call3 (c__law_error fc) (Nat.le_of_ble_eq_true rfl) (de_var 12) (de_var 10) (de_var 11))))))) (DE.q (DF.de (df_lst (da_cons (de_call3 (c__law_error fc) (Nat.le_of_ble_eq_true rfl) de_int (de_var 4) (de_var 11)) da_nil))))) (fun v368 => (db_set 5 (de_bin od_add (DE.q (de_bin od_add (DE.q (de_var 5)) (DE.q (DF.de (DFL.df (df_compN 12 (DI.q (di_range1 fc.f_range de_int)) (by rfl) (fun d482 => dts_nil) (fun d482 => (de_call3 (c__law_error fc) (Nat.le_of_ble_eq_true rfl) (de_var 12) (de_ix (DE.q (de_var 6)) (DE.q de_int)) (de_var 11))))))))) (DE.q (DF.de (df_lst (da_cons (de_call3 (c__law_error fc) (Nat.le_of_ble_eq_true rfl) de_int (de_var 6) (de_var 11)) da_nil))))) (fun v413 => (db_ret (de_cmp od_eq (DE.q (de_var 5)) (DE.q (de_bin od_add (DE.q (de_bin od_add (DE.q (DF.de (df_rep (df_lst (da_cons de_int da_nil)) de_int))) (DE.q (DF.de (df_lst (da_cons de_int da_nil)))))) (DE.q (DF.de (df_rep (df_lst (da_cons de_int da_nil)) de_int)))))))))))))))))))))))))))) (wk_by []))))
theorem c_law (fc : Fc K mg) : Cal P w K mg base "law" 30 1 (lift1 m_law_k17) := by
  obtain ⟨fd, F⟩ := fc.d_law
  exact cal_eq (cal_of F z_law rfl (by decide) fc.o_law (F.bindsN fun _ _ _ _ _ _ us hl => match us, hl with | [_], _ => rfl) (y_law fc)) (fun ds h => lB1_fin ds h)
end BG.k17
open PySem PySem.W PySem.Calls PyProof.Rows BG
theorem PySem.Challenge.cw_bingocards_k17_latest_holds : PySem.Challenge.rw_bingocards_k17_latest.Holds := by
  w_on
  o_law
  refine HandSHeadRun.head_any (r := BG.k17.Hd.R) (q := view BG.k17.Hd.R.prog [40]) (H := BG.k17.Hd.hk) (ob := BG.k17.Hd.ob) (M := 4000) (loose := BG.k17.Hd.loose) (d := HandSHeadRun.topDef BG.k17.Hd.R.prog 40) (kwd := []) BG.k17.Hd.ob_eq
    (by kernel_rfl) (fun s => by kernel_rfl) BG.k17.Hd.run (by kernel_rfl) (by kernel_rfl) (by kernel_rfl) (by rfl) (by first | assumption | decide +kernel) (by decide +kernel) ⟨rfl, rfl, rfl, rfl, rfl, by decide +kernel⟩ ?hw ?hc
  case hw => w_witness2
  case hc =>
    refine BG.end_of (l := PySem.Challenge.rw_bingocards_k17_latest) (n := 63) (k := 30) (x := "script") (m := BG.m_law_k17) rfl (by decide) (by kernel_rfl) ⟨rfl, by decide, by decide⟩ BG.law_k17_true ?_
    intro w mg fa h Y G hm0
    obtain ⟨K, KX, c⟩ := Y
    have fc : BG.k17.Fc K mg := ⟨h, KX, G, c⟩
    have hm : mg ("law" : PySem.Str) = some (.ref fa) := by
      have e : (HandSHeadRun.topDef BG.k17.Hd.R.prog 40).name = ("law" : PySem.Str) := by kernel_rfl
      rw [← e]
      exact hm0
    obtain ⟨fd, F⟩ := fc.d_law
    have e := hm.symm.trans fc.o_law
    cases e
    have b := L2.FunD.bindsA (ps := ["script"]) F fun _ _ _ _ _ _ us hl => match us, hl with | [_], _ => rfl
    refine ⟨K, fd, KX, Fcs.noLst fc, fun s v => b s [v] rfl, fun base _ _ => ?_⟩
    have z := BG.fn_of (base := base) (w := w) (P := (PySem.Challenge.rw_bingocards_k17_latest).prog) F BG.k17.z_law rfl (by decide) (BG.k17.y_law fc)
    exact BG.fn_eq z fun ds h => BG.lB1_fin ds h
