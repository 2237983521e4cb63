import PyProof.Rows.All
import Wide.All
import OpenK.AllK
import Wide.FinOn
import HandS.ForMost
import HandS.ForExc
import HandS.Walk
import HandS.Zip
import HandS.IsInst
import HandS.TupAny
import HandS.SortInts
import HandS.RevRange
import HandS.Wide
import HandS.Conv
import KE.GoesEnum
import PySem.Challenge.RW_recastle_k01_parts_counted
set_option Elab.async false
set_option linter.all false
set_option maxRecDepth 100000
set_option maxHeartbeats 4000000
/-! A small language of values and combinators: what the defs of a text do, without a heap. -/
namespace Y
open PySem

abbrev Key := L2.Key
/-- a value: tuples and finished lists by what they hold; ref i: the i-th object of the store -/
inductive DV where
  | non | bl (b : Bool) | int (i : Int) | str (s : Str) | tup (xs : List DV) | lst (xs : List DV) | rol (xs : List DV) | dk (kvs : List (Key × DV)) | ref (i : Nat)
abbrev Lo := List (Option DV)
abbrev Sto := List DV
inductive Out (α : Type) where
  | ok (a : α) (S : Sto) | exc (c : Nat) (a : DV) (l : Lo) (S : Sto) | bad
def Out.bind {α β : Type} (o : Out α) (f : α → Sto → Out β) : Out β := match o with
  | .ok a S => f a S
  | .exc c a l S => .exc c a l S
  | .bad => .bad
theorem Out.bind_ok {α β : Type} (a : α) (S : Sto) (f : α → Sto → Out β) : (Out.ok a S).bind f = f a S := rfl
def Out.of {α : Type} (o : Option α) (S : Sto) : Out α := match o with
  | some a => .ok a S
  | none => .bad
inductive Fl where
  | nx (l : Lo) | rt (d : DV) | bk (l : Lo) | ct (l : Lo)
abbrev ME := Lo → Sto → Out DV
abbrev MT := Lo → Sto → Out Bool
abbrev MA := Lo → Sto → Out (List DV)
abbrev MS := Lo → Sto → Out Fl
abbrev LIM : Nat := 16777216

/-! ### views -/
def seqOf (S : Sto) : DV → Option (List DV)
  | .tup xs => some xs
  | .lst xs => some xs
  | .rol xs => some xs
  | .ref k => match S[k]? with
    | some (.lst xs) => some xs
    | _ => none
  | _ => none
def lstOf (S : Sto) : DV → Option (List DV)
  | .lst xs => some xs
  | .ref k => match S[k]? with
    | some (.lst xs) => some xs
    | _ => none
  | _ => none
mutual
/-- no object of the store is in it -/
def noRef : DV → Bool
  | .ref _ => false
  | .tup xs => noRefs xs
  | .lst xs => noRefs xs
  | .rol xs => noRefs xs
  | .dk kvs => noRefK kvs
  | _ => true
def noRefs : List DV → Bool
  | [] => true
  | x :: xs => noRef x && noRefs xs
def noRefK : List (Key × DV) → Bool
  | [] => true
  | (_, x) :: xs => noRef x && noRefK xs
end

/-! ### operations -/
open Classical in
noncomputable def addV (S : Sto) : DV → DV → Option DV
  | .int i, .int j => some (.int (i + j))
  | .str a, .str b => if a.length + b.length ≤ LIM then some (.str (a ++ b)) else none
  | .tup xs, .tup ys => if xs.length + ys.length ≤ LIM then some (.tup (xs ++ ys)) else none
  | x, y => match lstOf S x, lstOf S y with
    | some xs, some ys => if xs.length + ys.length ≤ LIM then some (.lst (xs ++ ys)) else none
    | _, _ => none
def subV : DV → DV → Option DV
  | .int i, .int j => some (.int (i - j))
  | _, _ => none
def MulOk (i j : Int) : Prop := (-(2 ^ 64) < i ∧ i < 2 ^ 64) ∨ (-(2 ^ 64) < j ∧ j < 2 ^ 64) ∨ (i.natAbs < 2 ^ 4000 ∧ j.natAbs < 2 ^ 4000)
open Classical in
noncomputable def mulV : DV → DV → Option DV
  | .int i, .int j => if MulOk i j then some (.int (i * j)) else none
  | _, _ => none
def modV : DV → DV → Option DV
  | .int i, .int j => if 0 < j then some (.int (i % j)) else none
  | _, _ => none
def DivOk (j : Int) : Prop := 0 < j ∧ j.natAbs < 2 ^ 1000
open Classical in
noncomputable def divV : DV → DV → Option DV
  | .int i, .int j => if DivOk j then some (.int (i / j)) else none
  | _, _ => none
def PowOk (i j : Int) : Prop := 0 ≤ j ∧ j ≤ 1000 ∧ i.natAbs < 2 ^ 64
open Classical in
noncomputable def powV : DV → DV → Option DV
  | .int i, .int j => if PowOk i j then some (.int (i ^ j.toNat)) else none
  | _, _ => none
def negV : DV → Option DV
  | .int i => some (.int (-i))
  | _ => none
/-- scalars that == tells apart -/
def scalD : DV → DV → Bool
  | .non, .non => true | .non, .int _ => true | .int _, .non => true | .non, .bl _ => true | .bl _, .non => true | .non, .str _ => true | .str _, .non => true
  | .int _, .int _ => true | .bl _, .bl _ => true | .str _, .str _ => true
  | .int _, .str _ => true | .str _, .int _ => true | .bl _, .str _ => true | .str _, .bl _ => true
  | _, _ => false
mutual
/-- data without bools, n deep at most -/
def plain : Nat → DV → Bool
  | _, .non => true
  | _, .int _ => true
  | _, .str s => PyData.strOk s
  | n + 1, .tup xs => plains n xs
  | n + 1, .lst xs => plains n xs
  | _, _ => false
def plains : Nat → List DV → Bool
  | _, [] => true
  | n, x :: xs => plain n x && plains n xs
end
/-- a top reference read -/
def rd (S : Sto) : DV → DV
  | .ref k => match S[k]? with
    | some x => x
    | none => .ref k
  | x => x
open Classical in
/-- the same value -/
noncomputable def eqB (x y : DV) : Bool := decide (x = y)
theorem eqB_iff {x y : DV} : eqB x y = true ↔ x = y := by
  unfold eqB
  exact @decide_eq_true_iff _ (Classical.propDecidable _)
theorem eqB_self (x : DV) : eqB x x = true := eqB_iff.mpr rfl
theorem eqB_of {x y : DV} {p : Prop} [Decidable p] (h : x = y ↔ p) : eqB x y = decide p := by
  rw [Bool.eq_iff_iff, eqB_iff, h, decide_eq_true_iff]
theorem eqB_int {i j : Int} : eqB (.int i) (.int j) = decide (i = j) := eqB_of (by simp)
theorem eqB_str {i j : Str} : eqB (.str i) (.str j) = decide (i = j) := eqB_of (by simp)
theorem eqB_bl {i j : Bool} : eqB (.bl i) (.bl j) = decide (i = j) := eqB_of (by simp)
noncomputable def eqV (S : Sto) (x y : DV) : Option Bool :=
  if scalD x y = true then some (eqB x y)
  else if plain 60 (rd S x) = true ∧ plain 60 (rd S y) = true then some (eqB (rd S x) (rd S y)) else none
def flatD : DV → Bool
  | .non => true
  | .int _ => true
  | .str _ => true
  | _ => false
noncomputable def inV (S : Sto) (x y : DV) : Option Bool := match seqOf S y with
  | some ys => if flatD x = true ∧ ys.all flatD = true then some (ys.any fun z => eqB z x) else none
  | none => match x, y with
    | .str a, .str b => if a.length = 1 then some (decide (a.cps.getD 0 0 ∈ b.cps.toList)) else none
    | _, _ => none
def isNon : DV → Bool
  | .non => true
  | _ => false
def ltV : DV → DV → Option Bool
  | .int i, .int j => some (decide (i < j))
  | _, _ => none
def leV : DV → DV → Option Bool
  | .int i, .int j => some (decide (i ≤ j))
  | _, _ => none
open Classical in
noncomputable def ixV (S : Sto) (x i : DV) : Option DV := match i with
  | .int i => match seqOf S x with
    | some xs => L2.atI xs i
    | none => match x with
      | .str z => if z.length ≤ LIM then (L2.atI z.cps.toList i).map fun c => .str ⟨#[c]⟩ else none
      | _ => none
  | _ => none
def cutD {α : Type} (xs : List α) (lo hi : Option Int) : List α := (xs.drop (HT.sIx xs.length 0 lo)).take (HT.sIx xs.length xs.length hi - HT.sIx xs.length 0 lo)
def slV (S : Sto) (x : DV) (lo hi : Option Int) : Option DV := match x with
  | .tup xs => some (.tup (cutD xs lo hi))
  | .str z => if z.length ≤ LIM then some (.str (L2.cutS z lo hi)) else none
  | x => (seqOf S x).map fun xs => .lst (cutD xs lo hi)
def lenV (S : Sto) (x : DV) : Option DV := match seqOf S x with
  | some xs => some (.int xs.length)
  | none => match x with
    | .str z => if z.length ≤ LIM then some (.int z.length) else none
    | _ => none
def tupleV (S : Sto) (x : DV) : Option DV := (seqOf S x).map .tup
def listV (S : Sto) (x : DV) : Option DV := (seqOf S x).map .lst
/-- the built-in class of a value -/
def tagOf (S : Sto) : DV → Option String
  | .non => some "NoneType"
  | .bl _ => some "bool"
  | .int _ => some "int"
  | .str _ => some "str"
  | .tup _ => some "tuple"
  | .lst _ => some "list"
  | .rol _ => some "list"
  | .dk _ => some "dict"
  | .ref k => match S[k]? with
    | some (.lst _) => some "list"
    | some (.dk _) => some "dict"
    | _ => none
def isTag (t c : String) : Bool := t == c || (t == "bool" && c == "int")
def isiV (S : Sto) (c : String) (x : DV) : Option DV := (tagOf S x).map fun t => .bl (isTag t c)

/-! ### expressions -/
def var (i : Nat) : ME := fun l S => match l[i]? with
  | some (some d) => .ok d S
  | _ => .bad
def cst (d : DV) : ME := fun _ S => .ok d S
def op1 (f : Sto → DV → Option DV) (a : ME) : ME := fun l S => (a l S).bind fun x S1 => Out.of (f S1 x) S1
def op2 (f : Sto → DV → DV → Option DV) (a b : ME) : ME := fun l S => (a l S).bind fun x S1 => (b l S1).bind fun y S2 => Out.of (f S2 x y) S2
noncomputable def add : ME → ME → ME := op2 addV
def sub : ME → ME → ME := op2 fun _ => subV
noncomputable def mul : ME → ME → ME := op2 fun _ => mulV
def mod : ME → ME → ME := op2 fun _ => modV
noncomputable def fdiv : ME → ME → ME := op2 fun _ => divV
noncomputable def pow : ME → ME → ME := op2 fun _ => powV
def neg : ME → ME := op1 fun _ => negV
noncomputable def eqE : ME → ME → ME := op2 fun S x y => (eqV S x y).map .bl
noncomputable def neE : ME → ME → ME := op2 fun S x y => (eqV S x y).map fun b => .bl !b
noncomputable def inE : ME → ME → ME := op2 fun S x y => (inV S x y).map .bl
noncomputable def ninE : ME → ME → ME := op2 fun S x y => (inV S x y).map fun b => .bl !b
def ltE : ME → ME → ME := op2 fun _ x y => (ltV x y).map .bl
def leE : ME → ME → ME := op2 fun _ x y => (leV x y).map .bl
def gtE : ME → ME → ME := op2 fun _ x y => (ltV y x).map .bl
def geE : ME → ME → ME := op2 fun _ x y => (leV y x).map .bl
def isN : ME → ME := op1 fun _ x => some (.bl (isNon x))
def notN : ME → ME := op1 fun _ x => some (.bl !(isNon x))
noncomputable def ix : ME → ME → ME := op2 ixV
def part (e : Option ME) (l : Lo) (S : Sto) : Out (Option Int) := match e with
  | none => .ok none S
  | some e => (e l S).bind fun x S1 => match x with
    | .int i => .ok (some i) S1
    | _ => .bad
def slice (a : ME) (lo hi : Option ME) : ME := fun l S => (a l S).bind fun x S1 => (part lo l S1).bind fun p S2 => (part hi l S2).bind fun q S3 => Out.of (slV S3 x p q) S3
def aNil : MA := fun _ S => .ok [] S
def aCons (e : ME) (r : MA) : MA := fun l S => (e l S).bind fun x S1 => (r l S1).bind fun xs S2 => .ok (x :: xs) S2
def tupE (a : MA) : ME := fun l S => (a l S).bind fun xs S1 => if xs.length ≤ LIM then .ok (.tup xs) S1 else .bad
/-- a list, finished -/
def lstE (a : MA) : ME := fun l S => (a l S).bind fun xs S1 => if xs.length ≤ LIM then .ok (.lst xs) S1 else .bad
/-- a list as an object of the store -/
def lstR (a : MA) : ME := fun l S => (a l S).bind fun xs S1 => if xs.length ≤ LIM ∧ noRefs xs = true then .ok (.ref S1.length) (S1 ++ [.lst xs]) else .bad
def lenE : ME → ME := op1 lenV
def tupleE : ME → ME := op1 tupleV
def listE : ME → ME := op1 listV
/-- list(x) as an object of the store -/
def listR (a : ME) : ME := fun l S => (a l S).bind fun x S1 => match seqOf S1 x with
  | some xs => if noRefs xs = true then .ok (.ref S1.length) (S1 ++ [.lst xs]) else .bad
  | none => .bad
def isiE (c : String) : ME → ME := op1 fun S => isiV S c
def tst (e : ME) : MT := fun l S => (e l S).bind fun x S1 => match x with
  | .bl b => .ok b S1
  | _ => .bad
def andT (a b : MT) : MT := fun l S => (a l S).bind fun c S1 => if c = true then b l S1 else .ok false S1
def orT (a b : MT) : MT := fun l S => (a l S).bind fun c S1 => if c = true then .ok true S1 else b l S1
def notT (a : MT) : MT := fun l S => (a l S).bind fun c S1 => .ok (!c) S1
def andE (a b : ME) : ME := fun l S => (a l S).bind fun x S1 => match x with
  | .bl true => b l S1
  | .bl false => .ok (.bl false) S1
  | _ => .bad
def orE (a b : ME) : ME := fun l S => (a l S).bind fun x S1 => match x with
  | .bl false => b l S1
  | .bl true => .ok (.bl true) S1
  | _ => .bad
def notE (a : ME) : ME := fun l S => (a l S).bind fun x S1 => match x with
  | .bl c => .ok (.bl !c) S1
  | _ => .bad

/-! ### calls -/
/-- what a def answers: its value, whether it is an object of its own -/
abbrev Ora := List DV → Sto → Out (DV × Bool)
def call (f : Ora) (a : MA) : ME := fun l S => (a l S).bind fun xs S1 => match f xs S1 with
  | .ok (d, _) S2 => .ok d S2
  | .exc c d _ S2 => .exc c d l S2
  | .bad => .bad
/-- a call whose new list becomes an object of the store -/
def callR (f : Ora) (a : MA) : ME := fun l S => (a l S).bind fun xs S1 => match f xs S1 with
  | .ok (d, true) S2 => if noRef d = true then .ok (.ref S2.length) (S2 ++ [d]) else .bad
  | .ok (_, false) _ => .bad
  | .exc c d _ S2 => .exc c d l S2
  | .bad => .bad

/-! ### sources -/
/-- what a for walks: the items, and the objects that must stand still meanwhile -/
abbrev MI := Lo → Sto → Out (List DV × List (Nat × DV))
def guardOf (S : Sto) : DV → List (Nat × DV)
  | .ref k => match S[k]? with
    | some x => [(k, x)]
    | none => []
  | _ => []
def sSeq (a : ME) : MI := fun l S => (a l S).bind fun x S1 => match seqOf S1 x with
  | some xs => .ok (xs, guardOf S1 x) S1
  | none => .bad
def rngD (lo : Int) (n : Nat) : List DV := (List.range n).map fun i => .int (lo + (i : Nat))
def RngOk (i : Int) : Prop := -(2 ^ 62) ≤ i ∧ i < 2 ^ 62
open Classical in
noncomputable def sRange1 (a : ME) : MI := fun l S => (a l S).bind fun x S1 => match x with
  | .int n => if RngOk n then .ok (rngD 0 n.toNat, []) S1 else .bad
  | _ => .bad
open Classical in
noncomputable def sRange2 (a b : ME) : MI := fun l S => (a l S).bind fun x S1 => (b l S1).bind fun y S2 => match x, y with
  | .int i, .int j => if RngOk i ∧ RngOk j then .ok (rngD i (j - i).toNat, []) S2 else .bad
  | _, _ => .bad
open Classical in
noncomputable def sRev1 (a : ME) : MI := fun l S => (a l S).bind fun x S1 => match x with
  | .int n => if RngOk n then .ok ((rngD 0 n.toNat).reverse, []) S1 else .bad
  | _ => .bad
def enumD (xs : List DV) : List DV := (List.range xs.length).zipWith (fun i x => .tup [.int (i : Nat), x]) xs
def sEnum (a : ME) : MI := fun l S => (a l S).bind fun x S1 => match seqOf S1 x with
  | some xs => .ok (enumD xs, guardOf S1 x) S1
  | none => .bad
def zipD (xs ys : List DV) : List DV := xs.zipWith (fun x y => .tup [x, y]) ys
def sZip (a b : ME) : MI := fun l S => (a l S).bind fun x S1 => (b l S1).bind fun y S2 => match seqOf S2 x, seqOf S2 y with
  | some xs, some ys => .ok (zipD xs ys, guardOf S2 x ++ guardOf S2 y) S2
  | _, _ => .bad

/-! ### targets -/
abbrev Tg := DV → Lo → Option Lo
def tN (i : Nat) : Tg := fun d l => some (l.set i (some d))
def tU (is : List Nat) : Tg := fun d l => match d with
  | .tup xs => if xs.length = is.length then some ((is.zip xs).foldl (fun l p => l.set p.1 (some p.2)) l) else none
  | _ => none

/-! ### statements -/
def skip : MS := fun l S => .ok (.nx l) S
def seq (a b : MS) : MS := fun l S => (a l S).bind fun f S1 => match f with
  | .nx l1 => b l1 S1
  | f => .ok f S1
def asg (t : Tg) (e : ME) : MS := fun l S => (e l S).bind fun x S1 => match t x l with
  | some l1 => .ok (.nx l1) S1
  | none => .bad
def ret (e : ME) : MS := fun l S => (e l S).bind fun x S1 => .ok (.rt x) S1
def retN : MS := fun _ S => .ok (.rt .non) S
def ifS (c : MT) (a b : MS) : MS := fun l S => (c l S).bind fun k S1 => if k = true then a l S1 else b l S1
def drop (e : ME) : MS := fun l S => (e l S).bind fun _ S1 => .ok (.nx l) S1
def brk : MS := fun l S => .ok (.bk l) S
def cont : MS := fun l S => .ok (.ct l) S
/-- x.append(e) -/
def app (a e : ME) : MS := fun l S => (a l S).bind fun x S1 => if (lstOf S1 x).isSome = true then (e l S1).bind fun y S2 => (match x with
  | .ref k => match S2[k]? with
    | some (.lst xs) => if xs.length < LIM ∧ noRef y = true then .ok (.nx l) (S2.set k (.lst (xs ++ [y]))) else .bad
    | _ => .bad
  | _ => .bad) else .bad
/-- x.extend(e) -/
def ext (a e : ME) : MS := fun l S => (a l S).bind fun x S1 => if (lstOf S1 x).isSome = true then (e l S1).bind fun y S2 => (match x with
  | .ref k => match S2[k]?, lstOf S2 y with
    | some (.lst xs), some ys => if xs.length + ys.length ≤ LIM ∧ noRefs ys = true then .ok (.nx l) (S2.set k (.lst (xs ++ ys))) else .bad
    | _, _ => .bad
  | _ => .bad) else .bad
/-- x[i] = e, x a list -/
def setL (a i e : ME) : MS := fun l S => (e l S).bind fun y S0 => (a l S0).bind fun x S1 => (i l S1).bind fun j S2 => match x, j with
  | .ref k, .int j => match S2[k]? with
    | some (.lst xs) => match L2.ixN xs.length j with
      | some m => if noRef y = true then .ok (.nx l) (S2.set k (.lst (xs.set m y))) else .bad
      | none => .bad
    | _ => .bad
  | _, _ => .bad
/-- x.pop() as a value -/
def popE (a : ME) : ME := fun l S => (a l S).bind fun x S1 => match x with
  | .ref k => match S1[k]? with
    | some (.lst xs) => match xs[xs.length - 1]? with
      | some y => .ok y (S1.set k (.lst xs.dropLast))
      | none => .bad
    | _ => .bad
  | _ => .bad
noncomputable def held (S : Sto) (gs : List (Nat × DV)) : Bool := gs.all fun g => match S[g.1]? with
  | some x => eqB x g.2
  | none => false
noncomputable def loop (t : Tg) (b : MS) (gs : List (Nat × DV)) : List DV → Lo → Sto → Out Fl
  | [], l, S => if held S gs = true then .ok (.nx l) S else .bad
  | x :: xs, l, S => if held S gs = true then match t x l with
    | some l1 => (b l1 S).bind fun f S1 => match f with
      | .nx l2 => loop t b gs xs l2 S1
      | .ct l2 => loop t b gs xs l2 S1
      | .bk l2 => .ok (.nx l2) S1
      | .rt d => .ok (.rt d) S1
    | none => .bad
    else .bad
noncomputable def forS (t : Tg) (i : MI) (b : MS) : MS := fun l S => (i l S).bind fun p S1 => loop t b p.2 p.1 l S1
def whileN (c : MT) (b : MS) : Nat → Lo → Sto → Out Fl
  | 0, _, _ => .bad
  | n + 1, l, S => (c l S).bind fun k S1 => if k = true then (b l S1).bind fun f S2 => (match f with
      | .nx l2 => whileN c b n l2 S2
      | .ct l2 => whileN c b n l2 S2
      | .bk l2 => .ok (.nx l2) S2
      | .rt d => .ok (.rt d) S2)
    else .ok (.nx l) S1
abbrev TURNS : Nat := 1000000
def whileS (c : MT) (b : MS) : MS := fun l S => whileN c b TURNS l S

/-! ### comprehensions -/
def wipeL (l : Lo) : List Nat → Lo
  | [] => l
  | v :: vs => (wipeL l vs).set v none
/-- the list that is made stands in the store, at n, meanwhile -/
noncomputable def compL (t : Tg) (c : MT) (e : ME) (gs : List (Nat × DV)) (l0 : Lo) (n : Nat) : List DV → Sto → Out Unit
  | [], S => if held S gs = true then .ok () S else .bad
  | x :: xs, S => if held S gs = true then match t x l0 with
    | some l1 => (c l1 S).bind fun k S1 => if k = true then (e l1 S1).bind fun y S2 => (match S2[n]? with
        | some (.lst acc) => if acc.length < LIM ∧ noRef y = true then compL t c e gs l0 n xs (S2.set n (.lst (acc ++ [y]))) else .bad
        | _ => .bad)
      else compL t c e gs l0 n xs S1
    | none => .bad
    else .bad
noncomputable def compR (own : List Nat) (t : Tg) (i : MI) (c : MT) (e : ME) : ME := fun l S => (i l S).bind fun p S1 => match compL t c e p.2 (wipeL l own) S1.length p.1 (S1 ++ [.lst []]) with
  | .ok _ S2 => .ok (.ref S1.length) S2
  | _ => .bad
noncomputable def comp (own : List Nat) (t : Tg) (i : MI) (c : MT) (e : ME) : ME := fun l S => (i l S).bind fun p S1 => match compL t c e p.2 (wipeL l own) S1.length p.1 (S1 ++ [.lst []]) with
  | .ok _ S2 => if S2.length = S1.length + 1 then (match S2[S1.length]? with
    | some (.lst ys) => .ok (.lst ys) (S2.take S1.length)
    | _ => .bad) else .bad
  | _ => .bad
def tYes : MT := fun _ S => .ok true S

/-! ### defs -/
mutual
/-- objects of the store that stand at m or farther on are in it -/
def noRefGe (m : Nat) : DV → Bool
  | .ref k => decide (k < m)
  | .tup xs => noRefGes m xs
  | .lst xs => noRefGes m xs
  | .rol xs => noRefGes m xs
  | .dk kvs => noRefGeK m kvs
  | _ => true
def noRefGes (m : Nat) : List DV → Bool
  | [] => true
  | x :: xs => noRefGe m x && noRefGes m xs
def noRefGeK (m : Nat) : List (Key × DV) → Bool
  | [] => true
  | (_, x) :: xs => noRefGe m x && noRefGeK m xs
end
/-- a def's end: its own object becomes a value (true: its own), the others go -/
def leave (m : Nat) (d : DV) (S : Sto) : Out (DV × Bool) := match d with
  | .ref k => if k < m then .ok (.ref k, false) (S.take m) else match S[k]? with
    | some x => .ok (x, true) (S.take m)
    | none => .bad
  | d => if noRefGe m d = true then .ok (d, false) (S.take m) else .bad
/-- a def of n slots, its arguments first -/
def fn (n : Nat) (b : MS) : Ora := fun args S => match b (args.map some ++ List.replicate (n - args.length) none) S with
  | .ok (.rt d) S1 => leave S.length d S1
  | .ok (.nx _) S1 => leave S.length .non S1
  | .exc c d _ S1 => if noRef d = true then .exc c d [] (S1.take S.length) else .bad
  | _ => .bad
end Y
/-! What the combinators tell is what the text does (over the hand layer). -/
namespace Y
open PySem L2

/-! ### how a value stands in the heap -/
/-- a list that nobody changes here -/
def RolAt (K : PySem.W.Frag) (ρ : List Addr) (H : Hp) (a : Addr) (vs : List V) : Prop := (∃ o, H a = some (.frz o (.lst vs))) ∨ (a ∉ ρ ∧ H a = some (.lst vs)) ∨ ∀ H', SqL K H' a vs
theorem RolAt.seq {K : PySem.W.Frag} {ρ : List Addr} {H : Hp} {a : Addr} {vs : List V} (h : RolAt K ρ H a vs) : SqL K H a vs := by
  rcases h with ⟨o, h⟩ | ⟨_, h⟩ | h
  · exact .inl (.inr ⟨o, h⟩)
  · exact .inl (.inl h)
  · exact h H
theorem RolAt.of {K : PySem.W.Frag} {H : Hp} {a : Addr} {vs : List V} (h : SqL K H a vs) : RolAt K [] H a vs := by
  rcases h with (h | ⟨o, h⟩) | h
  · exact .inr (.inl ⟨by simp, h⟩)
  · exact .inl ⟨o, h⟩
  · exact .inr (.inr fun _ => .inr h)
section
variable (K : PySem.W.Frag) (ρ : List Addr) (H : Hp)
mutual
def RV : DV → V → Prop
  | .non, v => v = .non
  | .bl b, v => v = .bl b
  | .int i, v => v = .int i
  | .str s, v => v = .str s
  | .tup xs, v => ∃ a vs, v = .ref a ∧ SqT K H a vs ∧ RVs xs vs
  | .lst xs, v => ∃ a vs, v = .ref a ∧ a ∉ ρ ∧ H a = some (.lst vs) ∧ RVs xs vs
  | .rol xs, v => ∃ a vs, v = .ref a ∧ RolAt K ρ H a vs ∧ RVs xs vs
  | .dk kvs, v => ∃ a ws, v = .ref a ∧ a ∉ ρ ∧ H a = some (.dK ws) ∧ RVK kvs ws
  | .ref k, v => ∃ a, ρ[k]? = some a ∧ v = .ref a
def RVs : List DV → List V → Prop
  | [], vs => vs = []
  | x :: xs, vs => ∃ v r, vs = v :: r ∧ RV x v ∧ RVs xs r
def RVK : List (Key × DV) → List (Key × V) → Prop
  | [], vs => vs = []
  | (k, x) :: xs, vs => ∃ v r, vs = (k, v) :: r ∧ RV x v ∧ RVK xs r
end
/-- an object of the store at a -/
def RO (a : Addr) : DV → Prop
  | .lst xs => ∃ vs, H a = some (.lst vs) ∧ RVs K ρ H xs vs ∧ noRefs xs = true
  | .dk kvs => ∃ ws, H a = some (.dK ws) ∧ RVK K ρ H kvs ws ∧ noRefK kvs = true
  | _ => False
structure RS (S : Sto) : Prop where
  nd : ρ.Nodup
  len : ρ.length = S.length
  at_ : ∀ (k : Nat) (a : Addr) (o : DV), ρ[k]? = some a → S[k]? = some o → RO K ρ H a o
structure RL (l : Lo) (σ : L2.St) : Prop where
  len : l.length = σ.length
  at_ : ∀ (i : Nat) (d : DV), l[i]? = some (some d) → ∃ v, σ[i]? = some (some v) ∧ RV K ρ H d v
end
structure Ext (ρ : List Addr) (H : Hp) (ρ' : List Addr) (H' : Hp) : Prop where
  pre : ∃ t, ρ' = ρ ++ t
  keep : ∀ a o, H a = some o → a ∉ ρ → H' a = some o
  tups : ∀ a xs, H a = some (.tup xs) → H' a = some (.tup xs)
  frzs : ∀ a o u, H a = some (.frz o u) → H' a = some (.frz o u)
  fresh : ∀ a, a ∈ ρ' → a ∈ ρ ∨ H a = none
  /-- what was tracked is tracked -/
  there : ∀ a, H' a = none → H a = none
section
variable {K : PySem.W.Frag} {ρ ρ' ρ1 : List Addr} {H H' H1 : Hp}
theorem Ext.refl : Ext ρ H ρ H := ⟨⟨[], by simp⟩, fun _ _ h _ => h, fun _ _ h => h, fun _ _ _ h => h, fun _ h => .inl h, fun _ h => h⟩
theorem Ext.trans (a : Ext ρ H ρ1 H1) (b : Ext ρ1 H1 ρ' H') : Ext ρ H ρ' H' := by
  refine ⟨?_, fun x o h n => b.keep x o (a.keep x o h n) fun m => ?_, fun x xs h => b.tups x xs (a.tups x xs h), fun x o u h => b.frzs x o u (a.frzs x o u h), fun x h => ?_, fun x h => a.there x (b.there x h)⟩
  · obtain ⟨t, rfl⟩ := a.pre
    obtain ⟨t', rfl⟩ := b.pre
    exact ⟨t ++ t', by simp⟩
  · rcases a.fresh x m with q | q
    · exact n q
    · rw [h] at q; cases q
  · rcases b.fresh x h with q | q
    · exact a.fresh x q
    · exact .inr (a.there x q)
theorem ext_new {p : Addr} {o : HO} (h : H p = none) : Ext ρ H ρ (upd H p o) :=
  ⟨⟨[], by simp⟩, fun a u e _ => by rw [upd_ne (ne_of_none e h)]; exact e, fun a u e => by rw [upd_ne (ne_of_none e h)]; exact e, fun a u v e => by rw [upd_ne (ne_of_none e h)]; exact e, fun a h => .inl h, fun a e => by
    by_cases z : a = p
    · rw [z]; exact h
    · rw [upd_ne z] at e; exact e⟩
theorem ext_push {p : Addr} {o : HO} (h : H p = none) : Ext ρ H (ρ ++ [p]) (upd H p o) := by
  have e := ext_new (ρ := ρ) (o := o) h
  refine ⟨⟨[p], rfl⟩, e.keep, e.tups, e.frzs, fun a m => ?_, e.there⟩
  rcases List.mem_append.mp m with q | q
  · exact .inl q
  · rw [List.mem_singleton] at q; rw [q]; exact .inr h
theorem sqT_ext (e : Ext ρ H ρ' H') {a : Addr} {vs : List V} (h : SqT K H a vs) : SqT K H' a vs := by
  rcases h with (h | ⟨o, h⟩) | h
  · exact .inl (.inl (e.tups _ _ h))
  · exact .inl (.inr ⟨o, e.frzs _ _ _ h⟩)
  · exact .inr h
theorem ext_notin (e : Ext ρ H ρ' H') {a : Addr} {o : HO} (h : H a = some o) (n : a ∉ ρ) : a ∉ ρ' := fun m => by
  rcases e.fresh a m with q | q
  · exact n q
  · rw [h] at q; cases q
mutual
theorem RV.mono (e : Ext ρ H ρ' H') : ∀ (d : DV) (v : V), RV K ρ H d v → RV K ρ' H' d v
  | .non, v, h => by simp only [RV] at h ⊢; exact h
  | .bl b, v, h => by simp only [RV] at h ⊢; exact h
  | .int i, v, h => by simp only [RV] at h ⊢; exact h
  | .str s, v, h => by simp only [RV] at h ⊢; exact h
  | .tup xs, v, h => by
    simp only [RV] at h ⊢
    obtain ⟨a, vs, h1, h2, h3⟩ := h
    exact ⟨a, vs, h1, sqT_ext e h2, RVs.mono e xs vs h3⟩
  | .lst xs, v, h => by
    simp only [RV] at h ⊢
    obtain ⟨a, vs, h1, h2, h3, h4⟩ := h
    exact ⟨a, vs, h1, ext_notin e h3 h2, e.keep _ _ h3 h2, RVs.mono e xs vs h4⟩
  | .rol xs, v, h => by
    simp only [RV] at h ⊢
    obtain ⟨a, vs, h1, h2, h3⟩ := h
    refine ⟨a, vs, h1, ?_, RVs.mono e xs vs h3⟩
    rcases h2 with ⟨o, h⟩ | ⟨n, h⟩ | h
    · exact .inl ⟨o, e.frzs _ _ _ h⟩
    · exact .inr (.inl ⟨ext_notin e h n, e.keep _ _ h n⟩)
    · exact .inr (.inr h)
  | .dk kvs, v, h => by
    simp only [RV] at h ⊢
    obtain ⟨a, ws, h1, h2, h3, h4⟩ := h
    exact ⟨a, ws, h1, ext_notin e h3 h2, e.keep _ _ h3 h2, RVK.mono e kvs ws h4⟩
  | .ref k, v, h => by
    simp only [RV] at h ⊢
    obtain ⟨a, h1, h2⟩ := h
    obtain ⟨t, rfl⟩ := e.pre
    exact ⟨a, by rw [List.getElem?_append_left (List.getElem?_eq_some_iff.mp h1).1]; exact h1, h2⟩
theorem RVs.mono (e : Ext ρ H ρ' H') : ∀ (xs : List DV) (vs : List V), RVs K ρ H xs vs → RVs K ρ' H' xs vs
  | [], vs, h => by simp only [RVs] at h ⊢; exact h
  | x :: xs, vs, h => by
    simp only [RVs] at h ⊢
    obtain ⟨v, r, h1, h2, h3⟩ := h
    exact ⟨v, r, h1, RV.mono e x v h2, RVs.mono e xs r h3⟩
theorem RVK.mono (e : Ext ρ H ρ' H') : ∀ (xs : List (Key × DV)) (vs : List (Key × V)), RVK K ρ H xs vs → RVK K ρ' H' xs vs
  | [], vs, h => by simp only [RVK] at h ⊢; exact h
  | (k, x) :: xs, vs, h => by
    simp only [RVK] at h ⊢
    obtain ⟨v, r, h1, h2, h3⟩ := h
    exact ⟨v, r, h1, RV.mono e x v h2, RVK.mono e xs r h3⟩
end
mutual
/-- fewer objects in the store: what has none of the others stands as it stood -/
theorem RV.sub {m : Nat} (hs : ∀ a ∈ ρ', a ∈ ρ) (hm : ∀ k a, k < m → ρ[k]? = some a → ρ'[k]? = some a) : ∀ (d : DV) (v : V), noRefGe m d = true → RV K ρ H d v → RV K ρ' H d v
  | .non, v, _, h => by simp only [RV] at h ⊢; exact h
  | .bl b, v, _, h => by simp only [RV] at h ⊢; exact h
  | .int i, v, _, h => by simp only [RV] at h ⊢; exact h
  | .str s, v, _, h => by simp only [RV] at h ⊢; exact h
  | .tup xs, v, n, h => by
    simp only [RV, noRefGe] at h n ⊢
    obtain ⟨a, vs, h1, h2, h3⟩ := h
    exact ⟨a, vs, h1, h2, RVs.sub hs hm xs vs n h3⟩
  | .lst xs, v, n, h => by
    simp only [RV, noRefGe] at h n ⊢
    obtain ⟨a, vs, h1, h2, h3, h4⟩ := h
    exact ⟨a, vs, h1, fun z => h2 (hs a z), h3, RVs.sub hs hm xs vs n h4⟩
  | .rol xs, v, n, h => by
    simp only [RV, noRefGe] at h n ⊢
    obtain ⟨a, vs, h1, h2, h3⟩ := h
    refine ⟨a, vs, h1, ?_, RVs.sub hs hm xs vs n h3⟩
    rcases h2 with ⟨o, h⟩ | ⟨n, h⟩ | h
    · exact .inl ⟨o, h⟩
    · exact .inr (.inl ⟨fun z => n (hs a z), h⟩)
    · exact .inr (.inr h)
  | .dk kvs, v, n, h => by
    simp only [RV, noRefGe] at h n ⊢
    obtain ⟨a, ws, h1, h2, h3, h4⟩ := h
    exact ⟨a, ws, h1, fun z => h2 (hs a z), h3, RVK.sub hs hm kvs ws n h4⟩
  | .ref k, v, n, h => by
    simp only [RV, noRefGe, decide_eq_true_eq] at h n ⊢
    obtain ⟨a, h1, h2⟩ := h
    exact ⟨a, hm k a n h1, h2⟩
theorem RVs.sub {m : Nat} (hs : ∀ a ∈ ρ', a ∈ ρ) (hm : ∀ k a, k < m → ρ[k]? = some a → ρ'[k]? = some a) : ∀ (xs : List DV) (vs : List V), noRefGes m xs = true → RVs K ρ H xs vs → RVs K ρ' H xs vs
  | [], vs, _, h => by simp only [RVs] at h ⊢; exact h
  | x :: xs, vs, n, h => by
    simp only [RVs, noRefGes, Bool.and_eq_true] at h n ⊢
    obtain ⟨v, r, h1, h2, h3⟩ := h
    exact ⟨v, r, h1, RV.sub hs hm x v n.1 h2, RVs.sub hs hm xs r n.2 h3⟩
theorem RVK.sub {m : Nat} (hs : ∀ a ∈ ρ', a ∈ ρ) (hm : ∀ k a, k < m → ρ[k]? = some a → ρ'[k]? = some a) : ∀ (xs : List (Key × DV)) (vs : List (Key × V)), noRefGeK m xs = true → RVK K ρ H xs vs → RVK K ρ' H xs vs
  | [], vs, _, h => by simp only [RVK] at h ⊢; exact h
  | (k, x) :: xs, vs, n, h => by
    simp only [RVK, noRefGeK, Bool.and_eq_true] at h n ⊢
    obtain ⟨v, r, h1, h2, h3⟩ := h
    exact ⟨v, r, h1, RV.sub hs hm x v n.1 h2, RVK.sub hs hm xs r n.2 h3⟩
end
mutual
theorem noRef_ge (m : Nat) : ∀ d : DV, noRef d = true → noRefGe m d = true
  | .non, _ => rfl
  | .bl _, _ => rfl
  | .int _, _ => rfl
  | .str _, _ => rfl
  | .tup xs, h => by simp only [noRef, noRefGe] at h ⊢; exact noRefs_ge m xs h
  | .lst xs, h => by simp only [noRef, noRefGe] at h ⊢; exact noRefs_ge m xs h
  | .rol xs, h => by simp only [noRef, noRefGe] at h ⊢; exact noRefs_ge m xs h
  | .dk xs, h => by simp only [noRef, noRefGe] at h ⊢; exact noRefK_ge m xs h
  | .ref k, h => by simp [noRef] at h
theorem noRefs_ge (m : Nat) : ∀ xs : List DV, noRefs xs = true → noRefGes m xs = true
  | [], _ => rfl
  | x :: xs, h => by
    simp only [noRefs, noRefGes, Bool.and_eq_true] at h ⊢
    exact ⟨noRef_ge m x h.1, noRefs_ge m xs h.2⟩
theorem noRefK_ge (m : Nat) : ∀ xs : List (Key × DV), noRefK xs = true → noRefGeK m xs = true
  | [], _ => rfl
  | (k, x) :: xs, h => by
    simp only [noRefK, noRefGeK, Bool.and_eq_true] at h ⊢
    exact ⟨noRef_ge m x h.1, noRefK_ge m xs h.2⟩
end
theorem RVs.free (hs : ∀ a ∈ ρ', a ∈ ρ) {xs : List DV} {vs : List V} (n : noRefs xs = true) (h : RVs K ρ H xs vs) : RVs K ρ' H xs vs :=
  RVs.sub (m := 0) hs (fun _ _ z => absurd z (Nat.not_lt_zero _)) xs vs (noRefs_ge 0 xs n) h
theorem RVK.free (hs : ∀ a ∈ ρ', a ∈ ρ) {xs : List (Key × DV)} {vs : List (Key × V)} (n : noRefK xs = true) (h : RVK K ρ H xs vs) : RVK K ρ' H xs vs :=
  RVK.sub (m := 0) hs (fun _ _ z => absurd z (Nat.not_lt_zero _)) xs vs (noRefK_ge 0 xs n) h
theorem RV.free (hs : ∀ a ∈ ρ', a ∈ ρ) {x : DV} {v : V} (n : noRef x = true) (h : RV K ρ H x v) : RV K ρ' H x v :=
  RV.sub (m := 0) hs (fun _ _ z => absurd z (Nat.not_lt_zero _)) x v (noRef_ge 0 x n) h
theorem RVs.length : ∀ {xs : List DV} {vs : List V}, RVs K ρ H xs vs → xs.length = vs.length
  | [], vs, h => by simp only [RVs] at h; rw [h]; rfl
  | x :: xs, vs, h => by
    simp only [RVs] at h
    obtain ⟨v, r, rfl, h2, h3⟩ := h
    rw [List.length_cons, List.length_cons, RVs.length h3]
theorem RVs.get : ∀ {xs : List DV} {vs : List V} {i : Nat} {d : DV}, RVs K ρ H xs vs → xs[i]? = some d → ∃ v, vs[i]? = some v ∧ RV K ρ H d v
  | [], vs, i, d, h, e => by simp at e
  | x :: xs, vs, 0, d, h, e => by
    simp only [RVs] at h
    obtain ⟨v, r, rfl, h2, h3⟩ := h
    simp at e
    subst e
    exact ⟨v, rfl, h2⟩
  | x :: xs, vs, i + 1, d, h, e => by
    simp only [RVs] at h
    obtain ⟨v, r, rfl, h2, h3⟩ := h
    simp at e
    obtain ⟨u, h4, h5⟩ := RVs.get h3 e
    exact ⟨u, by simpa using h4, h5⟩
theorem RVs.getV : ∀ {xs : List DV} {vs : List V} {i : Nat} {v : V}, RVs K ρ H xs vs → vs[i]? = some v → ∃ d, xs[i]? = some d ∧ RV K ρ H d v
  | [], vs, i, d, h, e => by simp only [RVs] at h; rw [h] at e; simp at e
  | x :: xs, vs, 0, d, h, e => by
    simp only [RVs] at h
    obtain ⟨v, r, rfl, h2, h3⟩ := h
    simp at e
    subst e
    exact ⟨x, rfl, h2⟩
  | x :: xs, vs, i + 1, d, h, e => by
    simp only [RVs] at h
    obtain ⟨v, r, rfl, h2, h3⟩ := h
    simp at e
    obtain ⟨u, h4, h5⟩ := RVs.getV h3 e
    exact ⟨u, by simpa using h4, h5⟩
theorem RVs.append : ∀ {xs ys : List DV} {vs ws : List V}, RVs K ρ H xs vs → RVs K ρ H ys ws → RVs K ρ H (xs ++ ys) (vs ++ ws)
  | [], ys, vs, ws, h, h' => by simp only [RVs] at h; rw [h]; exact h'
  | x :: xs, ys, vs, ws, h, h' => by
    simp only [RVs] at h
    obtain ⟨v, r, rfl, h2, h3⟩ := h
    show RVs K ρ H (x :: (xs ++ ys)) (v :: (r ++ ws))
    simp only [RVs]
    exact ⟨v, _, rfl, h2, RVs.append h3 h'⟩
theorem RVs.take : ∀ {xs : List DV} {vs : List V} (n : Nat), RVs K ρ H xs vs → RVs K ρ H (xs.take n) (vs.take n)
  | [], vs, n, h => by simp only [RVs] at h; rw [h]; simp [RVs]
  | x :: xs, vs, 0, h => by simp [RVs]
  | x :: xs, vs, n + 1, h => by
    simp only [RVs] at h
    obtain ⟨v, r, rfl, h2, h3⟩ := h
    simp only [List.take_succ_cons, RVs]
    exact ⟨v, _, rfl, h2, RVs.take n h3⟩
theorem RVs.drop : ∀ {xs : List DV} {vs : List V} (n : Nat), RVs K ρ H xs vs → RVs K ρ H (xs.drop n) (vs.drop n)
  | [], vs, n, h => by simp only [RVs] at h; rw [h]; simp [RVs]
  | x :: xs, vs, 0, h => by simpa using h
  | x :: xs, vs, n + 1, h => by
    simp only [RVs] at h
    obtain ⟨v, r, rfl, h2, h3⟩ := h
    simp only [List.drop_succ_cons]
    exact RVs.drop n h3
theorem RVs.set : ∀ {xs : List DV} {vs : List V} (n : Nat) {d : DV} {v : V}, RV K ρ H d v → RVs K ρ H xs vs → RVs K ρ H (xs.set n d) (vs.set n v)
  | [], vs, n, d, v, hd, h => by simp only [RVs] at h; rw [h]; simp [RVs]
  | x :: xs, vs, 0, d, v, hd, h => by
    simp only [RVs] at h
    obtain ⟨v, r, rfl, h2, h3⟩ := h
    simp only [List.set_cons_zero, RVs]
    exact ⟨_, _, rfl, hd, h3⟩
  | x :: xs, vs, n + 1, d, v, hd, h => by
    simp only [RVs] at h
    obtain ⟨v, r, rfl, h2, h3⟩ := h
    simp only [List.set_cons_succ, RVs]
    exact ⟨_, _, rfl, h2, RVs.set n hd h3⟩
theorem rvs1 {d : DV} {v : V} (h : RV K ρ H d v) : RVs K ρ H [d] [v] := by
  simp only [RVs]
  exact ⟨_, _, rfl, h, rfl⟩
theorem RVs.cons {d : DV} {v : V} {xs : List DV} {vs : List V} (h : RV K ρ H d v) (h' : RVs K ρ H xs vs) : RVs K ρ H (d :: xs) (v :: vs) := by
  simp only [RVs]
  exact ⟨_, _, rfl, h, h'⟩
theorem RVs.cut {xs : List DV} {vs : List V} (lo hi : Option Int) (h : RVs K ρ H xs vs) : RVs K ρ H (cutD xs lo hi) (cutV vs lo hi) := by
  unfold cutD cutV
  rw [h.length]
  exact (h.drop _).take _
theorem noRefs_app : ∀ {xs ys : List DV}, noRefs xs = true → noRefs ys = true → noRefs (xs ++ ys) = true
  | [], ys, _, h => h
  | x :: xs, ys, h, h' => by
    simp only [noRefs, Bool.and_eq_true, List.cons_append] at h ⊢
    exact ⟨h.1, noRefs_app h.2 h'⟩
theorem noRefs_set : ∀ {xs : List DV} (n : Nat) {d : DV}, noRefs xs = true → noRef d = true → noRefs (xs.set n d) = true
  | [], n, d, _, _ => rfl
  | x :: xs, 0, d, h, h' => by
    simp only [noRefs, Bool.and_eq_true, List.set_cons_zero] at h ⊢
    exact ⟨h', h.2⟩
  | x :: xs, n + 1, d, h, h' => by
    simp only [noRefs, Bool.and_eq_true, List.set_cons_succ] at h ⊢
    exact ⟨h.1, noRefs_set n h.2 h'⟩
theorem noRefs_mem : ∀ {xs : List DV} {d : DV}, noRefs xs = true → d ∈ xs → noRef d = true
  | [], d, _, h => by simp at h
  | x :: xs, d, h, m => by
    simp only [noRefs, Bool.and_eq_true] at h
    rcases List.mem_cons.mp m with rfl | m
    · exact h.1
    · exact noRefs_mem h.2 m
theorem noRefs_sub : ∀ {xs ys : List DV}, noRefs xs = true → (∀ d ∈ ys, d ∈ xs) → noRefs ys = true
  | xs, [], _, _ => rfl
  | xs, y :: ys, h, m => by
    simp only [noRefs, Bool.and_eq_true]
    exact ⟨noRefs_mem h (m y List.mem_cons_self), noRefs_sub h fun d q => m d (List.mem_cons_of_mem _ q)⟩

theorem RO.mono (e : Ext ρ H ρ' H') {a : Addr} (h0 : H' a = H a) : ∀ {o : DV}, RO K ρ H a o → RO K ρ' H' a o
  | .lst xs, ⟨vs, h1, h2, h3⟩ => ⟨vs, by rw [h0]; exact h1, h2.mono e, h3⟩
  | .dk xs, ⟨vs, h1, h2, h3⟩ => ⟨vs, by rw [h0]; exact h1, h2.mono e, h3⟩
theorem RO.free (hs : ∀ a ∈ ρ', a ∈ ρ) {a : Addr} : ∀ {o : DV}, RO K ρ H a o → RO K ρ' H a o
  | .lst xs, ⟨vs, h1, h2, h3⟩ => ⟨vs, h1, h2.free hs h3, h3⟩
  | .dk xs, ⟨vs, h1, h2, h3⟩ => ⟨vs, h1, h2.free hs h3, h3⟩
theorem RO.there {a : Addr} : ∀ {o : DV}, RO K ρ H a o → ∃ u, H a = some u ∧ (∀ xs, u ≠ .tup xs) ∧ ∀ x y, u ≠ .frz x y
  | .lst xs, ⟨vs, h1, _⟩ => ⟨_, h1, (fun _ z => by cases z), (fun _ _ z => by cases z)⟩
  | .dk xs, ⟨vs, h1, _⟩ => ⟨_, h1, (fun _ z => by cases z), (fun _ _ z => by cases z)⟩
theorem RS.mem {S : Sto} (s : RS K ρ H S) {a : Addr} (h : a ∈ ρ) : ∃ (k : Nat) (o : DV), ρ[k]? = some a ∧ S[k]? = some o ∧ RO K ρ H a o := by
  obtain ⟨k, hk⟩ := List.mem_iff_getElem?.mp h
  have hl : k < S.length := by rw [← s.len]; exact (List.getElem?_eq_some_iff.mp hk).1
  exact ⟨k, S[k], hk, List.getElem?_eq_getElem hl, s.at_ k a _ hk (List.getElem?_eq_getElem hl)⟩
theorem RS.there {S : Sto} (s : RS K ρ H S) {a : Addr} (h : a ∈ ρ) : ∃ u, H a = some u ∧ (∀ xs, u ≠ .tup xs) ∧ ∀ x y, u ≠ .frz x y := by
  obtain ⟨k, o, _, _, h⟩ := s.mem h
  exact h.there
theorem RS.new {S : Sto} {p : Addr} {o : HO} (s : RS K ρ H S) (h : H p = none) : RS K ρ (upd H p o) S := by
  refine ⟨s.nd, s.len, fun k a u h1 h2 => (s.at_ k a u h1 h2).mono (ext_new h) ?_⟩
  obtain ⟨x, hx, _⟩ := s.there (List.mem_of_getElem? h1)
  rw [upd_ne (ne_of_none hx h)]
/-- everything on the store's addresses kept -/
theorem RS.keep {S : Sto} (s : RS K ρ H S) (e : Ext ρ H ρ H') (k : ∀ a ∈ ρ, H' a = H a) : RS K ρ H' S :=
  ⟨s.nd, s.len, fun j a u h1 h2 => (s.at_ j a u h1 h2).mono e (k a (List.mem_of_getElem? h1))⟩
theorem RS.push {S : Sto} {p : Addr} {o : HO} {d : DV} (s : RS K ρ H S) (h : H p = none) (hd : RO K (ρ ++ [p]) (upd H p o) p d) : RS K (ρ ++ [p]) (upd H p o) (S ++ [d]) := by
  have hn : p ∉ ρ := fun m => by
    obtain ⟨x, hx, _⟩ := s.there m
    rw [h] at hx; cases hx
  refine ⟨?_, by simp [s.len], fun k a u h1 h2 => ?_⟩
  · rw [List.nodup_append]
    exact ⟨s.nd, by simp, fun a ha b hb z => by rw [List.mem_singleton] at hb; rw [z, hb] at ha; exact hn ha⟩
  · by_cases hk : k < ρ.length
    · rw [List.getElem?_append_left hk] at h1
      rw [List.getElem?_append_left (by rw [← s.len]; exact hk)] at h2
      refine (s.at_ k a u h1 h2).mono (ext_push h) ?_
      obtain ⟨x, hx, _⟩ := s.there (List.mem_of_getElem? h1)
      rw [upd_ne (ne_of_none hx h)]
    · have e : k = ρ.length := by
        have := (List.getElem?_eq_some_iff.mp h1).1
        rw [List.length_append] at this
        simp at this
        omega
      subst e
      rw [List.getElem?_append_right (Nat.le_refl _), Nat.sub_self] at h1
      rw [s.len, List.getElem?_append_right (Nat.le_refl _), Nat.sub_self] at h2
      simp at h1 h2
      subst h1 h2
      exact hd
theorem ext_write {S : Sto} {a : Addr} {o : HO} (s : RS K ρ H S) (h : a ∈ ρ) : Ext ρ H ρ (upd H a o) := by
  obtain ⟨x, hx, n1, n2⟩ := s.there h
  refine ⟨⟨[], by simp⟩, fun b u e n => by rw [upd_ne (fun z => n (by rw [z]; exact h))]; exact e, fun b u e => ?_, fun b u v e => ?_, fun b m => .inl m, fun b e => ?_⟩
  · rw [upd_ne (fun z => by rw [z, hx] at e; cases e; exact n1 _ rfl)]; exact e
  · rw [upd_ne (fun z => by rw [z, hx] at e; cases e; exact n2 _ _ rfl)]; exact e
  · by_cases z : b = a
    · rw [z, upd_same] at e; cases e
    · rw [upd_ne z] at e; exact e
theorem RS.write {S : Sto} {a : Addr} {o : HO} {k : Nat} {d : DV} (s : RS K ρ H S) (h : ρ[k]? = some a) (hd : RO K ρ (upd H a o) a d) : RS K ρ (upd H a o) (S.set k d) := by
  refine ⟨s.nd, by simp [s.len], fun j b u h1 h2 => ?_⟩
  by_cases hj : j = k
  · subst hj
    rw [h] at h1
    cases h1
    rw [List.getElem?_set_self (by rw [← s.len]; exact (List.getElem?_eq_some_iff.mp h).1)] at h2
    cases h2
    exact hd
  · rw [List.getElem?_set_ne (Ne.symm hj)] at h2
    refine (s.at_ j b u h1 h2).mono (ext_write s (List.mem_of_getElem? h)) ?_
    exact upd_ne fun z => hj (nd_ix s.nd h1 (by rw [z]; exact h))
theorem RS.take {S : Sto} (s : RS K ρ H S) (m : Nat) : RS K (ρ.take m) H (S.take m) := by
  refine ⟨s.nd.sublist (List.take_sublist _ _), by simp [s.len], fun k a u h1 h2 => ?_⟩
  have hk : k < m := by
    have := (List.getElem?_eq_some_iff.mp h1).1
    rw [List.length_take] at this
    omega
  rw [List.getElem?_take_of_lt hk] at h1 h2
  exact (s.at_ k a u h1 h2).free fun a h => List.mem_of_mem_take h
theorem RS.sel {S : Sto} (s : RS K ρ H S) {m k : Nat} {a : Addr} {d : DV} (hm : m ≤ k) (h1 : ρ[k]? = some a) (h2 : S[k]? = some d) : RS K (ρ.take m ++ [a]) H (S.take m ++ [d]) := by
  have hk := (List.getElem?_eq_some_iff.mp h1).1
  have hsub : ∀ b ∈ ρ.take m ++ [a], b ∈ ρ := fun b h => by
    rcases List.mem_append.mp h with q | q
    · exact List.mem_of_mem_take q
    · rw [List.mem_singleton] at q; rw [q]; exact List.mem_of_getElem? h1
  have hn : a ∉ ρ.take m := fun q => by
    obtain ⟨j, hj⟩ := List.mem_iff_getElem?.mp q
    have hjm : j < m := by
      have := (List.getElem?_eq_some_iff.mp hj).1
      rw [List.length_take] at this
      omega
    rw [List.getElem?_take_of_lt hjm] at hj
    have := nd_ix s.nd hj h1
    omega
  refine ⟨?_, by simp [s.len], fun j b u e1 e2 => ?_⟩
  · rw [List.nodup_append]
    exact ⟨s.nd.sublist (List.take_sublist _ _), by simp, fun b hb c hc z => by rw [List.mem_singleton] at hc; rw [z, hc] at hb; exact hn hb⟩
  · have hl : (ρ.take m).length = m := by rw [List.length_take]; omega
    have hl' : (S.take m).length = m := by rw [List.length_take, ← s.len]; omega
    by_cases hj : j < m
    · rw [List.getElem?_append_left (by rw [hl]; exact hj), List.getElem?_take_of_lt hj] at e1
      rw [List.getElem?_append_left (by rw [hl']; exact hj), List.getElem?_take_of_lt hj] at e2
      exact (s.at_ j b u e1 e2).free hsub
    · have e : j = m := by
        have := (List.getElem?_eq_some_iff.mp e1).1
        rw [List.length_append, hl] at this
        simp at this
        omega
      subst e
      rw [List.getElem?_append_right (by rw [hl]; exact Nat.le_refl _), hl, Nat.sub_self] at e1
      rw [List.getElem?_append_right (by rw [hl']; exact Nat.le_refl _), hl', Nat.sub_self] at e2
      simp at e1 e2
      subst e1 e2
      exact (s.at_ k _ _ h1 h2).free hsub
theorem RL.mono {l : Lo} {σ : L2.St} (e : Ext ρ H ρ' H') (h : RL K ρ H l σ) : RL K ρ' H' l σ :=
  ⟨h.len, fun i d q => let ⟨v, h1, h2⟩ := h.at_ i d q; ⟨v, h1, h2.mono e⟩⟩
theorem RL.set {l : Lo} {σ : L2.St} (h : RL K ρ H l σ) (i : Nat) {d : DV} {v : V} (hv : RV K ρ H d v) : RL K ρ H (l.set i (some d)) (σ.set i (some v)) := by
  refine ⟨by simp [h.len], fun j x q => ?_⟩
  by_cases hj : j = i
  · subst hj
    have hl : j < l.length := by
      have := (List.getElem?_eq_some_iff.mp q).1
      simpa using this
    rw [List.getElem?_set_self hl] at q
    cases q
    exact ⟨v, List.getElem?_set_self (by rw [← h.len]; exact hl), hv⟩
  · rw [List.getElem?_set_ne (Ne.symm hj)] at q
    obtain ⟨u, h1, h2⟩ := h.at_ j x q
    exact ⟨u, by rw [List.getElem?_set_ne (Ne.symm hj)]; exact h1, h2⟩
theorem RL.forget {l : Lo} {σ : L2.St} (h : RL K ρ H l σ) (i : Nat) : RL K ρ H (l.set i none) (σ.set i none) := by
  refine ⟨by simp [h.len], fun j x q => ?_⟩
  by_cases hj : j = i
  · subst hj
    have hl : j < l.length := by
      have := (List.getElem?_eq_some_iff.mp q).1
      simpa using this
    rw [List.getElem?_set_self hl] at q
    cases q
  · rw [List.getElem?_set_ne (Ne.symm hj)] at q
    obtain ⟨u, h1, h2⟩ := h.at_ j x q
    exact ⟨u, by rw [List.getElem?_set_ne (Ne.symm hj)]; exact h1, h2⟩
theorem RL.wipe {l : Lo} {σ : L2.St} (h : RL K ρ H l σ) : ∀ vs : List Nat, RL K ρ H (wipeL l vs) (wipe σ vs)
  | [] => h
  | v :: vs => (RL.wipe h vs).forget v
end
end Y
/-! The readings of the combinators: expressions. -/
namespace Y
open PySem L2

theorem LIM_eq : LIM = sizeLine := by rw [sizeLine_eq]
/-- an exception: its class's number told by rx -/
abbrev Rx := Nat → Value → Prop
def RX (rx : Rx) (c : Nat) (x : DV) (cls : Value) (od : Option Addr) : Prop := rx c cls ∧ noRef x = true ∧ (match x with | .non => od = none | _ => False)
def Post {α : Type} (K : PySem.W.Frag) (rx : Rx) (W : WX) (ρ : List Addr) (H : Hp) (o : Out α) (R : α → Sto → Prop) : Prop := match o with
  | .ok a S => R a S
  | .exc c x l S => ∀ ρ' H' σ' cls od, Ext ρ H ρ' H' → RS K ρ' H' S → RL K ρ' H' l σ' → RX rx c x cls od → W cls od σ' H'
  | .bad => False
section
variable {α β : Type} {K : PySem.W.Frag} {rx : Rx} {W : WX} {ρ ρ1 : List Addr} {H H1 : Hp}
theorem Post.imp {o : Out α} {R R' : α → Sto → Prop} (h : Post K rx W ρ H o R) (f : ∀ a S, R a S → R' a S) : Post K rx W ρ H o R' := by
  cases o with
  | ok a S => exact f a S h
  | exc c x l S => exact h
  | bad => exact h
theorem Post.bind {o : Out α} {f : α → Sto → Out β} {R : β → Sto → Prop} (h : Post K rx W ρ H (o.bind f) R) : Post K rx W ρ H o fun a S => Post K rx W ρ H (f a S) R := by
  cases o with
  | ok a S => exact h
  | exc c x l S => exact h
  | bad => exact h
theorem Post.shift {o : Out α} {R : α → Sto → Prop} (e : Ext ρ H ρ1 H1) (h : Post K rx W ρ H o R) : Post K rx W ρ1 H1 o R := by
  cases o with
  | ok a S => exact h
  | exc c x l S => exact fun ρ' H' σ' cls od e' => h ρ' H' σ' cls od (e.trans e')
  | bad => exact h
theorem Post.of {o : Option α} {S : Sto} {R : α → Sto → Prop} (h : Post K rx W ρ H (Out.of o S) R) : ∃ a, o = some a ∧ R a S := by
  cases o with
  | some a => exact ⟨a, rfl, h⟩
  | none => exact False.elim h
end

/-! ### readings -/
def QE (K : PySem.W.Frag) (ρ : List Addr) (H : Hp) (Q : VK) : DV → Sto → Prop := fun d S => ∀ ρ' H' v, Ext ρ H ρ' H' → RS K ρ' H' S → RV K ρ' H' d v → Q v H'
def QB (K : PySem.W.Frag) (ρ : List Addr) (H : Hp) (Q : Bool → Hp → Prop) : Bool → Sto → Prop := fun b S => ∀ ρ' H', Ext ρ H ρ' H' → RS K ρ' H' S → Q b H'
def QA (K : PySem.W.Frag) (ρ : List Addr) (H : Hp) (Q : List V → Hp → Prop) : List DV → Sto → Prop := fun d S => ∀ ρ' H' v, Ext ρ H ρ' H' → RS K ρ' H' S → RVs K ρ' H' d v → Q v H'
def QP (K : PySem.W.Frag) (ρ : List Addr) (H : Hp) (Q : Option Int → Hp → Prop) : Option Int → Sto → Prop := fun b S => ∀ ρ' H', Ext ρ H ρ' H' → RS K ρ' H' S → Q b H'
def tI (K : PySem.W.Frag) (rx : Rx) (W : WX) (m : ME) : TE := fun σ H Q => ∃ ρ l S, RL K ρ H l σ ∧ RS K ρ H S ∧ Post K rx W ρ H (m l S) (QE K ρ H Q)
def tT (K : PySem.W.Frag) (rx : Rx) (W : WX) (m : MT) : TT := fun σ H Q => ∃ ρ l S, RL K ρ H l σ ∧ RS K ρ H S ∧ Post K rx W ρ H (m l S) (QB K ρ H Q)
def tA (K : PySem.W.Frag) (rx : Rx) (W : WX) (m : MA) : TA := fun σ H Q => ∃ ρ l S, RL K ρ H l σ ∧ RS K ρ H S ∧ Post K rx W ρ H (m l S) (QA K ρ H Q)
def tP (K : PySem.W.Frag) (rx : Rx) (W : WX) (m : Lo → Sto → Out (Option Int)) : TO := fun σ H Q => ∃ ρ l S, RL K ρ H l σ ∧ RS K ρ H S ∧ Post K rx W ρ H (m l S) (QP K ρ H Q)

theorem pe_imp {X : Cx} {e : Expr} {t t' : TE} (h : PE X e t) (f : ∀ σ H Q, t' σ H Q → t σ H Q) : PE X e t' := ⟨fun pins s σ H Q I q => h.run pins s σ H Q I (f σ H Q q)⟩
theorem pt_imp {X : Cx} {e : Expr} {t t' : TT} (h : PT X e t) (f : ∀ σ H Q, t' σ H Q → t σ H Q) : PT X e t' := ⟨fun pins s σ H Q I q => h.run pins s σ H Q I (f σ H Q q)⟩
theorem pw_imp {X : Cx} {e : Expr} {t t' : TT} (h : PW X e t) (f : ∀ σ H Q, t' σ H Q → t σ H Q) : PW X e t' := ⟨fun w pins s σ H Q I q => h.run w pins s σ H Q I (f σ H Q q)⟩
theorem pa_imp {X : Cx} {e : List Expr} {t t' : TA} (h : PA X e t) (f : ∀ σ H Q, t' σ H Q → t σ H Q) : PA X e t' := ⟨fun p pins s σ H Q I q => h.run p pins s σ H Q I (f σ H Q q)⟩
theorem po_imp {X : Cx} {e : Option Expr} {t t' : TO} (h : PO X e t) (f : ∀ σ H Q, t' σ H Q → t σ H Q) : PO X e t' := ⟨fun pins s σ H Q I q => h.run pins s σ H Q I (f σ H Q q)⟩
theorem pe_or2 {X : Cx} {e : Expr} {t t' : TE} (h : PE X e t) (h' : PE X e t') : PE X e (fun σ H Q => t σ H Q ∨ t' σ H Q) :=
  ⟨fun pins s σ H Q I q => q.elim (h.run pins s σ H Q I) (h'.run pins s σ H Q I)⟩

/-- a step of two: from what the whole wants to what the first wants -/
theorem bindI {α : Type} {K : PySem.W.Frag} {rx : Rx} {W : WX} {ma : ME} {σ : L2.St} {H : Hp} {ρ : List Addr} {l : Lo} {S : Sto} {f : DV → Sto → Out α} {R : α → Sto → Prop} {Q1 : VK}
    (hl : RL K ρ H l σ) (hs : RS K ρ H S) (h : Post K rx W ρ H ((ma l S).bind f) R)
    (k : ∀ ρ1 H1 x S1 v, Ext ρ H ρ1 H1 → RS K ρ1 H1 S1 → RL K ρ1 H1 l σ → RV K ρ1 H1 x v → Post K rx W ρ1 H1 (f x S1) R → Q1 v H1) : tI K rx W ma σ H Q1 :=
  ⟨ρ, l, S, hl, hs, h.bind.imp fun x S1 q ρ1 H1 v e s r => k ρ1 H1 x S1 v e s (hl.mono e) r (q.shift e)⟩

section
variable {X : Cx} {rx : Rx} {W : WX}
abbrev IE (X : Cx) (rx : Rx) (W : WX) (e : Expr) (m : ME) : Prop := PE X e (tI X.K rx W m)
abbrev IT (X : Cx) (rx : Rx) (W : WX) (e : Expr) (m : MT) : Prop := PT X e (tT X.K rx W m)
abbrev IA (X : Cx) (rx : Rx) (W : WX) (e : List Expr) (m : MA) : Prop := PA X e (tA X.K rx W m)
abbrev IP (X : Cx) (rx : Rx) (W : WX) (e : Option Expr) (m : Option ME) : Prop := PO X e (tP X.K rx W (part m))

/-! ### names, constants -/
theorem v_var (i : Nat) {x : Str} {pos : Pos} (hN : X.N[i]? = some x := by rfl) (hv : Vis X.env.scope x := by first | exact Or.inl rfl | exact Or.inr (Or.inl rfl) | exact Or.inr (Or.inr rfl)) (hd : (x == ("__debug__" : Str)) = false := by decide)
    (hcd : (x == ("__classdict__" : Str)) = false := by decide) : IE X rx W (.Name x pos) (var i) := by
  refine pe_imp (pe_var hN hv hd hcd) fun σ H Q h => ?_
  obtain ⟨ρ, l, S, hl, hs, h⟩ := h
  unfold var at h
  split at h
  · rename_i d e
    obtain ⟨v, h1, h2⟩ := hl.at_ i d e
    exact ⟨v, h1, h ρ H v .refl hs h2⟩
  · exact False.elim h
theorem v_c {e : Expr} {d : DV} {v : V} (h : PE X e (tC v)) (r : ∀ ρ H, RV X.K ρ H d v) : IE X rx W e (cst d) :=
  pe_imp h fun σ H Q ⟨ρ, l, S, hl, hs, h⟩ => h ρ H v .refl hs (r ρ H)
theorem v_int {i j pos} : IE X rx W (.Constant (.int i) j pos) (cst (.int i)) := v_c pe_int fun _ _ => by simp [RV]
theorem v_bl {i j pos} : IE X rx W (.Constant (.bool i) j pos) (cst (.bl i)) := v_c pe_bl fun _ _ => by simp [RV]
theorem v_non {j pos} : IE X rx W (.Constant .none j pos) (cst .non) := v_c pe_non fun _ _ => by simp [RV]
theorem v_str {i j pos} : IE X rx W (.Constant (.str i) j pos) (cst (.str i)) := v_c pe_str fun _ _ => by simp [RV]
/-- a constant of the module -/
def MgC (K : PySem.W.Frag) (mg : Str → Option Value) (x : Str) (d : DV) : Prop := ∃ v u, mg x = some u ∧ RelV v u ∧ ∀ ρ H, RV K ρ H d v
theorem v_glob {x : Str} {d : DV} {pos : Pos} (c : MgC X.K X.mg x d) (hg : Gl X x := by rfl) (hd : (x == ("__debug__" : Str)) = false := by decide) : IE X rx W (.Name x pos) (cst d) := by
  obtain ⟨v, u, h1, h2, h3⟩ := c
  exact v_c (pe_glob hg h1 h2 hd) h3

/-! ### operators -/
theorem v_op {op : Operator} {r : R2} {f : Sto → DV → DV → Option DV} {a b : Expr} {ma mb : ME} {pos : Pos} (ho : OpR X (binaryOp op) r)
    (hf : ∀ {ρ : List Addr} {H : Hp} {S : Sto} {x y d : DV} {v u : V} {Q : VK}, RS X.K ρ H S → RV X.K ρ H x v → RV X.K ρ H y u → f S x y = some d → QE X.K ρ H Q d S → r v u H Q)
    (ha : IE X rx W a ma) (hb : IE X rx W b mb) : IE X rx W (.BinOp a op b pos) (op2 f ma mb) := by
  refine pe_imp (pe_op ho ha hb) fun σ H Q ⟨ρ, l, S, hl, hs, h⟩ => ?_
  refine bindI hl hs h fun ρ1 H1 x S1 v e1 s1 l1 r1 h1 => ?_
  refine bindI l1 s1 h1 fun ρ2 H2 y S2 u e2 s2 l2 r2 h2 => ?_
  obtain ⟨d, hd, q⟩ := h2.of
  exact hf s2 (r1.mono e2) r2 hd fun ρ' H' w e s r => q ρ' H' w (e1.trans (e2.trans e)) s r
theorem v_cmp {op : CmpOp} {r : R2} {f : Sto → DV → DV → Option Bool} {g : Bool → Bool} {a b : Expr} {ma mb : ME} {pos : Pos} (ho : OpR X (compareOp op) r) (hm : behindInMarks op b = false)
    (hf : ∀ {ρ : List Addr} {H : Hp} {S : Sto} {x y : DV} {c : Bool} {v u : V} {Q : VK}, RS X.K ρ H S → RV X.K ρ H x v → RV X.K ρ H y u → f S x y = some c → Q (.bl (g c)) H → r v u H Q)
    (ha : IE X rx W a ma) (hb : IE X rx W b mb) : IE X rx W (.Compare a [op] [b] pos) (op2 (fun S x y => (f S x y).map fun c => .bl (g c)) ma mb) := by
  refine pe_imp (pe_cmpR ho ha hb hm) fun σ H Q ⟨ρ, l, S, hl, hs, h⟩ => ?_
  refine bindI hl hs h fun ρ1 H1 x S1 v e1 s1 l1 r1 h1 => ?_
  refine bindI l1 s1 h1 fun ρ2 H2 y S2 u e2 s2 l2 r2 h2 => ?_
  obtain ⟨d, hd, q⟩ := h2.of
  dsimp only at hd
  cases hc : f S2 x y with
  | none => rw [hc] at hd; cases hd
  | some c =>
    rw [hc] at hd
    cases hd
    exact hf s2 (r1.mono e2) r2 hc (q ρ2 H2 _ (e1.trans e2) s2 (by simp [RV]))
theorem v_tcmp {op : CmpOp} {r : R2} {f : Sto → DV → DV → Option Bool} {g : Bool → Bool} {a b : Expr} {ma mb : ME} {pos : Pos} (ho : OpR X (compareOp op) r) (hm : behindInMarks op b = false)
    (hf : ∀ {ρ : List Addr} {H : Hp} {S : Sto} {x y : DV} {c : Bool} {v u : V} {Q : VK}, RS X.K ρ H S → RV X.K ρ H x v → RV X.K ρ H y u → f S x y = some c → Q (.bl (g c)) H → r v u H Q)
    (ha : IE X rx W a ma) (hb : IE X rx W b mb) : IT X rx W (.Compare a [op] [b] pos) (tst (op2 (fun S x y => (f S x y).map fun c => .bl (g c)) ma mb)) := by
  refine pt_imp (pt_cmpR ho ha hb hm) fun σ H Q ⟨ρ, l, S, hl, hs, h⟩ => ?_
  have h := Post.bind h
  refine bindI hl hs h fun ρ1 H1 x S1 v e1 s1 l1 r1 h1 => ?_
  refine bindI l1 s1 h1 fun ρ2 H2 y S2 u e2 s2 l2 r2 h2 => ?_
  obtain ⟨d, hd, q⟩ := h2.of
  dsimp only at hd
  cases hc : f S2 x y with
  | none => rw [hc] at hd; cases hd
  | some c =>
    rw [hc] at hd
    cases hd
    exact hf s2 (r1.mono e2) r2 hc ⟨g c, rfl, q ρ2 H2 (e1.trans e2) s2⟩
end

/-! ### what a value is -/
section
variable {K : PySem.W.Frag} {ρ : List Addr} {H : Hp} {S : Sto}
theorem RV.int {i : Int} {v : V} (h : RV K ρ H (.int i) v) : v = .int i := by simpa only [RV] using h
theorem RV.str {i : Str} {v : V} (h : RV K ρ H (.str i) v) : v = .str i := by simpa only [RV] using h
theorem RV.bl {i : Bool} {v : V} (h : RV K ρ H (.bl i) v) : v = .bl i := by simpa only [RV] using h
theorem RV.non {v : V} (h : RV K ρ H .non v) : v = .non := by simpa only [RV] using h
theorem RV.tup {xs : List DV} {v : V} (h : RV K ρ H (.tup xs) v) : ∃ a vs, v = .ref a ∧ SqT K H a vs ∧ RVs K ρ H xs vs := by simpa only [RV] using h
/-- a list that is tracked -/
theorem RV.lstOf (s : RS K ρ H S) {x : DV} {xs : List DV} {v : V} (h : RV K ρ H x v) (e : lstOf S x = some xs) : ∃ a vs, v = .ref a ∧ H a = some (.lst vs) ∧ RVs K ρ H xs vs := by
  cases x with
  | lst ys =>
    simp only [Y.lstOf, Option.some.injEq] at e
    subst e
    simp only [RV] at h
    obtain ⟨a, vs, h1, _, h3, h4⟩ := h
    exact ⟨a, vs, h1, h3, h4⟩
  | ref k =>
    simp only [RV] at h
    obtain ⟨a, h1, h2⟩ := h
    unfold Y.lstOf at e
    dsimp only at e
    split at e
    · rename_i zs q
      cases e
      obtain ⟨vs, h3, h4, _⟩ := s.at_ k a _ h1 q
      exact ⟨a, vs, h2, h3, h4⟩
    · cases e
  | _ => simp [Y.lstOf] at e
theorem RV.seqOf (s : RS K ρ H S) {x : DV} {xs : List DV} {v : V} (h : RV K ρ H x v) (e : seqOf S x = some xs) : ∃ a vs, v = .ref a ∧ (SqL K H a vs ∨ SqT K H a vs) ∧ RVs K ρ H xs vs := by
  cases x with
  | tup ys =>
    simp only [Y.seqOf, Option.some.injEq] at e
    subst e
    obtain ⟨a, vs, h1, h2, h3⟩ := h.tup
    exact ⟨a, vs, h1, .inr h2, h3⟩
  | rol ys =>
    simp only [Y.seqOf, Option.some.injEq] at e
    subst e
    simp only [RV] at h
    obtain ⟨a, vs, h1, h2, h3⟩ := h
    exact ⟨a, vs, h1, .inl h2.seq, h3⟩
  | lst ys =>
    obtain ⟨a, vs, h1, h2, h3⟩ := h.lstOf s (xs := ys) rfl
    simp only [Y.seqOf, Option.some.injEq] at e
    subst e
    exact ⟨a, vs, h1, .inl (SqL.of h2), h3⟩
  | ref k =>
    obtain ⟨a, vs, h1, h2, h3⟩ := h.lstOf s (xs := xs) (by simpa [Y.lstOf, Y.seqOf] using e)
    exact ⟨a, vs, h1, .inl (SqL.of h2), h3⟩
  | _ => simp [Y.seqOf] at e
/-- a list, not a tuple -/
theorem RV.seqL (s : RS K ρ H S) {x : DV} {xs : List DV} {v : V} (h : RV K ρ H x v) (e : Y.seqOf S x = some xs) (n : ∀ ys, x ≠ .tup ys) : ∃ a vs, v = .ref a ∧ SqL K H a vs ∧ RVs K ρ H xs vs := by
  cases x with
  | tup ys => exact absurd rfl (n ys)
  | rol ys =>
    simp only [Y.seqOf, Option.some.injEq] at e
    subst e
    simp only [RV] at h
    obtain ⟨a, vs, h1, h2, h3⟩ := h
    exact ⟨a, vs, h1, h2.seq, h3⟩
  | lst ys =>
    obtain ⟨a, vs, h1, h2, h3⟩ := h.lstOf s (xs := ys) rfl
    simp only [Y.seqOf, Option.some.injEq] at e
    subst e
    exact ⟨a, vs, h1, SqL.of h2, h3⟩
  | ref k =>
    obtain ⟨a, vs, h1, h2, h3⟩ := h.lstOf s (xs := xs) (by simpa [Y.lstOf, Y.seqOf] using e)
    exact ⟨a, vs, h1, SqL.of h2, h3⟩
  | _ => simp [Y.seqOf] at e
end

section
variable {X : Cx} {rx : Rx} {W : WX} {a b : Expr} {ma mb : ME} {pos : Pos}
theorem v_add (ha : IE X rx W a ma) (hb : IE X rx W b mb) : IE X rx W (.BinOp a .Add b pos) (add ma mb) := by
  refine v_op ((op_add.or op_add_str).or (op_catA.or op_cat)) (fun {ρ H S x y d v u Q} s rx' ry e q => ?_) ha hb
  unfold addV at e
  split at e
  · cases e
    exact .inl (.inl ⟨_, _, rx'.int, ry.int, q ρ H _ .refl s (by simp [RV])⟩)
  · split at e
    · rename_i hz
      cases e
      exact .inl (.inr ⟨_, _, rx'.str, ry.str, by rw [← LIM_eq]; exact hz, q ρ H _ .refl s (by simp [RV])⟩)
    · cases e
  · rename_i xs ys
    split at e
    · rename_i hz
      cases e
      obtain ⟨p, vs, rfl, h1, h2⟩ := rx'.tup
      obtain ⟨p', ws, rfl, h1', h2'⟩ := ry.tup
      have hl := h2.length
      have hl' := h2'.length
      refine .inr (.inl ⟨p, p', vs, ws, rfl, rfl, h1, h1', by rw [← LIM_eq, ← hl, ← hl']; exact hz, fun en => ?_, fun _ en => ?_, fun _ _ t ht => ?_⟩)
      · refine q ρ H _ .refl s ?_
        have : xs = [] := List.eq_nil_of_length_eq_zero (by rw [hl, en]; rfl)
        subst this
        simp only [RV, List.nil_append]
        exact ⟨p', ws, rfl, h1', h2'⟩
      · refine q ρ H _ .refl s ?_
        have : ys = [] := List.eq_nil_of_length_eq_zero (by rw [hl', en]; rfl)
        subst this
        simp only [RV, List.append_nil]
        exact ⟨p, vs, rfl, h1, h2⟩
      · refine q ρ _ _ (ext_new ht) (s.new ht) ?_
        simp only [RV]
        exact ⟨t, _, rfl, SqT.of upd_same, (h2.append h2').mono (ext_new ht)⟩
    · cases e
  · split at e
    · rename_i xs ys ex ey
      split at e
      · rename_i hz
        cases e
        obtain ⟨p, vs, rfl, h1, h2⟩ := rx'.lstOf s ex
        obtain ⟨p', ws, rfl, h1', h2'⟩ := ry.lstOf s ey
        refine .inr (.inr ⟨p, p', vs, ws, rfl, rfl, h1, h1', by rw [← LIM_eq, ← h2.length, ← h2'.length]; exact hz, fun t ht => ?_⟩)
        refine q ρ _ _ (ext_new ht) (s.new ht) ?_
        simp only [RV]
        refine ⟨t, _, rfl, fun m => ?_, upd_same, (h2.append h2').mono (ext_new ht)⟩
        obtain ⟨z, hz, _⟩ := s.there m
        rw [ht] at hz; cases hz
      · cases e
    · cases e
theorem v_sub (ha : IE X rx W a ma) (hb : IE X rx W b mb) : IE X rx W (.BinOp a .Sub b pos) (sub ma mb) := by
  refine v_op op_sub (fun {ρ H S x y d v u Q} s rx' ry e q => ?_) ha hb
  unfold subV at e
  split at e
  · cases e
    exact ⟨_, _, rx'.int, ry.int, q ρ H _ .refl s (by simp [RV])⟩
  · cases e
theorem MulOk.or {i j : Int} (h : MulOk i j) : CMul i j ∨ CMulW i j := by
  rcases h with h | h | h
  · exact .inl (.inl h)
  · exact .inl (.inr h)
  · exact .inr (wide_mul h.1 h.2 (by decide) (by decide) (by decide))
theorem v_mul (ha : IE X rx W a ma) (hb : IE X rx W b mb) : IE X rx W (.BinOp a .Mult b pos) (mul ma mb) := by
  refine v_op (op_mul.or op_mulW) (fun {ρ H S x y d v u Q} s rx' ry e q => ?_) ha hb
  unfold mulV at e
  split at e
  · split at e
    · rename_i hm
      cases e
      rcases hm.or with h | h
      · exact .inl ⟨_, _, rx'.int, ry.int, h, q ρ H _ .refl s (by simp [RV])⟩
      · exact .inr ⟨_, _, rx'.int, ry.int, h, q ρ H _ .refl s (by simp [RV])⟩
    · cases e
  · cases e
theorem v_mod (ha : IE X rx W a ma) (hb : IE X rx W b mb) : IE X rx W (.BinOp a .Mod b pos) (mod ma mb) := by
  refine v_op op_mod (fun {ρ H S x y d v u Q} s rx' ry e q => ?_) ha hb
  unfold modV at e
  split at e
  · split at e
    · rename_i hm
      cases e
      exact ⟨_, _, rx'.int, ry.int, hm, q ρ H _ .refl s (by simp [RV])⟩
    · cases e
  · cases e
theorem v_fdiv (ha : IE X rx W a ma) (hb : IE X rx W b mb) : IE X rx W (.BinOp a .FloorDiv b pos) (fdiv ma mb) := by
  refine v_op op_fdivW (fun {ρ H S x y d v u Q} s rx' ry e q => ?_) ha hb
  unfold divV at e
  split at e
  · split at e
    · rename_i hm
      cases e
      exact ⟨_, _, rx'.int, ry.int, wide_div hm.1 hm.2 (by decide) (by decide), q ρ H _ .refl s (by simp [RV])⟩
    · cases e
  · cases e
theorem v_pow (ha : IE X rx W a ma) (hb : IE X rx W b mb) : IE X rx W (.BinOp a .Pow b pos) (pow ma mb) := by
  refine v_op op_pow (fun {ρ H S x y d v u Q} s rx' ry e q => ?_) ha hb
  unfold powV at e
  split at e
  · split at e
    · rename_i hm
      cases e
      exact ⟨_, _, rx'.int, ry.int, ⟨hm.1, by have := hm.2.1; omega, hm.2.2⟩, q ρ H _ .refl s (by simp [RV])⟩
    · cases e
  · cases e
theorem v_neg (ha : IE X rx W a ma) : IE X rx W (.UnaryOp .USub a pos) (neg ma) := by
  refine pe_imp (pe_un un_neg ha) fun σ H Q ⟨ρ, l, S, hl, hs, h⟩ => ?_
  refine bindI hl hs h fun ρ1 H1 x S1 v e1 s1 l1 r1 h1 => ?_
  obtain ⟨d, hd, q⟩ := h1.of
  dsimp only at hd
  unfold negV at hd
  split at hd
  · cases hd
    exact ⟨_, r1.int, q ρ1 H1 _ e1 s1 (by simp [RV])⟩
  · cases hd

/-! ### comparisons -/
theorem scal_ok {K : PySem.W.Frag} {ρ : List Addr} {H : Hp} {x y : DV} {v u : V} (h : scalD x y = true) (rx' : RV K ρ H x v) (ry : RV K ρ H y u) : scal v u = true ∧ decide (v = u) = eqB x y := by
  have key : ∀ {p q : Prop} [Decidable p] {x y : DV}, (x = y ↔ q) → (p ↔ q) → decide p = eqB x y := fun {p q} _ x y h1 h2 => by
    rw [Bool.eq_iff_iff, eqB_iff, h1, decide_eq_true_iff, h2]
  cases x <;> cases y <;> simp only [scalD] at h <;> first | (exact absurd h (by decide)) | skip
  all_goals
    simp only [RV] at rx' ry
    subst rx' ry
    refine ⟨rfl, ?_⟩
    rw [Bool.eq_iff_iff, eqB_iff, decide_eq_true_iff]
    simp
end
end Y
namespace Y
open PySem L2

/-! ### data as a whole -/
mutual
def toPy : DV → PyData
  | .non => .none
  | .bl b => .bool b
  | .int i => .int i
  | .str s => .str s
  | .tup xs => .tuple (toPys xs)
  | .lst xs => .list (toPys xs)
  | _ => .none
def toPys : List DV → List PyData
  | [] => []
  | x :: xs => toPy x :: toPys xs
end
mutual
theorem plain_lay : ∀ (n : Nat) (d : DV), plain n d = true → (toPy d).canLay0 = true ∧ (toPy d).depth ≤ n
  | n, .non, _ => by simp [toPy, PyData.canLay0, PyData.depth]
  | n, .int _, _ => by simp [toPy, PyData.canLay0, PyData.depth]
  | n, .str _, h => by simpa [toPy, PyData.canLay0, PyData.depth, plain] using h
  | n + 1, .tup xs, h => by
    have q := plains_lay n xs (by simpa [plain] using h)
    simp only [toPy, PyData.canLay0, PyData.depth]
    exact ⟨q.1, by omega⟩
  | n + 1, .lst xs, h => by
    have q := plains_lay n xs (by simpa [plain] using h)
    simp only [toPy, PyData.canLay0, PyData.depth]
    exact ⟨q.1, by omega⟩
  | 0, .tup _, h => by simp [plain] at h
  | 0, .lst _, h => by simp [plain] at h
  | _, .bl _, h => by simp [plain] at h
  | _, .rol _, h => by simp [plain] at h
  | _, .dk _, h => by simp [plain] at h
  | _, .ref _, h => by simp [plain] at h
theorem plains_lay : ∀ (n : Nat) (xs : List DV), plains n xs = true → PyData.canLayAll0 (toPys xs) = true ∧ PyData.depthAll (toPys xs) ≤ n
  | n, [], _ => by simp [toPys, PyData.canLayAll0, PyData.depthAll]
  | n, x :: xs, h => by
    simp only [plains, Bool.and_eq_true] at h
    have q := plain_lay n x h.1
    have q' := plains_lay n xs h.2
    simp only [toPys, PyData.canLayAll0, PyData.depthAll, Bool.and_eq_true]
    exact ⟨⟨q.1, q'.1⟩, Nat.max_le.mpr ⟨q.2, q'.2⟩⟩
end
theorem plain_shaped {d : DV} (h : plain 60 d = true) : SeqAt.shaped (toPy d) = true := by
  obtain ⟨h1, h2⟩ := plain_lay 60 d h
  unfold SeqAt.shaped
  rw [h1, Bool.true_and]
  exact decide_eq_true (by omega)
mutual
theorem plain_eqv : ∀ (n : Nat) (d : DV) (m : Nat) (e : DV), plain n d = true → plain m e = true → (PyData.eqv (toPy d) (toPy e) = true ↔ d = e)
  | n, .non, m, e, _, h' => by cases e <;> simp [toPy, PyData.eqv] <;> simp [plain] at h'
  | n, .int _, m, e, _, h' => by cases e <;> simp [toPy, PyData.eqv] <;> simp [plain] at h'
  | n, .str _, m, e, _, h' => by cases e <;> simp [toPy, PyData.eqv] <;> simp [plain] at h'
  | n + 1, .tup xs, m, e, h, h' => by
    cases e with
    | tup ys =>
      cases m with
      | zero => simp [plain] at h'
      | succ m =>
        simp only [toPy, PyData.eqv, DV.tup.injEq]
        exact plains_eqv n xs m ys (by simpa [plain] using h) (by simpa [plain] using h')
    | _ => simp [toPy, PyData.eqv] <;> simp [plain] at h'
  | n + 1, .lst xs, m, e, h, h' => by
    cases e with
    | lst ys =>
      cases m with
      | zero => simp [plain] at h'
      | succ m =>
        simp only [toPy, PyData.eqv, DV.lst.injEq]
        exact plains_eqv n xs m ys (by simpa [plain] using h) (by simpa [plain] using h')
    | _ => simp [toPy, PyData.eqv] <;> simp [plain] at h'
  | 0, .tup _, _, _, h, _ => by simp [plain] at h
  | 0, .lst _, _, _, h, _ => by simp [plain] at h
  | _, .bl _, _, _, h, _ => by simp [plain] at h
  | _, .rol _, _, _, h, _ => by simp [plain] at h
  | _, .dk _, _, _, h, _ => by simp [plain] at h
  | _, .ref _, _, _, h, _ => by simp [plain] at h
theorem plains_eqv : ∀ (n : Nat) (xs : List DV) (m : Nat) (ys : List DV), plains n xs = true → plains m ys = true → (PyData.eqvAll (toPys xs) (toPys ys) = true ↔ xs = ys)
  | n, [], m, [], _, _ => by simp [toPys, PyData.eqvAll]
  | n, [], m, y :: ys, _, _ => by simp [toPys, PyData.eqvAll]
  | n, x :: xs, m, [], _, _ => by simp [toPys, PyData.eqvAll]
  | n, x :: xs, m, y :: ys, h, h' => by
    simp only [plains, Bool.and_eq_true] at h h'
    simp only [toPys, PyData.eqvAll, Bool.and_eq_true, List.cons.injEq]
    rw [plain_eqv n x m y h.1 h'.1, plains_eqv n xs m ys h.2 h'.2]
end
section
variable {K : PySem.W.Frag} {ρ : List Addr} {H : Hp} {S : Sto}
mutual
theorem RV.dp : ∀ (n : Nat) (d : DV) (v : V), plain n d = true → RV K ρ H d v → Dp K H v (toPy d)
  | n, .non, v, _, r => by rw [r.non]; exact .non
  | n, .int _, v, _, r => by rw [r.int]; exact .int _
  | n, .str _, v, _, r => by rw [r.str]; exact .str _
  | n + 1, .tup xs, v, h, r => by
    obtain ⟨a, vs, rfl, h1, h2⟩ := r.tup
    simp only [toPy]
    exact .tup h1 (RVs.dp n xs vs (by simpa [plain] using h) h2)
  | n + 1, .lst xs, v, h, r => by
    simp only [RV] at r
    obtain ⟨a, vs, rfl, _, h1, h2⟩ := r
    simp only [toPy]
    exact .lst (SqL.of h1) (RVs.dp n xs vs (by simpa [plain] using h) h2)
  | 0, .tup _, _, h, _ => by simp [plain] at h
  | 0, .lst _, _, h, _ => by simp [plain] at h
  | _, .bl _, _, h, _ => by simp [plain] at h
  | _, .rol _, _, h, _ => by simp [plain] at h
  | _, .dk _, _, h, _ => by simp [plain] at h
  | _, .ref _, _, h, _ => by simp [plain] at h
theorem RVs.dp : ∀ (n : Nat) (xs : List DV) (vs : List V), plains n xs = true → RVs K ρ H xs vs → DpAll K H vs (toPys xs)
  | n, [], vs, _, r => by simp only [RVs] at r; rw [r]; exact .nil
  | n, x :: xs, vs, h, r => by
    simp only [RVs] at r
    obtain ⟨v, t, rfl, h2, h3⟩ := r
    simp only [plains, Bool.and_eq_true] at h
    exact .cons (RV.dp n x v h.1 h2) (RVs.dp n xs t h.2 h3)
end
theorem RV.dpR (s : RS K ρ H S) {x : DV} {v : V} (h : plain 60 (rd S x) = true) (r : RV K ρ H x v) : Dp K H v (toPy (rd S x)) := by
  cases x with
  | ref k =>
    simp only [RV] at r
    obtain ⟨a, h1, rfl⟩ := r
    simp only [rd] at h ⊢
    split at h
    · rename_i x hx
      have q := s.at_ k a x h1 hx
      cases x with
      | lst xs =>
        obtain ⟨vs, h3, h4, _⟩ := q
        simp only [toPy]
        exact .lst (SqL.of h3) (RVs.dp 59 xs vs (by simpa [plain] using h) h4)
      | dk _ => simp [plain] at h
      | _ => exact False.elim q
    · simp [plain] at h
  | _ => exact RV.dp 60 _ _ h r
end
section
variable {X : Cx} {rx : Rx} {W : WX} {a b : Expr} {ma mb : ME} {pos : Pos}
theorem eq_sem {ρ : List Addr} {H : Hp} {S : Sto} {x y : DV} {c : Bool} {v u : V} {Q : VK} (s : RS X.K ρ H S) (r1 : RV X.K ρ H x v) (r2 : RV X.K ρ H y u) (h : eqV S x y = some c) (q : Q (.bl c) H) :
    rEq v u H Q ∨ rEqD X.K v u H Q := by
  unfold eqV at h
  split at h
  · rename_i hs
    cases h
    obtain ⟨h1, h2⟩ := scal_ok hs r1 r2
    exact .inl ⟨h1, by rw [h2]; exact q⟩
  · split at h
    · rename_i hp
      cases h
      refine .inr ⟨_, _, r1.dpR s hp.1, r2.dpR s hp.2, plain_shaped hp.1, plain_shaped hp.2, ?_⟩
      have e : PyData.eqv (toPy (rd S x)) (toPy (rd S y)) = eqB (rd S x) (rd S y) := by
        rw [Bool.eq_iff_iff, eqB_iff]
        exact plain_eqv 60 _ 60 _ hp.1 hp.2
      rw [e]
      exact q
    · cases h
theorem ne_sem {ρ : List Addr} {H : Hp} {S : Sto} {x y : DV} {c : Bool} {v u : V} {Q : VK} (s : RS X.K ρ H S) (r1 : RV X.K ρ H x v) (r2 : RV X.K ρ H y u) (h : eqV S x y = some c) (q : Q (.bl !c) H) :
    rNe v u H Q ∨ rNeD X.K v u H Q := by
  unfold eqV at h
  split at h
  · rename_i hs
    cases h
    obtain ⟨h1, h2⟩ := scal_ok hs r1 r2
    exact .inl ⟨h1, by rw [h2]; exact q⟩
  · split at h
    · rename_i hp
      cases h
      refine .inr ⟨_, _, r1.dpR s hp.1, r2.dpR s hp.2, plain_shaped hp.1, plain_shaped hp.2, ?_⟩
      have e : PyData.eqv (toPy (rd S x)) (toPy (rd S y)) = eqB (rd S x) (rd S y) := by
        rw [Bool.eq_iff_iff, eqB_iff]
        exact plain_eqv 60 _ 60 _ hp.1 hp.2
      rw [e]
      exact q
    · cases h
theorem v_eq (hu : X.A.units + 64 < cLine) (ha : IE X rx W a ma) (hb : IE X rx W b mb) : IE X rx W (.Compare a [.Eq] [b] pos) (eqE ma mb) :=
  v_cmp (f := eqV) (g := fun c => c) (op_eq.or (op_eqD hu)) (nomark _) eq_sem ha hb
theorem v_teq (hu : X.A.units + 64 < cLine) (ha : IE X rx W a ma) (hb : IE X rx W b mb) : IT X rx W (.Compare a [.Eq] [b] pos) (tst (eqE ma mb)) :=
  v_tcmp (f := eqV) (g := fun c => c) (op_eq.or (op_eqD hu)) (nomark _) eq_sem ha hb
theorem v_ne (hu : X.A.units + 64 < cLine) (ha : IE X rx W a ma) (hb : IE X rx W b mb) : IE X rx W (.Compare a [.NotEq] [b] pos) (neE ma mb) :=
  v_cmp (f := eqV) (g := fun c => !c) (op_ne.or (op_neD hu)) (nomark _) ne_sem ha hb
theorem v_tne (hu : X.A.units + 64 < cLine) (ha : IE X rx W a ma) (hb : IE X rx W b mb) : IT X rx W (.Compare a [.NotEq] [b] pos) (tst (neE ma mb)) :=
  v_tcmp (f := eqV) (g := fun c => !c) (op_ne.or (op_neD hu)) (nomark _) ne_sem ha hb
theorem lt_sem {f : Int → Int → Bool} {g : DV → DV → Option Bool} (hg : ∀ x y c, g x y = some c → ∃ i j, x = .int i ∧ y = .int j ∧ c = f i j) {ρ : List Addr} {H : Hp} {S : Sto} {x y : DV} {c : Bool} {v u : V} {Q : VK} (s : RS X.K ρ H S) (r1 : RV X.K ρ H x v) (r2 : RV X.K ρ H y u)
    (h : g x y = some c) (q : Q (.bl c) H) : rI0 (fun i j => .bl (f i j)) v u H Q := by
  obtain ⟨i, j, rfl, rfl, rfl⟩ := hg x y c h
  exact ⟨i, j, r1.int, r2.int, q⟩
theorem lt_shape {x y : DV} {c : Bool} (h : ltV x y = some c) : ∃ i j, x = .int i ∧ y = .int j ∧ c = decide (i < j) := by
  unfold ltV at h
  split at h
  · cases h; exact ⟨_, _, rfl, rfl, rfl⟩
  · cases h
theorem le_shape {x y : DV} {c : Bool} (h : leV x y = some c) : ∃ i j, x = .int i ∧ y = .int j ∧ c = decide (i ≤ j) := by
  unfold leV at h
  split at h
  · cases h; exact ⟨_, _, rfl, rfl, rfl⟩
  · cases h
theorem gt_shape {x y : DV} {c : Bool} (h : ltV y x = some c) : ∃ i j, x = .int i ∧ y = .int j ∧ c = decide (j < i) := by
  obtain ⟨i, j, h1, h2, h3⟩ := lt_shape h
  exact ⟨j, i, h2, h1, h3⟩
theorem ge_shape {x y : DV} {c : Bool} (h : leV y x = some c) : ∃ i j, x = .int i ∧ y = .int j ∧ c = decide (j ≤ i) := by
  obtain ⟨i, j, h1, h2, h3⟩ := le_shape h
  exact ⟨j, i, h2, h1, h3⟩
theorem v_lt (ha : IE X rx W a ma) (hb : IE X rx W b mb) : IE X rx W (.Compare a [.Lt] [b] pos) (ltE ma mb) :=
  v_cmp (f := fun _ => ltV) (g := fun c => c) op_lt (nomark _) (lt_sem fun _ _ _ => lt_shape) ha hb
theorem v_tlt (ha : IE X rx W a ma) (hb : IE X rx W b mb) : IT X rx W (.Compare a [.Lt] [b] pos) (tst (ltE ma mb)) :=
  v_tcmp (f := fun _ => ltV) (g := fun c => c) op_lt (nomark _) (lt_sem fun _ _ _ => lt_shape) ha hb
theorem v_le (ha : IE X rx W a ma) (hb : IE X rx W b mb) : IE X rx W (.Compare a [.LtE] [b] pos) (leE ma mb) :=
  v_cmp (f := fun _ => leV) (g := fun c => c) op_le (nomark _) (lt_sem fun _ _ _ => le_shape) ha hb
theorem v_tle (ha : IE X rx W a ma) (hb : IE X rx W b mb) : IT X rx W (.Compare a [.LtE] [b] pos) (tst (leE ma mb)) :=
  v_tcmp (f := fun _ => leV) (g := fun c => c) op_le (nomark _) (lt_sem fun _ _ _ => le_shape) ha hb
theorem v_gt (ha : IE X rx W a ma) (hb : IE X rx W b mb) : IE X rx W (.Compare a [.Gt] [b] pos) (gtE ma mb) :=
  v_cmp (f := fun _ x y => ltV y x) (g := fun c => c) op_gt (nomark _) (lt_sem (g := fun x y => ltV y x) fun _ _ _ => gt_shape) ha hb
theorem v_tgt (ha : IE X rx W a ma) (hb : IE X rx W b mb) : IT X rx W (.Compare a [.Gt] [b] pos) (tst (gtE ma mb)) :=
  v_tcmp (f := fun _ x y => ltV y x) (g := fun c => c) op_gt (nomark _) (lt_sem (g := fun x y => ltV y x) fun _ _ _ => gt_shape) ha hb
theorem v_ge (ha : IE X rx W a ma) (hb : IE X rx W b mb) : IE X rx W (.Compare a [.GtE] [b] pos) (geE ma mb) :=
  v_cmp (f := fun _ x y => leV y x) (g := fun c => c) op_ge (nomark _) (lt_sem (g := fun x y => leV y x) fun _ _ _ => ge_shape) ha hb
theorem v_tge (ha : IE X rx W a ma) (hb : IE X rx W b mb) : IT X rx W (.Compare a [.GtE] [b] pos) (tst (geE ma mb)) :=
  v_tcmp (f := fun _ x y => leV y x) (g := fun c => c) op_ge (nomark _) (lt_sem (g := fun x y => leV y x) fun _ _ _ => ge_shape) ha hb

/-! ### in -/
theorem flat_ok {K : PySem.W.Frag} {ρ : List Addr} {H : Hp} {x : DV} {v : V} (h : flatD x = true) (r : RV K ρ H x v) : flatV v = true := by
  cases x <;> simp [flatD] at h
  · rw [r.non]; rfl
  · rw [r.int]; rfl
  · rw [r.str]; rfl
theorem flat_eqV {K : PySem.W.Frag} {ρ : List Addr} {H : Hp} {x y : DV} {v u : V} (h : flatD x = true) (h' : flatD y = true) (r : RV K ρ H x v) (r' : RV K ρ H y u) : L2.eqV v u = eqB x y := by
  rw [Bool.eq_iff_iff, eqB_iff]
  cases x <;> simp [flatD] at h <;> cases y <;> simp [flatD] at h' <;> simp only [RV] at r r' <;> subst r r' <;> simp [L2.eqV]
theorem flats_ok {K : PySem.W.Frag} {ρ : List Addr} {H : Hp} : ∀ {xs : List DV} {vs : List V}, xs.all flatD = true → RVs K ρ H xs vs → vs.all flatV = true
  | [], vs, _, r => by simp only [RVs] at r; rw [r]; rfl
  | x :: xs, vs, h, r => by
    simp only [RVs] at r
    obtain ⟨v, t, rfl, h2, h3⟩ := r
    rw [List.all_cons, Bool.and_eq_true] at h ⊢
    exact ⟨flat_ok h.1 h2, flats_ok h.2 h3⟩
theorem inV_ok {K : PySem.W.Frag} {ρ : List Addr} {H : Hp} {x : DV} {v : V} (hx : flatD x = true) (rx' : RV K ρ H x v) : ∀ {xs : List DV} {vs : List V}, xs.all flatD = true → RVs K ρ H xs vs → L2.inV v vs = xs.any fun z => eqB z x
  | [], vs, _, r => by simp only [RVs] at r; rw [r]; rfl
  | y :: ys, vs, h, r => by
    simp only [RVs] at r
    obtain ⟨u, t, rfl, h2, h3⟩ := r
    rw [List.all_cons, Bool.and_eq_true] at h
    have ih := inV_ok hx rx' h.2 h3
    unfold L2.inV at ih ⊢
    rw [List.any_cons, List.any_cons, ih, flat_eqV h.1 hx h2 rx']
theorem in_sem (neg : Bool) {ρ : List Addr} {H : Hp} {S : Sto} {x y : DV} {c : Bool} {v u : V} {Q : VK} (s : RS X.K ρ H S) (r1 : RV X.K ρ H x v) (r2 : RV X.K ρ H y u) (h : inV S x y = some c) (q : Q (.bl (if neg then !c else c)) H) :
    rIn X.K neg v u H Q ∨ (∃ (c : Nat) (z : Str), v = .str ⟨#[c]⟩ ∧ u = .str z ∧ Q (.bl (if neg then !decide (c ∈ z.cps.toList) else decide (c ∈ z.cps.toList))) H) := by
  unfold inV at h
  split at h
  · rename_i ys e
    split at h
    · rename_i hf
      cases h
      obtain ⟨p, vs, rfl, h1, h2⟩ := r2.seqOf s e
      refine .inl ⟨p, vs, rfl, h1, flat_ok hf.1 r1, flats_ok hf.2 h2, ?_⟩
      rw [inV_ok hf.1 r1 hf.2 h2]
      exact q
    · cases h
  · split at h
    · rename_i a b _
      split at h
      · rename_i hl
        cases h
        rw [r1.str, r2.str]
        have e : a = ⟨#[a.cps.getD 0 0]⟩ := by
          obtain ⟨⟨l⟩⟩ := a
          have hl' : l.length = 1 := hl
          match l, hl' with
          | [c], _ => rfl
        exact .inr ⟨a.cps.getD 0 0, b, congrArg V.str e, rfl, q⟩
      · cases h
    · cases h
theorem v_in (hm : behindInMarks .In b = false := by rfl) (ha : IE X rx W a ma) (hb : IE X rx W b mb) : IE X rx W (.Compare a [.In] [b] pos) (inE ma mb) :=
  v_cmp (f := inV) (g := fun c => c) (op_in_seq.or op_in_sign) hm (in_sem false) ha hb
theorem v_tin (hm : behindInMarks .In b = false := by rfl) (ha : IE X rx W a ma) (hb : IE X rx W b mb) : IT X rx W (.Compare a [.In] [b] pos) (tst (inE ma mb)) :=
  v_tcmp (f := inV) (g := fun c => c) (op_in_seq.or op_in_sign) hm (in_sem false) ha hb
theorem v_nin (hm : behindInMarks .NotIn b = false := by rfl) (ha : IE X rx W a ma) (hb : IE X rx W b mb) : IE X rx W (.Compare a [.NotIn] [b] pos) (ninE ma mb) :=
  v_cmp (f := inV) (g := fun c => !c) (op_notIn_seq.or op_notIn_sign) hm (in_sem true) ha hb
theorem v_tnin (hm : behindInMarks .NotIn b = false := by rfl) (ha : IE X rx W a ma) (hb : IE X rx W b mb) : IT X rx W (.Compare a [.NotIn] [b] pos) (tst (ninE ma mb)) :=
  v_tcmp (f := inV) (g := fun c => !c) (op_notIn_seq.or op_notIn_sign) hm (in_sem true) ha hb
end
end Y
namespace Y
open PySem L2
section
variable {X : Cx} {rx : Rx} {W : WX} {a b : Expr} {ma mb : ME} {pos : Pos}
theorem notin_of {K : PySem.W.Frag} {ρ : List Addr} {H : Hp} {S : Sto} (s : RS K ρ H S) {p : Addr} (h : H p = none) : p ∉ ρ := fun m => by
  obtain ⟨z, hz, _⟩ := s.there m
  rw [h] at hz; cases hz
theorem rv_newL {K : PySem.W.Frag} {ρ : List Addr} {H : Hp} {S : Sto} (s : RS K ρ H S) {p : Addr} (h : H p = none) {xs : List DV} {vs : List V} (r : RVs K ρ H xs vs) : RV K ρ (upd H p (.lst vs)) (.lst xs) (.ref p) := by
  simp only [RV]
  exact ⟨p, vs, rfl, notin_of s h, upd_same, r.mono (ext_new h)⟩
theorem rv_newT {K : PySem.W.Frag} {ρ : List Addr} {H : Hp} {p : Addr} (h : H p = none) {xs : List DV} {vs : List V} (r : RVs K ρ H xs vs) : RV K ρ (upd H p (.tup vs)) (.tup xs) (.ref p) := by
  simp only [RV]
  exact ⟨p, vs, rfl, SqT.of upd_same, r.mono (ext_new h)⟩

/-! ### is None -/
theorem isNon_ok {K : PySem.W.Frag} {ρ : List Addr} {H : Hp} {x : DV} {v : V} (r : RV K ρ H x v) : decide (v = .non) = isNon x := by
  cases x with
  | non => rw [r.non]; rfl
  | bl _ => rw [r.bl]; rfl
  | int _ => rw [r.int]; rfl
  | str _ => rw [r.str]; rfl
  | tup _ => obtain ⟨a, _, rfl, _⟩ := r.tup; rfl
  | lst _ => simp only [RV] at r; obtain ⟨a, _, rfl, _⟩ := r; rfl
  | rol _ => simp only [RV] at r; obtain ⟨a, _, rfl, _⟩ := r; rfl
  | dk _ => simp only [RV] at r; obtain ⟨a, _, rfl, _⟩ := r; rfl
  | ref _ => simp only [RV] at r; obtain ⟨a, _, rfl⟩ := r; rfl
/-- an operation on one value: by what the text's reading is -/
theorem un_rule {r : V → Hp → VK → Prop} {e : Expr} {f : Sto → DV → Option DV} {te : TE} (h : PE X e (tUn r (tI X.K rx W ma)))
    (hf : ∀ {ρ : List Addr} {H : Hp} {S : Sto} {x d : DV} {v : V} {Q : VK}, RS X.K ρ H S → RV X.K ρ H x v → f S x = some d → QE X.K ρ H Q d S → r v H Q) : IE X rx W e (op1 f ma) := by
  refine pe_imp h fun σ H Q ⟨ρ, l, S, hl, hs, h⟩ => ?_
  refine bindI hl hs h fun ρ1 H1 x S1 v e1 s1 l1 r1 h1 => ?_
  obtain ⟨d, hd, q⟩ := h1.of
  exact hf s1 r1 hd fun ρ' H' w e s r => q ρ' H' w (e1.trans e) s r
theorem v_isN {j pos'} (ha : IE X rx W a ma) : IE X rx W (.Compare a [.Is] [.Constant .none j pos'] pos) (isN ma) :=
  un_rule (te := tI X.K rx W ma) (pe_cmp (pc_isN ha) rfl) fun {ρ H S x d v Q} s r e q => by
    cases e
    show Q (.bl (decide (v = .non))) H
    rw [isNon_ok r]
    exact q ρ H _ .refl s (by simp [RV])
theorem v_notN {j pos'} (ha : IE X rx W a ma) : IE X rx W (.Compare a [.IsNot] [.Constant .none j pos'] pos) (notN ma) :=
  un_rule (te := tI X.K rx W ma) (pe_cmp (pc_notN ha) rfl) fun {ρ H S x d v Q} s r e q => by
    cases e
    show Q (.bl (!decide (v = .non))) H
    rw [isNon_ok r]
    exact q ρ H _ .refl s (by simp [RV])

/-! ### items, slices -/
theorem atI_len {α : Type} {xs : List α} {i : Int} {d : α} (h : atI xs i = some d) : ∃ j, ixN xs.length i = some j ∧ xs[j]? = some d := by
  unfold atI at h
  cases e : ixN xs.length i with
  | none => rw [e] at h; cases h
  | some j => rw [e] at h; exact ⟨j, rfl, h⟩
theorem RVs.atI {K : PySem.W.Frag} {ρ : List Addr} {H : Hp} {xs : List DV} {vs : List V} {i : Int} {d : DV} (r : RVs K ρ H xs vs) (h : L2.atI xs i = some d) : ∃ v, L2.atI vs i = some v ∧ RV K ρ H d v := by
  obtain ⟨j, h1, h2⟩ := atI_len h
  obtain ⟨v, h3, h4⟩ := r.get h2
  refine ⟨v, ?_, h4⟩
  unfold L2.atI
  rw [← r.length, h1]
  exact h3
theorem v_ix (hp : PlainIx b) (ha : IE X rx W a ma) (hb : IE X rx W b mb) : IE X rx W (.Subscript a b pos) (ix ma mb) := by
  refine pe_imp (pe_ix ix_seq ha hb hp) fun σ H Q ⟨ρ, l, S, hl, hs, h⟩ => ?_
  refine bindI hl hs h fun ρ1 H1 x S1 v e1 s1 l1 r1 h1 => ?_
  refine bindI l1 s1 h1 fun ρ2 H2 y S2 u e2 s2 l2 r2 h2 => ?_
  obtain ⟨d, hd, q⟩ := h2.of
  unfold ixV at hd
  split at hd
  · rename_i i
    rw [r2.int]
    split at hd
    · rename_i xs ex
      obtain ⟨p, vs, rfl, h3, h4⟩ := (r1.mono e2).seqOf s2 ex
      obtain ⟨w, h5, h6⟩ := h4.atI hd
      rcases h3 with h3 | h3
      · exact .inl ⟨p, vs, i, w, rfl, rfl, h3, h5, q ρ2 H2 w (e1.trans e2) s2 h6⟩
      · exact .inr (.inl ⟨p, vs, i, w, rfl, rfl, h3, h5, q ρ2 H2 w (e1.trans e2) s2 h6⟩)
    · split at hd
      · rename_i z _
        split at hd
        · rename_i hz
          cases hc : L2.atI z.cps.toList i with
          | none => rw [hc] at hd; cases hd
          | some c =>
            rw [hc] at hd
            cases hd
            exact .inr (.inr ⟨z, i, c, r1.str, rfl, by rw [← LIM_eq]; exact hz, hc, q ρ2 H2 _ (e1.trans e2) s2 (by simp [RV])⟩)
        · cases hd
      · cases hd
  · cases hd
theorem v_po0 : IP X rx W none none := po_imp po_none fun σ H Q ⟨ρ, l, S, hl, hs, h⟩ => h ρ H .refl hs
theorem v_po1 (ha : IE X rx W a ma) : IP X rx W (some a) (some ma) := by
  refine po_imp (po_some ha) fun σ H Q ⟨ρ, l, S, hl, hs, h⟩ => ?_
  refine bindI hl hs h fun ρ1 H1 x S1 v e1 s1 l1 r1 h1 => ?_
  cases x with
  | int i => exact ⟨i, r1.int, h1 ρ1 H1 e1 s1⟩
  | _ => exact False.elim h1
theorem sub_sem {ρ : List Addr} {H : Hp} {S : Sto} {x d : DV} {v : V} {lo hi : Option Int} {Q : VK} (s : RS X.K ρ H S) (r : RV X.K ρ H x v) (h : slV S x lo hi = some d) (q : QE X.K ρ H Q d S) :
    (rSlA X.K v lo hi H Q ∨ rSlL X.K v lo hi H Q) ∨ rSlS v lo hi H Q := by
  unfold slV at h
  split at h
  · rename_i xs
    cases h
    obtain ⟨p, vs, rfl, h1, h2⟩ := r.tup
    refine .inl (.inl ⟨p, vs, rfl, h1, fun hw => ?_, fun _ t ht => ?_⟩)
    · refine q ρ H _ .refl s ?_
      simp only [RV]
      refine ⟨p, vs, rfl, h1, ?_⟩
      have e : cutD xs lo hi = xs := by
        unfold cutD
        rw [h2.length, hw.1, hw.2, List.drop_zero, Nat.sub_zero, ← h2.length, List.take_length]
      rw [e]
      exact h2
    · exact q ρ _ _ (ext_new ht) (s.new ht) (rv_newT ht (h2.cut lo hi))
  · split at h
    · rename_i hz
      cases h
      exact .inr ⟨_, r.str, by rw [← LIM_eq]; exact hz, q ρ H _ .refl s (by simp [RV])⟩
    · cases h
  · rename_i n1 n2
    cases ex : seqOf S x with
    | none => rw [ex] at h; cases h
    | some xs =>
      rw [ex] at h
      cases h
      obtain ⟨p, vs, rfl, h1, h2⟩ := r.seqL s ex fun ys e => n1 ys e
      exact .inl (.inr ⟨p, vs, rfl, h1, fun t ht => q ρ _ _ (ext_new ht) (s.new ht) (rv_newL s ht (h2.cut lo hi))⟩)
theorem v_slice {lo hi : Option Expr} {ml mh : Option ME} {p2 : Pos} (ha : IE X rx W a ma) (h1 : IP X rx W lo ml) (h2 : IP X rx W hi mh) : IE X rx W (.Subscript a (.Slice lo hi none p2) pos) (slice ma ml mh) := by
  refine pe_imp (pe_slice ((sl_tupA.or sl_list).or sl_str) ha h1 h2) fun σ H Q ⟨ρ, l, S, hl, hs, h⟩ => ?_
  refine bindI hl hs h fun ρ1 H1 x S1 v e1 s1 l1 r1 h1 => ?_
  refine ⟨ρ1, l, S1, l1, s1, h1.bind.imp fun p S2 h2 ρ2 H2 e2 s2 => ?_⟩
  refine ⟨ρ2, l, S2, l1.mono e2, s2, (h2.shift e2).bind.imp fun p' S3 h3 ρ3 H3 e3 s3 => ?_⟩
  obtain ⟨d, hd, q⟩ := h3.of
  exact sub_sem s3 ((r1.mono e2).mono e3) hd fun ρ' H' w e s r => q ρ' H' w (e1.trans (e2.trans (e3.trans e))) s r

/-! ### displays -/
theorem v_nil : IA X rx W [] aNil := pa_imp pa_nil fun σ H Q ⟨ρ, l, S, hl, hs, h⟩ => h ρ H [] .refl hs (by simp [RVs])
theorem v_cons {e : Expr} {es : List Expr} {m : ME} {ms : MA} (h1 : IE X rx W e m) (h2 : IA X rx W es ms) (hs : starEach (e :: es) X.env = (false, eval e X.env) :: starEach es X.env := by rfl) : IA X rx W (e :: es) (aCons m ms) := by
  refine pa_imp (pa_cons h1 h2 hs) fun σ H Q ⟨ρ, l, S, hl, hs, h⟩ => ?_
  refine bindI hl hs h fun ρ1 H1 x S1 v e1 s1 l1 r1 h1 => ?_
  refine ⟨ρ1, l, S1, l1, s1, h1.bind.imp fun xs S2 h2 ρ2 H2 vs e2 s2 r2 => ?_⟩
  exact h2 ρ2 H2 _ (e1.trans e2) s2 (RVs.cons (r1.mono e2) r2)
theorem bindA {α : Type} {K : PySem.W.Frag} {rx : Rx} {W : WX} {ma : MA} {σ : L2.St} {H : Hp} {ρ : List Addr} {l : Lo} {S : Sto} {f : List DV → Sto → Out α} {R : α → Sto → Prop} {Q1 : List V → Hp → Prop}
    (hl : RL K ρ H l σ) (hs : RS K ρ H S) (h : Post K rx W ρ H ((ma l S).bind f) R)
    (k : ∀ ρ1 H1 x S1 v, Ext ρ H ρ1 H1 → RS K ρ1 H1 S1 → RL K ρ1 H1 l σ → RVs K ρ1 H1 x v → Post K rx W ρ1 H1 (f x S1) R → Q1 v H1) : tA K rx W ma σ H Q1 :=
  ⟨ρ, l, S, hl, hs, h.bind.imp fun x S1 q ρ1 H1 v e s r => k ρ1 H1 x S1 v e s (hl.mono e) r (q.shift e)⟩
theorem v_tup {es : List Expr} {ms : MA} {x1} (h : IA X rx W es ms) : IE X rx W (.Tuple es x1 pos) (tupE ms) := by
  refine pe_imp (pe_tup h) fun σ H Q ⟨ρ, l, S, hl, hs, h⟩ => ?_
  refine bindA hl hs h fun ρ1 H1 xs S1 vs e1 s1 l1 r1 h1 => ?_
  split at h1
  · rename_i hz
    exact ⟨by rw [← r1.length, ← LIM_eq]; exact hz, fun p hp => h1 ρ1 _ _ (e1.trans (ext_new hp)) (s1.new hp) (rv_newT hp r1)⟩
  · exact False.elim h1
theorem v_lst {es : List Expr} {ms : MA} (h : IA X rx W es ms) : IE X rx W (.List es pos) (lstE ms) := by
  refine pe_imp (pe_lst h) fun σ H Q ⟨ρ, l, S, hl, hs, h⟩ => ?_
  refine bindA hl hs h fun ρ1 H1 xs S1 vs e1 s1 l1 r1 h1 => ?_
  split at h1
  · rename_i hz
    exact ⟨by rw [← r1.length, ← LIM_eq]; exact hz, fun p hp => h1 ρ1 _ _ (e1.trans (ext_new hp)) (s1.new hp) (rv_newL s1 hp r1)⟩
  · exact False.elim h1
theorem ro_push {K : PySem.W.Frag} {ρ : List Addr} {H : Hp} {p : Addr} (hp : H p = none) {xs : List DV} {vs : List V} (r : RVs K ρ H xs vs) (n : noRefs xs = true) : RO K (ρ ++ [p]) (upd H p (.lst vs)) p (.lst xs) :=
  ⟨vs, upd_same, r.mono (ext_push hp), n⟩
theorem rv_last {K : PySem.W.Frag} {ρ : List Addr} {H : Hp} {S : Sto} {p : Addr} (s : RS K ρ H S) {H' : Hp} : RV K (ρ ++ [p]) H' (.ref S.length) (.ref p) := by
  simp only [RV]
  exact ⟨p, by rw [← s.len, List.getElem?_append_right (Nat.le_refl _), Nat.sub_self]; rfl, rfl⟩
theorem v_lstR {es : List Expr} {ms : MA} (h : IA X rx W es ms) : IE X rx W (.List es pos) (lstR ms) := by
  refine pe_imp (pe_lst h) fun σ H Q ⟨ρ, l, S, hl, hs, h⟩ => ?_
  refine bindA hl hs h fun ρ1 H1 xs S1 vs e1 s1 l1 r1 h1 => ?_
  split at h1
  · rename_i hz
    exact ⟨by rw [← r1.length, ← LIM_eq]; exact hz.1, fun p hp => h1 _ _ _ (e1.trans (ext_push hp)) (s1.push hp (ro_push hp r1 hz.2)) (rv_last s1)⟩
  · exact False.elim h1

/-! ### built-ins of one argument -/
/-- f(a), by what the built-in asks -/
theorem bi_rule {r : List V → Hp → VK → Prop} {e : Expr} {f : Sto → DV → Option DV} (h : PE X e (tCB r (tA X.K rx W (aCons ma aNil))))
    (hf : ∀ {ρ : List Addr} {H : Hp} {S : Sto} {x d : DV} {v : V} {Q : VK}, RS X.K ρ H S → RV X.K ρ H x v → f S x = some d → QE X.K ρ H Q d S → r [v] H Q) : IE X rx W e (op1 f ma) := by
  refine pe_imp h fun σ H Q ⟨ρ, l, S, hl, hs, h⟩ => ?_
  refine ⟨ρ, l, S, hl, hs, ?_⟩
  show Post X.K rx W ρ H ((ma l S).bind fun x S1 => .ok [x] S1) _
  have h' : Post X.K rx W ρ H ((ma l S).bind fun x S1 => Out.of (f S1 x) S1) (QE X.K ρ H Q) := h
  cases e : ma l S with
  | ok x S1 =>
    rw [e] at h'
    obtain ⟨d, hd, q⟩ := Post.of h'
    intro ρ1 H1 vs e1 s1 r1
    simp only [RVs] at r1
    obtain ⟨v, t, rfl, r2, rfl⟩ := r1
    exact hf s1 r2 hd fun ρ' H' w e s r => q ρ' H' w (e1.trans e) s r
  | exc c x l' S1 => rw [e] at h'; exact h'
  | bad => rw [e] at h'; exact h'
theorem len_sem {ρ : List Addr} {H : Hp} {S : Sto} {x d : DV} {v : V} {Q : VK} (s : RS X.K ρ H S) (r : RV X.K ρ H x v) (h : lenV S x = some d) (q : QE X.K ρ H Q d S) : ∃ x n, [v] = [x] ∧ LenV X.K x H n ∧ Q (.int n) H := by
  unfold lenV at h
  split at h
  · rename_i xs ex
    cases h
    obtain ⟨p, vs, rfl, h1, h2⟩ := r.seqOf s ex
    refine ⟨.ref p, xs.length, rfl, ?_, q ρ H _ .refl s (by simp [RV])⟩
    rw [h2.length]
    rcases h1 with h1 | h1
    · exact .inl ⟨vs, h1, rfl⟩
    · exact .inr ⟨vs, h1, rfl⟩
  · split at h
    · rename_i z _
      split at h
      · rename_i hz
        cases h
        rw [r.str]
        exact ⟨.str z, z.length, rfl, ⟨by rw [← LIM_eq]; exact hz, rfl⟩, q ρ H _ .refl s (by simp [RV])⟩
      · cases h
    · cases h
theorem v_len {p : Pos} (hm : X.mg "len" = none) (ha : IE X rx W a ma) (hg : Gl X "len" := by rfl) (hs : starEach [a] X.env = (false, eval a X.env) :: starEach [] X.env := by rfl) (hpl : (backTo pos (starEach [] X.env)).any (·.1) = false := by rfl) :
    IE X rx W (.Call (.Name "len" p) [a] [] pos) (lenE ma) :=
  bi_rule (pe_callB call_len hg hm PySem.boot_len (v_cons ha v_nil hs) (by decide) (by decide) hs hpl) len_sem
theorem v_tuple {p : Pos} (hm : X.mg "tuple" = none) (ha : IE X rx W a ma) (hg : Gl X "tuple" := by rfl) (hs : starEach [a] X.env = (false, eval a X.env) :: starEach [] X.env := by rfl) (hpl : (backTo pos (starEach [] X.env)).any (·.1) = false := by rfl) :
    IE X rx W (.Call (.Name "tuple" p) [a] [] pos) (tupleE ma) :=
  bi_rule (pe_callTy call_tuple_of hg hm (by decide +kernel) (v_cons ha v_nil hs) (by decide) (by decide) hs hpl) fun {ρ H S x d v Q} s r h q => by
    unfold tupleV at h
    cases ex : seqOf S x with
    | none => rw [ex] at h; cases h
    | some xs =>
      rw [ex] at h
      cases h
      obtain ⟨p, vs, rfl, h1, h2⟩ := r.seqOf s ex
      refine ⟨p, vs, rfl, ?_⟩
      rcases h1 with h1 | h1
      · exact .inl ⟨h1, fun t ht => q ρ _ _ (ext_new ht) (s.new ht) (rv_newT ht h2)⟩
      · refine .inr ⟨h1, q ρ H _ .refl s ?_⟩
        simp only [RV]
        exact ⟨p, vs, rfl, h1, h2⟩
theorem v_list {p : Pos} (hm : X.mg "list" = none) (ha : IE X rx W a ma) (hg : Gl X "list" := by rfl) (hs : starEach [a] X.env = (false, eval a X.env) :: starEach [] X.env := by rfl) (hpl : (backTo pos (starEach [] X.env)).any (·.1) = false := by rfl) :
    IE X rx W (.Call (.Name "list" p) [a] [] pos) (listE ma) :=
  bi_rule (pe_callTy call_list_of hg hm (by decide +kernel) (v_cons ha v_nil hs) (by decide) (by decide) hs hpl) fun {ρ H S x d v Q} s r h q => by
    unfold listV at h
    cases ex : seqOf S x with
    | none => rw [ex] at h; cases h
    | some xs =>
      rw [ex] at h
      cases h
      obtain ⟨p, vs, rfl, h1, h2⟩ := r.seqOf s ex
      exact ⟨p, vs, rfl, h1, fun t ht => q ρ _ _ (ext_new ht) (s.new ht) (rv_newL s ht h2)⟩
theorem v_listR {p : Pos} (hm : X.mg "list" = none) (ha : IE X rx W a ma) (hg : Gl X "list" := by rfl) (hs : starEach [a] X.env = (false, eval a X.env) :: starEach [] X.env := by rfl) (hpl : (backTo pos (starEach [] X.env)).any (·.1) = false := by rfl) :
    IE X rx W (.Call (.Name "list" p) [a] [] pos) (listR ma) := by
  refine pe_imp (pe_callTy call_list_of hg hm (by decide +kernel) (v_cons ha v_nil hs) (by decide) (by decide) hs hpl) fun σ H Q ⟨ρ, l, S, hl, hs, h⟩ => ?_
  refine ⟨ρ, l, S, hl, hs, ?_⟩
  show Post X.K rx W ρ H ((ma l S).bind fun x S1 => .ok [x] S1) _
  have h' : Post X.K rx W ρ H ((ma l S).bind _) (QE X.K ρ H Q) := h
  cases e : ma l S with
  | ok x S1 =>
    rw [e] at h'
    intro ρ1 H1 vs e1 s1 r1
    simp only [RVs] at r1
    obtain ⟨v, t, rfl, r2, rfl⟩ := r1
    simp only [Out.bind] at h'
    split at h'
    · rename_i xs ex
      split at h'
      · rename_i hn
        obtain ⟨p, vs, rfl, h1, h2⟩ := r2.seqOf s1 ex
        exact ⟨p, vs, rfl, h1, fun t ht => h' _ _ _ (e1.trans (ext_push ht)) (s1.push ht (ro_push ht h2 hn)) (rv_last s1)⟩
      · exact False.elim h'
    · exact False.elim h'
  | exc c x l' S1 => rw [e] at h'; exact h'
  | bad => rw [e] at h'; exact h'

/-! ### isinstance -/
theorem tag_ok {K : PySem.W.Frag} {ρ : List Addr} {H : Hp} {S : Sto} {x : DV} {v : V} {t : String} (s : RS K ρ H S) (r : RV K ρ H x v) (h : tagOf S x = some t) : TyX K H v (.type t) := by
  cases x with
  | non => rw [r.non]; cases h; exact .base .non
  | bl b => rw [r.bl]; cases h; exact .base (.bl b)
  | int i => rw [r.int]; cases h; exact .base (.int i)
  | str z => rw [r.str]; cases h; exact .base (.str z)
  | tup xs =>
    cases h
    obtain ⟨a, vs, rfl, h1, _⟩ := r.tup
    rcases h1 with (h1 | ⟨o, h1⟩) | ⟨o, its, n, h1, h2, _⟩
    · exact .base (.tup h1)
    · exact .fTuple h1
    · exact .kTuple h1 h2
  | lst xs =>
    cases h
    simp only [RV] at r
    obtain ⟨a, vs, rfl, _, h1, _⟩ := r
    exact .base (.lst h1)
  | rol xs =>
    cases h
    simp only [RV] at r
    obtain ⟨a, vs, rfl, h1, _⟩ := r
    rcases h1 with ⟨o, h1⟩ | ⟨_, h1⟩ | h1
    · exact .base (.frz h1)
    · exact .base (.lst h1)
    · rcases h1 (fun _ => none) with (h2 | ⟨o, h2⟩) | ⟨o, its, n, h2, h3, _⟩
      · cases h2
      · cases h2
      · exact .kList h2 h3
  | dk kvs =>
    cases h
    simp only [RV] at r
    obtain ⟨a, vs, rfl, _, h1, _⟩ := r
    exact .base (.dK h1)
  | ref k =>
    simp only [RV] at r
    obtain ⟨a, h1, rfl⟩ := r
    simp only [tagOf] at h
    split at h
    · rename_i xs hx
      cases h
      obtain ⟨vs, h2, _⟩ := s.at_ k a _ h1 hx
      exact .base (.lst h2)
    · rename_i xs hx
      cases h
      obtain ⟨vs, h2, _⟩ := s.at_ k a _ h1 hx
      exact .base (.dK h2)
    · cases h
/-- the built-in classes that are asked for -/
def tags : List String := ["NoneType", "bool", "int", "str", "tuple", "list", "dict"]
def asked : List String := ["bool", "int", "str", "tuple", "list", "dict"]
theorem tag_in {S : Sto} {x : DV} {t : String} (h : tagOf S x = some t) : t ∈ tags := by
  unfold tagOf at h
  split at h
  all_goals first | (cases h; decide) | skip
  split at h
  all_goals first | (cases h; decide) | cases h
theorem kit_all {K : PySem.W.Frag} : ∀ t ∈ tags, ∀ c ∈ asked, PySem.W.kitOne K (.type t) (.type c) = some (isTag t c) := by
  intro t ht c hc
  simp only [tags, asked, List.mem_cons, List.not_mem_nil, or_false] at ht hc
  rcases ht with rfl | rfl | rfl | rfl | rfl | rfl | rfl <;> rcases hc with rfl | rfl | rfl | rfl | rfl | rfl <;> first | rfl | decide +kernel | kernel_rfl
theorem v_isi {c : String} {cn : Str} {p p2 : Pos} (hc : c ∈ asked) (hv : bootBuiltins cn = some (.type c)) (hm : X.mg "isinstance" = none) (hmc : X.mg cn = none) (ha : IE X rx W a ma) (hg : Gl X "isinstance" := by rfl) (hgc : Gl X cn := by rfl)
    (hn : cn ≠ "__name__" := by decide) (hd : (cn == ("__debug__" : Str)) = false := by decide)
    (hs : starEach [a, .Name cn p2] X.env = (false, eval a X.env) :: starEach [.Name cn p2] X.env := by rfl) (hs2 : starEach [.Name cn p2] X.env = (false, eval (.Name cn p2) X.env) :: starEach [] X.env := by rfl) (hpl : (backTo pos (starEach [.Name cn p2] X.env)).any (·.1) = false := by rfl) :
    IE X rx W (.Call (.Name "isinstance" p) [a, .Name cn p2] [] pos) (isiE c ma) := by
  refine pe_imp (pe_callB call_isi hg hm (by decide +kernel) (pa_cons ha (pa_cons (pe_bltn (v := .ty c) hgc hmc hv rfl hn hd) pa_nil hs2) hs) (by decide) (by decide) hs hpl) fun σ H Q ⟨ρ, l, S, hl, hs, h⟩ => ?_
  refine bindI hl hs h fun ρ1 H1 x S1 v e1 s1 l1 r1 h1 => ?_
  obtain ⟨d, hd, q⟩ := h1.of
  dsimp only [isiV] at hd
  cases et : tagOf S1 x with
  | none => rw [et] at hd; cases hd
  | some t =>
    rw [et] at hd
    cases hd
    exact ⟨v, .ty c, .type t, .type c, isTag t c, rfl, .ty c, tag_ok s1 r1 et, kit_all t (tag_in et) c hc, q ρ1 H1 _ e1 s1 (by simp [RV])⟩

/-! ### tests -/
theorem v_tst (ha : IE X rx W a ma) (he : ∀ whole, isTrue a X.env whole = (do let v ← whole; standAt a.pos; holding [v] (truthy v)) := by intro _; rfl) : IT X rx W a (tst ma) := by
  refine pt_imp (pt_val ha he) fun σ H Q ⟨ρ, l, S, hl, hs, h⟩ => ?_
  refine bindI hl hs h fun ρ1 H1 x S1 v e1 s1 l1 r1 h1 => ?_
  cases x with
  | bl c => exact ⟨c, r1.bl, h1 ρ1 H1 e1 s1⟩
  | _ => exact False.elim h1
theorem bindT {α : Type} {K : PySem.W.Frag} {rx : Rx} {W : WX} {ma : MT} {σ : L2.St} {H : Hp} {ρ : List Addr} {l : Lo} {S : Sto} {f : Bool → Sto → Out α} {R : α → Sto → Prop} {Q1 : Bool → Hp → Prop}
    (hl : RL K ρ H l σ) (hs : RS K ρ H S) (h : Post K rx W ρ H ((ma l S).bind f) R)
    (k : ∀ ρ1 H1 x S1, Ext ρ H ρ1 H1 → RS K ρ1 H1 S1 → RL K ρ1 H1 l σ → Post K rx W ρ1 H1 (f x S1) R → Q1 x H1) : tT K rx W ma σ H Q1 :=
  ⟨ρ, l, S, hl, hs, h.bind.imp fun x S1 q ρ1 H1 e s => k ρ1 H1 x S1 e s (hl.mono e) (q.shift e)⟩
theorem back_E {K : PySem.W.Frag} {rx : Rx} {W : WX} {m : ME} {σ : L2.St} {H : Hp} {ρ ρ1 : List Addr} {H1 : Hp} {l : Lo} {S : Sto} {Q : VK} (e : Ext ρ H ρ1 H1) (l1 : RL K ρ1 H1 l σ) (s1 : RS K ρ1 H1 S) (h : Post K rx W ρ1 H1 (m l S) (QE K ρ H Q)) : tI K rx W m σ H1 Q :=
  ⟨ρ1, l, S, l1, s1, h.imp fun d S' q ρ' H' v e' => q ρ' H' v (e.trans e')⟩
theorem back_T {K : PySem.W.Frag} {rx : Rx} {W : WX} {m : MT} {σ : L2.St} {H : Hp} {ρ ρ1 : List Addr} {H1 : Hp} {l : Lo} {S : Sto} {Q : Bool → Hp → Prop} (e : Ext ρ H ρ1 H1) (l1 : RL K ρ1 H1 l σ) (s1 : RS K ρ1 H1 S) (h : Post K rx W ρ1 H1 (m l S) (QB K ρ H Q)) : tT K rx W m σ H1 Q :=
  ⟨ρ1, l, S, l1, s1, h.imp fun d S' q ρ' H' e' => q ρ' H' (e.trans e')⟩
abbrev IW (X : Cx) (rx : Rx) (W : WX) (e : Expr) (m : MT) : Prop := PW X e (tT X.K rx W m)
variable {ta tb : MT} {rest : List Expr}
theorem v_and1 (h : IT X rx W a ta) : IW X rx W (.BoolOp .And [a] pos) ta := pw_and1 h
theorem v_or1 (h : IT X rx W a ta) : IW X rx W (.BoolOp .Or [a] pos) ta := pw_or1 h
theorem v_andT (h : IT X rx W a ta) (h' : IW X rx W (.BoolOp .And (b :: rest) pos) tb) : IW X rx W (.BoolOp .And (a :: b :: rest) pos) (andT ta tb) :=
  pw_imp (pw_and h h') fun σ H Q ⟨ρ, l, S, hl, hs, h⟩ => bindT hl hs h fun ρ1 H1 c S1 e1 s1 l1 h1 => by
    cases c with
    | true =>
      rw [if_pos rfl] at h1 ⊢
      exact back_T e1 l1 s1 h1
    | false =>
      rw [if_neg Bool.false_ne_true] at h1 ⊢
      exact h1 ρ1 H1 e1 s1
theorem v_orT (h : IT X rx W a ta) (h' : IW X rx W (.BoolOp .Or (b :: rest) pos) tb) : IW X rx W (.BoolOp .Or (a :: b :: rest) pos) (orT ta tb) :=
  pw_imp (pw_or h h') fun σ H Q ⟨ρ, l, S, hl, hs, h⟩ => bindT hl hs h fun ρ1 H1 c S1 e1 s1 l1 h1 => by
    cases c with
    | true =>
      rw [if_pos rfl] at h1 ⊢
      exact h1 ρ1 H1 e1 s1
    | false =>
      rw [if_neg Bool.false_ne_true] at h1 ⊢
      exact back_T e1 l1 s1 h1
theorem v_bop (h : IW X rx W a ta) : IT X rx W a ta := PW.pt h
theorem v_notT (h : IT X rx W a ta) : IT X rx W (.UnaryOp .Not a pos) (notT ta) :=
  pt_imp (pt_not h) fun σ H Q ⟨ρ, l, S, hl, hs, h⟩ => bindT hl hs h fun ρ1 H1 c S1 e1 s1 l1 h1 => h1 ρ1 H1 e1 s1
theorem v_oneE {op} (h : IE X rx W a ma) : IE X rx W (.BoolOp op [a] pos) ma := pe_one h
theorem v_andE (ha : IE X rx W a ma) (hb : IE X rx W (.BoolOp .And (b :: rest) pos) mb) : IE X rx W (.BoolOp .And (a :: b :: rest) pos) (andE ma mb) :=
  pe_imp (pe_and ha hb) fun σ H Q ⟨ρ, l, S, hl, hs, h⟩ => bindI hl hs h fun ρ1 H1 x S1 v e1 s1 l1 r1 h1 => by
    cases x with
    | bl c =>
      refine ⟨c, r1.bl, ?_⟩
      cases c with
      | true =>
        rw [if_pos rfl]
        exact back_E e1 l1 s1 h1
      | false =>
        rw [if_neg Bool.false_ne_true]
        exact h1 ρ1 H1 _ e1 s1 (by simp [RV])
    | _ => exact False.elim h1
theorem v_orE (ha : IE X rx W a ma) (hb : IE X rx W (.BoolOp .Or (b :: rest) pos) mb) : IE X rx W (.BoolOp .Or (a :: b :: rest) pos) (orE ma mb) :=
  pe_imp (pe_or ha hb) fun σ H Q ⟨ρ, l, S, hl, hs, h⟩ => bindI hl hs h fun ρ1 H1 x S1 v e1 s1 l1 r1 h1 => by
    cases x with
    | bl c =>
      refine ⟨c, r1.bl, ?_⟩
      cases c with
      | true =>
        rw [if_pos rfl]
        exact h1 ρ1 H1 _ e1 s1 (by simp [RV])
      | false =>
        rw [if_neg Bool.false_ne_true]
        exact back_E e1 l1 s1 h1
    | _ => exact False.elim h1
theorem v_notE (ha : IE X rx W a ma) : IE X rx W (.UnaryOp .Not a pos) (notE ma) :=
  pe_imp (pe_not ha) fun σ H Q ⟨ρ, l, S, hl, hs, h⟩ => bindI hl hs h fun ρ1 H1 x S1 v e1 s1 l1 r1 h1 => by
    cases x with
    | bl c => exact ⟨c, r1.bl, h1 ρ1 H1 _ e1 s1 (by simp [RV])⟩
    | _ => exact False.elim h1

/-! ### calls -/
/-- what a def promises: what f tells -/
def FnPost (K : PySem.W.Frag) (rx : Rx) (ρ : List Addr) (H : Hp) (Q : VK) (E : XK) : Out (DV × Bool) → Prop
  | .ok (d, false) S' => ∀ H' v, Ext ρ H ρ H' → RS K ρ H' S' → RV K ρ H' d v → Q v H'
  | .ok (d, true) S' => ∀ H' p, Ext ρ H (ρ ++ [p]) H' → RS K (ρ ++ [p]) H' (S' ++ [d]) → Q (.ref p) H'
  | .exc c x _ S' => ∀ H' cls od, Ext ρ H ρ H' → RS K ρ H' S' → RX rx c x cls od → E cls od H'
  | .bad => False
def spF (K : PySem.W.Frag) (rx : Rx) (n : Nat) (f : Ora) : Sp := fun vs H Q E => ∃ ρ args S, vs.length = n ∧ RVs K ρ H args vs ∧ RS K ρ H S ∧ FnPost K rx ρ H Q E (f args S)
structure FnAt (P : Program) (w : World) (K : PySem.W.Frag) (mg : Str → Option Value) (base : Heap) (rx : Rx) (k : Nat) (x : Str) (ps : List Str) (f : Ora) : Prop where
  ex : ∃ (g : Addr) (fd : FuncData), mg x = some (.ref g) ∧ PySem.W.keepIn K (.ref g) = true ∧ Binds K fd ps [] ∧ FnOk P w K mg base (L2.CX P w) k g fd ps (spF K rx ps.length f)
theorem RVs.snoc_ext {K : PySem.W.Frag} {ρ : List Addr} {p : Addr} {H : Hp} {S : Sto} {d : DV} (s : RS K (ρ ++ [p]) H (S ++ [d])) : RS K ρ H S ∧ RV K ρ H d (.ref p) := by
  have hl : ρ.length = S.length := by
    have := s.len
    simp at this
    exact this
  have t := s.take ρ.length
  rw [List.take_left, hl, List.take_left] at t
  refine ⟨t, ?_⟩
  have h1 : (ρ ++ [p])[ρ.length]? = some p := by rw [List.getElem?_append_right (Nat.le_refl _), Nat.sub_self]; rfl
  have h2 : (S ++ [d])[ρ.length]? = some d := by rw [hl, List.getElem?_append_right (Nat.le_refl _), Nat.sub_self]; rfl
  have q := s.at_ _ _ _ h1 h2
  have hn : p ∉ ρ := fun m => by
    have := s.nd
    rw [List.nodup_append] at this
    exact this.2.2 p m p (by simp) rfl
  have hsub : ∀ a ∈ ρ, a ∈ ρ ++ [p] := fun a h => List.mem_append_left _ h
  cases d with
  | lst xs =>
    obtain ⟨vs, h3, h4, h5⟩ := q
    simp only [RV]
    exact ⟨p, vs, rfl, hn, h3, h4.free hsub h5⟩
  | dk kvs =>
    obtain ⟨vs, h3, h4, h5⟩ := q
    simp only [RV]
    exact ⟨p, vs, rfl, hn, h3, h4.free hsub h5⟩
  | _ => exact False.elim q
theorem Ext.init {ρ : List Addr} {p : Addr} {H H' : Hp} (e : Ext ρ H (ρ ++ [p]) H') : Ext ρ H ρ H' := ⟨⟨[], by simp⟩, e.keep, e.tups, e.frzs, fun a h => .inl h, e.there⟩
theorem v_call {e : Expr} {es : List Expr} {ms : MA} {x : Str} {p : Pos} {k : Nat} {ps : List Str} {f : Ora} (F : FnAt X.prog X.w X.K X.mg X.base rx k x ps f) (hr : Room k X.A) (tk : Takes X W) (ha : IA X rx W (e :: es) ms) (hn : ∀ l S xs S', ms l S = .ok xs S' → xs.length = ps.length)
    (hg : Gl X x := by rfl) (hdb : (x == ("__debug__" : Str)) = false := by decide) (he : starEach (e :: es) X.env = (false, eval e X.env) :: starEach es X.env := by rfl) (hpl : (backTo pos (starEach es X.env)).any (·.1) = false := by rfl) :
    IE X rx W (.Call (.Name x p) (e :: es) [] pos) (call f ms) := by
  obtain ⟨g, fd, hm, hk, hb, ok⟩ := F.ex
  refine pe_imp (pe_callS (E := WE W) ok hr hg hm hk hb (fun σ => passAt tk σ) ha hdb he hpl) fun σ H Q ⟨ρ, l, S, hl, hs, h⟩ => ?_
  have h' : Post X.K rx W ρ H ((ms l S).bind _) (QE X.K ρ H Q) := h
  cases em : ms l S with
  | bad => rw [em] at h'; exact False.elim h'
  | exc c x l' S' => rw [em] at h'; exact ⟨ρ, l, S, hl, hs, by rw [em]; exact h'⟩
  | ok xs S1 =>
    rw [em] at h'
    refine ⟨ρ, l, S, hl, hs, ?_⟩
    rw [em]
    intro ρ1 H1 vs e1 s1 r1
    refine ⟨ρ1, xs, S1, by rw [← r1.length]; exact hn l S xs S1 em, r1, s1, ?_⟩
    simp only [Out.bind] at h'
    cases ef : f xs S1 with
    | bad => rw [ef] at h'; exact h'
    | exc c x l' S2 =>
      rw [ef] at h'
      intro H' cls od e2 s2 q
      exact h' ρ1 H' σ cls od (e1.trans e2) s2 ((hl.mono e1).mono e2) q
    | ok dw S2 =>
      obtain ⟨d, w⟩ := dw
      rw [ef] at h'
      cases w with
      | false => exact fun H' v e2 s2 r2 => h' ρ1 H' v (e1.trans e2) s2 r2
      | true => exact fun H' p e2 s2 => h' ρ1 H' _ (e1.trans e2.init) (RVs.snoc_ext s2).1 (RVs.snoc_ext s2).2
theorem v_callR {e : Expr} {es : List Expr} {ms : MA} {x : Str} {p : Pos} {k : Nat} {ps : List Str} {f : Ora} (F : FnAt X.prog X.w X.K X.mg X.base rx k x ps f) (hr : Room k X.A) (tk : Takes X W) (ha : IA X rx W (e :: es) ms) (hn : ∀ l S xs S', ms l S = .ok xs S' → xs.length = ps.length)
    (hg : Gl X x := by rfl) (hdb : (x == ("__debug__" : Str)) = false := by decide) (he : starEach (e :: es) X.env = (false, eval e X.env) :: starEach es X.env := by rfl) (hpl : (backTo pos (starEach es X.env)).any (·.1) = false := by rfl) :
    IE X rx W (.Call (.Name x p) (e :: es) [] pos) (callR f ms) := by
  obtain ⟨g, fd, hm, hk, hb, ok⟩ := F.ex
  refine pe_imp (pe_callS (E := WE W) ok hr hg hm hk hb (fun σ => passAt tk σ) ha hdb he hpl) fun σ H Q ⟨ρ, l, S, hl, hs, h⟩ => ?_
  have h' : Post X.K rx W ρ H ((ms l S).bind _) (QE X.K ρ H Q) := h
  cases em : ms l S with
  | bad => rw [em] at h'; exact False.elim h'
  | exc c x l' S' => rw [em] at h'; exact ⟨ρ, l, S, hl, hs, by rw [em]; exact h'⟩
  | ok xs S1 =>
    rw [em] at h'
    refine ⟨ρ, l, S, hl, hs, ?_⟩
    rw [em]
    intro ρ1 H1 vs e1 s1 r1
    refine ⟨ρ1, xs, S1, by rw [← r1.length]; exact hn l S xs S1 em, r1, s1, ?_⟩
    simp only [Out.bind] at h'
    cases ef : f xs S1 with
    | bad => rw [ef] at h'; exact h'
    | exc c x l' S2 =>
      rw [ef] at h'
      intro H' cls od e2 s2 q
      exact h' ρ1 H' σ cls od (e1.trans e2) s2 ((hl.mono e1).mono e2) q
    | ok dw S2 =>
      obtain ⟨d, w⟩ := dw
      rw [ef] at h'
      cases w with
      | false => exact False.elim h'
      | true =>
        dsimp only at h'
        split at h'
        · refine fun H' p e2 s2 => h' (ρ1 ++ [p]) H' _ (e1.trans e2) s2 ?_
          simp only [RV]
          have hl2 : ρ1.length = S2.length := by
            have := s2.len
            simp at this
            exact this
          exact ⟨p, by rw [← hl2, List.getElem?_append_right (Nat.le_refl _), Nat.sub_self]; rfl, rfl⟩
        · exact False.elim h'
end
end Y
namespace Y
open PySem L2
/-! ### statements -/
def QS (K : PySem.W.Frag) (ρ : List Addr) (H : Hp) (D : Ends) : Fl → Sto → Prop
  | .nx l, S => ∀ ρ' H' σ', Ext ρ H ρ' H' → RS K ρ' H' S → RL K ρ' H' l σ' → D.nx σ' H'
  | .bk l, S => ∀ ρ' H' σ', Ext ρ H ρ' H' → RS K ρ' H' S → RL K ρ' H' l σ' → D.bk σ' H'
  | .ct l, S => ∀ ρ' H' σ', Ext ρ H ρ' H' → RS K ρ' H' S → RL K ρ' H' l σ' → D.ct σ' H'
  | .rt d, S => ∀ ρ' H' v, Ext ρ H ρ' H' → RS K ρ' H' S → RV K ρ' H' d v → D.rt v H'
def tS (K : PySem.W.Frag) (rx : Rx) (W : WX) (m : MS) : TS := fun D σ H => ∃ ρ l S, RL K ρ H l σ ∧ RS K ρ H S ∧ Post K rx W ρ H (m l S) (QS K ρ H D)
theorem ps_imp {X : Cx} {e : Stmt} {t t' : TS} (h : PS X e t) (f : ∀ D σ H, t' D σ H → t D σ H) : PS X e t' := ⟨fun pins s σ H D I q => h.run pins s σ H D I (f D σ H q)⟩
theorem pss_imp {X : Cx} {e : List Stmt} {t t' : TS} (h : PSs X e t) (f : ∀ D σ H, t' D σ H → t D σ H) : PSs X e t' := ⟨fun pins s σ H D I q => h.run pins s σ H D I (f D σ H q)⟩
theorem QS.back {K : PySem.W.Frag} {ρ ρ1 : List Addr} {H H1 : Hp} {D : Ends} {f : Fl} {S : Sto} (e : Ext ρ H ρ1 H1) (h : QS K ρ H D f S) : QS K ρ1 H1 D f S := by
  cases f with
  | nx l => exact fun ρ' H' σ' e' => h ρ' H' σ' (e.trans e')
  | bk l => exact fun ρ' H' σ' e' => h ρ' H' σ' (e.trans e')
  | ct l => exact fun ρ' H' σ' e' => h ρ' H' σ' (e.trans e')
  | rt d => exact fun ρ' H' v e' => h ρ' H' v (e.trans e')
theorem back_S {K : PySem.W.Frag} {rx : Rx} {W : WX} {m : MS} {σ : L2.St} {H : Hp} {ρ ρ1 : List Addr} {H1 : Hp} {l : Lo} {S : Sto} {D : Ends} (e : Ext ρ H ρ1 H1) (l1 : RL K ρ1 H1 l σ) (s1 : RS K ρ1 H1 S) (h : Post K rx W ρ1 H1 (m l S) (QS K ρ H D)) : tS K rx W m D σ H1 :=
  ⟨ρ1, l, S, l1, s1, h.imp fun d S' q => q.back e⟩
/-- a target -/
def TgOk (K : PySem.W.Frag) (g : TG) (t : Tg) : Prop := ∀ (ρ : List Addr) (H : Hp) (l : Lo) (σ : L2.St) (d : DV) (v : V) (l' : Lo) (Q : L2.St → Hp → Prop), RL K ρ H l σ → RV K ρ H d v → t d l = some l' → (∀ σ', RL K ρ H l' σ' → Q σ' H) → g v σ H Q
structure IG (X : Cx) (e : Expr) (t : Tg) : Prop where
  ex : ∃ g, PG X e g ∧ TgOk X.K g t
theorem tg_name {K : PySem.W.Frag} (i : Nat) : TgOk K (gName i) (tN i) := fun ρ H l σ d v l' Q hl hv e k => by
  cases e
  exact k _ (hl.set i hv)
def gNames : List Nat → TGs
  | [] => gNil
  | i :: is => gCons (gName i) (gNames is)
theorem tg_names {K : PySem.W.Frag} {ρ : List Addr} {H : Hp} {Q : L2.St → Hp → Prop} : ∀ (is : List Nat) (xs : List DV) (vs : List V) (l : Lo) (σ : L2.St), RL K ρ H l σ → RVs K ρ H xs vs → xs.length = is.length →
    (∀ σ', RL K ρ H ((is.zip xs).foldl (fun l p => l.set p.1 (some p.2)) l) σ' → Q σ' H) → gNames is vs σ H Q
  | [], [], vs, l, σ, hl, hv, _, k => by
    simp only [RVs] at hv
    exact ⟨hv, k σ hl⟩
  | i :: is, x :: xs, vs, l, σ, hl, hv, hn, k => by
    simp only [RVs] at hv
    obtain ⟨v, r, rfl, h1, h2⟩ := hv
    exact ⟨v, r, rfl, tg_names is xs r _ _ (hl.set i h1) h2 (by simpa using hn) k⟩
theorem tg_tup {K : PySem.W.Frag} (is : List Nat) : TgOk K (gTup K is.length (gNames is)) (tU is) := fun ρ H l σ d v l' Q hl hv e k => by
  unfold tU at e
  split at e
  · rename_i xs
    split at e
    · rename_i hn
      cases e
      obtain ⟨a, vs, rfl, h1, h2⟩ := hv.tup
      exact ⟨a, vs, rfl, h1, by rw [← h2.length]; exact hn, tg_names is xs vs l σ hl h2 hn k⟩
    · cases e
  · cases e
section
variable {X : Cx} {rx : Rx} {W : WX} {a b e tg : Expr} {ma mb me : ME} {pos : Pos} {st : Stmt} {rest : List Stmt}
abbrev IS (X : Cx) (rx : Rx) (W : WX) (st : Stmt) (m : MS) : Prop := PS X st (tS X.K rx W m)
abbrev ISs (X : Cx) (rx : Rx) (W : WX) (st : List Stmt) (m : MS) : Prop := PSs X st (tS X.K rx W m)
theorem g_name (i : Nat) {x : Str} (hN : X.N.Nodup) (hi : X.N[i]? = some x := by rfl) (hx : Loc X.env.scope x := by first | exact Or.inl rfl | exact Or.inr rfl) (hf : X.fn x = true ∨ X.env.scope.names.lookup x = some .local := by first | exact .inl rfl | exact .inr rfl) : IG X (.Name x pos) (tN i) :=
  ⟨_, pg_name hN hi hx hf, tg_name i⟩
structure IGs (X : Cx) (es : List Expr) (is : List Nat) : Prop where
  run : PGs X es (gNames is)
theorem gs_nil : IGs X [] [] := ⟨pgs_nil⟩
theorem gs_cons (i : Nat) {x : Str} {es : List Expr} {is : List Nat} (hN : X.N.Nodup) (h : IGs X es is) (hi : X.N[i]? = some x := by rfl) (hx : Loc X.env.scope x := by first | exact Or.inl rfl | exact Or.inr rfl) (hf : X.fn x = true ∨ X.env.scope.names.lookup x = some .local := by first | exact .inl rfl | exact .inr rfl)
    (hs : (assignEach (.Name x pos :: es) X.env).map (·.2) = assign (.Name x pos) X.env :: (assignEach es X.env).map (·.2) := by rfl) : IGs X (.Name x pos :: es) (i :: is) :=
  ⟨pgs_cons (pg_name hN hi hx hf) h.run hs⟩
theorem g_tup {es : List Expr} {is : List Nat} {k : Nat} (hc : X.calm = true) (h : IGs X es is) (hn : (assignEach es X.env).length = is.length := by rfl) (hst : (assignEach es X.env).findIdx? (·.1) = none := by rfl) : IG X (.Tuple es k pos) (tU is) :=
  ⟨_, pg_tup hc h.run hn hst, tg_tup is⟩

theorem v_skip : ISs X rx W [] skip := pss_imp pss_nil fun D σ H ⟨ρ, l, S, hl, hs, h⟩ => h ρ H σ .refl hs hl
theorem v_one {m : MS} (h : IS X rx W st m) : ISs X rx W [st] m := pss_one h
theorem v_seq {m m' : MS} (h : IS X rx W st m) (h' : ISs X rx W rest m') : ISs X rx W (st :: rest) (seq m m') :=
  pss_imp (pss_cons h h') fun D σ H ⟨ρ, l, S, hl, hs, h⟩ => ⟨ρ, l, S, hl, hs, h.bind.imp fun f S1 q => by
    cases f with
    | nx l1 => exact fun ρ' H' σ' e' s' l' => back_S e' l' s' (q.shift e')
    | bk l1 => exact q
    | ct l1 => exact q
    | rt d => exact q⟩
theorem v_asg {t : Tg} (he : IE X rx W e me) (hg : IG X tg t) (hs : swapsWithSole [tg] e pos.line X.env = pure false := by rfl) (hw : swappedStores [tg] e X.env = pure none := by rfl)
    (h1 : (assignEach [tg] X.env).map (·.2) = [assign tg X.env] := by rfl) : IS X rx W (.Assign [tg] e pos) (asg t me) := by
  obtain ⟨g, hp, ht⟩ := hg.ex
  refine ps_imp (ps_asg he hp hs hw h1) fun D σ H ⟨ρ, l, S, hl, hs, h⟩ => ?_
  refine bindI hl hs h fun ρ1 H1 x S1 v e1 s1 l1 r1 h1 => ?_
  split at h1
  · rename_i l' hl'
    exact ht ρ1 H1 l σ x v l' _ l1 r1 hl' fun σ' l2 => h1 ρ1 H1 σ' e1 s1 l2
  · exact False.elim h1
theorem v_set (i : Nat) {x : Str} {pos' : Pos} (hN : X.N.Nodup) (he : IE X rx W e me) (hi : X.N[i]? = some x := by rfl) (hx : Loc X.env.scope x := by first | exact Or.inl rfl | exact Or.inr rfl) (hs : swapsWith e (some (.Name x pos')) pos.line X.env = pure false := by rfl)
    (hf : X.fn x = true ∨ X.env.scope.names.lookup x = some .local := by first | exact .inl rfl | exact .inr rfl) : IS X rx W (.Assign [.Name x pos'] e pos) (asg (tN i) me) :=
  ps_imp (ps_set hN hi hx he hs hf) fun D σ H ⟨ρ, l, S, hl, hs, h⟩ => bindI hl hs h fun ρ1 H1 x S1 v e1 s1 l1 r1 h1 => h1 ρ1 H1 _ e1 s1 (l1.set i r1)
theorem v_ret (he : IE X rx W e me) : IS X rx W (.Return (some e) pos) (ret me) :=
  ps_imp (ps_ret he) fun D σ H ⟨ρ, l, S, hl, hs, h⟩ => bindI hl hs h fun ρ1 H1 x S1 v e1 s1 l1 r1 h1 => h1 ρ1 H1 v e1 s1 r1
theorem v_retN : IS X rx W (.Return none pos) retN := ps_imp ps_retN fun D σ H ⟨ρ, l, S, hl, hs, h⟩ => h ρ H .non .refl hs (by simp [RV])
theorem v_pass : IS X rx W (.Pass pos) skip := ps_imp ps_pass fun D σ H ⟨ρ, l, S, hl, hs, h⟩ => h ρ H σ .refl hs hl
theorem v_brk : IS X rx W (.Break pos) brk := ps_imp ps_break fun D σ H ⟨ρ, l, S, hl, hs, h⟩ => h ρ H σ .refl hs hl
theorem v_cont : IS X rx W (.Continue pos) cont := ps_imp ps_continue fun D σ H ⟨ρ, l, S, hl, hs, h⟩ => h ρ H σ .refl hs hl
theorem v_if {c : MT} {m m' : MS} {t t' : List Stmt} (hc : IT X rx W e c) (h : ISs X rx W t m) (h' : ISs X rx W t' m') : IS X rx W (.If e t t' pos) (ifS c m m') :=
  ps_imp (ps_if hc h h') fun D σ H ⟨ρ, l, S, hl, hs, h⟩ => bindT hl hs h fun ρ1 H1 k S1 e1 s1 l1 h1 => by
    cases k with
    | true =>
      rw [if_pos rfl] at h1 ⊢
      exact back_S e1 l1 s1 h1
    | false =>
      rw [if_neg Bool.false_ne_true] at h1 ⊢
      exact back_S e1 l1 s1 h1
theorem v_drop (he : IE X rx W e me) (hs : swapsWith e none pos.line X.env = pure false := by rfl) : IS X rx W (.Expr e pos) (drop me) :=
  ps_imp (ps_expr he hs) fun D σ H ⟨ρ, l, S, hl, hs, h⟩ => bindI hl hs h fun ρ1 H1 x S1 v e1 s1 l1 r1 h1 => h1 ρ1 H1 _ e1 s1 l1
theorem tyL {K : PySem.W.Frag} {ρ : List Addr} {H : Hp} {S : Sto} {x : DV} {v : V} (s : RS K ρ H S) (r : RV K ρ H x v) (h : (lstOf S x).isSome = true) : tyV K "list" v H := by
  obtain ⟨xs, e⟩ := Option.isSome_iff_exists.mp h
  obtain ⟨a, vs, rfl, h1, _⟩ := r.lstOf s e
  exact .inl ⟨rfl, vs, SqL.of h1⟩
theorem RV.ref {K : PySem.W.Frag} {ρ : List Addr} {H : Hp} {k : Nat} {v : V} (h : RV K ρ H (.ref k) v) : ∃ a, ρ[k]? = some a ∧ v = .ref a := by simpa only [RV] using h
theorem v_app {apos cpos : Pos} (ha : IE X rx W a ma) (he : IE X rx W e me) (hbase : attributeBase a "append" X.env (eval a X.env) = eval a X.env := by rfl)
    (hfew : ((backTo cpos (starEach [e] X.env)).all (fun x => !x.1) && (backToKw cpos (keywordEach [] X.env)).all (fun x => x.1.isSome)
      && decide (([e]).length + ([] : List Keyword).length + (if ([] : List Keyword).isEmpty then 0 else 1) < 30)) = true := by rfl)
    (hline : (apos.endLine == cpos.line) = true := by rfl) (hs : starEach [e] X.env = (false, eval e X.env) :: starEach [] X.env := by rfl) (hplain : (backTo cpos (starEach [] X.env)).any (·.1) = false := by rfl)
    (hsw : swapsWith (.Call (.Attribute a "append" apos) [e] [] cpos) none pos.line X.env = pure false := by rfl) : IS X rx W (.Expr (.Call (.Attribute a "append" apos) [e] [] cpos) pos) (app ma me) := by
  refine ps_imp (ps_expr (pe_bm PySem.F.plainAttrs_list PySem.F.slot_list_append PySem.F.type_list_append mt_append ha (pa_cons he pa_nil hs) hbase hfew hline hs hplain) hsw) fun D σ H ⟨ρ, l, S, hl, hs, h⟩ => ?_
  refine bindI hl hs h fun ρ1 H1 x S1 v e1 s1 l1 r1 h1 => ?_
  split at h1
  · rename_i hx
    refine ⟨tyL s1 r1 hx, bindI l1 s1 h1 fun ρ2 H2 y S2 u e2 s2 l2 r2 h2 => ?_⟩
    split at h2
    · rename_i k
      split at h2
      · rename_i xs hk
        split at h2
        · rename_i hz
          obtain ⟨p, hp, rfl⟩ := (r1.mono e2).ref
          obtain ⟨vs, h3, h4, h5⟩ := s2.at_ k p _ hp hk
          refine ⟨p, vs, u, rfl, rfl, h3, by rw [← h4.length, ← LIM_eq]; exact hz.1, ?_⟩
          have ew : Ext ρ2 H2 ρ2 (upd H2 p (.lst (vs ++ [u]))) := ext_write s2 (List.mem_of_getElem? hp)
          refine h2 ρ2 _ σ (e1.trans (e2.trans ew)) (s2.write hp ⟨_, upd_same, (h4.append (rvs1 r2)).mono ew, noRefs_app h5 ?_⟩) (l2.mono ew)
          simp only [noRefs, hz.2]
          all_goals rfl
        · exact False.elim h2
      · exact False.elim h2
    · exact False.elim h2
  · exact False.elim h1
theorem v_ext {apos cpos : Pos} (ha : IE X rx W a ma) (he : IE X rx W e me) (hbase : attributeBase a "extend" X.env (eval a X.env) = eval a X.env := by rfl)
    (hfew : ((backTo cpos (starEach [e] X.env)).all (fun x => !x.1) && (backToKw cpos (keywordEach [] X.env)).all (fun x => x.1.isSome)
      && decide (([e]).length + ([] : List Keyword).length + (if ([] : List Keyword).isEmpty then 0 else 1) < 30)) = true := by rfl)
    (hline : (apos.endLine == cpos.line) = true := by rfl) (hs : starEach [e] X.env = (false, eval e X.env) :: starEach [] X.env := by rfl) (hplain : (backTo cpos (starEach [] X.env)).any (·.1) = false := by rfl)
    (hsw : swapsWith (.Call (.Attribute a "extend" apos) [e] [] cpos) none pos.line X.env = pure false := by rfl) : IS X rx W (.Expr (.Call (.Attribute a "extend" apos) [e] [] cpos) pos) (ext ma me) := by
  refine ps_imp (ps_expr (pe_bm PySem.F.plainAttrs_list PySem.F.slot_list_extend PySem.F.type_list_extend mt_extend ha (pa_cons he pa_nil hs) hbase hfew hline hs hplain) hsw) fun D σ H ⟨ρ, l, S, hl, hs, h⟩ => ?_
  refine bindI hl hs h fun ρ1 H1 x S1 v e1 s1 l1 r1 h1 => ?_
  split at h1
  · rename_i hx
    refine ⟨tyL s1 r1 hx, bindI l1 s1 h1 fun ρ2 H2 y S2 u e2 s2 l2 r2 h2 => ?_⟩
    split at h2
    · rename_i k
      split at h2
      · rename_i xs ys hk hy
        split at h2
        · rename_i hz
          obtain ⟨p, hp, rfl⟩ := (r1.mono e2).ref
          obtain ⟨vs, h3, h4, h5⟩ := s2.at_ k p _ hp hk
          obtain ⟨q, ws, rfl, h6, h7⟩ := r2.lstOf s2 hy
          refine ⟨p, q, vs, ws, rfl, rfl, h3, h6, by rw [← h4.length, ← h7.length, ← LIM_eq]; exact hz.1, ?_⟩
          have ew : Ext ρ2 H2 ρ2 (upd H2 p (.lst (vs ++ ws))) := ext_write s2 (List.mem_of_getElem? hp)
          exact h2 ρ2 _ σ (e1.trans (e2.trans ew)) (s2.write hp ⟨_, upd_same, (h4.append h7).mono ew, noRefs_app h5 hz.2⟩) (l2.mono ew)
        · exact False.elim h2
      · exact False.elim h2
    · exact False.elim h2
  · exact False.elim h1
theorem v_setL {i : Expr} {mi : ME} {tpos : Pos} (he : IE X rx W e me) (ha : IE X rx W a ma) (hi : IE X rx W i mi) (hpg : ∀ {to ti : TE} {t : TSet}, PE X a to → PE X i ti → PSet X t → PG X (.Subscript a i tpos) (gSub to ti t) := by intro _ _ _ h1 h2 h3; exact pg_sub h1 h2 h3)
    (hs : swapsWithSole [.Subscript a i tpos] e pos.line X.env = pure false := by rfl) (hw : swappedStores [.Subscript a i tpos] e X.env = pure none := by rfl)
    (h1 : (assignEach [.Subscript a i tpos] X.env).map (·.2) = [assign (.Subscript a i tpos) X.env] := by rfl) : IS X rx W (.Assign [.Subscript a i tpos] e pos) (setL ma mi me) := by
  refine ps_imp (ps_asg he (hpg ha hi set_list) hs hw h1) fun D σ H ⟨ρ, l, S, hl, hs, h⟩ => ?_
  refine bindI hl hs h fun ρ1 H1 y S1 u e1 s1 l1 r1 h1 => ?_
  refine bindI l1 s1 h1 fun ρ2 H2 x S2 v e2 s2 l2 r2 h2 => ?_
  refine bindI l2 s2 h2 fun ρ3 H3 j S3 w e3 s3 l3 r3 h3 => ?_
  split at h3
  · rename_i k j
    split at h3
    · rename_i xs hk
      split at h3
      · rename_i m hm
        split at h3
        · rename_i hn
          obtain ⟨p, hp, rfl⟩ := (r2.mono e3).ref
          obtain ⟨vs, h4, h5, h6⟩ := s3.at_ k p _ hp hk
          rw [r3.int]
          refine ⟨p, vs, j, m, rfl, rfl, h4, by rw [← h5.length]; exact hm, ?_⟩
          have ew : Ext ρ3 H3 ρ3 (upd H3 p (.lst (vs.set m u))) := ext_write s3 (List.mem_of_getElem? hp)
          exact h3 ρ3 _ σ (e1.trans (e2.trans (e3.trans ew))) (s3.write hp ⟨_, upd_same, (h5.set m ((r1.mono e2).mono e3)).mono ew, noRefs_set m h6 hn⟩) (l3.mono ew)
        · exact False.elim h3
      · exact False.elim h3
    · exact False.elim h3
  · exact False.elim h3
theorem v_pop {apos cpos : Pos} (ha : IE X rx W a ma) (hbase : attributeBase a "pop" X.env (eval a X.env) = eval a X.env := by rfl) (hline : (apos.endLine == cpos.line) = true := by rfl) :
    IE X rx W (.Call (.Attribute a "pop" apos) [] [] cpos) (popE ma) := by
  refine pe_imp (pe_bm0 PySem.F.plainAttrs_list PySem.F.slot_list_pop PySem.F.type_list_pop mt_pop ha hbase hline) fun σ H Q ⟨ρ, l, S, hl, hs, h⟩ => ?_
  refine bindI hl hs h fun ρ1 H1 x S1 v e1 s1 l1 r1 h1 => ?_
  split at h1
  · rename_i k
    split at h1
    · rename_i xs hk
      split at h1
      · rename_i y hy
        obtain ⟨p, hp, rfl⟩ := r1.ref
        obtain ⟨vs, h3, h4, h5⟩ := s1.at_ k p _ hp hk
        obtain ⟨u, hu, ru⟩ := h4.get hy
        have ew : Ext ρ1 H1 ρ1 (upd H1 p (.lst vs.dropLast)) := ext_write s1 (List.mem_of_getElem? hp)
        refine ⟨.inl ⟨rfl, vs, SqL.of h3⟩, p, vs, u, rfl, rfl, h3, by rw [← h4.length]; exact hu, ?_⟩
        refine h1 ρ1 _ u (e1.trans ew) (s1.write hp ⟨_, upd_same, ?_, noRefs_sub h5 fun d m => List.dropLast_subset _ m⟩) (ru.mono ew)
        have e1 : vs.dropLast = vs.take (xs.length - 1) := by rw [List.dropLast_eq_take, h4.length]
        have q : RVs X.K ρ1 H1 xs.dropLast vs.dropLast := by
          rw [e1, List.dropLast_eq_take]
          exact h4.take _
        exact q.mono ew
      · exact False.elim h1
    · exact False.elim h1
  · exact False.elim h1
/-- behind a turn: what the loop's rest wants -/
theorem flow_turn {K : PySem.W.Frag} {rx : Rx} {W : WX} {ρ ρ0 : List Addr} {H H0 : Hp} {D : Ends} {N : L2.St → Hp → Prop} {f : Fl} {S : Sto} {rest : Lo → Sto → Out Fl} (e0 : Ext ρ0 H0 ρ H)
    (hN : ∀ ρ' H' σ' l, Ext ρ H ρ' H' → RS K ρ' H' S → RL K ρ' H' l σ' → Post K rx W ρ' H' (rest l S) (QS K ρ' H' D) → N σ' H')
    (h : Post K rx W ρ H (match f with
      | .nx l2 => rest l2 S
      | .ct l2 => rest l2 S
      | .bk l2 => .ok (.nx l2) S
      | .rt d => .ok (.rt d) S) (QS K ρ0 H0 D)) : QS K ρ H { D with nx := N, ct := N, bk := D.nx } f S := by
  cases f with
  | nx l => exact fun ρ' H' σ' e s r => hN ρ' H' σ' l e s r ((h.shift e).imp fun _ _ q => q.back (e0.trans e))
  | ct l => exact fun ρ' H' σ' e s r => hN ρ' H' σ' l e s r ((h.shift e).imp fun _ _ q => q.back (e0.trans e))
  | bk l => exact fun ρ' H' σ' e s r => h ρ' H' σ' (e0.trans e) s r
  | rt d => exact fun ρ' H' v e s r => h ρ' H' v (e0.trans e) s r
theorem v_while {c : MT} {m : MS} {body : List Stmt} (hp : PassesOwn (model X.prog X.w) X.A X.env X.xe) (hc : IT X rx W e c) (hb : ISs X rx W body m) : IS X rx W (.While e body [] pos) (whileS c m) := by
  refine ps_imp (ps_while hp hc hb) fun D σ H ⟨ρ, l, S, hl, hs, h⟩ => ?_
  refine ⟨fun n σ1 H1 => ∃ ρ1 l1 S1, RL X.K ρ1 H1 l1 σ1 ∧ RS X.K ρ1 H1 S1 ∧ Post X.K rx W ρ1 H1 (whileN c m n l1 S1) (QS X.K ρ1 H1 D), ⟨TURNS, ρ, l, S, hl, hs, h⟩, ?_⟩
  rintro n σ1 H1 ⟨ρ1, l1, S1, hl1, hs1, h1⟩
  cases n with
  | zero => exact False.elim h1
  | succ n =>
    unfold whileN at h1
    refine bindT hl1 hs1 h1 fun ρ2 H2 k S2 e2 s2 l2 h2 => ?_
    cases k with
    | true =>
      rw [if_pos rfl] at h2 ⊢
      refine ⟨_, fun σ' H' q => ⟨n, Nat.lt_succ_self n, q⟩, ρ2, l1, S2, l2, s2, h2.bind.imp fun f S3 h3 => ?_⟩
      exact flow_turn e2 (fun ρ' H' σ' l e s r q => ⟨ρ', l, S3, r, s, q⟩) h3
    | false =>
      rw [if_neg Bool.false_ne_true] at h2 ⊢
      exact h2 ρ2 H2 σ1 e2 s2 l2

/-! ### for -/
/-- a source: what it gives at each turn -/
structure Src (K : PySem.W.Frag) (ρ : List Addr) (H : Hp) (xs : List DV) (gs : List (Nat × DV)) (J : It) (G : Hp → Prop) (Y : Nat → Hp → V → Hp → Prop) : Prop where
  walk : Walk J xs.length G Y
  go : ∀ ρ1 H1 S1, Ext ρ H ρ1 H1 → RS K ρ1 H1 S1 → held S1 gs = true → G H1
  yl : ∀ ρ1 H1 S1, Ext ρ H ρ1 H1 → RS K ρ1 H1 S1 → held S1 gs = true → ∀ i x H2, i < xs.length → Y i H1 x H2 → ∃ d, xs[i]? = some d ∧ RV K ρ1 H2 d x ∧ Ext ρ1 H1 ρ1 H2 ∧ RS K ρ1 H2 S1
def tN' (K : PySem.W.Frag) (rx : Rx) (W : WX) (m : MI) : TI := fun σ H R => ∃ ρ l S, RL K ρ H l σ ∧ RS K ρ H S ∧ Post K rx W ρ H (m l S) fun p S' =>
  ∀ ρ' H' J G Y, Ext ρ H ρ' H' → RS K ρ' H' S' → Src K ρ' H' p.1 p.2 J G Y → R J H'
abbrev II (X : Cx) (rx : Rx) (W : WX) (tg e : Expr) (m : MI) : Prop := PI X tg e (tN' X.K rx W m)
theorem pi_imp {tg e : Expr} {t t' : TI} (h : PI X tg e t) (f : ∀ σ H R, t' σ H R → t σ H R) : PI X tg e t' := ⟨fun pins s σ H R I q => h.run pins s σ H R I (f σ H R q)⟩
theorem loop_held {t : Tg} {m : MS} {gs : List (Nat × DV)} {xs : List DV} {l : Lo} {S : Sto} {K : PySem.W.Frag} {ρ : List Addr} {H : Hp} {R : Fl → Sto → Prop} (h : Post K rx W ρ H (loop t m gs xs l S) R) : held S gs = true := by
  cases xs with
  | nil =>
    unfold loop at h
    split at h
    · assumption
    · exact False.elim h
  | cons x xs =>
    unfold loop at h
    split at h
    · assumption
    · exact False.elim h
theorem v_for {t : Tg} {mi : MI} {m : MS} {it : Expr} {body : List Stmt} (hp : PassesOwn (model X.prog X.w) X.A X.env X.xe) (hc : X.calm = true) (hi : II X rx W tg it mi) (hg : IG X tg t) (hb : ISs X rx W body m)
    (hf : ∀ x, foldedSetIterable it X.env x = pure x := by intro _; rfl) : IS X rx W (.For tg it body [] pos) (forS t mi m) := by
  obtain ⟨g, hpg, ht⟩ := hg.ex
  refine ps_imp (ps_for hp hc hi hpg hb hf) fun D σ H ⟨ρ, l, S, hl, hs, h⟩ => ?_
  refine ⟨ρ, l, S, hl, hs, h.bind.imp fun p S1 h1 ρ1 H1 J G Y e1 s1 src => ?_⟩
  refine for_it src.walk (fun i σ2 H2 => ∃ ρ2 l2 S2, Ext ρ1 H1 ρ2 H2 ∧ RL X.K ρ2 H2 l2 σ2 ∧ RS X.K ρ2 H2 S2 ∧ Post X.K rx W ρ2 H2 (loop t m p.2 (p.1.drop i) l2 S2) (QS X.K ρ2 H2 D))
    ⟨ρ1, l, S1, .refl, hl.mono e1, s1, (h1.shift e1).imp fun _ _ q => q.back e1⟩ ?_ ?_ ?_
  · rintro i σ2 H2 _ ⟨ρ2, l2, S2, e2, hl2, s2, h2⟩
    exact src.go ρ2 H2 S2 e2 s2 (loop_held h2)
  · rintro i x σ2 H2 H3 hi ⟨ρ2, l2, S2, e2, hl2, s2, h2⟩ y
    obtain ⟨d, hd, r3, e3, s3⟩ := src.yl ρ2 H2 S2 e2 s2 (loop_held h2) i x H3 hi y
    have hdr : p.1.drop i = d :: p.1.drop (i + 1) := by
      obtain ⟨hlt, he⟩ := List.getElem?_eq_some_iff.mp hd
      rw [List.drop_eq_getElem_cons hlt, he]
    rw [hdr] at h2
    unfold loop at h2
    split at h2
    · split at h2
      · rename_i l3 hl3
        refine ht ρ2 H3 l2 σ2 d x l3 _ (hl2.mono e3) r3 hl3 fun σ3 hσ3 => ?_
        refine ⟨ρ2, l3, S2, hσ3, s3, (h2.shift e3).bind.imp fun f S4 h4 => ?_⟩
        exact flow_turn e3 (fun ρ' H' σ' l e s r q => ⟨ρ', l, S4, e2.trans (e3.trans e), r, s, q⟩) h4
      · exact False.elim h2
    · exact False.elim h2
  · rintro σ2 H2 ⟨ρ2, l2, S2, e2, hl2, s2, h2⟩
    rw [List.drop_length] at h2
    unfold loop at h2
    split at h2
    · exact h2 ρ2 H2 σ2 .refl s2 hl2
    · exact False.elim h2

/-! ### comprehensions -/
abbrev W0 : WX := fun _ _ _ _ => False
/-- the tests of a comprehension -/
abbrev ITs (X : Cx) (rx : Rx) (ifs : List Expr) (c : MT) : Prop := PTs X ifs (tT X.K rx W0 c)
theorem pts_imp {e : List Expr} {t t' : TT} (h : PTs X e t) (f : ∀ σ H Q, t' σ H Q → t σ H Q) : PTs X e t' := ⟨fun pins s σ H Q I q => h.run pins s σ H Q I (f σ H Q q)⟩
theorem v_ifs0 : ITs X rx [] tYes := pts_imp pts_nil fun σ H Q ⟨ρ, l, S, hl, hs, h⟩ => h ρ H .refl hs
theorem v_ifs1 {c : MT} (h : IT X rx W0 e c) : ITs X rx [e] c := pts_one h
theorem comp_held {t : Tg} {c : MT} {gs : List (Nat × DV)} {xs : List DV} {l : Lo} {n : Nat} {S : Sto} {R : Unit → Sto → Prop} {K : PySem.W.Frag} {ρ : List Addr} {H : Hp} (h : Post K rx W0 ρ H (compL t c me gs l n xs S) R) : held S gs = true := by
  cases xs with
  | nil =>
    unfold compL at h
    split at h
    · assumption
    · exact False.elim h
  | cons x xs =>
    unfold compL at h
    split at h
    · assumption
    · exact False.elim h
theorem comp_core {t : Tg} {g : TG} {c : MT} {own : List Nat} {σ : L2.St} {l : Lo} {ρ1 : List Addr} {H1 : Hp} {S1 : Sto} {p : List DV × List (Nat × DV)} {J : It} {G : Hp → Prop} {Y : Nat → Hp → V → Hp → Prop} {Qd : Hp → Prop} {D : Addr} {K : PySem.W.Frag}
    (ht : TgOk K g t) (gw : ∀ (x : V) (H0 : Hp) (Q : L2.St → Hp → Prop), g x (wipe σ own) H0 Q → g x (wipe σ own) H0 fun σ2 H2 => wipe σ2 own = wipe σ own ∧ Q σ2 H2) (hl : RL K ρ1 H1 l σ) (hs : RS K ρ1 H1 S1) (src : Src K ρ1 H1 p.1 p.2 J G Y) (hD : H1 D = none)
    (h : Post K rx W0 ρ1 H1 (compL t c me p.2 (wipeL l own) S1.length p.1 (S1 ++ [.lst []])) fun _ S2 => ∀ ρ2 H2, Ext (ρ1 ++ [D]) (upd H1 D (.lst [])) ρ2 H2 → RS K ρ2 H2 S2 → Qd H2) :
    ∃ W : Nat → Nat → Hp → Prop, (∃ m, W 0 m (upd H1 D (.lst []))) ∧ ∀ i m H, W i m H →
      (J.stop i H ∧ Qd H) ∨ (J.go i H ∧ ∃ Nx : Hp → Prop, (∀ H', Nx H' → ∃ m', m' < m ∧ W (i + 1) m' H') ∧ ∀ x H', J.yld i H x H' → g x (wipe σ own) H' fun σ2 H2 => wipe σ2 own = wipe σ own ∧ tT K rx W0 c σ2 H2 fun b H3 =>
        if b = true then tI K rx W0 me σ2 H3 fun y H4 => ∃ acc, H4 D = some (.lst acc) ∧ acc.length < sizeLine ∧ Nx (upd H4 D (.lst (acc ++ [y]))) else Nx H3) := by
  have e0 : Ext ρ1 H1 (ρ1 ++ [D]) (upd H1 D (.lst [])) := ext_push hD
  have atD : ∀ {ρ2 : List Addr} {H2 : Hp}, Ext (ρ1 ++ [D]) (upd H1 D (.lst [])) ρ2 H2 → ρ2[S1.length]? = some D := fun {ρ2 H2} e => by
    obtain ⟨t, rfl⟩ := e.pre
    rw [← hs.len, List.append_assoc, List.getElem?_append_right (Nat.le_refl _), Nat.sub_self]
    rfl
  refine lc_it src.walk (fun i H => ∃ ρ2 S2, Ext (ρ1 ++ [D]) (upd H1 D (.lst [])) ρ2 H ∧ RS K ρ2 H S2 ∧ Post K rx W0 ρ2 H (compL t c me p.2 (wipeL l own) S1.length (p.1.drop i) S2) fun _ S2 => ∀ ρ2 H2, Ext (ρ1 ++ [D]) (upd H1 D (.lst [])) ρ2 H2 → RS K ρ2 H2 S2 → Qd H2)
    ⟨ρ1 ++ [D], S1 ++ [.lst []], .refl, hs.push (d := .lst []) hD ⟨[], upd_same, by simp [RVs], rfl⟩, by rw [List.drop_zero]; exact h.shift e0⟩ ?_ ?_ ?_
  · rintro i H _ ⟨ρ2, S2, e2, s2, h2⟩
    exact src.go ρ2 H S2 (e0.trans e2) s2 (comp_held h2)
  · rintro i x H H' hi ⟨ρ2, S2, e2, s2, h2⟩ y
    obtain ⟨d, hd, r3, e3, s3⟩ := src.yl ρ2 H S2 (e0.trans e2) s2 (comp_held h2) i x H' hi y
    have hdr : p.1.drop i = d :: p.1.drop (i + 1) := by
      obtain ⟨hlt, he⟩ := List.getElem?_eq_some_iff.mp hd
      rw [List.drop_eq_getElem_cons hlt, he]
    rw [hdr] at h2
    unfold compL at h2
    split at h2
    · split at h2
      · rename_i l3 hl3
        have hlw : RL K ρ2 H' (wipeL l own) (wipe σ own) := (((hl.mono e0).mono e2).mono e3).wipe own
        refine gw _ _ _ (ht ρ2 H' _ _ d x l3 _ hlw r3 hl3 fun σ3 hσ3 => ?_)
        refine bindT hσ3 s3 (h2.shift e3) fun ρ4 H4 k S4 e4 s4 l4 h4 => ?_
        cases k with
        | true =>
          rw [if_pos rfl] at h4 ⊢
          refine bindI l4 s4 h4 fun ρ5 H5 z S5 v e5 s5 l5 r5 h5 => ?_
          have e15 := e2.trans (e3.trans (e4.trans e5))
          split at h5
          · rename_i acc hk
            split at h5
            · rename_i hz
              obtain ⟨vs, h6, h7, h8⟩ := s5.at_ _ D _ (atD e15) hk
              have ew : Ext ρ5 H5 ρ5 (upd H5 D (.lst (vs ++ [v]))) := ext_write s5 (List.mem_of_getElem? (atD e15))
              refine ⟨vs, h6, by rw [← h7.length, ← LIM_eq]; exact hz.1, ρ5, _, e15.trans ew, s5.write (d := .lst (acc ++ [z])) (atD e15) ⟨_, upd_same, (h7.append (rvs1 r5)).mono ew, noRefs_app h8 ?_⟩, h5.shift ew⟩
              simp only [noRefs, hz.2]
              all_goals rfl
            · exact False.elim h5
          · exact False.elim h5
        | false =>
          rw [if_neg Bool.false_ne_true] at h4 ⊢
          exact ⟨ρ4, S4, e2.trans (e3.trans e4), s4, h4⟩
      · exact False.elim h2
    · exact False.elim h2
  · rintro H ⟨ρ2, S2, e2, s2, h2⟩
    rw [List.drop_length] at h2
    unfold compL at h2
    split at h2
    · exact h2 ρ2 H e2 s2
    · exact False.elim h2
/-- the reading of a comprehension -/
theorem comp_read {t : Tg} {g : TG} {c : MT} {mi : MI} {own : List Nat} {σ : L2.St} {H : Hp} {Q : VK} {K : PySem.W.Frag} (ht : TgOk K g t) (gw : ∀ (x : V) (H0 : Hp) (Q : L2.St → Hp → Prop), g x (wipe σ own) H0 Q → g x (wipe σ own) H0 fun σ2 H2 => wipe σ2 own = wipe σ own ∧ Q σ2 H2)
    (h : tI K rx W (comp own t mi c me) σ H Q) : tLc (tN' K rx W mi) g (tT K rx W0 c) (tI K rx W0 me) own σ H Q := by
  obtain ⟨ρ, l, S, hl, hs, h⟩ := h
  refine ⟨ρ, l, S, hl, hs, h.bind.imp fun p S1 h1 ρ1 H1 J G Y e1 s1 src D hD => ?_⟩
  refine comp_core ht gw (hl.mono e1) s1 src hD ?_
  cases ec : compL t c me p.2 (wipeL l own) S1.length p.1 (S1 ++ [.lst []]) with
  | bad => rw [ec] at h1; exact h1
  | exc _ _ _ _ => rw [ec] at h1; exact False.elim h1
  | ok u S2 =>
    rw [ec] at h1
    intro ρ2 H2 e2 s2
    dsimp only at h1
    split at h1
    · rename_i hn
      split at h1
      · rename_i ys hy
        have hp := e2.pre
        obtain ⟨tl, rfl⟩ := hp
        have hl2 := s2.len
        have : tl = [] := List.eq_nil_of_length_eq_zero (by simp only [List.length_append, List.length_singleton, hn, s1.len] at hl2; omega)
        subst this
        rw [List.append_nil] at s2 e2
        have e12 : Ext ρ1 H1 (ρ1 ++ [D]) H2 := (ext_push hD).trans e2
        have hS : S2 = S2.take S1.length ++ [.lst ys] := by
          obtain ⟨hlt, he⟩ := List.getElem?_eq_some_iff.mp hy
          have q := List.take_append_drop S1.length S2
          rw [List.drop_eq_getElem_cons hlt, he, List.drop_eq_nil_of_le (by omega)] at q
          exact q.symm
        rw [hS] at s2
        have z := RVs.snoc_ext s2
        exact h1 ρ1 H2 _ (e1.trans e12.init) z.1 z.2
      · exact False.elim h1
    · exact False.elim h1
theorem compR_read {t : Tg} {g : TG} {c : MT} {mi : MI} {own : List Nat} {σ : L2.St} {H : Hp} {Q : VK} {K : PySem.W.Frag} (ht : TgOk K g t) (gw : ∀ (x : V) (H0 : Hp) (Q : L2.St → Hp → Prop), g x (wipe σ own) H0 Q → g x (wipe σ own) H0 fun σ2 H2 => wipe σ2 own = wipe σ own ∧ Q σ2 H2)
    (h : tI K rx W (compR own t mi c me) σ H Q) : tLc (tN' K rx W mi) g (tT K rx W0 c) (tI K rx W0 me) own σ H Q := by
  obtain ⟨ρ, l, S, hl, hs, h⟩ := h
  refine ⟨ρ, l, S, hl, hs, h.bind.imp fun p S1 h1 ρ1 H1 J G Y e1 s1 src D hD => ?_⟩
  refine comp_core ht gw (hl.mono e1) s1 src hD ?_
  cases ec : compL t c me p.2 (wipeL l own) S1.length p.1 (S1 ++ [.lst []]) with
  | bad => rw [ec] at h1; exact h1
  | exc _ _ _ _ => rw [ec] at h1; exact False.elim h1
  | ok u S2 =>
    rw [ec] at h1
    intro ρ2 H2 e2 s2
    refine h1 ρ2 H2 _ (e1.trans ((ext_push hD).trans e2)) s2 ?_
    obtain ⟨t, rfl⟩ := e2.pre
    simp only [RV]
    exact ⟨D, by rw [← s1.len, List.append_assoc, List.getElem?_append_right (Nat.le_refl _), Nat.sub_self]; rfl, rfl⟩
/-- a target that writes the comprehension's own names alone -/
structure IGo (X : Cx) (own : List Nat) (tg : Expr) (g : TG) (t : Tg) : Prop where
  ok : TgOk X.K g t
  own : ∀ (σ : L2.St) (x : V) (H0 : Hp) (Q : L2.St → Hp → Prop), g x (wipe σ own) H0 Q → g x (wipe σ own) H0 fun σ2 H2 => wipe σ2 own = wipe σ own ∧ Q σ2 H2
theorem wipe_get : ∀ (vs : List Nat) (σ : L2.St) (j : Nat), (wipe σ vs)[j]? = if j ∈ vs ∧ j < σ.length then some none else σ[j]?
  | [], σ, j => by simp [wipe]
  | v :: vs, σ, j => by
    unfold wipe
    by_cases hj : j = v
    · subst hj
      by_cases hl : j < σ.length
      · rw [List.getElem?_set_self (by rw [wipe_length]; exact hl), if_pos ⟨List.mem_cons_self, hl⟩]
      · rw [if_neg (fun z => hl z.2), List.getElem?_eq_none (by rw [List.length_set, wipe_length]; omega), List.getElem?_eq_none (by omega)]
    · rw [List.getElem?_set_ne (Ne.symm hj), wipe_get vs σ j]
      by_cases h : j ∈ vs ∧ j < σ.length
      · rw [if_pos h, if_pos ⟨List.mem_cons_of_mem _ h.1, h.2⟩]
      · rw [if_neg h, if_neg fun z => h ⟨(List.mem_cons.mp z.1).resolve_left hj, z.2⟩]
theorem wipe_own {σ : L2.St} {own : List Nat} {i : Nat} (h : i ∈ own) (x : Option V) : wipe ((wipe σ own).set i x) own = wipe σ own := by
  refine List.ext_getElem? fun j => ?_
  rw [wipe_get, wipe_get, List.length_set, wipe_length]
  by_cases hj : j ∈ own ∧ j < σ.length
  · rw [if_pos hj, if_pos hj]
  · rw [if_neg hj, if_neg hj]
    by_cases hji : j = i
    · subst hji
      have hl : ¬ j < σ.length := fun z => hj ⟨h, z⟩
      rw [List.getElem?_eq_none (by rw [List.length_set, wipe_length]; omega), List.getElem?_eq_none (by omega)]
    · rw [List.getElem?_set_ne (Ne.symm hji), wipe_get, if_neg hj]
theorem wipe_own2 {σ σ' : L2.St} {own : List Nat} {i : Nat} (h : i ∈ own) (x : Option V) (e : wipe σ' own = wipe σ own) : wipe (σ'.set i x) own = wipe σ own := by
  rw [← e]
  refine List.ext_getElem? fun j => ?_
  rw [wipe_get, wipe_get, List.length_set]
  by_cases hj : j ∈ own ∧ j < σ'.length
  · rw [if_pos hj, if_pos hj]
  · rw [if_neg hj, if_neg hj]
    by_cases hji : j = i
    · subst hji
      have hl : ¬ j < σ'.length := fun z => hj ⟨h, z⟩
      rw [List.getElem?_eq_none (by rw [List.length_set]; omega), List.getElem?_eq_none (by omega)]
    · rw [List.getElem?_set_ne (Ne.symm hji)]
theorem go_name (i : Nat) {own : List Nat} (h : i ∈ own := by decide) : IGo X own tg (gName i) (tN i) :=
  ⟨tg_name i, fun σ x H0 Q q => ⟨wipe_own h _, q⟩⟩
theorem names_own {own : List Nat} {σ : L2.St} {Q : L2.St → Hp → Prop} {H : Hp} : ∀ (is : List Nat) (vs : List V) (σ1 : L2.St), (∀ i ∈ is, i ∈ own) → wipe σ1 own = wipe σ own → gNames is vs σ1 H Q → gNames is vs σ1 H fun σ2 H2 => wipe σ2 own = wipe σ own ∧ Q σ2 H2
  | [], vs, σ1, _, e, q => ⟨q.1, e, q.2⟩
  | i :: is, vs, σ1, h, e, ⟨v, r, e1, q⟩ => ⟨v, r, e1, names_own is r _ (fun j m => h j (List.mem_cons_of_mem _ m)) (wipe_own2 (h i List.mem_cons_self) _ e) q⟩
theorem wipe_wipe {σ : L2.St} {own : List Nat} : wipe (wipe σ own) own = wipe σ own := by
  refine List.ext_getElem? fun j => ?_
  rw [wipe_get, wipe_length]
  by_cases hj : j ∈ own ∧ j < σ.length
  · rw [if_pos hj, wipe_get, if_pos hj]
  · rw [if_neg hj]
theorem go_tup (is : List Nat) {own : List Nat} (h : ∀ i ∈ is, i ∈ own := by decide) : IGo X own tg (gTup X.K is.length (gNames is)) (tU is) :=
  ⟨tg_tup is, fun σ x H0 Q ⟨a, xs, e, hq, hl, q⟩ => ⟨a, xs, e, hq, hl, names_own is xs _ h wipe_wipe q⟩⟩
theorem v_comp {t : Tg} {g : TG} {c : MT} {mi : MI} {it : Expr} {ifs : List Expr} {scope : Scope} {own : List (Str × Nat)} (hc : X.calm = true) (hN : X.N.Nodup) (hi : II X rx W tg it mi) (ok : blkC X.N X.env.scope scope own = true) (hgo : IGo X (own.map (·.2)) tg g t)
    (hg : ∀ (s : Shared) (H : Hp) (C : Addr) (cl : List (Str × Addr)) (fp : List Addr), PG (X.blk s H scope (compEnvC scope cl C X.env) fp) tg g) (ht : ∀ (s : Shared) (H : Hp) (C : Addr) (cl : List (Str × Addr)) (fp : List Addr), ITs (X.blk s H scope (compEnvC scope cl C X.env) fp) rx ifs c)
    (he : ∀ (s : Shared) (H : Hp) (C : Addr) (cl : List (Str × Addr)) (fp : List Addr), IE (X.blk s H scope (compEnvC scope cl C X.env) fp) rx W0 e me) (hs : ∀ x, foldedSetIterable it X.env x = pure x := by intro _; rfl) :
    IE X rx W (.ListComp e [⟨tg, it, ifs, 0⟩] scope pos) (comp (own.map (·.2)) t mi c me) :=
  pe_imp (pe_lc hc hN hi (blkOk_by ok) hg ht he hs) fun σ H Q h => comp_read hgo.ok (fun x => hgo.own σ x) h
theorem v_compR {t : Tg} {g : TG} {c : MT} {mi : MI} {it : Expr} {ifs : List Expr} {scope : Scope} {own : List (Str × Nat)} (hc : X.calm = true) (hN : X.N.Nodup) (hi : II X rx W tg it mi) (ok : blkC X.N X.env.scope scope own = true) (hgo : IGo X (own.map (·.2)) tg g t)
    (hg : ∀ (s : Shared) (H : Hp) (C : Addr) (cl : List (Str × Addr)) (fp : List Addr), PG (X.blk s H scope (compEnvC scope cl C X.env) fp) tg g) (ht : ∀ (s : Shared) (H : Hp) (C : Addr) (cl : List (Str × Addr)) (fp : List Addr), ITs (X.blk s H scope (compEnvC scope cl C X.env) fp) rx ifs c)
    (he : ∀ (s : Shared) (H : Hp) (C : Addr) (cl : List (Str × Addr)) (fp : List Addr), IE (X.blk s H scope (compEnvC scope cl C X.env) fp) rx W0 e me) (hs : ∀ x, foldedSetIterable it X.env x = pure x := by intro _; rfl) :
    IE X rx W (.ListComp e [⟨tg, it, ifs, 0⟩] scope pos) (compR (own.map (·.2)) t mi c me) :=
  pe_imp (pe_lc hc hN hi (blkOk_by ok) hg ht he hs) fun σ H Q h => compR_read hgo.ok (fun x => hgo.own σ x) h
/-- x = [..], x a plain local name -/
theorem v_setLc (i : Nat) {y : Str} {py spos : Pos} {t : Tg} {g : TG} {c : MT} {mi : MI} {it : Expr} {ifs : List Expr} {scope : Scope} {own : List (Str × Nat)} (hc : X.calm = true) (hN : X.N.Nodup) (hi : II X rx W tg it mi) (ok : blkC X.N X.env.scope scope own = true) (hgo : IGo X (own.map (·.2)) tg g t)
    (hg : ∀ (s : Shared) (H : Hp) (C : Addr) (cl : List (Str × Addr)) (fp : List Addr), PG (X.blk s H scope (compEnvC scope cl C X.env) fp) tg g) (ht : ∀ (s : Shared) (H : Hp) (C : Addr) (cl : List (Str × Addr)) (fp : List Addr), ITs (X.blk s H scope (compEnvC scope cl C X.env) fp) rx ifs c)
    (he : ∀ (s : Shared) (H : Hp) (C : Addr) (cl : List (Str × Addr)) (fp : List Addr), IE (X.blk s H scope (compEnvC scope cl C X.env) fp) rx W0 e me)
    (hy : X.N[i]? = some y := by rfl) (hyl : X.env.scope.names.lookup y = some .local := by rfl) (hsw : swapsWith (.ListComp e [⟨tg, it, ifs, 0⟩] scope pos) (some (.Name y py)) spos.line X.env = pure true := by exact sw_true rfl rfl rfl (by decide +kernel))
    (hs : ∀ x, foldedSetIterable it X.env x = pure x := by intro _; rfl) :
    IS X rx W (.Assign [.Name y py] (.ListComp e [⟨tg, it, ifs, 0⟩] scope pos) spos) (asg (tN i) (comp (own.map (·.2)) t mi c me)) :=
  ps_imp (ps_setLc hc hN hy hyl hsw hi (blkOk_by ok) hg ht he hs) fun D σ H ⟨ρ, l, S, hl, hs, h⟩ =>
    comp_read hgo.ok (fun x => hgo.own σ x) (bindI hl hs h fun ρ1 H1 x S1 v e1 s1 l1 r1 h1 => h1 ρ1 H1 _ e1 s1 (l1.set i r1))
theorem v_setLcR (i : Nat) {y : Str} {py spos : Pos} {t : Tg} {g : TG} {c : MT} {mi : MI} {it : Expr} {ifs : List Expr} {scope : Scope} {own : List (Str × Nat)} (hc : X.calm = true) (hN : X.N.Nodup) (hi : II X rx W tg it mi) (ok : blkC X.N X.env.scope scope own = true) (hgo : IGo X (own.map (·.2)) tg g t)
    (hg : ∀ (s : Shared) (H : Hp) (C : Addr) (cl : List (Str × Addr)) (fp : List Addr), PG (X.blk s H scope (compEnvC scope cl C X.env) fp) tg g) (ht : ∀ (s : Shared) (H : Hp) (C : Addr) (cl : List (Str × Addr)) (fp : List Addr), ITs (X.blk s H scope (compEnvC scope cl C X.env) fp) rx ifs c)
    (he : ∀ (s : Shared) (H : Hp) (C : Addr) (cl : List (Str × Addr)) (fp : List Addr), IE (X.blk s H scope (compEnvC scope cl C X.env) fp) rx W0 e me)
    (hy : X.N[i]? = some y := by rfl) (hyl : X.env.scope.names.lookup y = some .local := by rfl) (hsw : swapsWith (.ListComp e [⟨tg, it, ifs, 0⟩] scope pos) (some (.Name y py)) spos.line X.env = pure true := by exact sw_true rfl rfl rfl (by decide +kernel))
    (hs : ∀ x, foldedSetIterable it X.env x = pure x := by intro _; rfl) :
    IS X rx W (.Assign [.Name y py] (.ListComp e [⟨tg, it, ifs, 0⟩] scope pos) spos) (asg (tN i) (compR (own.map (·.2)) t mi c me)) :=
  ps_imp (ps_setLc hc hN hy hyl hsw hi (blkOk_by ok) hg ht he hs) fun D σ H ⟨ρ, l, S, hl, hs, h⟩ =>
    compR_read hgo.ok (fun x => hgo.own σ x) (bindI hl hs h fun ρ1 H1 x S1 v e1 s1 l1 r1 h1 => h1 ρ1 H1 _ e1 s1 (l1.set i r1))
end
end Y
/-! enumerate over a tuple. -/
namespace PySem
open Sem (wp)
theorem y_meets_enum1 {v : Value} {o : Obj} {H : Heap → Prop} (B : Begins v o H) :
    Meets (Builtin.«enumerate.__new__» ⟨[.type "enumerate", v], []⟩) (fun _ R s => H s.heap ∧
      R (.ok (.ret (.ref (s.heap.push o).objs.size))) { s with heap := (s.heap.push o).push { cls := .type "enumerate", data := .fields #[.none, .bool false, .ref s.heap.objs.size, rawInt 0, .none, .none] } }) :=
  .of_wp fun prog w A R s h => by
    obtain ⟨hp, g, d, tk, os⟩ := s; obtain ⟨h1, h⟩ := h
    have hsub := sub_enumerate
    have q1 : ∀ {A' : Around} {E : Value → Shared → Prop} {Q : Value → Shared → Prop}, Q (.ref hp.objs.size) ⟨hp.push o, g, d, tk, os⟩ → wpAny (model prog w) A' (pyIter v) Q E ⟨hp, g, d, tk, os⟩ :=
      fun q => B.iter prog w _ _ ⟨hp, g, d, tk, os⟩ _ h1 q
    wp_walk using q1
    refine wpAny_stack_any fun st => wpAny_pure ?_
    split
    · rename_i c _ _ _ _ _
      cases (c == Value.type "enumerate")
      · wp_walk using q1
        exact ⟨_, rfl, h⟩
      · wp_walk using q1
        exact ⟨_, rfl, h⟩
    · wp_walk using q1
      exact ⟨_, rfl, h⟩
theorem y_call_enum {prog : Program} {w : World} {A : Around} {E : Value → Shared → Prop} {s : Shared} {v : Value} {o : Obj} {H : Heap → Prop} {Q : Value → Shared → Prop} (B : Begins v o H) (h1 : H s.heap)
    (h : ∀ h', IsEnum h' (s.heap.objs.size + 1) s.heap.objs.size 0 .none → h'.get? s.heap.objs.size = some o → h'.objs.size = s.heap.objs.size + 2 →
      (∀ b o, s.heap.get? b = some o → h'.get? b = some o) → Q (.ref (s.heap.objs.size + 1)) { s with heap := h' }) :
    wpAny (model prog w) A (call (.type "enumerate") [v]) Q E s := by
  refine callType_new F.called_enumerate (by decide) (F.typeCall_enumerate_1 _) (F.newCall_enumerate_1 _) (fun obj => F.args_object_init_2 obj _) F.entry_enumerate_new
    (y_meets_enum1 B) ⟨h1, ?_⟩
  have hz : (s.heap.push o).objs.size = s.heap.objs.size + 1 := Heap.size_push ..
  show _ ∧ _
  rw [hz]
  have he : IsEnum ((s.heap.push o).push { cls := .type "enumerate", data := .fields #[.none, .bool false, .ref s.heap.objs.size, rawInt 0, .none, .none] }) (s.heap.objs.size + 1) s.heap.objs.size 0 .none := by
    have := Heap.get?_push_size (s.heap.push o) (o := { cls := .type "enumerate", data := .fields #[.none, .bool false, .ref s.heap.objs.size, rawInt 0, .none, .none] }) rfl
    rw [hz] at this; exact this
  refine ⟨⟨_, he, rfl⟩, h _ he (Heap.get?_push_of_some _ (Heap.get?_push_size _ B.free)) (by rw [Heap.size_push, hz]) fun b o x => Heap.get?_push_of_some _ (Heap.get?_push_of_some _ x)⟩
end PySem
namespace L2
open PySem PySem.Spec PyProof.Rows
/-- the tuple at a, each item in a new pair -/
def IteT (K : PySem.W.Frag) (a : Addr) : It :=
  ⟨fun i H => ∃ (xs : List V) (x : V), SqT K H a xs ∧ xs[i]? = some x, fun i H v H' => ∃ T x, v = .ref T ∧ H T = none ∧ H' = upd H T (.tup [.int (i : Nat), x]) ∧ ∀ xs, SqT K H a xs → xs[i]? = some x, fun i H => ∃ xs : List V, SqT K H a xs ∧ xs.length = i⟩
theorem ne_enum {h : Heap} {e it a : Addr} {i : Int} {old : Value} {its : Array Value} (he : IsEnum h e it i old) (p : h.IsTuple a its) : e ≠ a := fun z => by
  obtain ⟨o, ho, hc, _⟩ := p
  have q : h.get? e = some _ := he
  rw [z, ho] at q
  cases q
  simp at hc
theorem ne_iter {h : Heap} {it a b : Addr} {i : Nat} {its : Array Value} (hi : h.IsTupleIter it b i) (p : h.IsTuple a its) : a ≠ it := fun z => by
  obtain ⟨o, ho, hc, _⟩ := p
  obtain ⟨o', ho', hc', _⟩ := hi
  rw [z, ho'] at ho
  cases ho
  rw [hc'] at hc
  simp at hc
theorem turn_enumT {P : Program} {w : World} {K : PySem.W.Frag} {elts : List Expr} {kk : Nat} {tpos : Pos} (a e it : Addr) :
    Turn P w K (.Tuple elts kk tpos) (IteT K a) [e, it] e (fun i h => (∃ old, IsEnum h e it ((i : Nat) : Int) old) ∧ h.IsTupleIter it a i ∧ e ≠ it) where
  mem := by simp
  obj := fun i h st b hb => by
    obtain ⟨⟨old, he⟩, ⟨o, ho, hc, hd⟩, _⟩ := st
    have e' : b = e ∨ b = it := by simpa using hb
    rcases e' with z | z
    · rw [z]; exact ⟨_, he, fun v q => nomatch q⟩
    · rw [z]; exact ⟨o, ho, fun v q => by rw [hd] at q; cases q⟩
  keep := fun i h h' st k => let ⟨⟨old, he⟩, hi, hne⟩ := st; ⟨⟨old, k e (by simp) _ he⟩, hi.at fun o q => k it (by simp) o q, hne⟩
  item := by
    intro X hP hw hK hc i pins s σ H E I hf st hg
    subst hP hw hK
    obtain ⟨⟨old, he⟩, hit, hne⟩ := st
    obtain ⟨xs, x, hq, hx⟩ := hg
    obtain ⟨its, rv, p, hz⟩ := I.tuple hq
    have pT : s.heap.IsTuple a its.toArray := p
    obtain ⟨u, hu, ru⟩ := rv.get hx
    have hel : e < s.heap.objs.size := Heap.lt_size he
    have hil : it < s.heap.objs.size := by obtain ⟨_, q, _⟩ := hit; exact Heap.lt_size q
    have nea := ne_enum he pT
    have nia := ne_iter hit pT
    have D : Draws X.prog X.w X.A.in1 it [it, a] its.toArray.size (fun i v => its.toArray[i]? = some v) (fun i h => h.IsTupleIter it a i ∧ h.IsTuple a its.toArray) := Draws.tuple (A := X.A.in1) (show X.A.in1.handled = none from I.ok.hd hc) it a nia its.toArray
    refine wpAny_pyNext_enum_itemD D he ⟨hit, pT⟩ (by have := (List.getElem?_eq_some_iff.mp hu).1; simpa using this) hne (by simp [hne, nea]) fun y h' tk hP ho hit' hT hsz hk => ?_
    have hy : y = u := by
      have hP' : its[i]? = some y := by simpa using hP
      rw [hu] at hP'
      exact (Option.some.inj hP').symm
    subst hy
    refine ⟨_, rfl, wpAny_letOwnedTupleGo_enum (s := { s with heap := h', toks := tk + 1 }) ho fun h'' he' sb => ?_⟩
    have hT2 : h''.get? s.heap.objs.size = some { cls := .type "tuple", data := .seq #[.int i tk, y] } := (sb.2 _ (Nat.ne_of_gt hel)).trans hT
    have new : ObjOk X.prog X.w (upd H s.heap.objs.size (.tup [.int (i : Nat), x])) h'' s.heap.objs.size (.tup [.int (i : Nat), x]) :=
      ⟨by show 2 ≤ sizeLine; decide, [.int i tk, y], .cons ⟨_, rfl⟩ (.cons ru .nil), ⟨_, hT2, rfl, _, rfl⟩⟩
    have I1 : Inv X pins σ (upd H s.heap.objs.size (.tup [.int (i : Nat), x])) { s with heap := h'', toks := tk + 1 } :=
      I.turnedNew (ch := [e, it]) (fun b ob hb q => (sb.2 b (fun z => hb (by simp [z]))).trans (hk b ob (fun z => hb (by simp [z])) (fun z => hb (by simp [z])) q)) hf (Nat.le_refl _) new
    refine ⟨.ref s.heap.objs.size, _, I1, rfl, ⟨_, x, rfl, I.hok.fresh (Nat.le_refl _), rfl, fun ys hy => by rw [I.tuple_inj hy hq]; exact hx⟩, ⟨⟨y, ?_⟩, hit'.1.at fun o q => (sb.2 it (Ne.symm hne)).trans q, hne⟩, fun b hb => ?_⟩
    · have e1 : ((i + 1 : Nat) : Int) = (i : Int) + 1 := by omega
      rw [e1]; exact he'
    · have hb' : b < s.heap.objs.size := by
        have e' : b = e ∨ b = it := by simpa using hb
        rcases e' with z | z
        · rw [z]; exact hel
        · rw [z]; exact hil
      rw [upd_ne (Nat.ne_of_lt hb')]
      exact (hf b hb).1
  done := by
    intro X hP hw hK hc i pins s σ H E I hf st hg
    subst hP hw hK
    obtain ⟨⟨old, he⟩, hit, hne⟩ := st
    obtain ⟨xs, hq, hx⟩ := hg
    obtain ⟨its, rv, p, hz⟩ := I.tuple hq
    have pT : s.heap.IsTuple a its.toArray := p
    have nia := ne_iter hit pT
    have D : Draws X.prog X.w X.A.in1 it [it, a] its.toArray.size (fun i v => its.toArray[i]? = some v) (fun i h => h.IsTupleIter it a i ∧ h.IsTuple a its.toArray) := Draws.tuple (A := X.A.in1) (show X.A.in1.handled = none from I.ok.hd hc) it a nia its.toArray
    obtain ⟨f0, f1, f2, f3, f4, f5⟩ := hf it (by simp)
    have hl := rv.length
    have hn : its.toArray.size = i := by rw [List.size_toArray, ← hl, hx]
    exact wpAny_pyNext_enum_endD D he ⟨by rw [hn]; exact hit, pT⟩ fun h' eb => ⟨rfl, I.turned (t' := s.toks) (fun b o hb q => eb b o hb q) f0 f1 f3 f4 f5⟩
  self := fun A i s Q E st h => let ⟨⟨_, he⟩, _⟩ := st; wpAny_pyIter_enum he h
def iEnumA (K : PySem.W.Frag) (ta : TA) : TI := fun σ H R => ta σ H fun vs H1 => ∃ a xs, vs = [.ref a] ∧ ((SqL K H1 a xs ∧ R (Ite K a) H1) ∨ (SqT K H1 a xs ∧ R (IteT K a) H1))
theorem pi_enumA {X : Cx} {e : Expr} {ta : TA} {p pos tpos : Pos} {elts : List Expr} {kk : Nat} (hg : Gl X "enumerate") (hm : X.mg "enumerate" = none) (ha : PA X [e] ta) (hs : starEach [e] X.env = [(false, eval e X.env)] := by rfl) :
    PI X (.Tuple elts kk tpos) (.Call (.Name "enumerate" p) [e] [] pos) (iEnumA X.K ta) := by
  refine ⟨fun pins s σ H R I h => ?_⟩
  refine Call_ (ld_blt I hg hm boot_enumerate (PyProof.Rows.callWith_type1 (thn (ha.run pos pins s σ H _ I h) fun us s1 ⟨vs, H1, I1, r1, q1⟩ => ?_) hs rfl))
  obtain ⟨a, xs, ex, q1⟩ := q1
  subst ex
  cases r1 with
  | cons r rr =>
    cases rr
    cases r
    have fr : ∀ b, b ∈ [s1.heap.objs.size + 1, s1.heap.objs.size] → FpOk X pins H1 b := fun b hb => by
      have e' : b = s1.heap.objs.size + 1 ∨ b = s1.heap.objs.size := by simpa using hb
      have hle : s1.heap.objs.size ≤ b := by
        rcases e' with z | z
        · rw [z]; exact Nat.le_add_right _ _
        · rw [z]; exact Nat.le_refl _
      exact I1.fpOk hle (I1.hok.fresh hle)
    rcases q1 with ⟨hq, q⟩ | ⟨hq, q⟩
    · obtain ⟨its, rv, p', hz⟩ := I1.list hq
      refine call_enumerate_list p'.isList fun h' he hit hsz hk => wpAny_pyIter_enum he ?_
      have I2 : Inv X pins σ H1 { s1 with heap := h' } := I1.kept (t' := s1.toks) hk
      exact ⟨s1.heap.objs.size + 1, [s1.heap.objs.size + 1, s1.heap.objs.size], _, _, H1, rfl, I2, turn_enum a (s1.heap.objs.size + 1) s1.heap.objs.size, ⟨⟨.none, he⟩, hit, Nat.succ_ne_self _⟩, fr, q⟩
    · obtain ⟨its, rv, p', hz⟩ := I1.tuple hq
      refine y_call_enum (begins_tuple a its.toArray) (show s1.heap.IsTuple a its.toArray from p') fun h' he hit hsz hk => wpAny_pyIter_enum he ?_
      have I2 : Inv X pins σ H1 { s1 with heap := h' } := I1.kept (t' := s1.toks) hk
      exact ⟨s1.heap.objs.size + 1, [s1.heap.objs.size + 1, s1.heap.objs.size], _, _, H1, rfl, I2, turn_enumT a (s1.heap.objs.size + 1) s1.heap.objs.size, ⟨⟨.none, he⟩, ⟨_, hit, rfl, rfl⟩, Nat.succ_ne_self _⟩, fr, q⟩
end L2
namespace Y
open PySem L2 RZ PyProof.Rows
section
variable {X : Cx} {rx : Rx} {W : WX} {a b e tg : Expr} {ma mb me : ME} {pos : Pos}
theorem pi_or {tg e : Expr} {t t' : TI} (h : PI X tg e t) (h' : PI X tg e t') : PI X tg e (fun σ H R => t σ H R ∨ t' σ H R) :=
  ⟨fun pins s σ H R I q => q.elim (h.run pins s σ H R I) (h'.run pins s σ H R I)⟩
theorem seq_stay {K : PySem.W.Frag} {ρ ρ1 : List Addr} {H H1 : Hp} {S S1 : Sto} {x : DV} {xs : List DV} {v : V} (r : RV K ρ H x v) (e : seqOf S x = some xs) (hh : held S1 (guardOf S x) = true) (ex : Ext ρ H ρ1 H1) : RV K ρ1 H1 x v ∧ seqOf S1 x = some xs := by
  refine ⟨r.mono ex, ?_⟩
  cases x with
  | ref k =>
    unfold seqOf at e
    dsimp only at e
    split at e
    · rename_i zs q
      cases e
      unfold guardOf held at hh
      dsimp only at hh
      rw [q] at hh
      simp only [List.all_cons, List.all_nil, Bool.and_true] at hh
      split at hh
      · rename_i y hy
        rw [eqB_iff] at hh
        subst hh
        unfold seqOf
        dsimp only
        rw [hy]
      · exact absurd hh Bool.false_ne_true
    · cases e
  | tup _ => exact e
  | lst _ => exact e
  | rol _ => exact e
  | _ => simp [seqOf] at e
theorem held_app {S : Sto} {g g' : List (Nat × DV)} : held S (g ++ g') = (held S g && held S g') := by
  unfold held
  rw [List.all_append]
/-! ### a list, a tuple -/
theorem src_list {K : PySem.W.Frag} {ρ : List Addr} {H : Hp} {S : Sto} {x : DV} {xs : List DV} {a : Addr} (s : RS K ρ H S) (r : RV K ρ H x (.ref a)) (e : seqOf S x = some xs) (n : ∀ ys, x ≠ .tup ys) :
    Src K ρ H xs (guardOf S x) (Itl K a) (fun H => ∃ vs, SqL K H a vs ∧ vs.length = xs.length) (fun i H x H' => H' = H ∧ ∀ vs, SqL K H a vs → vs[i]? = some x) where
  walk := ⟨fun i H hi ⟨vs, h, hl⟩ => ⟨vs, vs[i]'(by omega), h, by simp [show i < vs.length by omega]⟩, fun H ⟨vs, h, hl⟩ => ⟨vs, h, by omega⟩, fun _ _ _ _ _ _ y => y⟩
  go := fun ρ1 H1 S1 ex s1 hh => by
    obtain ⟨r1, e1⟩ := seq_stay r e hh ex
    obtain ⟨a', vs, h1, h2, h3⟩ := r1.seqL s1 e1 n
    cases h1
    exact ⟨vs, h2, h3.length.symm⟩
  yl := fun ρ1 H1 S1 ex s1 hh i v H2 hi y => by
    obtain ⟨r1, e1⟩ := seq_stay r e hh ex
    obtain ⟨a', vs, h1, h2, h3⟩ := r1.seqL s1 e1 n
    cases h1
    obtain ⟨rfl, y⟩ := y
    obtain ⟨d, h4, h5⟩ := h3.getV (y vs h2)
    exact ⟨d, h4, h5, .refl, s1⟩
theorem src_tup {K : PySem.W.Frag} {ρ : List Addr} {H : Hp} {xs : List DV} {a : Addr} {vs : List V} (h : SqT K H a vs) (r : RVs K ρ H xs vs) :
    Src K ρ H xs [] (Itt K a) (fun H => SqT K H a vs) (YAt vs) where
  walk := by
    have w : Walk (Itt K a) vs.length (fun H => SqT K H a vs) (YAt vs) := walk_tup
    rw [← r.length] at w
    exact w
  go := fun ρ1 H1 S1 ex s1 hh => sqT_ext ex h
  yl := fun ρ1 H1 S1 ex s1 hh i v H2 hi y => by
    obtain ⟨rfl, y⟩ := y
    obtain ⟨d, h4, h5⟩ := (r.mono ex).getV y
    exact ⟨d, h4, h5, .refl, s1⟩
theorem s_seq (ha : IE X rx W a ma) : II X rx W tg a (sSeq ma) := by
  refine pi_imp (pi_or (pi_list ha) (pi_tup ha)) fun σ H R ⟨ρ, l, S, hl, hs, h⟩ => ?_
  have h' : Post X.K rx W ρ H ((ma l S).bind _) _ := h
  cases em : ma l S with
  | bad => rw [em] at h'; exact False.elim h'
  | exc c x l' S' => rw [em] at h'; exact .inl ⟨ρ, l, S, hl, hs, by rw [em]; exact h'⟩
  | ok x S1 =>
    rw [em] at h'
    simp only [Out.bind] at h'
    split at h'
    · rename_i xs ex
      by_cases ht : ∃ ys, x = .tup ys
      · obtain ⟨ys, rfl⟩ := ht
        simp only [seqOf, Option.some.injEq] at ex
        subst ex
        refine .inr ⟨ρ, l, S, hl, hs, ?_⟩
        rw [em]
        intro ρ1 H1 v e1 s1 r1
        obtain ⟨p, vs, rfl, h1, h2⟩ := r1.tup
        exact ⟨p, rfl, ⟨vs, h1⟩, h' ρ1 H1 _ _ _ e1 s1 (src_tup h1 h2)⟩
      · refine .inl ⟨ρ, l, S, hl, hs, ?_⟩
        rw [em]
        intro ρ1 H1 v e1 s1 r1
        have hn : ∀ ys, x ≠ .tup ys := fun ys z => ht ⟨ys, z⟩
        obtain ⟨p, vs, rfl, h1, h2⟩ := r1.seqL s1 ex hn
        exact ⟨p, rfl, ⟨vs, h1⟩, h' ρ1 H1 _ _ _ e1 s1 (src_list s1 r1 ex hn)⟩
    · exact False.elim h'
/-! ### range -/
theorem src_range {K : PySem.W.Frag} {ρ : List Addr} {H : Hp} (lo : Int) (n : Nat) : Src K ρ H (rngD lo n) [] (Itr lo n) (fun _ => True) (YFn fun i => .int (lo + i)) where
  walk := by
    have w : Walk (Itr lo n) n (fun _ => True) (YFn fun i => .int (lo + i)) := walk_range
    have e : (rngD lo n).length = n := by simp [rngD]
    rw [e]
    exact ⟨w.goes, w.stops, w.yields⟩
  go := fun _ _ _ _ _ _ => trivial
  yl := fun ρ1 H1 S1 ex s1 hh i v H2 hi y => by
    obtain ⟨rfl, rfl⟩ := y
    have hn : i < n := by simpa [rngD] using hi
    exact ⟨.int (lo + i), by simp [rngD, hn], by simp [RV], .refl, s1⟩
theorem s_range1 {p : Pos} (hm : X.mg "range" = none) (ha : IE X rx W a ma) (hg : Gl X "range" := by rfl) (hs : starEach [a] X.env = (false, eval a X.env) :: starEach [] X.env := by rfl) : II X rx W tg (.Call (.Name "range" p) [a] [] pos) (sRange1 ma) := by
  refine pi_imp (pi_range1 hg hm (pa_cons ha pa_nil hs) hs) fun σ H R ⟨ρ, l, S, hl, hs, h⟩ => ?_
  refine bindI hl hs h fun ρ1 H1 x S1 v e1 s1 l1 r1 h1 => ?_
  split at h1
  · rename_i n
    split at h1
    · rename_i hz
      exact ⟨n, by rw [r1.int], hz.1, hz.2, h1 ρ1 H1 _ _ _ e1 s1 (src_range 0 n.toNat)⟩
    · exact False.elim h1
  · exact False.elim h1
theorem s_range2 {p : Pos} (hm : X.mg "range" = none) (ha : IE X rx W a ma) (hb : IE X rx W b mb) (hg : Gl X "range" := by rfl) (hs : starEach [a, b] X.env = [(false, eval a X.env), (false, eval b X.env)] := by rfl) (hs2 : starEach [b] X.env = (false, eval b X.env) :: starEach [] X.env := by rfl) :
    II X rx W tg (.Call (.Name "range" p) [a, b] [] pos) (sRange2 ma mb) := by
  refine pi_imp (pi_range2 hg hm (pa_cons ha (pa_cons hb pa_nil hs2) (by rw [hs, hs2]; rfl)) hs (by rw [hs2]; rfl)) fun σ H R ⟨ρ, l, S, hl, hs, h⟩ => ?_
  refine bindI hl hs h fun ρ1 H1 x S1 v e1 s1 l1 r1 h1 => ?_
  refine bindI l1 s1 h1 fun ρ2 H2 y S2 u e2 s2 l2 r2 h2 => ?_
  split at h2
  · rename_i i j
    split at h2
    · rename_i hz
      exact ⟨i, j, by rw [r1.int, r2.int], ⟨hz.1.1, hz.1.2, hz.2.1, hz.2.2⟩, h2 ρ2 H2 _ _ _ (e1.trans e2) s2 (src_range i (j - i).toNat)⟩
    · exact False.elim h2
  · exact False.elim h2
/-! ### reversed(range(n)) -/
theorem src_rev {K : PySem.W.Frag} {ρ : List Addr} {H : Hp} (n : Nat) : Src K ρ H (rngD 0 n).reverse [] (Itc ((0 : Int) + (n : Int) - 1) (-1) n) (fun _ => True) (YFn fun i => .int ((0 : Int) + (n : Int) - 1 + (i : Nat) * (-1))) where
  walk := by
    have w : Walk (Itc ((0 : Int) + (n : Int) - 1) (-1) n) n (fun _ => True) (YFn fun i => .int ((0 : Int) + (n : Int) - 1 + (i : Nat) * (-1))) := walk_rangeC
    have e : (rngD 0 n).reverse.length = n := by simp [rngD]
    rw [e]
    exact ⟨w.goes, w.stops, w.yields⟩
  go := fun _ _ _ _ _ _ => trivial
  yl := fun ρ1 H1 S1 ex s1 hh i v H2 hi y => by
    obtain ⟨rfl, rfl⟩ := y
    have hn : i < n := by simpa [rngD] using hi
    refine ⟨.int ((0 : Int) + (n : Int) - 1 + (i : Nat) * (-1)), ?_, by simp [RV], .refl, s1⟩
    rw [List.getElem?_reverse (by simpa [rngD] using hn)]
    simp only [rngD, List.length_map, List.length_range, List.getElem?_map]
    rw [List.getElem?_range (by omega)]
    simp only [Option.map_some, Option.some.injEq, DV.int.injEq]
    omega
theorem s_rev1 {p p2 pos2 : Pos} (hm : X.mg "reversed" = none) (hm2 : X.mg "range" = none) (ha : IE X rx W a ma) (hg : Gl X "reversed" := by rfl) (hg2 : Gl X "range" := by rfl) (hs : starEach [a] X.env = (false, eval a X.env) :: starEach [] X.env := by rfl)
    (hs2 : starEach [.Call (.Name "range" p2) [a] [] pos2] X.env = (false, eval (.Call (.Name "range" p2) [a] [] pos2) X.env) :: starEach [] X.env := by rfl) :
    II X rx W tg (.Call (.Name "reversed" p) [.Call (.Name "range" p2) [a] [] pos2] [] pos) (sRev1 ma) := by
  refine pi_imp (pi_revR hg hm (prg_1 hg2 hm2 ha hs) hs2) fun σ H R ⟨ρ, l, S, hl, hs, h⟩ => ?_
  refine bindI hl hs h fun ρ1 H1 x S1 v e1 s1 l1 r1 h1 => ?_
  split at h1
  · rename_i n
    split at h1
    · rename_i hz
      refine ⟨n, r1.int, by decide, by decide, hz.1, hz.2, ?_⟩
      have q := h1 ρ1 H1 _ _ _ e1 s1 (src_rev n.toNat)
      rw [Int.sub_zero]
      exact q
    · exact False.elim h1
  · exact False.elim h1

/-! ### enumerate, zip -/
theorem enum_get {xs : List DV} {i : Nat} {d : DV} (h : xs[i]? = some d) : (enumD xs)[i]? = some (.tup [.int (i : Nat), d]) := by
  obtain ⟨hl, he⟩ := List.getElem?_eq_some_iff.mp h
  unfold enumD
  rw [List.getElem?_zipWith, List.getElem?_range hl, h]
theorem enum_len (xs : List DV) : (enumD xs).length = xs.length := by simp [enumD]
theorem rv_pair {K : PySem.W.Frag} {ρ : List Addr} {H : Hp} {T : Addr} {d d' : DV} {v v' : V} (hT : H T = none) (r : RV K ρ H d v) (r' : RV K ρ H d' v') : RV K ρ (upd H T (.tup [v, v'])) (.tup [d, d']) (.ref T) :=
  rv_newT hT (RVs.cons r (rvs1 r'))
theorem src_enumL {K : PySem.W.Frag} {ρ : List Addr} {H : Hp} {S : Sto} {x : DV} {xs : List DV} {a : Addr} (s : RS K ρ H S) (r : RV K ρ H x (.ref a)) (e : seqOf S x = some xs) (n : ∀ ys, x ≠ .tup ys) :
    Src K ρ H (enumD xs) (guardOf S x) (Ite K a) (fun H => ∃ vs, SqL K H a vs ∧ vs.length = xs.length) (fun i H v H' => ∃ T x, v = .ref T ∧ H T = none ∧ H' = upd H T (.tup [.int (i : Nat), x]) ∧ ∀ xs, SqL K H a xs → xs[i]? = some x) where
  walk := by
    rw [enum_len]
    exact ⟨fun i H hi ⟨vs, h, hl⟩ => ⟨vs, vs[i]'(by omega), h, by simp [show i < vs.length by omega]⟩, fun H ⟨vs, h, hl⟩ => ⟨vs, h, by omega⟩, fun _ _ _ _ _ _ y => y⟩
  go := fun ρ1 H1 S1 ex s1 hh => by
    obtain ⟨r1, e1⟩ := seq_stay r e hh ex
    obtain ⟨a', vs, h1, h2, h3⟩ := r1.seqL s1 e1 n
    cases h1
    exact ⟨vs, h2, h3.length.symm⟩
  yl := fun ρ1 H1 S1 ex s1 hh i v H2 hi y => by
    obtain ⟨r1, e1⟩ := seq_stay r e hh ex
    obtain ⟨a', vs, h1, h2, h3⟩ := r1.seqL s1 e1 n
    cases h1
    obtain ⟨T, z, rfl, hT, rfl, y⟩ := y
    obtain ⟨d, h4, h5⟩ := h3.getV (y vs h2)
    exact ⟨_, enum_get h4, rv_pair hT (by simp [RV]) h5, ext_new hT, s1.new hT⟩
theorem src_enumT {K : PySem.W.Frag} {ρ : List Addr} {H : Hp} {xs : List DV} {a : Addr} {vs : List V} (h : SqT K H a vs) (r : RVs K ρ H xs vs) :
    Src K ρ H (enumD xs) [] (IteT K a) (fun H => SqT K H a vs) (fun i H v H' => ∃ T x, v = .ref T ∧ H T = none ∧ H' = upd H T (.tup [.int (i : Nat), x]) ∧ ∀ xs, SqT K H a xs → xs[i]? = some x) where
  walk := by
    rw [enum_len, r.length]
    exact ⟨fun i H hi q => ⟨vs, vs[i], q, by simp [hi]⟩, fun H q => ⟨vs, q, rfl⟩, fun _ _ _ _ _ _ y => y⟩
  go := fun ρ1 H1 S1 ex s1 hh => sqT_ext ex h
  yl := fun ρ1 H1 S1 ex s1 hh i v H2 hi y => by
    obtain ⟨T, z, rfl, hT, rfl, y⟩ := y
    obtain ⟨d, h4, h5⟩ := (r.mono ex).getV (y vs (sqT_ext ex h))
    exact ⟨_, enum_get h4, rv_pair hT (by simp [RV]) h5, ext_new hT, s1.new hT⟩
theorem s_enum {p tpos : Pos} {elts : List Expr} {kk : Nat} (hm : X.mg "enumerate" = none) (ha : IE X rx W a ma) (hg : Gl X "enumerate" := by rfl) (hs : starEach [a] X.env = (false, eval a X.env) :: starEach [] X.env := by rfl) :
    II X rx W (.Tuple elts kk tpos) (.Call (.Name "enumerate" p) [a] [] pos) (sEnum ma) := by
  refine pi_imp (pi_enumA hg hm (pa_cons ha pa_nil hs) hs) fun σ H R ⟨ρ, l, S, hl, hs, h⟩ => ?_
  refine bindI hl hs h fun ρ1 H1 x S1 v e1 s1 l1 r1 h1 => ?_
  split at h1
  · rename_i xs ex
    by_cases ht : ∃ ys, x = .tup ys
    · obtain ⟨ys, rfl⟩ := ht
      simp only [seqOf, Option.some.injEq] at ex
      subst ex
      obtain ⟨p, vs, rfl, h3, h2⟩ := r1.tup
      exact ⟨p, vs, rfl, .inr ⟨h3, h1 ρ1 H1 _ _ _ e1 s1 (src_enumT h3 h2)⟩⟩
    · have hn : ∀ ys, x ≠ .tup ys := fun ys z => ht ⟨ys, z⟩
      obtain ⟨p, vs, rfl, h3, h2⟩ := r1.seqL s1 ex hn
      exact ⟨p, vs, rfl, .inl ⟨h3, h1 ρ1 H1 _ _ _ e1 s1 (src_enumL s1 r1 ex hn)⟩⟩
  · exact False.elim h1
theorem zip_get {xs ys : List DV} {i : Nat} {d d' : DV} (h : xs[i]? = some d) (h' : ys[i]? = some d') : (zipD xs ys)[i]? = some (.tup [d, d']) := by
  unfold zipD
  rw [List.getElem?_zipWith, h, h']
theorem zip_len (xs ys : List DV) : (zipD xs ys).length = min xs.length ys.length := by simp [zipD]
theorem src_zipL {K : PySem.W.Frag} {ρ : List Addr} {H : Hp} {S : Sto} {x x' : DV} {xs xs' : List DV} {a a' : Addr} (s : RS K ρ H S) (r : RV K ρ H x (.ref a)) (e : seqOf S x = some xs) (n : ∀ ys, x ≠ .tup ys) (r' : RV K ρ H x' (.ref a')) (e' : seqOf S x' = some xs') (n' : ∀ ys, x' ≠ .tup ys) :
    Src K ρ H (zipD xs xs') (guardOf S x ++ guardOf S x') (Itz K a a') (fun H => (∃ vs, SqL K H a vs ∧ vs.length = xs.length) ∧ ∃ vs, SqL K H a' vs ∧ vs.length = xs'.length)
      (fun i H v H' => ∃ T x y, v = .ref T ∧ H T = none ∧ H' = upd H T (.tup [x, y]) ∧ (∀ xs, SqL K H a xs → xs[i]? = some x) ∧ ∀ ys, SqL K H a' ys → ys[i]? = some y) where
  walk := by
    rw [zip_len]
    exact ⟨fun i H hi ⟨⟨vs, h, hl⟩, ws, h', hl'⟩ => ⟨vs, ws, vs[i]'(by omega), ws[i]'(by omega), h, h', by simp [show i < vs.length by omega], by simp [show i < ws.length by omega]⟩, fun H ⟨⟨vs, h, hl⟩, ws, h', hl'⟩ => ⟨vs, ws, h, h', by omega⟩, fun _ _ _ _ _ _ y => y⟩
  go := fun ρ1 H1 S1 ex s1 hh => by
    rw [held_app, Bool.and_eq_true] at hh
    obtain ⟨r1, e1⟩ := seq_stay r e hh.1 ex
    obtain ⟨r2, e2⟩ := seq_stay r' e' hh.2 ex
    obtain ⟨_, vs, h1, h2, h3⟩ := r1.seqL s1 e1 n
    obtain ⟨_, ws, h4, h5, h6⟩ := r2.seqL s1 e2 n'
    cases h1
    cases h4
    exact ⟨⟨vs, h2, h3.length.symm⟩, ws, h5, h6.length.symm⟩
  yl := fun ρ1 H1 S1 ex s1 hh i v H2 hi y => by
    rw [held_app, Bool.and_eq_true] at hh
    obtain ⟨r1, e1⟩ := seq_stay r e hh.1 ex
    obtain ⟨r2, e2⟩ := seq_stay r' e' hh.2 ex
    obtain ⟨_, vs, h1, h2, h3⟩ := r1.seqL s1 e1 n
    obtain ⟨_, ws, h4, h5, h6⟩ := r2.seqL s1 e2 n'
    cases h1
    cases h4
    obtain ⟨T, z, z', rfl, hT, rfl, y1, y2⟩ := y
    obtain ⟨d, h7, h8⟩ := h3.getV (y1 vs h2)
    obtain ⟨d', h7', h8'⟩ := h6.getV (y2 ws h5)
    exact ⟨_, zip_get h7 h7', rv_pair hT h8 h8', ext_new hT, s1.new hT⟩
theorem src_zipT {K : PySem.W.Frag} {ρ : List Addr} {H : Hp} {xs xs' : List DV} {a a' : Addr} {vs ws : List V} (h : SqT K H a vs) (r : RVs K ρ H xs vs) (h' : SqT K H a' ws) (r' : RVs K ρ H xs' ws) :
    Src K ρ H (zipD xs xs') [] (ItzT K a a') (fun H => SqT K H a vs ∧ SqT K H a' ws)
      (fun i H v H' => ∃ T x y, v = .ref T ∧ H T = none ∧ H' = upd H T (.tup [x, y]) ∧ (∀ xs, SqT K H a xs → xs[i]? = some x) ∧ ∀ ys, SqT K H a' ys → ys[i]? = some y) where
  walk := by
    rw [zip_len, r.length, r'.length]
    exact ⟨fun i H hi q => ⟨vs, ws, vs[i]'(by omega), ws[i]'(by omega), q.1, q.2, by simp [show i < vs.length by omega], by simp [show i < ws.length by omega]⟩, fun H q => ⟨vs, ws, q.1, q.2, by omega⟩, fun _ _ _ _ _ _ y => y⟩
  go := fun ρ1 H1 S1 ex s1 hh => ⟨sqT_ext ex h, sqT_ext ex h'⟩
  yl := fun ρ1 H1 S1 ex s1 hh i v H2 hi y => by
    obtain ⟨T, z, z', rfl, hT, rfl, y1, y2⟩ := y
    obtain ⟨d, h7, h8⟩ := (r.mono ex).getV (y1 vs (sqT_ext ex h))
    obtain ⟨d', h7', h8'⟩ := (r'.mono ex).getV (y2 ws (sqT_ext ex h'))
    exact ⟨_, zip_get h7 h7', rv_pair hT h8 h8', ext_new hT, s1.new hT⟩
/-- two of a kind: both lists or both tuples -/
def sameKind : DV → DV → Bool
  | .tup _, .tup _ => true
  | .tup _, _ => false
  | _, .tup _ => false
  | _, _ => true
def sZip2 (a b : ME) : MI := fun l S => (a l S).bind fun x S1 => (b l S1).bind fun y S2 => if sameKind x y = true then (match seqOf S2 x, seqOf S2 y with
  | some xs, some ys => .ok (zipD xs ys, guardOf S2 x ++ guardOf S2 y) S2
  | _, _ => .bad) else .bad
theorem s_zip {p tpos : Pos} {elts : List Expr} {kk : Nat} (hm : X.mg "zip" = none) (ha : IE X rx W a ma) (hb : IE X rx W b mb) (hg : Gl X "zip" := by rfl) (hs : starEach [a, b] X.env = (false, eval a X.env) :: starEach [b] X.env := by rfl) (hs2 : starEach [b] X.env = (false, eval b X.env) :: starEach [] X.env := by rfl)
    (hpl : (backTo pos (starEach [b] X.env)).any (·.1) = false := by rfl) : II X rx W (.Tuple elts kk tpos) (.Call (.Name "zip" p) [a, b] [] pos) (sZip2 ma mb) := by
  refine pi_imp (pi_zipA hg hm (pa_cons ha (pa_cons hb pa_nil hs2) hs) hs hpl) fun σ H R ⟨ρ, l, S, hl, hs, h⟩ => ?_
  refine bindI hl hs h fun ρ1 H1 x S1 v e1 s1 l1 r1 h1 => ?_
  refine bindI l1 s1 h1 fun ρ2 H2 y S2 u e2 s2 l2 r2 h2 => ?_
  have r1 := r1.mono e2
  split at h2
  · rename_i hk
    split at h2
    · rename_i xs ys ex ey
      by_cases ht : ∃ zs, x = .tup zs
      · obtain ⟨zs, rfl⟩ := ht
        cases y with
        | tup zs' =>
          simp only [seqOf, Option.some.injEq] at ex ey
          subst ex ey
          obtain ⟨p, vs, rfl, h3, h4⟩ := r1.tup
          obtain ⟨p', ws, rfl, h3', h4'⟩ := r2.tup
          exact ⟨p, p', vs, ws, rfl, .inr ⟨h3, h3', h2 ρ2 H2 _ _ _ (e1.trans e2) s2 (src_zipT h3 h4 h3' h4')⟩⟩
        | _ => simp [sameKind] at hk
      · have hn : ∀ ys, x ≠ .tup ys := fun ys z => ht ⟨ys, z⟩
        have hn' : ∀ ys, y ≠ .tup ys := fun ys z => by
          subst z
          cases x <;> first | exact hn _ rfl | simp [sameKind] at hk
        obtain ⟨p, vs, rfl, h3, h4⟩ := r1.seqL s2 ex hn
        obtain ⟨p', ws, rfl, h3', h4'⟩ := r2.seqL s2 ey hn'
        exact ⟨p, p', vs, ws, rfl, .inl ⟨h3, h3', h2 ρ2 H2 _ _ _ (e1.trans e2) s2 (src_zipL s2 r1 ex hn r2 ey hn')⟩⟩
    · exact False.elim h2
  · exact False.elim h2
end

/-! ### defs -/
section
variable {P : Program} {w : World} {K : PySem.W.Frag} {mg : Str → Option Value} {base : Heap} {rx : Rx}
theorem rl_start {ρ : List Addr} {H : Hp} {args : List DV} {vs : List V} {N : List Str} {n : Nat} (r : RVs K ρ H args vs) (h : n = N.length) : RL K ρ H (args.map some ++ List.replicate (n - args.length) none) (L2.start N vs) := by
  unfold L2.start
  subst h
  have hl := r.length
  refine ⟨by simp [hl], fun i d e => ?_⟩
  by_cases hi : i < args.length
  · rw [List.getElem?_append_left (by simpa using hi), List.getElem?_map] at e
    cases ea : args[i]? with
    | none => rw [ea] at e; cases e
    | some a =>
      rw [ea] at e
      cases e
      obtain ⟨v, h1, h2⟩ := r.get ea
      exact ⟨v, by rw [List.getElem?_append_left (by simp; omega), List.getElem?_map, h1]; rfl, h2⟩
  · rw [List.getElem?_append_right (by simpa using hi), List.getElem?_replicate] at e
    split at e <;> cases e
theorem Ext.cut {ρ ρ' : List Addr} {H H' : Hp} (e : Ext ρ H ρ' H') : Ext ρ H ρ H' := ⟨⟨[], by simp⟩, e.keep, e.tups, e.frzs, fun a h => .inl h, e.there⟩
theorem Ext.cut1 {ρ ρ' : List Addr} {H H' : Hp} {k : Nat} {a : Addr} (e : Ext ρ H ρ' H') (h : ρ'[k]? = some a) (hn : H a = none) : Ext ρ H (ρ ++ [a]) H' :=
  ⟨⟨[a], rfl⟩, e.keep, e.tups, e.frzs, fun b m => by
    rcases List.mem_append.mp m with q | q
    · exact .inl q
    · rw [List.mem_singleton] at q; rw [q]; exact .inr hn, e.there⟩
theorem leave_lt {m k : Nat} {S : Sto} (h : k < m) : leave m (.ref k) S = .ok (.ref k, false) (S.take m) := by
  unfold leave
  exact if_pos h
theorem leave_own {m k : Nat} {S : Sto} {y : DV} (h : ¬ k < m) (e : S[k]? = some y) : leave m (.ref k) S = .ok (y, true) (S.take m) := by
  unfold leave
  dsimp only
  rw [if_neg h, e]
theorem leave_no {m k : Nat} {S : Sto} (h : ¬ k < m) (e : S[k]? = none) : leave m (.ref k) S = .bad := by
  unfold leave
  dsimp only
  rw [if_neg h, e]
theorem leave_val {m : Nat} {d : DV} {S : Sto} (h : ∀ k, d ≠ .ref k) : leave m d S = if noRefGe m d = true then .ok (d, false) (S.take m) else .bad := by
  cases d <;> first | rfl | exact absurd rfl (h _)
/-- a def keeps the promise of its combinator -/
theorem fn_ok {x qual : Str} {st : Stmt} {f : Addr} {fd : FuncData} {N ps : List Str} {k n : Nat} {b : MS} (F : Fun K x qual st f fd) (S : FnScope N ps (defScope st)) (hn : n = N.length)
    (hb : ∀ (cdv : Value) (A : Around) (outer : List Env) (s : Shared) (H : Hp) (E : XK), Room k (A.deeper (envOfC qual (defScope st) s.heap.objs.size f cdv)) →
      ISs (cxOf (L2.CX P w) P w K mg base N qual (defScope st) f cdv A outer s H E) rx (fun cls d _ H => E cls d H) (defBody st) b) : FnOk P w K mg base (L2.CX P w) (k + 1) f fd ps (spF K rx ps.length (fn n b)) := by
  refine F.okX S (fun vs H Q E h => ?_) fun cdv A outer s H vs Q E hr h => ⟨_, hb cdv A outer s H E hr, ?_⟩
  · obtain ⟨_, _, _, h, _⟩ := h
    exact h
  obtain ⟨ρ, args, S0, hlen, r, hs, h⟩ := h
  refine ⟨ρ, _, S0, rl_start r hn, hs, ?_⟩
  unfold fn at h
  cases eb : b (args.map some ++ List.replicate (n - args.length) none) S0 with
  | bad => rw [eb] at h; exact False.elim h
  | exc c y l S1 =>
    rw [eb] at h
    dsimp only at h
    intro ρ' H' σ' cls od e s1 _ q
    by_cases hy : noRef y = true
    · rw [if_pos hy] at h
      refine h H' cls od e.cut ?_ q
      obtain ⟨t, rfl⟩ := e.pre
      have z := s1.take ρ.length
      rw [List.take_left, hs.len] at z
      exact z
    · rw [if_neg hy] at h
      exact False.elim h
  | ok fl S1 =>
    rw [eb] at h
    have fin : ∀ {d : DV} {ρ' : List Addr} {H' : Hp} {v : V}, FnPost K rx ρ H Q E (leave S0.length d S1) → Ext ρ H ρ' H' → RS K ρ' H' S1 → RV K ρ' H' d v → Q v H' := fun {d ρ' H' v} h e s1 rv => by
      obtain ⟨t, rfl⟩ := e.pre
      have tk := s1.take ρ.length
      rw [List.take_left, hs.len] at tk
      have plain : noRefGe S0.length d = true → RV K ρ H' d v := fun hd => rv.sub (m := S0.length) (fun a h => List.mem_append_left _ h) (fun k a hk e => by
        rw [List.getElem?_append_left (by rw [hs.len]; exact hk)] at e
        exact e) d v hd
      by_cases hd : ∃ k, d = .ref k
      · obtain ⟨k, rfl⟩ := hd
        by_cases hk : k < S0.length
        · rw [leave_lt hk] at h
          exact h H' v e.cut tk (plain (by simp [noRefGe, hk]))
        · cases ek : S1[k]? with
          | none => rw [leave_no hk ek] at h; exact False.elim h
          | some y =>
            rw [leave_own hk ek] at h
            obtain ⟨a, ha, rfl⟩ := rv.ref
            have hge : ρ.length ≤ k := by rw [hs.len]; omega
            have hna : a ∉ ρ := fun m => by
              obtain ⟨j, hj⟩ := List.mem_iff_getElem?.mp m
              have hjl := (List.getElem?_eq_some_iff.mp hj).1
              have := nd_ix s1.nd (show (ρ ++ t)[j]? = some a by rw [List.getElem?_append_left hjl]; exact hj) ha
              omega
            have hfr : H a = none := (e.fresh a (List.mem_of_getElem? ha)).resolve_left hna
            have z := s1.sel hge ha ek
            rw [List.take_left, hs.len] at z
            exact h H' a (e.cut1 ha hfr) z
      · rw [leave_val (fun k z => hd ⟨k, z⟩)] at h
        by_cases hn : noRefGe S0.length d = true
        · rw [if_pos hn] at h
          exact h H' v e.cut tk (plain hn)
        · rw [if_neg hn] at h
          exact False.elim h
    cases fl with
    | bk l => exact False.elim h
    | ct l => exact False.elim h
    | rt d => exact fun ρ' H' v e s1 rv => fin h e s1 rv
    | nx l => exact fun ρ' H' σ' e s1 _ => fin (d := .non) (v := .non) h e s1 (by simp [RV])
/-- no level: nothing is promised -/
theorem fn_none {f : Addr} {fd : FuncData} {ps : List Str} {k : Nat} {g : Ora} (h : ∀ args S, g args S = .bad) : FnOk P w K mg base (L2.CX P w) k f fd ps (spF K rx ps.length g) := by
  have no : ∀ vs H Q E, ¬ spF K rx ps.length g vs H Q E := fun vs H Q E ⟨ρ, args, S, _, _, _, q⟩ => by
    rw [h] at q
    exact q
  exact ⟨fun vs H Q E h => absurd h (no vs H Q E), fun A outer s H args us vs Q E _ _ _ _ h => absurd h (no vs H Q E)⟩
end
end Y
/-! Running the combinators by simp. -/
namespace Y
open PySem
section
variable {α β : Type} (l : Lo) (S : Sto) (a b e : ME) (x y d : DV) (xs ys : List DV) (c c' : MT) (m m' : MS)
@[simp] theorem bind_ok' (v : α) (f : α → Sto → Out β) : (Out.ok v S).bind f = f v S := rfl
@[simp] theorem bind_exc (k : Nat) (f : α → Sto → Out β) : (Out.exc k d l S : Out α).bind f = .exc k d l S := rfl
@[simp] theorem bind_bad (f : α → Sto → Out β) : (Out.bad : Out α).bind f = .bad := rfl
@[simp] theorem bind_ite (p : Prop) [Decidable p] (u v : Out α) (f : α → Sto → Out β) : (if p then u else v).bind f = if p then u.bind f else v.bind f := by split <;> rfl
@[simp] theorem of_some (v : α) : Out.of (some v) S = .ok v S := rfl
@[simp] theorem of_none : (Out.of none S : Out α) = .bad := rfl
@[simp] theorem of_ite (p : Prop) [Decidable p] (u v : Option α) : Out.of (if p then u else v) S = if p then Out.of u S else Out.of v S := by split <;> rfl
theorem str_inj_iff (s t : String) : Str.ofString s = Str.ofString t ↔ s = t := by
  constructor
  · intro h
    rw [Str.ofString_eq_toList, Str.ofString_eq_toList] at h
    have h2 : s.toList.map Char.toNat = t.toList.map Char.toNat := by
      have := congrArg (fun z : Str => z.cps.toList) h
      simpa using this
    have inj : ∀ (p q : List Char), p.map Char.toNat = q.map Char.toNat → p = q := by
      intro p
      induction p with
      | nil => intro q h; cases q with
        | nil => rfl
        | cons => simp at h
      | cons c p ih => intro q h; cases q with
        | nil => simp at h
        | cons c' q =>
          simp only [List.map_cons, List.cons.injEq] at h
          rw [Char.toNat_inj.mp h.1, ih q h.2]
    exact String.ext (inj _ _ h2)
  · intro h; rw [h]
@[simp] theorem str_eq (s t : String) : (Str.ofString s = Str.ofString t) = (s = t) := propext (str_inj_iff s t)
/-! ### operations -/
@[simp] theorem seqOf_tup : seqOf S (.tup xs) = some xs := rfl
@[simp] theorem seqOf_lst : seqOf S (.lst xs) = some xs := rfl
@[simp] theorem seqOf_rol : seqOf S (.rol xs) = some xs := rfl
@[simp] theorem seqOf_str (z : Str) : seqOf S (.str z) = none := rfl
@[simp] theorem seqOf_int (i : Int) : seqOf S (.int i) = none := rfl
@[simp] theorem seqOf_ref (k : Nat) : seqOf S (.ref k) = match S[k]? with
    | some (.lst xs) => some xs
    | _ => none := rfl
@[simp] theorem lstOf_lst : lstOf S (.lst xs) = some xs := rfl
@[simp] theorem lstOf_ref (k : Nat) : lstOf S (.ref k) = match S[k]? with
    | some (.lst xs) => some xs
    | _ => none := rfl
@[simp] theorem lstOf_tup : lstOf S (.tup xs) = none := rfl
@[simp] theorem addV_int (i j : Int) : addV S (.int i) (.int j) = some (.int (i + j)) := rfl
@[simp] theorem addV_str (s t : Str) : addV S (.str s) (.str t) = if s.length + t.length ≤ LIM then some (.str (s ++ t)) else none := rfl
@[simp] theorem addV_tup : addV S (.tup xs) (.tup ys) = if xs.length + ys.length ≤ LIM then some (.tup (xs ++ ys)) else none := rfl
@[simp] theorem addV_lst : addV S (.lst xs) (.lst ys) = if xs.length + ys.length ≤ LIM then some (.lst (xs ++ ys)) else none := rfl
@[simp] theorem subV_int (i j : Int) : subV (.int i) (.int j) = some (.int (i - j)) := rfl
theorem mulV_int (i j : Int) (h : MulOk i j) : mulV (.int i) (.int j) = some (.int (i * j)) := if_pos h
theorem mulOk_r (i : Int) {j : Int} (h : -(2 ^ 64) < j ∧ j < 2 ^ 64 := by decide) : MulOk i j := .inr (.inl h)
theorem mulOk_l {i : Int} (j : Int) (h : -(2 ^ 64) < i ∧ i < 2 ^ 64 := by decide) : MulOk i j := .inl h
@[simp] theorem modV_int (i j : Int) : modV (.int i) (.int j) = if 0 < j then some (.int (i % j)) else none := rfl
theorem divV_int (i j : Int) (h : DivOk j) : divV (.int i) (.int j) = some (.int (i / j)) := if_pos h
theorem divOk_lt {j : Int} (h0 : 0 < j) (h : j < 2 ^ 62) : DivOk j := ⟨h0, Nat.lt_trans (show j.natAbs < 2 ^ 62 by omega) (Nat.pow_lt_pow_right (by decide) (by decide))⟩
theorem powV_int (i j : Int) (h : PowOk i j) : powV (.int i) (.int j) = some (.int (i ^ j.toNat)) := if_pos h
@[simp] theorem negV_int (i : Int) : negV (.int i) = some (.int (-i)) := rfl
@[simp] theorem eqV_int (i j : Int) : eqV S (.int i) (.int j) = some (decide (i = j)) := by
  unfold eqV
  rw [if_pos (show scalD _ _ = true from rfl), eqB_int]
@[simp] theorem eqV_str (i j : Str) : eqV S (.str i) (.str j) = some (decide (i = j)) := by
  unfold eqV
  rw [if_pos (show scalD _ _ = true from rfl), eqB_str]
@[simp] theorem eqV_int_str (i : Int) (j : Str) : eqV S (.int i) (.str j) = some false := by
  unfold eqV
  rw [if_pos (show scalD _ _ = true from rfl)]
  exact congrArg some (by rw [Bool.eq_false_iff]; intro h; rw [eqB_iff] at h; cases h)
@[simp] theorem eqV_str_int (i : Int) (j : Str) : eqV S (.str j) (.int i) = some false := by
  unfold eqV
  rw [if_pos (show scalD _ _ = true from rfl)]
  exact congrArg some (by rw [Bool.eq_false_iff]; intro h; rw [eqB_iff] at h; cases h)
theorem eqV_plain (hs : scalD x y = false) (hx : plain 60 (rd S x) = true) (hy : plain 60 (rd S y) = true) : eqV S x y = some (eqB (rd S x) (rd S y)) := by
  unfold eqV
  rw [if_neg (by rw [hs]; decide), if_pos ⟨hx, hy⟩]
@[simp] theorem eqB_str' (i j : Str) : eqB (.str i) (.str j) = decide (i = j) := eqB_str
@[simp] theorem eqB_int' (i j : Int) : eqB (.int i) (.int j) = decide (i = j) := eqB_int
theorem inV_seq (h : seqOf S y = some ys) (hx : flatD x = true) (hy : ys.all flatD = true) : inV S x y = some (ys.any fun z => eqB z x) := by
  unfold inV
  rw [h]
  dsimp only
  rw [if_pos ⟨hx, hy⟩]
@[simp] theorem isNon_non : isNon .non = true := rfl
@[simp] theorem isNon_tup : isNon (.tup xs) = false := rfl
@[simp] theorem isNon_int (i : Int) : isNon (.int i) = false := rfl
@[simp] theorem isNon_str (i : Str) : isNon (.str i) = false := rfl
@[simp] theorem ltV_int (i j : Int) : ltV (.int i) (.int j) = some (decide (i < j)) := rfl
@[simp] theorem leV_int (i j : Int) : leV (.int i) (.int j) = some (decide (i ≤ j)) := rfl
@[simp] theorem lenV_tup : lenV S (.tup xs) = some (.int xs.length) := rfl
@[simp] theorem lenV_lst : lenV S (.lst xs) = some (.int xs.length) := rfl
@[simp] theorem lenV_rol : lenV S (.rol xs) = some (.int xs.length) := rfl
@[simp] theorem slV_tup (lo hi : Option Int) : slV S (.tup xs) lo hi = some (.tup (cutD xs lo hi)) := rfl
@[simp] theorem slV_lst (lo hi : Option Int) : slV S (.lst xs) lo hi = some (.lst (cutD xs lo hi)) := rfl
@[simp] theorem slV_rol (lo hi : Option Int) : slV S (.rol xs) lo hi = some (.lst (cutD xs lo hi)) := rfl
@[simp] theorem tupleV_tup : tupleV S (.tup xs) = some (.tup xs) := rfl
@[simp] theorem tupleV_lst : tupleV S (.lst xs) = some (.tup xs) := rfl
@[simp] theorem listV_tup : listV S (.tup xs) = some (.lst xs) := rfl
@[simp] theorem listV_lst : listV S (.lst xs) = some (.lst xs) := rfl
theorem ixV_seq (i : Int) (h : seqOf S x = some xs) : ixV S x (.int i) = L2.atI xs i := by
  unfold ixV
  dsimp only
  rw [h]
@[simp] theorem ixV_tup (i : Int) : ixV S (.tup xs) (.int i) = L2.atI xs i := rfl
@[simp] theorem ixV_lst (i : Int) : ixV S (.lst xs) (.int i) = L2.atI xs i := rfl
@[simp] theorem ixV_rol (i : Int) : ixV S (.rol xs) (.int i) = L2.atI xs i := rfl
/-! ### combinators -/
@[simp] theorem var_run (i : Nat) : var i l S = match l[i]? with
  | some (some d) => .ok d S
  | _ => .bad := rfl
@[simp] theorem cst_run : cst d l S = .ok d S := rfl
@[simp] theorem op1_run (f : Sto → DV → Option DV) : op1 f a l S = (a l S).bind fun x S1 => Out.of (f S1 x) S1 := rfl
@[simp] theorem op2_run (f : Sto → DV → DV → Option DV) : op2 f a b l S = (a l S).bind fun x S1 => (b l S1).bind fun y S2 => Out.of (f S2 x y) S2 := rfl
@[simp] theorem add_run : add a b l S = (a l S).bind fun x S1 => (b l S1).bind fun y S2 => Out.of (addV S2 x y) S2 := rfl
@[simp] theorem sub_run : sub a b l S = (a l S).bind fun x S1 => (b l S1).bind fun y S2 => Out.of (subV x y) S2 := rfl
@[simp] theorem mul_run : mul a b l S = (a l S).bind fun x S1 => (b l S1).bind fun y S2 => Out.of (mulV x y) S2 := rfl
@[simp] theorem mod_run : mod a b l S = (a l S).bind fun x S1 => (b l S1).bind fun y S2 => Out.of (modV x y) S2 := rfl
@[simp] theorem fdiv_run : fdiv a b l S = (a l S).bind fun x S1 => (b l S1).bind fun y S2 => Out.of (divV x y) S2 := rfl
@[simp] theorem pow_run : pow a b l S = (a l S).bind fun x S1 => (b l S1).bind fun y S2 => Out.of (powV x y) S2 := rfl
@[simp] theorem neg_run : neg a l S = (a l S).bind fun x S1 => Out.of (negV x) S1 := rfl
@[simp] theorem eqE_run : eqE a b l S = (a l S).bind fun x S1 => (b l S1).bind fun y S2 => Out.of ((eqV S2 x y).map .bl) S2 := rfl
@[simp] theorem neE_run : neE a b l S = (a l S).bind fun x S1 => (b l S1).bind fun y S2 => Out.of ((eqV S2 x y).map fun b => .bl !b) S2 := rfl
@[simp] theorem inE_run : inE a b l S = (a l S).bind fun x S1 => (b l S1).bind fun y S2 => Out.of ((inV S2 x y).map .bl) S2 := rfl
@[simp] theorem ninE_run : ninE a b l S = (a l S).bind fun x S1 => (b l S1).bind fun y S2 => Out.of ((inV S2 x y).map fun b => .bl !b) S2 := rfl
@[simp] theorem ltE_run : ltE a b l S = (a l S).bind fun x S1 => (b l S1).bind fun y S2 => Out.of ((ltV x y).map .bl) S2 := rfl
@[simp] theorem leE_run : leE a b l S = (a l S).bind fun x S1 => (b l S1).bind fun y S2 => Out.of ((leV x y).map .bl) S2 := rfl
@[simp] theorem gtE_run : gtE a b l S = (a l S).bind fun x S1 => (b l S1).bind fun y S2 => Out.of ((ltV y x).map .bl) S2 := rfl
@[simp] theorem geE_run : geE a b l S = (a l S).bind fun x S1 => (b l S1).bind fun y S2 => Out.of ((leV y x).map .bl) S2 := rfl
@[simp] theorem isN_run : isN a l S = (a l S).bind fun x S1 => .ok (.bl (isNon x)) S1 := rfl
@[simp] theorem notN_run : notN a l S = (a l S).bind fun x S1 => .ok (.bl !(isNon x)) S1 := rfl
@[simp] theorem ix_run : ix a b l S = (a l S).bind fun x S1 => (b l S1).bind fun y S2 => Out.of (ixV S2 x y) S2 := rfl
@[simp] theorem part_none : part none l S = .ok none S := rfl
@[simp] theorem part_some : part (some e) l S = (e l S).bind fun x S1 => match x with
    | .int i => .ok (some i) S1
    | _ => .bad := rfl
@[simp] theorem slice_run (lo hi : Option ME) : slice a lo hi l S = (a l S).bind fun x S1 => (part lo l S1).bind fun p S2 => (part hi l S2).bind fun q S3 => Out.of (slV S3 x p q) S3 := rfl
@[simp] theorem aNil_run : aNil l S = .ok [] S := rfl
@[simp] theorem aCons_run (r : MA) : aCons e r l S = (e l S).bind fun x S1 => (r l S1).bind fun xs S2 => .ok (x :: xs) S2 := rfl
@[simp] theorem tupE_run (r : MA) : tupE r l S = (r l S).bind fun xs S1 => if xs.length ≤ LIM then .ok (.tup xs) S1 else .bad := rfl
@[simp] theorem lstE_run (r : MA) : lstE r l S = (r l S).bind fun xs S1 => if xs.length ≤ LIM then .ok (.lst xs) S1 else .bad := rfl
@[simp] theorem lstR_run (r : MA) : lstR r l S = (r l S).bind fun xs S1 => if xs.length ≤ LIM ∧ noRefs xs = true then .ok (.ref S1.length) (S1 ++ [.lst xs]) else .bad := rfl
@[simp] theorem lenE_run : lenE a l S = (a l S).bind fun x S1 => Out.of (lenV S1 x) S1 := rfl
@[simp] theorem tupleE_run : tupleE a l S = (a l S).bind fun x S1 => Out.of (tupleV S1 x) S1 := rfl
@[simp] theorem listE_run : listE a l S = (a l S).bind fun x S1 => Out.of (listV S1 x) S1 := rfl
@[simp] theorem isiE_run (t : String) : isiE t a l S = (a l S).bind fun x S1 => Out.of ((tagOf S1 x).map fun u => .bl (isTag u t)) S1 := rfl
@[simp] theorem tst_run : tst a l S = (a l S).bind fun x S1 => match x with
  | .bl b => .ok b S1
  | _ => .bad := rfl
@[simp] theorem andT_run : andT c c' l S = (c l S).bind fun k S1 => if k = true then c' l S1 else .ok false S1 := rfl
@[simp] theorem orT_run : orT c c' l S = (c l S).bind fun k S1 => if k = true then .ok true S1 else c' l S1 := rfl
@[simp] theorem notT_run : notT c l S = (c l S).bind fun k S1 => .ok (!k) S1 := rfl
theorem andE_run : andE a b l S = (a l S).bind fun x S1 => match x with
  | .bl true => b l S1
  | .bl false => .ok (.bl false) S1
  | _ => .bad := rfl
theorem orE_run : orE a b l S = (a l S).bind fun x S1 => match x with
  | .bl false => b l S1
  | .bl true => .ok (.bl true) S1
  | _ => .bad := rfl
@[simp] theorem andE_run' : andE a b l S = (a l S).bind fun x S1 => match x with
  | .bl k => if k = true then b l S1 else .ok (.bl false) S1
  | _ => .bad := by
  rw [andE_run]
  congr 1
  funext x S1
  cases x <;> first | rfl | skip
  rename_i k; cases k <;> rfl
@[simp] theorem orE_run' : orE a b l S = (a l S).bind fun x S1 => match x with
  | .bl k => if k = true then .ok (.bl true) S1 else b l S1
  | _ => .bad := by
  rw [orE_run]
  congr 1
  funext x S1
  cases x <;> first | rfl | skip
  rename_i k; cases k <;> rfl
@[simp] theorem notE_run : notE a l S = (a l S).bind fun x S1 => match x with
  | .bl c => .ok (.bl !c) S1
  | _ => .bad := rfl
@[simp] theorem call_run (f : Ora) (r : MA) : call f r l S = (r l S).bind fun xs S1 => match f xs S1 with
  | .ok (d, _) S2 => .ok d S2
  | .exc c d _ S2 => .exc c d l S2
  | .bad => .bad := rfl
@[simp] theorem callR_run (f : Ora) (r : MA) : callR f r l S = (r l S).bind fun xs S1 => match f xs S1 with
  | .ok (d, true) S2 => if noRef d = true then .ok (.ref S2.length) (S2 ++ [d]) else .bad
  | .ok (_, false) _ => .bad
  | .exc c d _ S2 => .exc c d l S2
  | .bad => .bad := rfl
@[simp] theorem skip_run : skip l S = .ok (.nx l) S := rfl
@[simp] theorem seq_run : seq m m' l S = (m l S).bind fun f S1 => match f with
  | .nx l1 => m' l1 S1
  | f => .ok f S1 := rfl
@[simp] theorem asg_run (t : Tg) : asg t e l S = (e l S).bind fun x S1 => match t x l with
  | some l1 => .ok (.nx l1) S1
  | none => .bad := rfl
@[simp] theorem tN_run (i : Nat) : tN i d l = some (l.set i (some d)) := rfl
@[simp] theorem tU_run (is : List Nat) : tU is (.tup xs) l = if xs.length = is.length then some ((is.zip xs).foldl (fun l p => l.set p.1 (some p.2)) l) else none := rfl
@[simp] theorem ret_run : ret e l S = (e l S).bind fun x S1 => .ok (.rt x) S1 := rfl
@[simp] theorem retN_run : retN l S = .ok (.rt .non) S := rfl
@[simp] theorem ifS_run : ifS c m m' l S = (c l S).bind fun k S1 => if k = true then m l S1 else m' l S1 := rfl
@[simp] theorem drop_run : drop e l S = (e l S).bind fun _ S1 => .ok (.nx l) S1 := rfl
@[simp] theorem brk_run : brk l S = .ok (.bk l) S := rfl
@[simp] theorem cont_run : cont l S = .ok (.ct l) S := rfl
@[simp] theorem sSeq_run : sSeq a l S = (a l S).bind fun x S1 => match seqOf S1 x with
  | some xs => .ok (xs, guardOf S1 x) S1
  | none => .bad := rfl
@[simp] theorem guard_tup : guardOf S (.tup xs) = [] := rfl
@[simp] theorem guard_lst : guardOf S (.lst xs) = [] := rfl
@[simp] theorem guard_rol : guardOf S (.rol xs) = [] := rfl
@[simp] theorem held_nil : held S [] = true := rfl
theorem forS_run (t : Tg) (i : MI) : forS t i m l S = (i l S).bind fun p S1 => loop t m p.2 p.1 l S1 := rfl
@[simp] theorem fn_run (n : Nat) (args : List DV) : fn n m args S = match m (args.map some ++ List.replicate (n - args.length) none) S with
  | .ok (.rt d) S1 => leave S.length d S1
  | .ok (.nx _) S1 => leave S.length .non S1
  | .exc c d _ S1 => if noRef d = true then .exc c d [] (S1.take S.length) else .bad
  | _ => .bad := rfl
end
@[simp] theorem noRef_non : noRef .non = true := by simp only [noRef]
@[simp] theorem noRef_bl (b : Bool) : noRef (.bl b) = true := by simp only [noRef]
@[simp] theorem noRef_int (i : Int) : noRef (.int i) = true := by simp only [noRef]
@[simp] theorem noRef_str (s : Str) : noRef (.str s) = true := by simp only [noRef]
@[simp] theorem noRef_tup (xs : List DV) : noRef (.tup xs) = noRefs xs := by simp only [noRef]
@[simp] theorem noRef_lst (xs : List DV) : noRef (.lst xs) = noRefs xs := by simp only [noRef]
@[simp] theorem noRef_rol (xs : List DV) : noRef (.rol xs) = noRefs xs := by simp only [noRef]
@[simp] theorem noRefs_nil : noRefs [] = true := by simp only [noRefs]
@[simp] theorem noRefs_cons (x : DV) (xs : List DV) : noRefs (x :: xs) = (noRef x && noRefs xs) := by simp only [noRefs]
@[simp] theorem noRefs_append (xs ys : List DV) : noRefs (xs ++ ys) = (noRefs xs && noRefs ys) := by
  induction xs with
  | nil => simp
  | cons x xs ih => simp [ih, Bool.and_assoc]
@[simp] theorem LIM_def : LIM = 16777216 := rfl
@[simp] theorem get_app0 (S L : Sto) : (S ++ L)[S.length]? = L[0]? := by
  rw [List.getElem?_append_right (Nat.le_refl _), Nat.sub_self]
@[simp] theorem get_appk (S L : Sto) (k : Nat) : (S ++ L)[S.length + k]? = L[k]? := by
  rw [List.getElem?_append_right (by omega)]
  simp
@[simp] theorem set_app0 (S L : Sto) (y : DV) : (S ++ L).set S.length y = S ++ L.set 0 y := by
  rw [List.set_append_right _ _ (Nat.le_refl _), Nat.sub_self]
@[simp] theorem set_appk (S L : Sto) (k : Nat) (y : DV) : (S ++ L).set (S.length + k) y = S ++ L.set k y := by
  rw [List.set_append_right _ _ (by omega)]
  simp
@[simp] theorem app_run (l : Lo) (S : Sto) (a e : ME) : app a e l S = (a l S).bind fun x S1 => if (lstOf S1 x).isSome = true then (e l S1).bind fun y S2 => (match x with
  | .ref k => match S2[k]? with
    | some (.lst xs) => if xs.length < LIM ∧ noRef y = true then .ok (.nx l) (S2.set k (.lst (xs ++ [y]))) else .bad
    | _ => .bad
  | _ => .bad) else .bad := rfl
@[simp] theorem popE_run (l : Lo) (S : Sto) (a : ME) : popE a l S = (a l S).bind fun x S1 => match x with
  | .ref k => match S1[k]? with
    | some (.lst xs) => match xs[xs.length - 1]? with
      | some y => .ok y (S1.set k (.lst xs.dropLast))
      | none => .bad
    | _ => .bad
  | _ => .bad := rfl
@[simp] theorem setL_run (l : Lo) (S : Sto) (a i e : ME) : setL a i e l S = (e l S).bind fun y S0 => (a l S0).bind fun x S1 => (i l S1).bind fun j S2 => match x, j with
  | .ref k, .int j => match S2[k]? with
    | some (.lst xs) => match L2.ixN xs.length j with
      | some m => if noRef y = true then .ok (.nx l) (S2.set k (.lst (xs.set m y))) else .bad
      | none => .bad
    | _ => .bad
  | _, _ => .bad := rfl
@[simp] theorem sEnum_run (l : Lo) (S : Sto) (a : ME) : sEnum a l S = (a l S).bind fun x S1 => match seqOf S1 x with
  | some xs => .ok (enumD xs, guardOf S1 x) S1
  | none => .bad := rfl
@[simp] theorem sZip2_run (l : Lo) (S : Sto) (a b : ME) : sZip2 a b l S = (a l S).bind fun x S1 => (b l S1).bind fun y S2 => if sameKind x y = true then (match seqOf S2 x, seqOf S2 y with
  | some xs, some ys => .ok (zipD xs ys, guardOf S2 x ++ guardOf S2 y) S2
  | _, _ => .bad) else .bad := rfl
@[simp] theorem sameKind_tup (xs ys : List DV) : sameKind (.tup xs) (.tup ys) = true := rfl
@[simp] theorem sameKind_lst (xs ys : List DV) : sameKind (.lst xs) (.lst ys) = true := rfl
open Classical in
@[simp] theorem sRange1_run (l : Lo) (S : Sto) (a : ME) : sRange1 a l S = (a l S).bind fun x S1 => match x with
  | .int n => if RngOk n then .ok (rngD 0 n.toNat, []) S1 else .bad
  | _ => .bad := rfl
open Classical in
@[simp] theorem sRange2_run (l : Lo) (S : Sto) (a b : ME) : sRange2 a b l S = (a l S).bind fun x S1 => (b l S1).bind fun y S2 => match x, y with
  | .int i, .int j => if RngOk i ∧ RngOk j then .ok (rngD i (j - i).toNat, []) S2 else .bad
  | _, _ => .bad := rfl
open Classical in
@[simp] theorem sRev1_run (l : Lo) (S : Sto) (a : ME) : sRev1 a l S = (a l S).bind fun x S1 => match x with
  | .int n => if RngOk n then .ok ((rngD 0 n.toNat).reverse, []) S1 else .bad
  | _ => .bad := rfl
theorem rngOk {n : Int} (h : 0 ≤ n ∧ n ≤ 1000000000) : RngOk n := ⟨by omega, by omega⟩
theorem rngD_at (n : Nat) : rngD 0 n = (List.range' 0 n).map fun i => DV.int (i : Nat) := by
  unfold rngD
  rw [List.range_eq_range']
  simp
/-- numbered from k on -/
def enumAt (k : Nat) (xs : List DV) : List DV := (List.range' k xs.length).zipWith (fun (i : Nat) x => .tup [.int (i : Int), x]) xs
theorem enumD_at (xs : List DV) : enumD xs = enumAt 0 xs := by
  unfold enumD enumAt
  rw [List.range_eq_range']
@[simp] theorem enumAt_nil (k : Nat) : enumAt k [] = [] := rfl
@[simp] theorem enumAt_cons (k : Nat) (x : DV) (xs : List DV) : enumAt k (x :: xs) = .tup [.int (k : Int), x] :: enumAt (k + 1) xs := by
  unfold enumAt
  rw [List.length_cons, List.range'_succ]
  rfl
@[simp] theorem zipD_nil (ys : List DV) : zipD [] ys = [] := rfl
@[simp] theorem zipD_nil' (xs : List DV) : zipD xs [] = [] := by simp [zipD]
@[simp] theorem zipD_cons (x y : DV) (xs ys : List DV) : zipD (x :: xs) (y :: ys) = .tup [x, y] :: zipD xs ys := rfl
/-! ### loops -/
theorem loop_nil (t : Tg) (m : MS) (l : Lo) (S : Sto) : loop t m [] [] l S = .ok (.nx l) S := by
  unfold loop
  rfl
theorem loop_cons (t : Tg) (m : MS) (x : DV) (xs : List DV) (l : Lo) (S : Sto) : loop t m [] (x :: xs) l S = match t x l with
    | some l1 => (m l1 S).bind fun f S1 => match f with
      | .nx l2 => loop t m [] xs l2 S1
      | .ct l2 => loop t m [] xs l2 S1
      | .bk l2 => .ok (.nx l2) S1
      | .rt d => .ok (.rt d) S1
    | none => .bad := by
  rw [loop]
  rfl
/-- a loop whose turns are told -/
theorem loop_turns (t : Tg) (m : MS) (st : Nat → Lo) (So : Nat → Sto) : ∀ (xs : List DV) (k : Nat), (∀ i (d : DV), xs[i]? = some d → ∃ l1, t d (st (k + i)) = some l1 ∧ (m l1 (So (k + i)) = .ok (.nx (st (k + i + 1))) (So (k + i + 1)) ∨ m l1 (So (k + i)) = .ok (.ct (st (k + i + 1))) (So (k + i + 1)))) →
    loop t m [] xs (st k) (So k) = .ok (.nx (st (k + xs.length))) (So (k + xs.length))
  | [], k, _ => by rw [loop_nil]; rfl
  | x :: xs, k, h => by
    obtain ⟨l1, h1, h2⟩ := h 0 x rfl
    rw [loop_cons, Nat.add_zero] at *
    rw [h1]
    have ih := loop_turns t m st So xs (k + 1) fun i d e => by
      have := h (i + 1) d (by simpa using e)
      have e1 : k + (i + 1) = k + 1 + i := by omega
      rw [e1] at this
      exact this
    have e2 : k + 1 + xs.length = k + (x :: xs).length := by simp; omega
    rw [e2] at ih
    dsimp only
    rcases h2 with h2 | h2
    · rw [h2]; exact ih
    · rw [h2]; exact ih
/-! ### comprehensions -/
theorem compL_run (t : Tg) (c : MT) (e : ME) (l0 : Lo) (n : Nat) (p : DV → Bool) (f : DV → DV) : ∀ (xs : List DV) (S : Sto) (acc : List DV), (∀ x ∈ xs, ∃ l1, t x l0 = some l1 ∧ (∀ S', c l1 S' = .ok (p x) S') ∧ (p x = true → noRef (f x) = true ∧ ∀ S', e l1 S' = .ok (f x) S')) →
    S[n]? = some (.lst acc) → acc.length + xs.length ≤ 1000000 → compL t c e [] l0 n xs S = .ok () (S.set n (.lst (acc ++ (xs.filter p).map f)))
  | [], S, acc, _, hS, _ => by
    unfold compL
    rw [if_pos (show held S [] = true from rfl)]
    have : S.set n (.lst acc) = S := by
      refine List.ext_getElem? fun j => ?_
      by_cases hj : j = n
      · subst hj
        rw [List.getElem?_set_self (List.getElem?_eq_some_iff.mp hS).1, hS]
      · rw [List.getElem?_set_ne (Ne.symm hj)]
    simp [this]
  | x :: xs, S, acc, h, hS, hl => by
    obtain ⟨l1, h1, h2, h3⟩ := h x List.mem_cons_self
    simp only [List.length_cons] at hl
    unfold compL
    rw [if_pos (show held S [] = true from rfl), h1]
    simp only [h2, bind_ok']
    cases hp : p x with
    | false =>
      rw [if_neg (by decide)]
      rw [compL_run t c e l0 n p f xs S acc (fun y m => h y (List.mem_cons_of_mem _ m)) hS (by omega)]
      simp [hp]
    | true =>
      obtain ⟨h4, h5⟩ := h3 hp
      rw [if_pos rfl]
      simp only [h5, bind_ok', hS]
      rw [if_pos ⟨by simp only [LIM_def]; omega, h4⟩]
      have hn := (List.getElem?_eq_some_iff.mp hS).1
      rw [compL_run t c e l0 n p f xs _ (acc ++ [f x]) (fun y m => h y (List.mem_cons_of_mem _ m)) (List.getElem?_set_self hn) (by simp; omega)]
      simp [hp]
theorem comp_run (own : List Nat) (t : Tg) (i : MI) (c : MT) (e : ME) (l : Lo) (S S1 : Sto) (xs : List DV) (p : DV → Bool) (f : DV → DV) (hi : i l S = .ok (xs, []) S1) (hl : xs.length ≤ 1000000)
    (h : ∀ x ∈ xs, ∃ l1, t x (wipeL l own) = some l1 ∧ (∀ S', c l1 S' = .ok (p x) S') ∧ (p x = true → noRef (f x) = true ∧ ∀ S', e l1 S' = .ok (f x) S')) :
    comp own t i c e l S = .ok (.lst ((xs.filter p).map f)) S1 := by
  unfold comp
  rw [hi]
  simp only [bind_ok']
  have hc := compL_run t c e (wipeL l own) S1.length p f xs (S1 ++ [DV.lst []]) [] h (by simp) (by simpa using hl)
  rw [hc]
  simp
theorem compR_run (own : List Nat) (t : Tg) (i : MI) (c : MT) (e : ME) (l : Lo) (S S1 : Sto) (xs : List DV) (p : DV → Bool) (f : DV → DV) (hi : i l S = .ok (xs, []) S1) (hl : xs.length ≤ 1000000)
    (h : ∀ x ∈ xs, ∃ l1, t x (wipeL l own) = some l1 ∧ (∀ S', c l1 S' = .ok (p x) S') ∧ (p x = true → noRef (f x) = true ∧ ∀ S', e l1 S' = .ok (f x) S')) :
    compR own t i c e l S = .ok (.ref S1.length) (S1 ++ [.lst ((xs.filter p).map f)]) := by
  unfold compR
  rw [hi]
  simp only [bind_ok']
  have hc := compL_run t c e (wipeL l own) S1.length p f xs (S1 ++ [DV.lst []]) [] h (by simp) (by simpa using hl)
  rw [hc]
  simp
/-- each element by itself, of some kind -/
theorem comp_each (own : List Nat) (t : Tg) (i : MI) (e : ME) (l : Lo) (S S1 : Sto) (xs : List DV) (G : DV → DV → Prop) (hi : i l S = .ok (xs, []) S1) (hl : xs.length ≤ 1000000)
    (h : ∀ x ∈ xs, ∃ l1 d, t x (wipeL l own) = some l1 ∧ G x d ∧ noRef d = true ∧ ∀ S', e l1 S' = .ok d S') :
    ∃ f : DV → DV, (∀ x ∈ xs, G x (f x) ∧ noRef (f x) = true) ∧ comp own t i tYes e l S = .ok (.lst (xs.map f)) S1 := by
  classical
  have hc : ∀ x, ∃ d, x ∈ xs → ∃ l1, t x (wipeL l own) = some l1 ∧ G x d ∧ noRef d = true ∧ ∀ S', e l1 S' = .ok d S' := fun x => by
    by_cases m : x ∈ xs
    · obtain ⟨l1, d, q⟩ := h x m
      exact ⟨d, fun _ => ⟨l1, q⟩⟩
    · exact ⟨.non, fun q => absurd q m⟩
  refine ⟨fun x => Classical.choose (hc x), fun x m => ?_, ?_⟩
  · obtain ⟨l1, _, q1, q2, _⟩ := Classical.choose_spec (hc x) m
    exact ⟨q1, q2⟩
  · rw [comp_run own t i tYes e l S S1 xs (fun _ => true) (fun x => Classical.choose (hc x)) hi hl fun x m => ?_]
    · rw [List.filter_eq_self.mpr fun _ _ => rfl]
    · obtain ⟨l1, q0, _, q2, q3⟩ := Classical.choose_spec (hc x) m
      exact ⟨l1, q0, fun _ => rfl, fun _ => ⟨q2, q3⟩⟩
theorem atI_lt {α : Type} (xs : List α) (i : Int) (h0 : 0 ≤ i) (h : i < xs.length) : ∃ x, xs[i.toNat]? = some x ∧ L2.atI xs i = some x := by
  have hl : i.toNat < xs.length := by omega
  refine ⟨xs[i.toNat], List.getElem?_eq_getElem hl, ?_⟩
  have := L2.atI_nat (xs := xs) (j := i.toNat) (List.getElem?_eq_getElem hl)
  rwa [show ((i.toNat : Nat) : Int) = i by omega] at this
theorem atI_str (ws : List Str) (i : Int) (h0 : 0 ≤ i) (h : i < ws.length) : ∃ w ∈ ws, L2.atI (ws.map DV.str) i = some (.str w) := by
  obtain ⟨x, h1, h2⟩ := atI_lt (ws.map DV.str) i h0 (by simpa using h)
  rw [List.getElem?_map] at h1
  cases e : ws[i.toNat]? with
  | none => rw [e] at h1; simp at h1
  | some w =>
    rw [e] at h1
    simp at h1
    exact ⟨w, List.mem_of_getElem? e, by rw [h2, ← h1]⟩
@[simp] theorem str_len_append (a b : Str) : (a ++ b).length = a.length + b.length := by
  show (a.cps ++ b.cps).size = _
  rw [Array.size_append]
  rfl
/-! ### slices -/
theorem cutD_map {α β : Type} (f : α → β) (xs : List α) (lo hi : Option Int) : cutD (xs.map f) lo hi = (cutD xs lo hi).map f := by
  unfold cutD
  rw [List.length_map, List.map_take, List.map_drop]
theorem sIx_nat' (n d k : Nat) : HT.sIx n d (some (k : Int)) = min k n := HT.sIx_nat n d k
theorem cut_from {α : Type} (xs : List α) (k : Nat) : cutD xs (some (k : Int)) none = xs.drop k := by
  unfold cutD
  rw [sIx_nat', HT.sIx_none]
  by_cases h : k ≤ xs.length
  · rw [Nat.min_eq_left h, List.take_of_length_le (by rw [List.length_drop]; exact Nat.le_refl _)]
  · rw [Nat.min_eq_right (by omega), List.drop_length, List.drop_eq_nil_of_le (by omega)]
    simp
theorem cut_to {α : Type} (xs : List α) (k : Nat) : cutD xs none (some (k : Int)) = xs.take k := by
  unfold cutD
  rw [sIx_nat', HT.sIx_none, List.drop_zero, Nat.sub_zero]
  by_cases h : k ≤ xs.length
  · rw [Nat.min_eq_left h]
  · rw [Nat.min_eq_right (by omega), List.take_length, List.take_of_length_le (by omega)]
theorem cut_mid {α : Type} (xs : List α) (a b : Nat) : cutD xs (some (a : Int)) (some (b : Int)) = (xs.drop a).take (b - a) := by
  unfold cutD
  rw [sIx_nat', sIx_nat']
  by_cases h : a ≤ xs.length
  · rw [Nat.min_eq_left h]
    by_cases hb : b ≤ xs.length
    · rw [Nat.min_eq_left hb]
    · rw [Nat.min_eq_right (by omega), List.take_of_length_le (by rw [List.length_drop]; exact Nat.le_refl _), List.take_of_length_le (by rw [List.length_drop]; omega)]
  · rw [show min a xs.length = xs.length from Nat.min_eq_right (by omega), List.drop_length, List.drop_eq_nil_of_le (by omega)]
    simp
theorem cut_from1 {α : Type} (xs : List α) : cutD xs (some 1) none = xs.drop 1 := cut_from xs 1
theorem cut_from2 {α : Type} (xs : List α) : cutD xs (some 2) none = xs.drop 2 := cut_from xs 2
theorem cut_to1 {α : Type} (xs : List α) : cutD xs none (some 1) = xs.take 1 := cut_to xs 1
theorem cut_to2 {α : Type} (xs : List α) : cutD xs none (some 2) = xs.take 2 := cut_to xs 2
theorem int_nat {i : Int} (h : 0 ≤ i) : ∃ k : Nat, i = (k : Int) := ⟨i.toNat, by omega⟩
end Y
/-! More for simp: objects of the store. -/
namespace Y
open PySem
@[simp] theorem lenV_ref (S : Sto) (k : Nat) : lenV S (.ref k) = match S[k]? with
    | some (.lst xs) => some (.int xs.length)
    | _ => none := by
  unfold lenV
  rw [seqOf_ref]
  cases S[k]? with
  | none => rfl
  | some x => cases x <;> rfl
@[simp] theorem tupleV_ref (S : Sto) (k : Nat) : tupleV S (.ref k) = match S[k]? with
    | some (.lst xs) => some (.tup xs)
    | _ => none := by
  unfold tupleV
  rw [seqOf_ref]
  cases S[k]? with
  | none => rfl
  | some x => cases x <;> rfl
@[simp] theorem listV_ref (S : Sto) (k : Nat) : listV S (.ref k) = match S[k]? with
    | some (.lst xs) => some (.lst xs)
    | _ => none := by
  unfold listV
  rw [seqOf_ref]
  cases S[k]? with
  | none => rfl
  | some x => cases x <;> rfl
@[simp] theorem ixV_ref (S : Sto) (k : Nat) (i : Int) : ixV S (.ref k) (.int i) = match S[k]? with
    | some (.lst xs) => L2.atI xs i
    | _ => none := by
  unfold ixV
  simp only [seqOf_ref]
  cases S[k]? with
  | none => rfl
  | some x => cases x <;> rfl
@[simp] theorem slV_ref (S : Sto) (k : Nat) (lo hi : Option Int) : slV S (.ref k) lo hi = match S[k]? with
    | some (.lst xs) => some (.lst (cutD xs lo hi))
    | _ => none := by
  unfold slV
  simp only [seqOf_ref]
  cases S[k]? with
  | none => rfl
  | some x => cases x <;> rfl
@[simp] theorem tagOf_non (S : Sto) : tagOf S .non = some "NoneType" := by simp only [tagOf]
@[simp] theorem tagOf_bl (S : Sto) (b : Bool) : tagOf S (.bl b) = some "bool" := by simp only [tagOf]
@[simp] theorem tagOf_int (S : Sto) (i : Int) : tagOf S (.int i) = some "int" := by simp only [tagOf]
@[simp] theorem tagOf_str (S : Sto) (s : Str) : tagOf S (.str s) = some "str" := by simp only [tagOf]
@[simp] theorem tagOf_tup (S : Sto) (xs : List DV) : tagOf S (.tup xs) = some "tuple" := by simp only [tagOf]
@[simp] theorem tagOf_lst (S : Sto) (xs : List DV) : tagOf S (.lst xs) = some "list" := by simp only [tagOf]
@[simp] theorem tagOf_ref (S : Sto) (k : Nat) : tagOf S (.ref k) = match S[k]? with
    | some (.lst _) => some "list"
    | some (.dk _) => some "dict"
    | _ => none := by
  unfold tagOf
  dsimp only
  all_goals first
    | rfl
    | (generalize S[k]? = o; rcases o with _ | x <;> first | rfl | (cases x <;> rfl))
end Y
/-! The text of law_k01_parts_counted as combinators. -/
namespace Y
open PySem

inductive Fid where
  | p_parts | p_with_parts | p_size | p_places | l_cell_at | l_whole | l_word | l_words | l_leaf | l_tree | l_parts | l_places | l_same | law

def c_LEAVES : DV := .tup [.str "num", .str "name", .str "ask", .str "stop", .str "gap"]
/- parts(tree): slots 0 tree -/
noncomputable def b_p_parts (C : Fid → Ora) : MS :=
  seq (ifS (tst (inE (ix (var 0) (cst (.int 0))) (cst c_LEAVES))) (ret (tupE (aNil))) (skip)) <|
  seq (ifS (tst (eqE (ix (var 0) (cst (.int 0))) (cst (.str "let")))) (ret (slice (var 0) (some (cst (.int 2))) none)) (skip)) <|
  ret (slice (var 0) (some (cst (.int 1))) none)
/- with_parts(tree, some): slots 0 tree, 1 some -/
noncomputable def b_p_with_parts (C : Fid → Ora) : MS :=
  seq (ifS (tst (inE (ix (var 0) (cst (.int 0))) (cst c_LEAVES))) (ret (var 0)) (skip)) <|
  seq (ifS (tst (eqE (ix (var 0) (cst (.int 0))) (cst (.str "let")))) (ret (add (slice (var 0) none (some (cst (.int 2)))) (tupleE (var 1)))) (skip)) <|
  ret (add (slice (var 0) none (some (cst (.int 1)))) (tupleE (var 1)))
/- size(tree): slots 0 tree, 1 many, 2 part -/
noncomputable def b_p_size (C : Fid → Ora) : MS :=
  seq (asg (tN 1) (cst (.int 1))) <|
  seq (forS (tN 2) (sSeq (call (C .p_parts) (aCons (var 0) (aNil)))) (asg (tN 1) (add (var 1) (call (C .p_size) (aCons (var 2) (aNil)))))) <|
  ret (var 1)
/- places(tree): slots 0 tree, 1 found, 2 number, 3 part, 4 place -/
noncomputable def b_p_places (C : Fid → Ora) : MS :=
  seq (asg (tN 1) (lstR (aCons (tupE (aNil)) (aNil)))) <|
  seq (forS (tU [2, 3]) (sEnum (call (C .p_parts) (aCons (var 0) (aNil)))) (forS (tN 4) (sSeq (call (C .p_places) (aCons (var 3) (aNil)))) (app (var 1) (add (tupE (aCons (var 2) (aNil))) (var 4))))) <|
  ret (var 1)
/- _law_cell_at(_law_script, _law_k): slots 0 _law_script, 1 _law_k -/
noncomputable def b_l_cell_at (C : Fid → Ora) : MS :=
  seq (ifS (tst (ltE (var 1) (lenE (var 0)))) (ret (ix (var 0) (var 1))) (skip)) <|
  ret (cst (.int 0))
/- _law_whole(_law_found): slots 0 _law_found -/
noncomputable def b_l_whole (C : Fid → Ora) : MS :=
  ret (andE (isiE "int" (var 0)) (notE (isiE "bool" (var 0))))
/- _law_word(_law_cell, _law_long, _law_at, _law_turn): slots 0 _law_cell, 1 _law_long, 2 _law_at, 3 _law_turn, 4 _law_letters, 5 _law_word_here, 6 _law_j, 7 _law_number -/
noncomputable def b_l_word (C : Fid → Ora) : MS :=
  seq (asg (tN 4) (cst (.str "abcdefghijklmnopqrstuvwxyz"))) <|
  seq (asg (tN 5) (cst (.str ""))) <|
  seq (forS (tN 6) (sRange1 (var 1)) (seq (asg (tN 7) (fdiv (mod (mul (mod (var 0) (cst (.int 1000003))) (add (cst (.int 48271)) (mul (mul (cst (.int 2)) (var 6)) (var 6)))) (cst (.int 2147483647))) (cst (.int 97)))) <|
  seq (ifS (tst (eqE (var 6) (var 2))) (asg (tN 7) (add (var 7) (var 3))) (skip)) <|
  asg (tN 5) (add (var 5) (ix (var 4) (mod (var 7) (cst (.int 26))))))) <|
  seq (ifS (tst (inE (var 5) (tupE (aCons (cst (.str "let")) (aCons (cst (.str "in")) (aCons (cst (.str "if")) (aCons (cst (.str "then")) (aCons (cst (.str "else")) (aCons (cst (.str "say")) (aCons (cst (.str "ask")) (aCons (cst (.str "stop")) (aCons (cst (.str "where")) (aCons (cst (.str "quiet")) (aCons (cst (.str "number")) (aNil))))))))))))))) (ret (add (cst (.str "k")) (slice (var 5) (some (cst (.int 1))) none))) (skip)) <|
  ret (var 5)
/- _law_words(_law_cell): slots 0 _law_cell, 1 _law_long, 2 _law_at, 3 _law_k -/
noncomputable def b_l_words (C : Fid → Ora) : MS :=
  seq (asg (tN 1) (add (cst (.int 1)) (mod (var 0) (cst (.int 8))))) <|
  seq (asg (tN 2) (mod (fdiv (var 0) (cst (.int 8))) (var 1))) <|
  ret (comp [3] (tN 3) (sRange1 (cst (.int 4))) (tYes) (call (C .l_word) (aCons (fdiv (var 0) (cst (.int 64))) (aCons (var 1) (aCons (var 2) (aCons (mul (cst (.int 5)) (var 3)) (aNil)))))))
/- _law_leaf(_law_cell, _law_words_here): slots 0 _law_cell, 1 _law_words_here, 2 _law_number, 3 _law_atoms -/
noncomputable def b_l_leaf (C : Fid → Ora) : MS :=
  seq (asg (tN 2) (mod (mul (var 0) (cst (.int 48271))) (cst (.int 2147483647)))) <|
  seq (ifS (tst (eqE (mod (var 2) (cst (.int 5))) (cst (.int 0)))) (ret (tupE (aCons (cst (.str "num")) (aCons (mod (var 0) (pow (cst (.int 10)) (cst (.int 30)))) (aNil))))) (skip)) <|
  seq (ifS (tst (eqE (mod (var 2) (cst (.int 5))) (cst (.int 4)))) (seq (asg (tN 3) (lstE (aCons (tupE (aCons (cst (.str "name")) (aCons (ix (var 1) (mod (fdiv (var 2) (cst (.int 20))) (cst (.int 4)))) (aNil)))) (aCons (tupE (aCons (cst (.str "num")) (aCons (mod (var 0) (cst (.int 1000))) (aNil)))) (aCons (tupE (aCons (cst (.str "gap")) (aCons (ix (var 1) (mod (fdiv (var 2) (cst (.int 80))) (cst (.int 4)))) (aCons (tupE (aNil)) (aNil))))) (aNil)))))) <|
  ret (tupE (aCons (cst (.str "gap")) (aCons (ix (var 1) (mod (fdiv (var 2) (cst (.int 5))) (cst (.int 4)))) (aCons (tupleE (slice (var 3) none (some (mod (fdiv (var 2) (cst (.int 320))) (cst (.int 4)))))) (aNil)))))) (skip)) <|
  ret (tupE (aCons (ix (lstE (aCons (cst (.str "num")) (aCons (cst (.str "ask")) (aCons (cst (.str "stop")) (aCons (cst (.str "name")) (aNil)))))) (mod (var 2) (cst (.int 5)))) (aCons (ix (var 1) (mod (fdiv (var 2) (cst (.int 5))) (cst (.int 4)))) (aNil))))
/- _law_tree(_law_cells, _law_words_here, _law_deep): slots 0 _law_cells, 1 _law_words_here, 2 _law_deep, 3 _law_number, 4 _law_rest, 5 _law_at, 6 _law_sign, 7 _law_one, 8 _law_far, 9 _law_two, 10 _law_other -/
noncomputable def b_l_tree (C : Fid → Ora) : MS :=
  seq (ifS (tst (eqE (lenE (var 0)) (cst (.int 0)))) (ret (tupE (aCons (cst (.str "name")) (aCons (ix (var 1) (mod (var 2) (cst (.int 4)))) (aNil))))) (skip)) <|
  seq (ifS (orT (tst (eqE (lenE (var 0)) (cst (.int 1)))) (tst (eqE (var 2) (cst (.int 0))))) (ret (call (C .l_leaf) (aCons (ix (var 0) (cst (.int 0))) (aCons (var 1) (aNil))))) (skip)) <|
  seq (asg (tN 3) (mod (mul (ix (var 0) (cst (.int 0))) (cst (.int 69621))) (cst (.int 2147483647)))) <|
  seq (asg (tN 4) (slice (var 0) (some (cst (.int 1))) none)) <|
  seq (asg (tN 5) (mod (fdiv (var 3) (cst (.int 9))) (add (lenE (var 4)) (cst (.int 1))))) <|
  seq (asg (tN 6) (ix (lstE (aCons (cst (.str "say")) (aCons (cst (.str "add")) (aCons (cst (.str "sub")) (aCons (cst (.str "mul")) (aCons (cst (.str "then")) (aCons (cst (.str "if")) (aCons (cst (.str "if")) (aCons (cst (.str "let")) (aCons (cst (.str "let")) (aNil))))))))))) (mod (var 3) (cst (.int 9))))) <|
  seq (ifS (tst (eqE (var 6) (cst (.str "say")))) (ret (tupE (aCons (cst (.str "say")) (aCons (call (C .l_tree) (aCons (var 4) (aCons (var 1) (aCons (sub (var 2) (cst (.int 1))) (aNil))))) (aNil))))) (skip)) <|
  seq (asg (tN 7) (call (C .l_tree) (aCons (slice (var 4) none (some (var 5))) (aCons (var 1) (aCons (sub (var 2) (cst (.int 1))) (aNil)))))) <|
  seq (ifS (tst (eqE (var 6) (cst (.str "if")))) (seq (asg (tN 8) (add (var 5) (mod (fdiv (var 3) (cst (.int 1009))) (add (sub (lenE (var 4)) (var 5)) (cst (.int 1)))))) <|
  seq (asg (tN 9) (call (C .l_tree) (aCons (slice (var 4) (some (var 5)) (some (var 8))) (aCons (var 1) (aCons (sub (var 2) (cst (.int 1))) (aNil)))))) <|
  ret (tupE (aCons (cst (.str "if")) (aCons (var 7) (aCons (var 9) (aCons (call (C .l_tree) (aCons (slice (var 4) (some (var 8)) none) (aCons (var 1) (aCons (sub (var 2) (cst (.int 1))) (aNil))))) (aNil))))))) (skip)) <|
  seq (asg (tN 10) (call (C .l_tree) (aCons (slice (var 4) (some (var 5)) none) (aCons (var 1) (aCons (sub (var 2) (cst (.int 1))) (aNil)))))) <|
  seq (ifS (tst (eqE (var 6) (cst (.str "let")))) (ret (tupE (aCons (cst (.str "let")) (aCons (ix (var 1) (mod (fdiv (var 3) (cst (.int 5003))) (cst (.int 4)))) (aCons (var 7) (aCons (var 10) (aNil))))))) (skip)) <|
  ret (tupE (aCons (var 6) (aCons (var 7) (aCons (var 10) (aNil)))))
/- _law_parts(_law_tree_here): slots 0 _law_tree_here, 1 _law_part -/
noncomputable def b_l_parts (C : Fid → Ora) : MS :=
  ret (comp [1] (tN 1) (sSeq (slice (var 0) (some (cst (.int 1))) none)) (andT (tst (neE (ix (var 0) (cst (.int 0))) (cst (.str "gap")))) (tst (isiE "tuple" (var 1)))) (var 1))
/- _law_places(_law_tree_here): slots 0 _law_tree_here, 1 _law_found, 2 _law_ahead, 3 _law_place, 4 _law_part, 5 _law_some, 6 _law_number -/
noncomputable def b_l_places (C : Fid → Ora) : MS :=
  seq (asg (tN 1) (lstR (aNil))) <|
  seq (asg (tN 2) (lstR (aCons (tupE (aCons (tupE (aNil)) (aCons (var 0) (aNil)))) (aNil)))) <|
  seq (whileS (tst (gtE (lenE (var 2)) (cst (.int 0)))) (seq (asg (tU [3, 4]) (popE (var 2))) <|
  seq (app (var 1) (var 3)) <|
  seq (asg (tN 5) (call (C .l_parts) (aCons (var 4) (aNil)))) <|
  forS (tN 6) (sRev1 (lenE (var 5))) (app (var 2) (tupE (aCons (add (var 3) (tupE (aCons (var 6) (aNil)))) (aCons (ix (var 5) (var 6)) (aNil))))))) <|
  ret (var 1)
/- _law_same(_law_found, _law_due): slots 0 _law_found, 1 _law_due, 2 _law_one, 3 _law_other -/
noncomputable def b_l_same (C : Fid → Ora) : MS :=
  seq (ifS (tst (isiE "tuple" (var 1))) (seq (ifS (orT (notT (tst (isiE "tuple" (var 0)))) (tst (neE (lenE (var 0)) (lenE (var 1))))) (ret (cst (.bl false))) (skip)) <|
  seq (forS (tU [2, 3]) (sZip2 (var 0) (var 1)) (ifS (notT (tst (call (C .l_same) (aCons (var 2) (aCons (var 3) (aNil)))))) (ret (cst (.bl false))) (skip))) <|
  ret (cst (.bl true))) (skip)) <|
  seq (ifS (tst (isiE "str" (var 1))) (ret (andE (isiE "str" (var 0)) (eqE (var 0) (var 1)))) (skip)) <|
  ret (andE (call (C .l_whole) (aCons (var 0) (aNil))) (eqE (var 0) (var 1)))
/- law(_law_script): slots 0 _law_script, 1 _law_words_here, 2 _law_tree_here, 3 _law_due, 4 _law_found, 5 _law_many, 6 _law_some, 7 _law_others, 8 _law_laid, 9 _law_k -/
noncomputable def b_law (C : Fid → Ora) : MS :=
  seq (asg (tN 1) (call (C .l_words) (aCons (call (C .l_cell_at) (aCons (var 0) (aCons (cst (.int 0)) (aNil)))) (aNil)))) <|
  seq (asg (tN 2) (call (C .l_tree) (aCons (slice (var 0) (some (cst (.int 2))) (some (cst (.int 62)))) (aCons (var 1) (aCons (cst (.int 12)) (aNil)))))) <|
  seq (asg (tN 3) (call (C .l_places) (aCons (var 2) (aNil)))) <|
  seq (asg (tN 4) (callR (C .p_places) (aCons (var 2) (aNil)))) <|
  seq (ifS (orT (notT (tst (isiE "list" (var 4)))) (notT (tst (call (C .l_same) (aCons (tupleE (var 4)) (aCons (tupleE (var 3)) (aNil))))))) (ret (cst (.bl false))) (skip)) <|
  seq (app (var 4) (tupE (aCons (cst (.int 7)) (aNil)))) <|
  seq (setL (var 4) (cst (.int 0)) (tupE (aCons (cst (.int 3)) (aCons (cst (.int 3)) (aNil))))) <|
  seq (asg (tN 5) (call (C .p_size) (aCons (var 2) (aNil)))) <|
  seq (ifS (orT (notT (tst (call (C .l_whole) (aCons (var 5) (aNil))))) (tst (neE (var 5) (lenE (var 3))))) (ret (cst (.bl false))) (skip)) <|
  seq (asg (tN 6) (call (C .l_parts) (aCons (var 2) (aNil)))) <|
  seq (ifS (notT (tst (call (C .l_same) (aCons (call (C .p_parts) (aCons (var 2) (aNil))) (aCons (tupleE (var 6)) (aNil)))))) (ret (cst (.bl false))) (skip)) <|
  seq (asg (tN 7) (comp [9] (tN 9) (sRange1 (lenE (var 6))) (tYes) (call (C .l_leaf) (aCons (add (fdiv (call (C .l_cell_at) (aCons (var 0) (aCons (cst (.int 1)) (aNil)))) (add (var 9) (cst (.int 1)))) (var 9)) (aCons (var 1) (aNil)))))) <|
  seq (asg (tN 8) (call (C .p_with_parts) (aCons (var 2) (aCons (tupleE (var 7)) (aNil))))) <|
  seq (ifS (notT (tst (call (C .l_same) (aCons (var 8) (aCons (add (slice (var 2) none (some (sub (lenE (var 2)) (lenE (var 6))))) (tupleE (var 7))) (aNil)))))) (ret (cst (.bl false))) (skip)) <|
  ret (call (C .l_same) (aCons (tupleE (call (C .p_places) (aCons (var 2) (aNil)))) (aCons (tupleE (var 3)) (aNil))))
/-- the text's defs, by how many calls may stand within one another -/
noncomputable def C : Nat → Fid → Ora
  | 0, _ => fun _ _ => .bad
  | n + 1, .p_parts => fn 1 (b_p_parts (C n))
  | n + 1, .p_with_parts => fn 2 (b_p_with_parts (C n))
  | n + 1, .p_size => fn 3 (b_p_size (C n))
  | n + 1, .p_places => fn 5 (b_p_places (C n))
  | n + 1, .l_cell_at => fn 2 (b_l_cell_at (C n))
  | n + 1, .l_whole => fn 1 (b_l_whole (C n))
  | n + 1, .l_word => fn 8 (b_l_word (C n))
  | n + 1, .l_words => fn 4 (b_l_words (C n))
  | n + 1, .l_leaf => fn 4 (b_l_leaf (C n))
  | n + 1, .l_tree => fn 11 (b_l_tree (C n))
  | n + 1, .l_parts => fn 2 (b_l_parts (C n))
  | n + 1, .l_places => fn 7 (b_l_places (C n))
  | n + 1, .l_same => fn 4 (b_l_same (C n))
  | n + 1, .law => fn 10 (b_law (C n))
/-- what is to be shown in plain Lean -/
def LawTrue : Prop := ∀ ns : List Int, ns.length ≤ 63 → C 150 .law [.rol (ns.map DV.int)] [] = .ok (.bl true, false) []
end Y
/-! Trees. -/
namespace Y
open PySem
inductive At where
  | num (n : Int) | name (x : Str) | gap (h : Str)
inductive Bo where
  | add | sub | mul | thn
inductive T where
  | num (n : Int) | name (x : Str) | ask (w : Str) | stop (w : Str) | gap (g : Str) (as : List At) | say (a : T) | bin (o : Bo) (a b : T) | ite (a b c : T) | lt (x : Str) (a b : T)
abbrev tg2 (s : String) (d : DV) : DV := .tup [.str s, d]
def encA : At → DV
  | .num n => .tup [.str "num", .int n]
  | .name x => .tup [.str "name", .str x]
  | .gap h => .tup [.str "gap", .str h, .tup []]
def Bo.s : Bo → Str
  | .add => "add"
  | .sub => "sub"
  | .mul => "mul"
  | .thn => "then"
def enc : T → DV
  | .num n => .tup [.str "num", .int n]
  | .name x => .tup [.str "name", .str x]
  | .ask w => .tup [.str "ask", .str w]
  | .stop w => .tup [.str "stop", .str w]
  | .gap g as => .tup [.str "gap", .str g, .tup (as.map encA)]
  | .say a => .tup [.str "say", enc a]
  | .bin o a b => .tup [.str o.s, enc a, enc b]
  | .ite a b c => .tup [.str "if", enc a, enc b, enc c]
  | .lt x a b => .tup [.str "let", .str x, enc a, enc b]
def T.sign : T → Str
  | .num _ => "num"
  | .name _ => "name"
  | .ask _ => "ask"
  | .stop _ => "stop"
  | .gap _ _ => "gap"
  | .say _ => "say"
  | .bin o _ _ => o.s
  | .ite _ _ _ => "if"
  | .lt _ _ _ => "let"
def T.parts : T → List T
  | .say a => [a]
  | .bin _ a b => [a, b]
  | .ite a b c => [a, b, c]
  | .lt _ a b => [a, b]
  | _ => []
def T.size : T → Nat
  | .say a => a.size + 1
  | .bin _ a b => a.size + b.size + 1
  | .ite a b c => a.size + b.size + c.size + 1
  | .lt _ a b => a.size + b.size + 1
  | _ => 1
def T.ht : T → Nat
  | .say a => a.ht + 1
  | .bin _ a b => max a.ht b.ht + 1
  | .ite a b c => max a.ht (max b.ht c.ht) + 1
  | .lt _ a b => max a.ht b.ht + 1
  | _ => 1
theorem T.ht_parts {t p : T} (h : p ∈ t.parts) : p.ht < t.ht := by
  cases t <;> simp [T.parts] at h <;> simp only [T.ht]
  · subst h; omega
  · rcases h with h | h <;> subst h <;> omega
  · rcases h with h | h | h <;> subst h <;> omega
  · rcases h with h | h <;> subst h <;> omega
theorem T.size_parts (t : T) : t.size = (t.parts.map T.size).sum + 1 := by
  cases t <;> simp [T.parts, T.size] <;> omega
theorem T.size_pos (t : T) : 0 < t.size := by rw [T.size_parts]; omega
theorem T.size_part {t p : T} (h : p ∈ t.parts) : p.size < t.size := by
  cases t <;> simp [T.parts] at h <;> simp only [T.size]
  · subst h; omega
  · rcases h with h | h <;> subst h <;> omega
  · rcases h with h | h | h <;> subst h <;> omega
  · rcases h with h | h <;> subst h <;> omega
/-- by the parts -/
theorem T.byParts {P : T → Prop} (h : ∀ t : T, (∀ p ∈ t.parts, P p) → P t) (t : T) : P t := by
  have : ∀ n (t : T), t.ht ≤ n → P t := by
    intro n
    induction n with
    | zero => intro t ht; cases t <;> simp only [T.ht] at ht <;> omega
    | succ n ih => intro t ht; exact h t fun p hp => ih p (by have := T.ht_parts hp; omega)
  exact this t.ht t (Nat.le_refl _)
theorem noRefs_map {α : Type} (f : α → DV) (h : ∀ x, noRef (f x) = true) : ∀ xs : List α, noRefs (xs.map f) = true
  | [] => rfl
  | x :: xs => by simp only [List.map_cons, noRefs, h, noRefs_map f h xs, Bool.and_self]
theorem noRef_encA (a : At) : noRef (encA a) = true := by cases a <;> rfl
theorem noRef_enc : ∀ t : T, noRef (enc t) = true
  | .num _ => rfl
  | .name _ => rfl
  | .ask _ => rfl
  | .stop _ => rfl
  | .gap _ as => by simp [enc, noRef, noRefs, noRefs_map encA noRef_encA]
  | .say a => by simp [enc, noRef, noRefs, noRef_enc a]
  | .bin _ a b => by simp [enc, noRef, noRefs, noRef_enc a, noRef_enc b]
  | .ite a b c => by simp [enc, noRef, noRefs, noRef_enc a, noRef_enc b, noRef_enc c]
  | .lt _ a b => by simp [enc, noRef, noRefs, noRef_enc a, noRef_enc b]
theorem noRefGe_of {m : Nat} {d : DV} (h : noRef d = true) : noRefGe m d = true := noRef_ge m d h
/-- a def's end with a value -/
theorem leave_ok {m : Nat} {d : DV} {S : Sto} (h : noRef d = true) : leave m d S = .ok (d, false) (S.take m) := by
  rw [leave_val (fun k e => by rw [e] at h; simp [noRef] at h), if_pos (noRefGe_of h)]
@[simp] theorem take_len (S : Sto) : List.take S.length S = S := List.take_length
/-- its own object: the store of before, then its objects -/
theorem leave_mine (S L : Sto) (k : Nat) (x : DV) (h : L[k]? = some x) : leave S.length (.ref (S.length + k)) (S ++ L) = .ok (x, true) S := by
  rw [leave_own (by omega) (y := x) (by rw [List.getElem?_append_right (by omega)]; simpa using h)]
  simp
/-! ### places -/
def encP (p : List Nat) : DV := .tup (p.map fun (k : Nat) => .int (k : Int))
theorem noRef_encP (p : List Nat) : noRef (encP p) = true := by
  unfold encP
  simp only [noRef]
  exact noRefs_map _ (fun _ => rfl) p
mutual
def T.places : T → List (List Nat)
  | .say a => [] :: a.places.map (0 :: ·)
  | .bin _ a b => [] :: (a.places.map (0 :: ·) ++ b.places.map (1 :: ·))
  | .ite a b c => [] :: (a.places.map (0 :: ·) ++ b.places.map (1 :: ·) ++ c.places.map (2 :: ·))
  | .lt _ a b => [] :: (a.places.map (0 :: ·) ++ b.places.map (1 :: ·))
  | _ => [[]]
end
/-- the places of some parts, numbered from k on -/
def placesFrom (k : Nat) : List T → List (List Nat)
  | [] => []
  | p :: ps => p.places.map (k :: ·) ++ placesFrom (k + 1) ps
theorem T.places_eq (t : T) : t.places = [] :: placesFrom 0 t.parts := by
  cases t <;> simp [T.places, T.parts, placesFrom]
theorem placesFrom_len (ps : List T) : (∀ p ∈ ps, p.places.length = p.size) → ∀ k, (placesFrom k ps).length = (ps.map T.size).sum := by
  induction ps with
  | nil => intro _ k; rfl
  | cons p ps ih =>
    intro h k
    simp only [placesFrom, List.length_append, List.length_map, List.map_cons, List.sum_cons]
    rw [h p List.mem_cons_self, ih (fun q m => h q (List.mem_cons_of_mem _ m))]
theorem T.places_len (t : T) : t.places.length = t.size := by
  refine T.byParts (P := fun t => t.places.length = t.size) (fun t ih => ?_) t
  rw [T.places_eq, T.size_parts, List.length_cons, placesFrom_len t.parts ih]
theorem T.place_len (t : T) : ∀ p ∈ t.places, p.length ≤ t.ht := by
  refine T.byParts (P := fun t => ∀ p ∈ t.places, p.length ≤ t.ht) (fun t ih p hp => ?_) t
  rw [T.places_eq] at hp
  rcases List.mem_cons.mp hp with rfl | hp
  · simp
  · have : ∀ (ps : List T) (k : Nat), (∀ q ∈ ps, q ∈ t.parts) → p ∈ placesFrom k ps → p.length ≤ t.ht := by
      intro ps
      induction ps with
      | nil => intro k _ h; simp [placesFrom] at h
      | cons q ps ih2 =>
        intro k hq h
        simp only [placesFrom, List.mem_append, List.mem_map] at h
        rcases h with ⟨r, hr, rfl⟩ | h
        · have h1 := ih q (hq q List.mem_cons_self) r hr
          have h2 := T.ht_parts (hq q List.mem_cons_self)
          simp only [List.length_cons]
          omega
        · exact ih2 (k + 1) (fun r m => hq r (List.mem_cons_of_mem _ m)) h
    exact this t.parts 0 (fun _ m => m) hp
end Y
namespace Y
open PySem
theorem bo_s (o : Bo) : o.s = Str.ofString "add" ∨ o.s = Str.ofString "sub" ∨ o.s = Str.ofString "mul" ∨ o.s = Str.ofString "then" := by cases o <;> simp [Bo.s]
theorem run_parts (n : Nat) (t : T) (S : Sto) : C (n + 1) .p_parts [enc t] S = .ok (.tup (t.parts.map enc), false) S := by
  simp only [C]
  cases t with
  | bin o a b =>
    cases o <;> simp [b_p_parts, enc, c_LEAVES, L2.atI, L2.ixN, inV, flatD, HT.sIx, cutD, T.parts, Bo.s, leave_ok, noRef_enc]
  | _ => simp [b_p_parts, enc, c_LEAVES, L2.atI, L2.ixN, inV, flatD, HT.sIx, cutD, T.parts, leave_ok, noRef_enc]
end Y
namespace Y
open PySem
theorem T.ht_pos (t : T) : 0 < t.ht := by cases t <;> simp [T.ht]
def T.head : T → List DV
  | .lt x _ _ => [.str "let", .str x]
  | t => [.str t.sign]
def T.isLeaf : T → Bool
  | .num _ => true
  | .name _ => true
  | .ask _ => true
  | .stop _ => true
  | .gap _ _ => true
  | _ => false
theorem run_with_parts (n : Nat) (t : T) (qs : List DV) (S : Sto) (h : qs.length ≤ 1000) (hr : noRefs qs = true) :
    C (n + 1) .p_with_parts [enc t, .tup qs] S = .ok (if t.isLeaf then enc t else .tup (t.head ++ qs), false) S := by
  have h2 : 2 + qs.length ≤ 16777216 := by omega
  have h1 : 1 + qs.length ≤ 16777216 := by omega
  have h3 : qs.length + 1 ≤ 16777216 := by omega
  have h4 : qs.length + 2 ≤ 16777216 := by omega
  have h5 : qs.length + 1 + 1 ≤ 16777216 := by omega
  simp only [C]
  cases t with
  | bin o a b =>
    cases o <;> simp [b_p_with_parts, enc, c_LEAVES, L2.atI, L2.ixN, inV, flatD, HT.sIx, cutD, T.isLeaf, T.head, T.sign, Bo.s, leave_ok, noRef_enc, hr, h1, h2, h3]
  | _ => simp [b_p_with_parts, enc, c_LEAVES, L2.atI, L2.ixN, inV, flatD, HT.sIx, cutD, T.isLeaf, T.head, T.sign, leave_ok, noRef_enc, hr, h1, h2, h3, h4, h5, noRefs_map encA noRef_encA]
theorem size_loop (m : Nat) (S : Sto) (d : DV) : ∀ (ps : List T) (k : Int) (o : Option DV), (∀ p ∈ ps, C m .p_size [enc p] S = .ok (.int p.size, false) S) →
    ∃ o', loop (tN 2) (asg (tN 1) (add (var 1) (call (C m .p_size) (aCons (var 2) (aNil))))) [] (ps.map enc) [some d, some (.int k), o] S = .ok (.nx [some d, some (.int (k + (ps.map T.size).sum)), o']) S
  | [], k, o, _ => ⟨o, by simp [loop_nil]⟩
  | p :: ps, k, o, h => by
    obtain ⟨o', ih⟩ := size_loop m S d ps (k + p.size) (some (enc p)) fun q m => h q (List.mem_cons_of_mem _ m)
    refine ⟨o', ?_⟩
    rw [List.map_cons, loop_cons]
    simp [h p List.mem_cons_self]
    rw [ih]
    simp [Int.add_assoc]
theorem run_size (t : T) : ∀ n S, t.ht < n → C n .p_size [enc t] S = .ok (.int t.size, false) S := by
  refine T.byParts (P := fun t => ∀ n S, t.ht < n → C n .p_size [enc t] S = .ok (.int t.size, false) S) (fun t ih n S h => ?_) t
  obtain ⟨m, rfl⟩ : ∃ m, n = m + 2 := ⟨n - 2, by have := t.ht_pos; omega⟩
  simp only [C]
  obtain ⟨o', hl⟩ := size_loop (m + 1) S (enc t) t.parts 1 none fun p hp => ih p hp (m + 1) S (by have := T.ht_parts hp; omega)
  simp [b_p_size, forS_run, run_parts]
  rw [hl]
  simp [leave_ok]
  have hs := T.size_parts t
  omega
end Y
namespace Y
open PySem
theorem places_inner (S : Sto) (d dp : DV) (i : Nat) : ∀ (ps : List (List Nat)) (acc : List DV) (o : Option DV), acc.length + ps.length ≤ 1000000 → (∀ p ∈ ps, p.length ≤ 1000) →
    ∃ o', loop (tN 4) (app (var 1) (add (tupE (aCons (var 2) (aNil))) (var 4))) [] (ps.map encP) [some d, some (.ref S.length), some (.int (i : Int)), some dp, o] (S ++ [.lst acc]) =
      .ok (.nx [some d, some (.ref S.length), some (.int (i : Int)), some dp, o']) (S ++ [.lst (acc ++ (ps.map (i :: ·)).map encP)])
  | [], acc, o, _, _ => ⟨o, by simp [loop_nil]⟩
  | p :: ps, acc, o, h, hp => by
    simp only [List.length_cons] at h
    obtain ⟨o', ih⟩ := places_inner S d dp i ps (acc ++ [encP (i :: p)]) (some (encP p)) (by simp; omega) fun q m => hp q (List.mem_cons_of_mem _ m)
    refine ⟨o', ?_⟩
    have h1 : 1 + p.length ≤ 16777216 := by have := hp p List.mem_cons_self; omega
    have h1' : p.length + 1 ≤ 16777216 := by have := hp p List.mem_cons_self; omega
    have h2 : acc.length < 16777216 := by omega
    have hn := noRef_encP p
    rw [List.map_cons, loop_cons]
    simp only [encP] at ih hn ⊢
    simp at hn
    simp [h1, h1', h2, hn]
    simpa [encP] using ih
theorem places_outer (m : Nat) (S : Sto) (d : DV) : ∀ (ps : List T) (k : Nat) (acc : List DV) (o1 o2 o3 : Option DV), acc.length + (ps.map T.size).sum ≤ 1000000 → (∀ p ∈ ps, p.ht ≤ 900 ∧ ∀ S, C m .p_places [enc p] S = .ok (.lst (p.places.map encP), true) S) →
    ∃ o1' o2' o3', loop (tU [2, 3]) (forS (tN 4) (sSeq (call (C m .p_places) (aCons (var 3) (aNil)))) (app (var 1) (add (tupE (aCons (var 2) (aNil))) (var 4)))) [] (enumAt k (ps.map enc)) [some d, some (.ref S.length), o1, o2, o3] (S ++ [.lst acc]) =
      .ok (.nx [some d, some (.ref S.length), o1', o2', o3']) (S ++ [.lst (acc ++ (placesFrom k ps).map encP)])
  | [], k, acc, o1, o2, o3, _, _ => ⟨o1, o2, o3, by simp [loop_nil, placesFrom]⟩
  | p :: ps, k, acc, o1, o2, o3, h, hp => by
    simp only [List.map_cons, List.sum_cons] at h
    have hpl := p.places_len
    obtain ⟨o3', hi⟩ := places_inner S d (enc p) k p.places acc o3 (by omega) fun q m => by
      have := p.place_len q m
      have := (hp p List.mem_cons_self).1
      omega
    obtain ⟨a1, a2, a3, ih⟩ := places_outer m S d ps (k + 1) (acc ++ (p.places.map (k :: ·)).map encP) (some (.int (k : Int))) (some (enc p)) o3' (by simp [hpl]; omega) fun q m => hp q (List.mem_cons_of_mem _ m)
    refine ⟨a1, a2, a3, ?_⟩
    rw [List.map_cons, enumAt_cons, loop_cons]
    simp [forS_run, (hp p List.mem_cons_self).2]
    rw [hi]
    simp only [bind_ok', placesFrom, List.map_append] at ih ⊢
    rw [ih, List.append_assoc]
theorem run_places (t : T) : ∀ n S, t.ht < n → t.ht ≤ 900 → t.size ≤ 100000 → C n .p_places [enc t] S = .ok (.lst (t.places.map encP), true) S := by
  refine T.byParts (P := fun t => ∀ n S, t.ht < n → t.ht ≤ 900 → t.size ≤ 100000 → C n .p_places [enc t] S = .ok (.lst (t.places.map encP), true) S) (fun t ih n S h h9 hs => ?_) t
  obtain ⟨m, rfl⟩ : ∃ m, n = m + 2 := ⟨n - 2, by have := t.ht_pos; omega⟩
  simp only [C]
  obtain ⟨a1, a2, a3, hl⟩ := places_outer (m + 1) S (enc t) t.parts 0 [.tup []] none none none (by have := t.size_parts; simp; omega) fun p hp => ⟨by have := T.ht_parts hp; omega, fun S => ih p hp (m + 1) S (by have := T.ht_parts hp; omega) (by have := T.ht_parts hp; omega) (by have := T.size_part hp; omega)⟩
  simp [b_p_places, forS_run, run_parts, enumD_at]
  rw [hl]
  simp [T.places_eq t, encP]
  rw [leave_own (by omega) (y := .lst (.tup [] :: (placesFrom 0 t.parts).map encP)) (by simp [encP])]
  simp [encP]
end Y
namespace Y
open PySem
theorem run_cell_at (n : Nat) (ns : List Int) (k : Nat) (S : Sto) : C (n + 1) .l_cell_at [.rol (ns.map DV.int), .int (k : Int)] S = .ok (.int (ns.getD k 0), false) S := by
  simp only [C]
  by_cases h : k < ns.length
  · have h2 : L2.atI (ns.map DV.int) (k : Int) = some (.int ns[k]) := L2.atI_nat (by simp [h])
    simp [b_l_cell_at, h, h2, leave_ok]
  · simp [b_l_cell_at, h, leave_ok]
theorem run_whole (n : Nat) (i : Int) (S : Sto) : C (n + 1) .l_whole [.int i] S = .ok (.bl true, false) S := by
  simp only [C]
  simp [b_l_whole, tagOf, isTag, leave_ok]
theorem run_word (n : Nat) (c long at_ turn : Int) (h0 : 0 ≤ long ∧ long ≤ 100) : ∃ w : Str, ∀ S, C (n + 1) .l_word [.int c, .int long, .int at_, .int turn] S = .ok (.str w, false) S := by
  simp only [C]
  obtain ⟨k, rfl⟩ : ∃ k : Nat, long = (k : Int) := ⟨long.toNat, by omega⟩
  have letters : (Str.ofString "abcdefghijklmnopqrstuvwxyz").cps.toList.length = 26 := by decide +kernel
  have llen : (Str.ofString "abcdefghijklmnopqrstuvwxyz").length = 26 := by decide +kernel
  have hloop : ∀ (m i : Nat) (w : Str) (o6 o7 : Option DV), w.length ≤ i → i + m ≤ 200 → ∃ w' o6' o7', w'.length ≤ i + m ∧ ∀ S : Sto,
      loop (tN 6) (seq (asg (tN 7) (fdiv (mod (mul (mod (var 0) (cst (.int 1000003))) (add (cst (.int 48271)) (mul (mul (cst (.int 2)) (var 6)) (var 6)))) (cst (.int 2147483647))) (cst (.int 97)))) <|
  seq (ifS (tst (eqE (var 6) (var 2))) (asg (tN 7) (add (var 7) (var 3))) (skip)) <|
  asg (tN 5) (add (var 5) (ix (var 4) (mod (var 7) (cst (.int 26)))))) [] ((List.range' i m).map fun i => DV.int (i : Nat)) [some (.int c), some (.int k), some (.int at_), some (.int turn), some (.str "abcdefghijklmnopqrstuvwxyz"), some (.str w), o6, o7] S =
        .ok (.nx [some (.int c), some (.int k), some (.int at_), some (.int turn), some (.str "abcdefghijklmnopqrstuvwxyz"), some (.str w'), o6', o7']) S := by
    intro m
    induction m with
    | zero => intro i w o6 o7 hw _; exact ⟨w, o6, o7, hw, fun S => by simp [loop_nil]⟩
    | succ m ih =>
      intro i w o6 o7 hw hi
      have m1 : MulOk 2 (i : Int) := mulOk_l _
      have m2 : MulOk (2 * (i : Int)) (i : Int) := .inl (by omega)
      have m3 : MulOk (c % 1000003) (48271 + 2 * (i : Int) * (i : Int)) := .inl (by omega)
      have d1 : DivOk 97 := divOk_lt (by decide) (by decide)
      have key : ∀ x : Int, ∃ ch, L2.atI (Str.ofString "abcdefghijklmnopqrstuvwxyz").cps.toList (x % 26) = some ch := fun x => by
        obtain ⟨ch, _, h⟩ := atI_lt (Str.ofString "abcdefghijklmnopqrstuvwxyz").cps.toList (x % 26) (by omega) (by rw [letters]; omega)
        exact ⟨ch, h⟩
      obtain ⟨ch, hch⟩ := key (if (i : Int) = at_ then c % 1000003 * (48271 + 2 * (i : Int) * (i : Int)) % 2147483647 / 97 + turn else c % 1000003 * (48271 + 2 * (i : Int) * (i : Int)) % 2147483647 / 97)
      obtain ⟨w', o6', o7', h1, h2⟩ := ih (i + 1) (w ++ ⟨#[ch]⟩) (some (.int i)) (some (.int (if (i : Int) = at_ then c % 1000003 * (48271 + 2 * (i : Int) * (i : Int)) % 2147483647 / 97 + turn else c % 1000003 * (48271 + 2 * (i : Int) * (i : Int)) % 2147483647 / 97))) (by
        show (w ++ ⟨#[ch]⟩ : Str).length ≤ i + 1
        rw [str_len_append]
        show w.length + 1 ≤ i + 1
        omega) (by omega)
      refine ⟨w', o6', o7', by omega, fun S => ?_⟩
      replace h2 := h2 S
      rw [List.range'_succ, List.map_cons, loop_cons]
      have hz : w.length + 1 ≤ 16777216 := by omega
      have hone : (⟨#[ch]⟩ : Str).length = 1 := rfl
      by_cases hat : (i : Int) = at_
      · rw [if_pos hat] at hch h2
        subst hat
        simp [mulV_int _ _ m1, mulV_int _ _ m2, mulV_int _ _ m3, divV_int _ _ d1]
        simp [ixV, llen, hch, hz, hone]
        exact h2
      · rw [if_neg hat] at hch h2
        simp [mulV_int _ _ m1, mulV_int _ _ m2, mulV_int _ _ m3, divV_int _ _ d1, hat]
        simp [ixV, llen, hch, hz, hone]
        exact h2
  obtain ⟨w, o6, o7, hw, hl⟩ := hloop k 0 (Str.ofString "") none none (by decide +kernel) (by omega)
  simp [b_l_word, forS_run, rngOk (n := (k : Int)) (by omega), rngD_at]
  simp only [hl]
  simp
  have hin := fun S => inV_seq S (.str w) (.tup [.str "let", .str "in", .str "if", .str "then", .str "else", .str "say", .str "ask", .str "stop", .str "where", .str "quiet", .str "number"]) _ rfl rfl (by decide)
  simp only [hin, Option.map_some, of_some, bind_ok']
  generalize List.any _ _ = q
  cases q with
  | true =>
    have hc := L2.cutS_length w (some 1) none
    have hlim : w.length ≤ 16777216 := by omega
    have hk : (Str.ofString "k").length = 1 := by decide +kernel
    have hsum : 1 + (L2.cutS w (some 1) none).length ≤ 16777216 := by omega
    exact ⟨Str.ofString "k" ++ L2.cutS w (some 1) none, fun S => by simp [slV, hlim, hk, hsum, leave_ok]⟩
  | false => exact ⟨w, fun S => by simp [leave_ok]⟩
theorem run_words (n : Nat) (c : Int) (S : Sto) : ∃ ws : List Str, ws.length = 4 ∧ C (n + 2) .l_words [.int c] S = .ok (.lst (ws.map DV.str), false) S := by
  rw [C]
  have d8 : DivOk 8 := divOk_lt (by decide) (by decide)
  have d64 : DivOk 64 := divOk_lt (by decide) (by decide)
  have hpos : 0 < 1 + c % 8 := by omega
  obtain ⟨f, hf, hcomp⟩ := comp_each [3] (tN 3) (sRange1 (cst (.int 4))) (call (C (n + 1) .l_word) (aCons (fdiv (var 0) (cst (.int 64))) (aCons (var 1) (aCons (var 2) (aCons (mul (cst (.int 5)) (var 3)) (aNil))))))
    [some (.int c), some (.int (1 + c % 8)), some (.int (c / 8 % (1 + c % 8))), none] S S (rngD 0 4) (fun _ d => ∃ w, d = .str w)
    (by simp [rngOk (n := (4 : Int)) (by omega)]) (by decide) (fun x hx => by
      obtain ⟨k, hk, rfl⟩ : ∃ k : Nat, k < 4 ∧ x = .int (k : Int) := by
        simp only [rngD, List.mem_map, List.mem_range] at hx
        obtain ⟨k, hk, rfl⟩ := hx
        exact ⟨k, hk, by simp⟩
      obtain ⟨w, hw⟩ := run_word n (c / 64) (1 + c % 8) (c / 8 % (1 + c % 8)) (5 * (k : Int)) (by omega)
      refine ⟨_, .str w, rfl, ⟨w, rfl⟩, by simp, fun S' => ?_⟩
      simp [wipeL, divV_int _ _ d64, mulV_int _ _ (mulOk_l (i := 5) (k : Int)), hw])
  obtain ⟨ws, hws⟩ : ∃ ws : List Str, (rngD 0 4).map f = ws.map DV.str ∧ ws.length = 4 := by
    have e : ∀ xs : List DV, (∀ x ∈ xs, ∃ w, f x = .str w) → ∃ ws : List Str, xs.map f = ws.map DV.str ∧ ws.length = xs.length := by
      intro xs
      induction xs with
      | nil => intro _; exact ⟨[], rfl, rfl⟩
      | cons x xs ih =>
        intro h
        obtain ⟨w, hw⟩ := h x List.mem_cons_self
        obtain ⟨ws, h1, h2⟩ := ih fun y m => h y (List.mem_cons_of_mem _ m)
        exact ⟨w :: ws, by simp [hw, h1], by simp [h2]⟩
    obtain ⟨ws, h1, h2⟩ := e (rngD 0 4) fun x m => (hf x m).1
    exact ⟨ws, h1, by simpa [rngD] using h2⟩
  refine ⟨ws, hws.2, ?_⟩
  simp [b_l_words, divV_int _ _ d8, hpos, hcomp]
  simp [hws.1, leave_ok, noRefs_map]
end Y
namespace Y
open PySem
theorem T.leaf_ht {t : T} (h : t.isLeaf = true) : t.ht = 1 ∧ t.size = 1 ∧ t.parts = [] := by
  cases t <;> simp [T.isLeaf] at h <;> simp [T.ht, T.size, T.parts]
theorem run_leaf (c : Int) (ws : List Str) (hw : ws.length = 4) : ∃ t : T, t.isLeaf = true ∧ ∀ n S, C (n + 1) .l_leaf [.int c, .lst (ws.map DV.str)] S = .ok (enc t, false) S := by
  have m1 : MulOk c 48271 := mulOk_r c
  have p1 : PowOk 10 30 := ⟨by decide, by decide, by decide⟩
  have d20 : DivOk 20 := divOk_lt (by decide) (by decide)
  have d80 : DivOk 80 := divOk_lt (by decide) (by decide)
  have d5 : DivOk 5 := divOk_lt (by decide) (by decide)
  have d320 : DivOk 320 := divOk_lt (by decide) (by decide)
  have key : ∀ i : Int, ∃ w, L2.atI (ws.map DV.str) (i % 4) = some (.str w) := fun i => by
    obtain ⟨w, _, h⟩ := atI_str ws (i % 4) (by omega) (by omega)
    exact ⟨w, h⟩
  obtain ⟨w1, h1⟩ := key (c * 48271 % 2147483647 / 20)
  obtain ⟨w2, h2⟩ := key (c * 48271 % 2147483647 / 80)
  obtain ⟨w3, h3⟩ := key (c * 48271 % 2147483647 / 5)
  by_cases e0 : c * 48271 % 2147483647 % 5 = 0
  · refine ⟨.num (c % 10 ^ 30), rfl, fun n S => ?_⟩
    simp [C, b_l_leaf, mulV_int _ _ m1, powV_int _ _ p1, e0, leave_ok, enc]
  · by_cases e4 : c * 48271 % 2147483647 % 5 = 4
    · have hc : cutD [encA (.name w1), encA (.num (c % 1000)), encA (.gap w2)] none (some (c * 48271 % 2147483647 / 320 % 4)) = (cutD [At.name w1, .num (c % 1000), .gap w2] none (some (c * 48271 % 2147483647 / 320 % 4))).map encA := cutD_map encA [At.name w1, .num (c % 1000), .gap w2] none _
      refine ⟨.gap w3 (cutD [At.name w1, .num (c % 1000), .gap w2] none (some (c * 48271 % 2147483647 / 320 % 4))), rfl, fun n S => ?_⟩
      simp only [encA] at hc
      simp [C, b_l_leaf, mulV_int _ _ m1, divV_int _ _ d20, divV_int _ _ d80, divV_int _ _ d5, divV_int _ _ d320, e4, h1, h2, h3, hc]
      simp [leave_ok, enc, noRefs_map encA noRef_encA]
    · have hs : ∃ s : String, L2.atI [DV.str "num", .str "ask", .str "stop", .str "name"] (c * 48271 % 2147483647 % 5) = some (.str s) ∧ (s = "ask" ∨ s = "stop" ∨ s = "name") := by
        have : c * 48271 % 2147483647 % 5 = 1 ∨ c * 48271 % 2147483647 % 5 = 2 ∨ c * 48271 % 2147483647 % 5 = 3 := by omega
        rcases this with h | h | h <;> rw [h]
        · exact ⟨"ask", rfl, .inl rfl⟩
        · exact ⟨"stop", rfl, .inr (.inl rfl)⟩
        · exact ⟨"name", rfl, .inr (.inr rfl)⟩
      obtain ⟨s, hs, hs2⟩ := hs
      rcases hs2 with rfl | rfl | rfl
      · refine ⟨.ask w3, rfl, fun n S => ?_⟩
        simp [C, b_l_leaf, mulV_int _ _ m1, divV_int _ _ d5, e0, e4, h3, hs, leave_ok, enc]
      · refine ⟨.stop w3, rfl, fun n S => ?_⟩
        simp [C, b_l_leaf, mulV_int _ _ m1, divV_int _ _ d5, e0, e4, h3, hs, leave_ok, enc]
      · refine ⟨.name w3, rfl, fun n S => ?_⟩
        simp [C, b_l_leaf, mulV_int _ _ m1, divV_int _ _ d5, e0, e4, h3, hs, leave_ok, enc]
end Y
namespace Y
open PySem
theorem run_tree (ws : List Str) (hw : ws.length = 4) : ∀ (d : Nat) (cs : List Int), cs.length ≤ 100 → ∃ t : T, t.ht ≤ d + 1 ∧ t.size ≤ 3 * cs.length + 1 ∧ ∀ n S, d + 1 < n → C n .l_tree [.lst (cs.map DV.int), .lst (ws.map DV.str), .int (d : Int)] S = .ok (enc t, false) S := by
  intro d
  have key : ∀ i : Int, ∃ w, L2.atI (ws.map DV.str) (i % 4) = some (.str w) := fun i => by
    obtain ⟨w, _, h⟩ := atI_str ws (i % 4) (by omega) (by omega)
    exact ⟨w, h⟩
  have d9 : DivOk 9 := divOk_lt (by decide) (by decide)
  have d1009 : DivOk 1009 := divOk_lt (by decide) (by decide)
  have d5003 : DivOk 5003 := divOk_lt (by decide) (by decide)
  have none_ : ∀ (d : Nat), ∃ t : T, t.ht ≤ d + 1 ∧ t.size ≤ 1 ∧ ∀ n S, d + 1 < n → C n .l_tree [.lst [], .lst (ws.map DV.str), .int (d : Int)] S = .ok (enc t, false) S := fun d => by
    obtain ⟨w, h⟩ := key (d : Int)
    refine ⟨.name w, by simp [T.ht], by simp [T.size], fun n S hn => ?_⟩
    obtain ⟨m, rfl⟩ : ∃ m, n = m + 1 := ⟨n - 1, by omega⟩
    simp [C, b_l_tree, h, leave_ok, enc]
  have leaf_ : ∀ (d : Nat) (c : Int) (cs : List Int), (cs = [] ∨ d = 0) → ∃ t : T, t.ht ≤ d + 1 ∧ t.size ≤ 1 ∧ ∀ n S, d + 1 < n → C n .l_tree [.lst (.int c :: cs.map DV.int), .lst (ws.map DV.str), .int (d : Int)] S = .ok (enc t, false) S := fun d c cs hcs => by
    obtain ⟨t, h1, h2⟩ := run_leaf c ws hw
    obtain ⟨q1, q2, _⟩ := T.leaf_ht h1
    refine ⟨t, by omega, by omega, fun n S hn => ?_⟩
    obtain ⟨m, rfl⟩ : ∃ m, n = m + 2 := ⟨n - 2, by omega⟩
    have hne : ¬ ((cs.length : Int) + 1 = 0) := by omega
    rw [C]
    rcases hcs with rfl | rfl
    · simp [b_l_tree, L2.atI, L2.ixN, h2, leave_ok, noRef_enc]
    · simp [b_l_tree, L2.atI, L2.ixN, h2, leave_ok, noRef_enc, hne]
  induction d with
  | zero =>
    intro cs hc
    cases cs with
    | nil => obtain ⟨t, a, b, c⟩ := none_ 0; exact ⟨t, a, by omega, c⟩
    | cons c cs => obtain ⟨t, a, b, c⟩ := leaf_ 0 c cs (.inr rfl); exact ⟨t, a, by omega, c⟩
  | succ d ih =>
    intro cs hc
    cases cs with
    | nil => obtain ⟨t, a, b, c⟩ := none_ (d + 1); exact ⟨t, a, by omega, c⟩
    | cons c cs =>
      by_cases hnil : cs = []
      · obtain ⟨t, a, b, c⟩ := leaf_ (d + 1) c cs (.inl hnil); exact ⟨t, a, by omega, c⟩
      have hpos : 0 < cs.length := by cases cs <;> simp_all
      simp only [List.length_cons] at hc ⊢
      have m1 : MulOk c 69621 := mulOk_r c
      have hne : ¬ ((cs.length : Int) + 1 = 0) := by omega
      have hne1 : ¬ ((cs.length : Int) + 1 = 1) := by omega
      have hned : ¬ (((d : Int) + 1) = 0) := by omega
      have hlp : (0 : Int) < cs.length + 1 := by omega
      generalize hv : c * 69621 % 2147483647 = v
      obtain ⟨a, ha⟩ : ∃ a : Nat, v / 9 % (cs.length + 1) = (a : Int) := ⟨(v / 9 % (cs.length + 1)).toNat, by have := Int.emod_nonneg (v / 9) (b := cs.length + 1) (by omega); omega⟩
      have hal : a ≤ cs.length := by have := Int.emod_lt_of_pos (v / 9) (b := cs.length + 1) (by omega); omega
      obtain ⟨b, hb⟩ : ∃ b : Nat, v / 1009 % (cs.length - a + 1) = (b : Int) := ⟨(v / 1009 % (cs.length - a + 1)).toNat, by have := Int.emod_nonneg (v / 1009) (b := cs.length - a + 1) (by omega); omega⟩
      have hbl : a + b ≤ cs.length := by have := Int.emod_lt_of_pos (v / 1009) (b := cs.length - a + 1) (by omega); omega
      have hlp2 : (0 : Int) < cs.length - a + 1 := by omega
      obtain ⟨w, hw'⟩ := key (v / 5003)
      have hs : ∃ s : String, L2.atI [DV.str "say", .str "add", .str "sub", .str "mul", .str "then", .str "if", .str "if", .str "let", .str "let"] (v % 9) = some (.str s) ∧ (s = "say" ∨ s = "if" ∨ s = "let" ∨ s = "add" ∨ s = "sub" ∨ s = "mul" ∨ s = "then") := by
        have : v % 9 = 0 ∨ v % 9 = 1 ∨ v % 9 = 2 ∨ v % 9 = 3 ∨ v % 9 = 4 ∨ v % 9 = 5 ∨ v % 9 = 6 ∨ v % 9 = 7 ∨ v % 9 = 8 := by omega
        rcases this with h | h | h | h | h | h | h | h | h <;> rw [h]
        · exact ⟨"say", rfl, by simp⟩
        · exact ⟨"add", rfl, by simp⟩
        · exact ⟨"sub", rfl, by simp⟩
        · exact ⟨"mul", rfl, by simp⟩
        · exact ⟨"then", rfl, by simp⟩
        · exact ⟨"if", rfl, by simp⟩
        · exact ⟨"if", rfl, by simp⟩
        · exact ⟨"let", rfl, by simp⟩
        · exact ⟨"let", rfl, by simp⟩
      obtain ⟨s, hs, hs2⟩ := hs
      have sub (ys : List Int) (h : ys.length ≤ cs.length) := ih ys (by omega)
      have cut1 : ∀ m, (cs.take m).length ≤ cs.length := fun m => by simp; omega
      have cut2 : ∀ m, (cs.drop m).length ≤ cs.length := fun m => by simp
      have hcut (lo hi : Option Int) : cutD (cs.map DV.int) lo hi = (cutD cs lo hi).map DV.int := cutD_map DV.int cs lo hi
      have hcons : cutD (DV.int c :: cs.map DV.int) (some 1) none = cs.map DV.int := by rw [cut_from1]; rfl
      have e1 : ((d : Int) + 1) - 1 = d := by omega
      obtain ⟨f, hf⟩ : ∃ f : Nat, f = a + b := ⟨_, rfl⟩
      have eab : ((a : Int) + (b : Int)) = (f : Int) := by omega
      have tk : cutD cs none (some (a : Int)) = cs.take a := cut_to cs a
      have dr : cutD cs (some (a : Int)) none = cs.drop a := cut_from cs a
      have dr2 : cutD cs (some (f : Int)) none = cs.drop f := cut_from cs f
      have md : cutD cs (some (a : Int)) (some (f : Int)) = (cs.drop a).take b := by rw [cut_mid cs a f]; congr 1; omega
      have h0 : L2.atI (DV.int c :: cs.map DV.int) 0 = some (.int c) := by simp [L2.atI, L2.ixN, show (0:Int) < cs.length + 1 by omega]
      by_cases hsay : s = "say"
      · subst hsay
        obtain ⟨t, q1, q2, q3⟩ := sub cs (by omega)
        refine ⟨.say t, by simp only [T.ht]; omega, by simp only [T.size]; omega, fun n S hn => ?_⟩
        obtain ⟨m, rfl⟩ : ∃ m, n = m + 1 := ⟨n - 1, by omega⟩
        rw [C]
        simp [b_l_tree, h0, hne, hne1, hned, mulV_int _ _ m1, divV_int _ _ d9, hlp, hv, ha, hs, hcons, e1, q3 _ _ (show d + 1 < m by omega), leave_ok, noRef_enc, enc]
      obtain ⟨t1, q1, p1, r1⟩ := sub (cs.take a) (cut1 a)
      have la : (cs.take a).length = a := by simp; omega
      have ldr : (cs.drop a).length = cs.length - a := by simp
      by_cases hif : s = "if"
      · subst hif
        obtain ⟨t2, q2, p2, r2⟩ := sub ((cs.drop a).take b) (by simp; omega)
        obtain ⟨t3, q3, p3, r3⟩ := sub (cs.drop f) (cut2 _)
        have l2 : ((cs.drop a).take b).length ≤ b := by simp; omega
        have l3 : (cs.drop f).length = cs.length - f := by simp
        refine ⟨.ite t1 t2 t3, by simp only [T.ht]; omega, by simp only [T.size]; omega, fun n S hn => ?_⟩
        obtain ⟨m, rfl⟩ : ∃ m, n = m + 1 := ⟨n - 1, by omega⟩
        rw [C]
        simp (maxSteps := 2000000) [-List.map_take, -List.map_drop, b_l_tree, h0, hne, hne1, hned, mulV_int _ _ m1, divV_int _ _ d9, divV_int _ _ d1009, hlp, hlp2, hv, ha, hb, hs, hcons, e1, eab, hcut, tk, dr, dr2, md, r1 _ _ (show d + 1 < m by omega), r2 _ _ (show d + 1 < m by omega), r3 _ _ (show d + 1 < m by omega), leave_ok, noRef_enc, enc]
      obtain ⟨t2, q2, p2, r2⟩ := sub (cs.drop a) (cut2 _)
      by_cases hlet : s = "let"
      · subst hlet
        refine ⟨.lt w t1 t2, by simp only [T.ht]; omega, by simp only [T.size]; omega, fun n S hn => ?_⟩
        obtain ⟨m, rfl⟩ : ∃ m, n = m + 1 := ⟨n - 1, by omega⟩
        rw [C]
        simp (maxSteps := 2000000) [-List.map_take, -List.map_drop, b_l_tree, h0, hne, hne1, hned, mulV_int _ _ m1, divV_int _ _ d9, divV_int _ _ d5003, hlp, hlp2, hv, ha, hb, hs, hw', hcons, e1, hcut, tk, dr, r1 _ _ (show d + 1 < m by omega), r2 _ _ (show d + 1 < m by omega), leave_ok, noRef_enc, enc]
      obtain ⟨o, ho⟩ : ∃ o : Bo, o.s = Str.ofString s := by
        rcases hs2 with h | h | h | h | h | h | h
        · exact absurd h hsay
        · exact absurd h hif
        · exact absurd h hlet
        · exact ⟨.add, by rw [h]; rfl⟩
        · exact ⟨.sub, by rw [h]; rfl⟩
        · exact ⟨.mul, by rw [h]; rfl⟩
        · exact ⟨.thn, by rw [h]; rfl⟩
      refine ⟨.bin o t1 t2, by simp only [T.ht]; omega, by simp only [T.size]; omega, fun n S hn => ?_⟩
      obtain ⟨m, rfl⟩ : ∃ m, n = m + 1 := ⟨n - 1, by omega⟩
      rw [C]
      simp (maxSteps := 2000000) [-List.map_take, -List.map_drop, b_l_tree, h0, hne, hne1, hned, mulV_int _ _ m1, divV_int _ _ d9, hlp, hlp2, hv, ha, hb, hs, hcons, e1, hcut, tk, dr, r1 _ _ (show d + 1 < m by omega), r2 _ _ (show d + 1 < m by omega), hsay, hif, hlet, leave_ok, noRef_enc, enc, ho]
end Y
namespace Y
open PySem
@[simp] theorem tagOf_enc (S : Sto) (t : T) : tagOf S (enc t) = some "tuple" := by cases t <;> simp only [enc, tagOf]
@[simp] theorem noRef_enc' (t : T) : noRef (enc t) = true := by simp only [noRef_enc]
theorem run_lparts (n : Nat) (t : T) (S : Sto) : C (n + 1) .l_parts [enc t] S = .ok (.lst (t.parts.map enc), false) S := by
  simp only [C]
  cases t with
  | bin o a b => cases o <;> simp [b_l_parts, comp, compL, cutD, HT.sIx, wipeL, tYes, enc, L2.atI, L2.ixN, T.parts, Bo.s, isiV, isTag, leave_ok, noRef_enc, tagOf_enc]
  | _ => simp [b_l_parts, comp, compL, cutD, HT.sIx, wipeL, tYes, enc, L2.atI, L2.ixN, T.parts, isiV, isTag, leave_ok, noRef_enc, tagOf_enc]
def encQ (q : List Nat × T) : DV := .tup [encP q.1, enc q.2]
@[simp] theorem noRef_encQ (q : List Nat × T) : noRef (encQ q) = true := by simp [encQ, noRef_encP]
def kids (k : Nat) (p : List Nat) : List T → List (List Nat × T)
  | [] => []
  | t :: ts => (p ++ [k], t) :: kids (k + 1) p ts
theorem kids_get (p : List Nat) : ∀ (ts : List T) (k i : Nat), (kids k p ts)[i]? = ts[i]?.map fun t => (p ++ [k + i], t)
  | [], k, i => by simp [kids]
  | t :: ts, k, 0 => by simp [kids]
  | t :: ts, k, i + 1 => by simp [kids, kids_get p ts (k + 1) i, Nat.add_assoc, Nat.add_comm 1 i]
def below (q : List Nat × T) : List (List Nat) := q.2.places.map (q.1 ++ ·)
theorem kids_places (p : List Nat) : ∀ (ts : List T) (k : Nat), (kids k p ts).flatMap below = (placesFrom k ts).map (p ++ ·)
  | [], k => rfl
  | t :: ts, k => by simp [kids, placesFrom, below, kids_places p ts (k + 1)]
theorem kids_len (p : List Nat) : ∀ (ts : List T) (k : Nat), (kids k p ts).length = ts.length
  | [], k => rfl
  | t :: ts, k => by simp [kids, kids_len p ts]
theorem kids_size (p : List Nat) : ∀ (ts : List T) (k : Nat), ((kids k p ts).map fun q => q.2.size) = ts.map T.size
  | [], k => rfl
  | t :: ts, k => by simp [kids, kids_size p ts]
theorem kids_ok (p : List Nat) : ∀ (ts : List T) (k : Nat) (q), q ∈ kids k p ts → q.1.length = p.length + 1 ∧ q.2 ∈ ts
  | [], k, q, h => by simp [kids] at h
  | t :: ts, k, q, h => by
    simp only [kids, List.mem_cons] at h
    rcases h with rfl | h
    · simp
    · have := kids_ok p ts (k + 1) q h
      exact ⟨this.1, List.mem_cons_of_mem _ this.2⟩
theorem rngD_rev (m : Nat) : (rngD 0 (m + 1)).reverse = .int (m : Int) :: (rngD 0 m).reverse := by
  unfold rngD
  rw [List.range_succ]
  simp
theorem push_loop (S : Sto) (p : List Nat) (ts : List T) (d d4 f : DV) (stk : List DV) (hp : p.length ≤ 1000) : ∀ (m : Nat) (stk : List DV) (o : Option DV), m ≤ ts.length → stk.length + m ≤ 1000000 →
    ∃ o', loop (tN 6) (app (var 2) (tupE (aCons (add (var 3) (tupE (aCons (var 6) (aNil)))) (aCons (ix (var 5) (var 6)) (aNil))))) [] (rngD 0 m).reverse [some d, some (.ref S.length), some (.ref (S.length + 1)), some (encP p), some d4, some (.lst (ts.map enc)), o] (S ++ [f, .lst stk]) =
      .ok (.nx [some d, some (.ref S.length), some (.ref (S.length + 1)), some (encP p), some d4, some (.lst (ts.map enc)), o']) (S ++ [f, .lst (stk ++ (((kids 0 p ts).map encQ).take m).reverse)])
  | 0, stk, o, _, _ => ⟨o, by simp [rngD, loop_nil]⟩
  | m + 1, stk, o, hm, hs => by
    obtain ⟨t, ht⟩ : ∃ t, ts[m]? = some t := ⟨ts[m], List.getElem?_eq_getElem (by omega)⟩
    have hat : L2.atI (ts.map enc) (m : Int) = some (enc t) := L2.atI_nat (by simp [ht])
    obtain ⟨o', ih⟩ := push_loop S p ts d d4 f stk hp m (stk ++ [encQ (p ++ [m], t)]) (some (.int m)) (by omega) (by simp; omega)
    refine ⟨o', ?_⟩
    have h1 : p.length + 1 ≤ 16777216 := by omega
    have h2 : stk.length < 16777216 := by omega
    have hn := noRef_encP p
    rw [rngD_rev, loop_cons]
    rw [List.take_succ, List.getElem?_map, kids_get, ht]
    simp only [encP, encQ] at ih hn ⊢
    simp at hn
    simp [hat, h1, h2, hn, -List.map_take]
    simpa [encP, encQ] using ih
theorem lplaces_while (n : Nat) (S : Sto) (d : DV) : ∀ (fuel : Nat) (st : List (List Nat × T)) (acc : List DV) (o3 o4 o5 o6 : Option DV), (st.map fun q => q.2.size).sum < fuel → acc.length + (st.map fun q => q.2.size).sum ≤ 100000 → st.length ≤ (st.map fun q => q.2.size).sum → (∀ q ∈ st, q.1.length + q.2.ht ≤ 900) →
    ∃ o3' o4' o5' o6', whileN (tst (gtE (lenE (var 2)) (cst (.int 0)))) (seq (asg (tU [3, 4]) (popE (var 2))) <|
  seq (app (var 1) (var 3)) <|
  seq (asg (tN 5) (call (C (n + 1) .l_parts) (aCons (var 4) (aNil)))) <|
  forS (tN 6) (sRev1 (lenE (var 5))) (app (var 2) (tupE (aCons (add (var 3) (tupE (aCons (var 6) (aNil)))) (aCons (ix (var 5) (var 6)) (aNil)))))) fuel [some d, some (.ref S.length), some (.ref (S.length + 1)), o3, o4, o5, o6] (S ++ [.lst acc, .lst (st.map encQ).reverse]) =
      .ok (.nx [some d, some (.ref S.length), some (.ref (S.length + 1)), o3', o4', o5', o6']) (S ++ [.lst (acc ++ (st.flatMap below).map encP), .lst []])
  | 0, st, acc, o3, o4, o5, o6, h, _, _, _ => by omega
  | fuel + 1, [], acc, o3, o4, o5, o6, _, _, _, _ => ⟨o3, o4, o5, o6, by simp [whileN]⟩
  | fuel + 1, (p, t) :: st, acc, o3, o4, o5, o6, h, ha, hl, hq => by
    simp only [List.map_cons, List.sum_cons, List.length_cons] at h ha hl
    have hts := t.size_parts
    have htp := hq (p, t) List.mem_cons_self
    dsimp only at htp
    have hpl : t.parts.length ≤ 3 := by cases t <;> simp [T.parts]
    have hsum : t.parts.length ≤ (t.parts.map T.size).sum := by
      have : ∀ ts : List T, ts.length ≤ (ts.map T.size).sum := fun ts => by
        induction ts with
        | nil => simp
        | cons t ts ih => have := t.size_pos; simp; omega
      exact this _
    have hstl : st.length ≤ (st.map fun q => q.2.size).sum := by
      have : ∀ ts : List (List Nat × T), ts.length ≤ (ts.map fun q => q.2.size).sum := fun ts => by
        induction ts with
        | nil => simp
        | cons t ts ih => have := t.2.size_pos; simp; omega
      exact this _
    obtain ⟨o6', hp⟩ := push_loop S p t.parts d (enc t) (.lst (acc ++ [encP p])) [] (by omega) t.parts.length (st.map encQ).reverse o6 (Nat.le_refl _) (by simp; omega)
    obtain ⟨a3, a4, a5, a6, ih⟩ := lplaces_while n S d fuel (kids 0 p t.parts ++ st) (acc ++ [encP p]) (some (encP p)) (some (enc t)) (some (.lst (t.parts.map enc))) o6' (by simp [kids_size]; omega) (by simp [kids_size]; omega) (by simp [kids_size, kids_len]; omega) (fun q m => by
      rcases List.mem_append.mp m with m | m
      · have h1 := kids_ok p t.parts 0 q m
        have h2 := T.ht_parts h1.2
        omega
      · exact hq q (List.mem_cons_of_mem _ m))
    refine ⟨a3, a4, a5, a6, ?_⟩
    have h2 : acc.length < 16777216 := by omega
    have hlen : (0 : Int) < (st.length : Int) + 1 := by omega
    rw [List.take_of_length_le (by simp [kids_len])] at hp
    have hfin : encP p :: ((kids 0 p t.parts).flatMap below).map encP = (below (p, t)).map encP := by
      rw [kids_places, below]
      dsimp only
      rw [T.places_eq]
      simp
    rw [whileN]
    have hr : RngOk (t.parts.length : Int) := rngOk (by omega)
    simp [hlen, encQ, run_lparts, h2, noRef_encP, forS_run, hr]
    rw [hp]
    simp only [bind_ok']
    rw [List.map_append, List.reverse_append] at ih
    rw [ih]
    simp [← hfin]
theorem run_lplaces (t : T) (n : Nat) (S : Sto) (h9 : t.ht ≤ 900) (hs : t.size ≤ 10000) : C (n + 2) .l_places [enc t] S = .ok (.lst (t.places.map encP), true) S := by
  rw [C]
  obtain ⟨a3, a4, a5, a6, h⟩ := lplaces_while n S (enc t) TURNS [([], t)] [] none none none none (by show _ < 1000000; simp; omega) (by simp; omega) (by have := t.size_pos; simp; omega) (by simpa using h9)
  simp [b_l_places, whileS]
  simp [encQ, encP] at h
  rw [h]
  simp
  rw [leave_own (by omega) (y := .lst ((below ([], t)).map encP)) (by simp [encP])]
  simp [below]
end Y
namespace Y
open PySem
mutual
def sm : Nat → DV → Bool
  | _, .int _ => true
  | _, .str _ => true
  | n + 1, .tup xs => sms n xs
  | _, _ => false
def sms : Nat → List DV → Bool
  | _, [] => true
  | n, x :: xs => sm n x && sms n xs
end
theorem sms_iff (n : Nat) : ∀ xs : List DV, sms n xs = true ↔ ∀ x ∈ xs, sm n x = true
  | [] => by simp [sms]
  | x :: xs => by simp [sms, sms_iff n xs]
theorem run_same : ∀ (n m : Nat) (d : DV) (S : Sto), sm n d = true → n + 2 ≤ m → C m .l_same [d, d] S = .ok (.bl true, false) S
  | n, m, .int i, S, h, hm => by
    obtain ⟨k, rfl⟩ : ∃ k, m = k + 2 := ⟨m - 2, by omega⟩
    rw [C]
    simp [b_l_same, isTag, isiV, run_whole, leave_ok]
  | n, m, .str i, S, h, hm => by
    obtain ⟨k, rfl⟩ : ∃ k, m = k + 2 := ⟨m - 2, by omega⟩
    rw [C]
    simp [b_l_same, isTag, isiV, leave_ok]
  | n + 1, m, .tup xs, S, h, hm => by
    obtain ⟨k, rfl⟩ : ∃ k, m = k + 1 := ⟨m - 1, by omega⟩
    simp only [sm] at h
    rw [sms_iff] at h
    have hl : ∀ (ys : List DV) (o2 o3 : Option DV), (∀ y ∈ ys, sm n y = true) → ∃ o2' o3', loop (tU [2, 3]) (ifS (notT (tst (call (C k .l_same) (aCons (var 2) (aCons (var 3) (aNil)))))) (ret (cst (.bl false))) (skip)) [] (zipD ys ys) [some (.tup xs), some (.tup xs), o2, o3] S = .ok (.nx [some (.tup xs), some (.tup xs), o2', o3']) S := by
      intro ys
      induction ys with
      | nil => intro o2 o3 _; exact ⟨o2, o3, by simp [loop_nil]⟩
      | cons y ys ih =>
        intro o2 o3 hy
        obtain ⟨a, b, ih⟩ := ih (some y) (some y) fun z q => hy z (List.mem_cons_of_mem _ q)
        refine ⟨a, b, ?_⟩
        rw [zipD_cons, loop_cons]
        simp [run_same n k y S (hy y List.mem_cons_self) (by omega)]
        exact ih
    obtain ⟨a, b, hl⟩ := hl xs none none h
    rw [C]
    simp [b_l_same, isTag, isiV, forS_run]
    rw [hl]
    simp [leave_ok]
theorem sm_encA (n : Nat) (a : At) : sm (n + 2) (encA a) = true := by cases a <;> simp [encA, sm, sms]
theorem sm_up : ∀ (n : Nat) (d : DV), sm n d = true → sm (n + 1) d = true
  | n, .int i, h => by simp [sm]
  | n, .str i, h => by simp [sm]
  | n + 1, .tup xs, h => by
    simp only [sm] at h ⊢
    rw [sms_iff] at h ⊢
    exact fun x m => sm_up n x (h x m)
theorem sm_le {n m : Nat} {d : DV} (h : sm n d = true) (hm : n ≤ m) : sm m d = true := by
  induction hm with
  | refl => exact h
  | step _ ih => exact sm_up _ _ ih
theorem sm_enc : ∀ t : T, sm (t.ht + 4) (enc t) = true
  | .num _ => by simp [enc, sm, sms]
  | .name _ => by simp [enc, sm, sms]
  | .ask _ => by simp [enc, sm, sms]
  | .stop _ => by simp [enc, sm, sms]
  | .gap _ as => by
    simp only [enc, sm, sms, T.ht, Bool.true_and, Bool.and_true]
    rw [sms_iff]
    intro x m
    obtain ⟨a, _, rfl⟩ := List.mem_map.mp m
    exact sm_encA _ a
  | .say a => by
    have h := sm_enc a
    simp only [enc, sm, sms, T.ht, Bool.true_and, Bool.and_true] at h ⊢
    exact sm_le h (by omega)
  | .bin _ a b => by
    have h := sm_enc a
    have h' := sm_enc b
    simp only [enc, sm, sms, T.ht, Bool.true_and, Bool.and_true, Bool.and_eq_true] at h h' ⊢
    exact ⟨sm_le h (by omega), sm_le h' (by omega)⟩
  | .ite a b c => by
    have h := sm_enc a
    have h' := sm_enc b
    have h'' := sm_enc c
    simp only [enc, sm, sms, T.ht, Bool.true_and, Bool.and_true, Bool.and_eq_true] at h h' ⊢
    exact ⟨sm_le h (by omega), sm_le h' (by omega), sm_le h'' (by omega)⟩
  | .lt _ a b => by
    have h := sm_enc a
    have h' := sm_enc b
    simp only [enc, sm, sms, T.ht, Bool.true_and, Bool.and_true, Bool.and_eq_true] at h h' ⊢
    exact ⟨sm_le h (by omega), sm_le h' (by omega)⟩
theorem sm_places (ps : List (List Nat)) : sm 3 (.tup (ps.map encP)) = true := by
  rw [sm, sms_iff]
  intro x m
  obtain ⟨p, _, rfl⟩ := List.mem_map.mp m
  rw [encP, sm, sms_iff]
  intro x m
  obtain ⟨p, _, rfl⟩ := List.mem_map.mp m
  simp [sm]
theorem sm_encs (n : Nat) (ts : List T) (h : ∀ t ∈ ts, t.ht ≤ n) : sm (n + 5) (.tup (ts.map enc)) = true := by
  rw [sm, sms_iff]
  intro x m
  obtain ⟨t, q, rfl⟩ := List.mem_map.mp m
  exact sm_le (sm_enc t) (by have := h t q; omega)
/-- the whole with other parts -/
theorem whole_cut (t : T) : ∃ items : List DV, enc t = .tup items ∧ items.length ≤ 5 ∧ ∀ qs : List DV, qs.length = t.parts.length → DV.tup (cutD items none (some ((items.length : Int) - (t.parts.length : Int))) ++ qs) = (if t.isLeaf then enc t else .tup (t.head ++ qs)) := by
  cases t with
  | bin o a b => cases o <;> exact ⟨_, rfl, by simp, fun qs h => by simp [T.parts, T.isLeaf, T.head, T.sign, Bo.s, cutD, HT.sIx]⟩
  | _ => exact ⟨_, rfl, by simp, fun qs h => by simp [T.parts] at h; subst_vars; simp [T.parts, T.isLeaf, T.head, T.sign, cutD, HT.sIx, enc, *]⟩
end Y
namespace Y
open PySem
theorem encs_of {xs : List DV} {f : DV → DV} (h : ∀ x ∈ xs, ∃ q : T, q.isLeaf = true ∧ f x = enc q) : ∃ qs : List T, (∀ q ∈ qs, q.isLeaf = true) ∧ xs.map f = qs.map enc ∧ qs.length = xs.length := by
  induction xs with
  | nil => exact ⟨[], by simp, rfl, rfl⟩
  | cons x xs ih =>
    obtain ⟨q, h1, h2⟩ := h x List.mem_cons_self
    obtain ⟨qs, h3, h4, h5⟩ := ih fun y m => h y (List.mem_cons_of_mem _ m)
    exact ⟨q :: qs, fun y m => by
      rcases List.mem_cons.mp m with rfl | m
      · exact h1
      · exact h3 y m, by simp [h2, h4], by simp [h5]⟩
theorem law_true : LawTrue := by
  intro ns hns
  rw [C]
  obtain ⟨ws, hw, hws⟩ := run_words 147 (ns.getD 0 0) []
  have hc0 := run_cell_at 148 ns 0 []
  have hcut : cutD (ns.map DV.int) (some 2) (some 62) = ((ns.drop 2).take 60).map DV.int := by
    rw [cutD_map]
    congr 1
    exact cut_mid ns 2 62
  obtain ⟨t, ht, hts, htr⟩ := run_tree ws hw 12 ((ns.drop 2).take 60) (by simp; omega)
  have hl60 : ((ns.drop 2).take 60).length ≤ 60 := by simp; omega
  have hht : t.ht ≤ 13 := by omega
  have hsz : t.size ≤ 181 := by omega
  have ppos : t.places ≠ [] := by rw [T.places_eq]; simp
  obtain ⟨p0, pr, hpp⟩ : ∃ p0 pr, t.places = p0 :: pr := by
    cases hq : t.places with
    | nil => exact absurd hq ppos
    | cons a b => exact ⟨a, b, rfl⟩
  have hpl := t.places_len
  have hprl : pr.length < 1000 := by rw [hpp] at hpl; simp at hpl; omega
  have e1 := fun S => run_lplaces t 147 S (by omega) (by omega)
  have e2 := fun S => run_places t 149 S (by omega) (by omega) (by omega)
  have e3 := fun S => run_same 3 149 (.tup (t.places.map encP)) S (sm_places _) (by omega)
  have e4 := fun S => run_size t 149 S (by omega)
  have e5 := fun S => run_whole 148 t.size S
  have e6 := fun S => run_lparts 148 t S
  have e7 := fun S => run_parts 148 t S
  have e8 := fun S => run_same 18 149 (.tup (t.parts.map enc)) S (sm_encs 13 _ fun q m => by have := T.ht_parts m; omega) (by omega)
  have hparts : t.parts.length ≤ 3 := by cases t <;> simp [T.parts]
  have e9 := fun S => run_cell_at 148 ns 1 S
  have hp : t.places.map encP = encP p0 :: pr.map encP := by rw [hpp]; rfl
  obtain ⟨X, hX⟩ : ∃ X : DV, X = .lst (DV.tup [.int 3, .int 3] :: (pr.map encP ++ [DV.tup [.int 7]])) := ⟨_, rfl⟩
  obtain ⟨f, hf, hcomp⟩ := comp_each [9] (tN 9) (sRange1 (lenE (var 6))) (call (C 149 .l_leaf) (aCons (add (fdiv (call (C 149 .l_cell_at) (aCons (var 0) (aCons (cst (.int 1)) (aNil)))) (add (var 9) (cst (.int 1)))) (var 9)) (aCons (var 1) (aNil))))
    [some (.rol (ns.map DV.int)), some (.lst (ws.map DV.str)), some (enc t), some (.lst (t.places.map encP)), some (.ref 0), some (.int t.size), some (.lst (t.parts.map enc)), none, none, none] [X] [X] (rngD 0 t.parts.length) (fun _ d => ∃ q : T, q.isLeaf = true ∧ d = enc q)
    (by simp [rngOk (n := (t.parts.length : Int)) (by omega)]) (by simp [rngD]; omega) (fun x hx => by
      obtain ⟨k, hk, rfl⟩ : ∃ k : Nat, k < t.parts.length ∧ x = .int (k : Int) := by
        simp only [rngD, List.mem_map, List.mem_range] at hx
        obtain ⟨k, hk, rfl⟩ := hx
        exact ⟨k, hk, by simp⟩
      have dk : DivOk ((k : Int) + 1) := divOk_lt (by omega) (by omega)
      obtain ⟨q, hq, hq2⟩ := run_leaf (ns.getD 1 0 / ((k : Int) + 1) + k) ws hw
      refine ⟨_, enc q, rfl, ⟨q, hq, rfl⟩, noRef_enc q, fun S' => ?_⟩
      have e9' := e9 S'
      simp at e9'
      simp at hq2
      simp [wipeL, divV_int _ _ dk, e9', hq2])
  obtain ⟨qs, hq1, hq2, hq3⟩ := encs_of (xs := rngD 0 t.parts.length) (f := f) fun x m => (hf x m).1
  have hq3' : qs.length = t.parts.length := by rw [hq3]; simp [rngD]
  have e10 := fun S => run_with_parts 148 t (qs.map enc) S (by simp; omega) (noRefs_map enc noRef_enc qs)
  obtain ⟨items, hi1, hi2, hi3⟩ := whole_cut t
  have hcat := hi3 (qs.map enc) (by simp [hq3'])
  have e11 : ∀ S, C 149 .l_same [if t.isLeaf then enc t else .tup (t.head ++ qs.map enc), if t.isLeaf then enc t else .tup (t.head ++ qs.map enc)] S = .ok (.bl true, false) S := fun S => by
    refine run_same 18 149 _ S ?_ (by omega)
    by_cases hle : t.isLeaf = true
    · rw [if_pos hle]
      exact sm_le (sm_enc t) (by omega)
    · rw [if_neg hle, sm, sms_iff]
      intro x m
      rcases List.mem_append.mp m with m | m
      · cases t <;> simp [T.head] at m <;> (try rcases m with m | m) <;> subst_vars <;> simp [sm]
      · obtain ⟨q, hqm, rfl⟩ := List.mem_map.mp m
        have := (T.leaf_ht (hq1 q hqm)).1
        exact sm_le (sm_enc q) (by omega)
  simp only [b_law]
  have hlp : ((pr.length : Int) + 1 + 1 : Int) = ((pr.length + 2 : Nat) : Int) := by omega
  have hix : L2.ixN (pr.length + 1 + 1) 0 = some 0 := by simp [L2.ixN]; omega
  have hz1 : t.size = pr.length + 1 := by rw [← hpl, hpp]; rfl
  have hx1 : items.length + qs.length ≤ 16777216 := by omega
  have hx2 : (cutD items none (some ((items.length : Int) - (t.parts.length : Int)))).length + qs.length ≤ 16777216 := by
    have : (cutD items none (some ((items.length : Int) - (t.parts.length : Int)))).length ≤ items.length := by
      unfold cutD
      simp
      omega
    omega
  simp only [hp] at *
  simp at hc0 hws htr e9 hcomp
  subst hX
  have hlt : pr.length + 1 < 16777216 := by omega
  have hlen : ∀ S, lenV S (enc t) = some (.int items.length) := fun S => by rw [hi1]; rfl
  have hsl : ∀ S q, slV S (enc t) none q = some (.tup (cutD items none q)) := fun S q => by rw [hi1]; rfl
  have e10' := fun S => e10 S
  simp [hz1] at e4 e5 e6 e7 e8 e10 e11 hcat hcomp
  simp [hc0, hws, hcut, htr, e1, e2, noRefs_map, noRef_encP, isTag, e3, hlt, hix, e4, e5, e6, e7, e8, hz1, hcomp, hq2, e10, hlen, hsl, hx2, hcat, e11, leave_ok]
end Y
namespace Y
open PySem L2 PyProof.Rows

def top (i : Nat) : Stmt := PySem.Challenge.pw_recastle_k01_parts_counted.main.body.getD i (.Pass ⟨0, 0, 0, 0⟩)
abbrev s_p_parts : Stmt := top 2
abbrev s_p_with_parts : Stmt := top 3
abbrev s_p_size : Stmt := top 4
abbrev s_p_places : Stmt := top 5
abbrev s_l_cell_at : Stmt := top 7
abbrev s_l_whole : Stmt := top 8
abbrev s_l_word : Stmt := top 9
abbrev s_l_words : Stmt := top 10
abbrev s_l_leaf : Stmt := top 11
abbrev s_l_tree : Stmt := top 12
abbrev s_l_parts : Stmt := top 13
abbrev s_l_places : Stmt := top 14
abbrev s_l_same : Stmt := top 15
abbrev s_law : Stmt := top 16
theorem alen_nil : ∀ l S xs S', aNil l S = .ok xs S' → xs.length = 0 := fun l S xs S' h => by cases h; rfl
theorem alen_cons {e : ME} {r : MA} {n : Nat} (h : ∀ l S xs S', r l S = .ok xs S' → xs.length = n) : ∀ l S xs S', aCons e r l S = .ok xs S' → xs.length = n + 1 := fun l S xs S' q => by
  unfold aCons at q
  cases e1 : e l S with
  | ok x S1 =>
    rw [e1] at q
    simp only [Out.bind] at q
    cases e2 : r l S1 with
    | ok ys S2 =>
      rw [e2] at q
      cases q
      simp [h l S1 ys _ e2]
    | exc _ _ _ _ => rw [e2] at q; cases q
    | bad => rw [e2] at q; cases q
  | exc _ _ _ _ => rw [e1] at q; cases q
  | bad => rw [e1] at q; cases q
theorem blk_is {N : List Str} {sc scope : Scope} {own : List (Str × Nat)} (h : blkC N sc scope own = true) : blkC N sc scope own = true := h
/-- what the text's top has left -/
structure Txt (K : PySem.W.Frag) (mg : Str → Option Value) : Prop where
  z_bool : mg "bool" = none
  z_enumerate : mg "enumerate" = none
  z_int : mg "int" = none
  z_isinstance : mg "isinstance" = none
  z_len : mg "len" = none
  z_list : mg "list" = none
  z_range : mg "range" = none
  z_reversed : mg "reversed" = none
  z_str : mg "str" = none
  z_tuple : mg "tuple" = none
  z_zip : mg "zip" = none
  c_LEAVES : MgC K mg "LEAVES" c_LEAVES
  d_p_parts : ∃ (g : Addr) (fd : FuncData), mg "parts" = some (.ref g) ∧ Fun K "parts" "parts" s_p_parts g fd ∧ Binds K fd ["tree"] []
  d_p_with_parts : ∃ (g : Addr) (fd : FuncData), mg "with_parts" = some (.ref g) ∧ Fun K "with_parts" "with_parts" s_p_with_parts g fd ∧ Binds K fd ["tree", "some"] []
  d_p_size : ∃ (g : Addr) (fd : FuncData), mg "size" = some (.ref g) ∧ Fun K "size" "size" s_p_size g fd ∧ Binds K fd ["tree"] []
  d_p_places : ∃ (g : Addr) (fd : FuncData), mg "places" = some (.ref g) ∧ Fun K "places" "places" s_p_places g fd ∧ Binds K fd ["tree"] []
  d_l_cell_at : ∃ (g : Addr) (fd : FuncData), mg "_law_cell_at" = some (.ref g) ∧ Fun K "_law_cell_at" "_law_cell_at" s_l_cell_at g fd ∧ Binds K fd ["_law_script", "_law_k"] []
  d_l_whole : ∃ (g : Addr) (fd : FuncData), mg "_law_whole" = some (.ref g) ∧ Fun K "_law_whole" "_law_whole" s_l_whole g fd ∧ Binds K fd ["_law_found"] []
  d_l_word : ∃ (g : Addr) (fd : FuncData), mg "_law_word" = some (.ref g) ∧ Fun K "_law_word" "_law_word" s_l_word g fd ∧ Binds K fd ["_law_cell", "_law_long", "_law_at", "_law_turn"] []
  d_l_words : ∃ (g : Addr) (fd : FuncData), mg "_law_words" = some (.ref g) ∧ Fun K "_law_words" "_law_words" s_l_words g fd ∧ Binds K fd ["_law_cell"] []
  d_l_leaf : ∃ (g : Addr) (fd : FuncData), mg "_law_leaf" = some (.ref g) ∧ Fun K "_law_leaf" "_law_leaf" s_l_leaf g fd ∧ Binds K fd ["_law_cell", "_law_words_here"] []
  d_l_tree : ∃ (g : Addr) (fd : FuncData), mg "_law_tree" = some (.ref g) ∧ Fun K "_law_tree" "_law_tree" s_l_tree g fd ∧ Binds K fd ["_law_cells", "_law_words_here", "_law_deep"] []
  d_l_parts : ∃ (g : Addr) (fd : FuncData), mg "_law_parts" = some (.ref g) ∧ Fun K "_law_parts" "_law_parts" s_l_parts g fd ∧ Binds K fd ["_law_tree_here"] []
  d_l_places : ∃ (g : Addr) (fd : FuncData), mg "_law_places" = some (.ref g) ∧ Fun K "_law_places" "_law_places" s_l_places g fd ∧ Binds K fd ["_law_tree_here"] []
  d_l_same : ∃ (g : Addr) (fd : FuncData), mg "_law_same" = some (.ref g) ∧ Fun K "_law_same" "_law_same" s_l_same g fd ∧ Binds K fd ["_law_found", "_law_due"] []
  d_law : ∃ (g : Addr) (fd : FuncData), mg "law" = some (.ref g) ∧ Fun K "law" "law" s_law g fd ∧ Binds K fd ["_law_script"] []
def rx0 : Rx := fun _ _ => False
section
variable {P : Program} {w : World} {K : PySem.W.Frag} {mg : Str → Option Value} {base : Heap} {n : Nat}
structure All (P : Program) (w : World) (K : PySem.W.Frag) (mg : Str → Option Value) (base : Heap) (n : Nat) : Prop where
  f_p_parts : FnAt P w K mg base rx0 n "parts" ["tree"] (C n .p_parts)
  f_p_with_parts : FnAt P w K mg base rx0 n "with_parts" ["tree", "some"] (C n .p_with_parts)
  f_p_size : FnAt P w K mg base rx0 n "size" ["tree"] (C n .p_size)
  f_p_places : FnAt P w K mg base rx0 n "places" ["tree"] (C n .p_places)
  f_l_cell_at : FnAt P w K mg base rx0 n "_law_cell_at" ["_law_script", "_law_k"] (C n .l_cell_at)
  f_l_whole : FnAt P w K mg base rx0 n "_law_whole" ["_law_found"] (C n .l_whole)
  f_l_word : FnAt P w K mg base rx0 n "_law_word" ["_law_cell", "_law_long", "_law_at", "_law_turn"] (C n .l_word)
  f_l_words : FnAt P w K mg base rx0 n "_law_words" ["_law_cell"] (C n .l_words)
  f_l_leaf : FnAt P w K mg base rx0 n "_law_leaf" ["_law_cell", "_law_words_here"] (C n .l_leaf)
  f_l_tree : FnAt P w K mg base rx0 n "_law_tree" ["_law_cells", "_law_words_here", "_law_deep"] (C n .l_tree)
  f_l_parts : FnAt P w K mg base rx0 n "_law_parts" ["_law_tree_here"] (C n .l_parts)
  f_l_places : FnAt P w K mg base rx0 n "_law_places" ["_law_tree_here"] (C n .l_places)
  f_l_same : FnAt P w K mg base rx0 n "_law_same" ["_law_found", "_law_due"] (C n .l_same)
  f_law : FnAt P w K mg base rx0 n "law" ["_law_script"] (C n .law)
theorem sc_p_parts : FnScope ["tree"] ["tree"] (defScope s_p_parts) := ⟨rfl, rfl, rfl, by decide +kernel, rfl, by decide +kernel, by decide +kernel⟩
theorem kk_p_parts {g : Addr} {fd : FuncData} (F : Fun K "parts" "parts" s_p_parts g fd) (Tx : Txt K mg) (G : All P w K mg base n) : FnOk P w K mg base (L2.CX P w) (n + 1) g fd ["tree"] (spF K rx0 1 (C (n + 1) .p_parts)) := by
  have nd := sc_p_parts.nd
  refine fn_ok F sc_p_parts (n := 1) rfl fun cdv A outer s H E hr => ?_
  have tk := takes_of (X := cxOf (L2.CX P w) P w K mg base ["tree"] "parts" (defScope s_p_parts) g cdv A outer s H E) rfl rfl rfl rfl
  exact (v_seq (v_if (v_tin rfl (v_ix (fun _ _ => rfl) (v_var 0) v_int) (v_glob Tx.c_LEAVES)) (v_one (v_ret (v_tup v_nil))) v_skip)
  (v_seq (v_if (v_teq hr.units (v_ix (fun _ _ => rfl) (v_var 0) v_int) v_str) (v_one (v_ret (v_slice (v_var 0) (v_po1 v_int) v_po0))) v_skip)
  (v_one (v_ret (v_slice (v_var 0) (v_po1 v_int) v_po0)))))
theorem k_p_parts (Tx : Txt K mg) (G : All P w K mg base n) : FnAt P w K mg base rx0 (n + 1) "parts" ["tree"] (C (n + 1) .p_parts) := by
  obtain ⟨g, fd, h1, F, h2⟩ := Tx.d_p_parts
  exact ⟨g, fd, h1, F.kp, h2, kk_p_parts F Tx G⟩
theorem sc_p_with_parts : FnScope ["tree", "some"] ["tree", "some"] (defScope s_p_with_parts) := ⟨rfl, rfl, rfl, by decide +kernel, rfl, by decide +kernel, by decide +kernel⟩
theorem kk_p_with_parts {g : Addr} {fd : FuncData} (F : Fun K "with_parts" "with_parts" s_p_with_parts g fd) (Tx : Txt K mg) (G : All P w K mg base n) : FnOk P w K mg base (L2.CX P w) (n + 1) g fd ["tree", "some"] (spF K rx0 2 (C (n + 1) .p_with_parts)) := by
  have nd := sc_p_with_parts.nd
  refine fn_ok F sc_p_with_parts (n := 2) rfl fun cdv A outer s H E hr => ?_
  have tk := takes_of (X := cxOf (L2.CX P w) P w K mg base ["tree", "some"] "with_parts" (defScope s_p_with_parts) g cdv A outer s H E) rfl rfl rfl rfl
  exact (v_seq (v_if (v_tin rfl (v_ix (fun _ _ => rfl) (v_var 0) v_int) (v_glob Tx.c_LEAVES)) (v_one (v_ret (v_var 0))) v_skip)
  (v_seq (v_if (v_teq hr.units (v_ix (fun _ _ => rfl) (v_var 0) v_int) v_str) (v_one (v_ret (v_add (v_slice (v_var 0) v_po0 (v_po1 v_int)) (v_tuple Tx.z_tuple (v_var 1))))) v_skip)
  (v_one (v_ret (v_add (v_slice (v_var 0) v_po0 (v_po1 v_int)) (v_tuple Tx.z_tuple (v_var 1)))))))
theorem k_p_with_parts (Tx : Txt K mg) (G : All P w K mg base n) : FnAt P w K mg base rx0 (n + 1) "with_parts" ["tree", "some"] (C (n + 1) .p_with_parts) := by
  obtain ⟨g, fd, h1, F, h2⟩ := Tx.d_p_with_parts
  exact ⟨g, fd, h1, F.kp, h2, kk_p_with_parts F Tx G⟩
theorem sc_p_size : FnScope ["tree", "many", "part"] ["tree"] (defScope s_p_size) := ⟨rfl, rfl, rfl, by decide +kernel, rfl, by decide +kernel, by decide +kernel⟩
theorem kk_p_size {g : Addr} {fd : FuncData} (F : Fun K "size" "size" s_p_size g fd) (Tx : Txt K mg) (G : All P w K mg base n) : FnOk P w K mg base (L2.CX P w) (n + 1) g fd ["tree"] (spF K rx0 1 (C (n + 1) .p_size)) := by
  have nd := sc_p_size.nd
  refine fn_ok F sc_p_size (n := 3) rfl fun cdv A outer s H E hr => ?_
  have tk := takes_of (X := cxOf (L2.CX P w) P w K mg base ["tree", "many", "part"] "size" (defScope s_p_size) g cdv A outer s H E) rfl rfl rfl rfl
  exact (v_seq (v_set 1 nd v_int)
  (v_seq (v_for (passes_of rfl) rfl (s_seq (v_call G.f_p_parts hr tk (v_cons (v_var 0) v_nil) (alen_cons alen_nil))) (g_name 2 nd) (v_one (v_set 1 nd (v_add (v_var 1) (v_call G.f_p_size hr tk (v_cons (v_var 2) v_nil) (alen_cons alen_nil))))))
  (v_one (v_ret (v_var 1)))))
theorem k_p_size (Tx : Txt K mg) (G : All P w K mg base n) : FnAt P w K mg base rx0 (n + 1) "size" ["tree"] (C (n + 1) .p_size) := by
  obtain ⟨g, fd, h1, F, h2⟩ := Tx.d_p_size
  exact ⟨g, fd, h1, F.kp, h2, kk_p_size F Tx G⟩
theorem sc_p_places : FnScope ["tree", "found", "number", "part", "place"] ["tree"] (defScope s_p_places) := ⟨rfl, rfl, rfl, by decide +kernel, rfl, by decide +kernel, by decide +kernel⟩
theorem kk_p_places {g : Addr} {fd : FuncData} (F : Fun K "places" "places" s_p_places g fd) (Tx : Txt K mg) (G : All P w K mg base n) : FnOk P w K mg base (L2.CX P w) (n + 1) g fd ["tree"] (spF K rx0 1 (C (n + 1) .p_places)) := by
  have nd := sc_p_places.nd
  refine fn_ok F sc_p_places (n := 5) rfl fun cdv A outer s H E hr => ?_
  have tk := takes_of (X := cxOf (L2.CX P w) P w K mg base ["tree", "found", "number", "part", "place"] "places" (defScope s_p_places) g cdv A outer s H E) rfl rfl rfl rfl
  exact (v_seq (v_set 1 nd (v_lstR (v_cons (v_tup v_nil) v_nil)))
  (v_seq (v_for (passes_of rfl) rfl (s_enum Tx.z_enumerate (v_call G.f_p_parts hr tk (v_cons (v_var 0) v_nil) (alen_cons alen_nil))) (g_tup rfl (gs_cons 2 nd (gs_cons 3 nd gs_nil))) (v_one (v_for (passes_of rfl) rfl (s_seq (v_call G.f_p_places hr tk (v_cons (v_var 3) v_nil) (alen_cons alen_nil))) (g_name 4 nd) (v_one (v_app (v_var 1) (v_add (v_tup (v_cons (v_var 2) v_nil)) (v_var 4)))))))
  (v_one (v_ret (v_var 1)))))
theorem k_p_places (Tx : Txt K mg) (G : All P w K mg base n) : FnAt P w K mg base rx0 (n + 1) "places" ["tree"] (C (n + 1) .p_places) := by
  obtain ⟨g, fd, h1, F, h2⟩ := Tx.d_p_places
  exact ⟨g, fd, h1, F.kp, h2, kk_p_places F Tx G⟩
theorem sc_l_cell_at : FnScope ["_law_script", "_law_k"] ["_law_script", "_law_k"] (defScope s_l_cell_at) := ⟨rfl, rfl, rfl, by decide +kernel, rfl, by decide +kernel, by decide +kernel⟩
theorem kk_l_cell_at {g : Addr} {fd : FuncData} (F : Fun K "_law_cell_at" "_law_cell_at" s_l_cell_at g fd) (Tx : Txt K mg) (G : All P w K mg base n) : FnOk P w K mg base (L2.CX P w) (n + 1) g fd ["_law_script", "_law_k"] (spF K rx0 2 (C (n + 1) .l_cell_at)) := by
  have nd := sc_l_cell_at.nd
  refine fn_ok F sc_l_cell_at (n := 2) rfl fun cdv A outer s H E hr => ?_
  have tk := takes_of (X := cxOf (L2.CX P w) P w K mg base ["_law_script", "_law_k"] "_law_cell_at" (defScope s_l_cell_at) g cdv A outer s H E) rfl rfl rfl rfl
  exact (v_seq (v_if (v_tlt (v_var 1) (v_len Tx.z_len (v_var 0))) (v_one (v_ret (v_ix (fun _ _ => rfl) (v_var 0) (v_var 1)))) v_skip)
  (v_one (v_ret v_int)))
theorem k_l_cell_at (Tx : Txt K mg) (G : All P w K mg base n) : FnAt P w K mg base rx0 (n + 1) "_law_cell_at" ["_law_script", "_law_k"] (C (n + 1) .l_cell_at) := by
  obtain ⟨g, fd, h1, F, h2⟩ := Tx.d_l_cell_at
  exact ⟨g, fd, h1, F.kp, h2, kk_l_cell_at F Tx G⟩
theorem sc_l_whole : FnScope ["_law_found"] ["_law_found"] (defScope s_l_whole) := ⟨rfl, rfl, rfl, by decide +kernel, rfl, by decide +kernel, by decide +kernel⟩
theorem kk_l_whole {g : Addr} {fd : FuncData} (F : Fun K "_law_whole" "_law_whole" s_l_whole g fd) (Tx : Txt K mg) (G : All P w K mg base n) : FnOk P w K mg base (L2.CX P w) (n + 1) g fd ["_law_found"] (spF K rx0 1 (C (n + 1) .l_whole)) := by
  have nd := sc_l_whole.nd
  refine fn_ok F sc_l_whole (n := 1) rfl fun cdv A outer s H E hr => ?_
  have tk := takes_of (X := cxOf (L2.CX P w) P w K mg base ["_law_found"] "_law_whole" (defScope s_l_whole) g cdv A outer s H E) rfl rfl rfl rfl
  exact (v_one (v_ret (v_andE (v_isi (c := "int") (by decide) (by decide +kernel) Tx.z_isinstance Tx.z_int (v_var 0)) (v_oneE (v_notE (v_isi (c := "bool") (by decide) (by decide +kernel) Tx.z_isinstance Tx.z_bool (v_var 0)))))))
theorem k_l_whole (Tx : Txt K mg) (G : All P w K mg base n) : FnAt P w K mg base rx0 (n + 1) "_law_whole" ["_law_found"] (C (n + 1) .l_whole) := by
  obtain ⟨g, fd, h1, F, h2⟩ := Tx.d_l_whole
  exact ⟨g, fd, h1, F.kp, h2, kk_l_whole F Tx G⟩
theorem sc_l_word : FnScope ["_law_cell", "_law_long", "_law_at", "_law_turn", "_law_letters", "_law_word_here", "_law_j", "_law_number"] ["_law_cell", "_law_long", "_law_at", "_law_turn"] (defScope s_l_word) := ⟨rfl, rfl, rfl, by decide +kernel, rfl, by decide +kernel, by decide +kernel⟩
theorem kk_l_word {g : Addr} {fd : FuncData} (F : Fun K "_law_word" "_law_word" s_l_word g fd) (Tx : Txt K mg) (G : All P w K mg base n) : FnOk P w K mg base (L2.CX P w) (n + 1) g fd ["_law_cell", "_law_long", "_law_at", "_law_turn"] (spF K rx0 4 (C (n + 1) .l_word)) := by
  have nd := sc_l_word.nd
  refine fn_ok F sc_l_word (n := 8) rfl fun cdv A outer s H E hr => ?_
  have tk := takes_of (X := cxOf (L2.CX P w) P w K mg base ["_law_cell", "_law_long", "_law_at", "_law_turn", "_law_letters", "_law_word_here", "_law_j", "_law_number"] "_law_word" (defScope s_l_word) g cdv A outer s H E) rfl rfl rfl rfl
  exact (v_seq (v_set 4 nd v_str)
  (v_seq (v_set 5 nd v_str)
  (v_seq (v_for (passes_of rfl) rfl (s_range1 Tx.z_range (v_var 1)) (g_name 6 nd) (v_seq (v_set 7 nd (v_fdiv (v_mod (v_mul (v_mod (v_var 0) v_int) (v_add v_int (v_mul (v_mul v_int (v_var 6)) (v_var 6)))) v_int) v_int))
  (v_seq (v_if (v_teq hr.units (v_var 6) (v_var 2)) (v_one (v_set 7 nd (v_add (v_var 7) (v_var 3)))) v_skip)
  (v_one (v_set 5 nd (v_add (v_var 5) (v_ix (fun _ _ => rfl) (v_var 4) (v_mod (v_var 7) v_int))))))))
  (v_seq (v_if (v_tin rfl (v_var 5) (v_tup (v_cons v_str (v_cons v_str (v_cons v_str (v_cons v_str (v_cons v_str (v_cons v_str (v_cons v_str (v_cons v_str (v_cons v_str (v_cons v_str (v_cons v_str v_nil))))))))))))) (v_one (v_ret (v_add v_str (v_slice (v_var 5) (v_po1 v_int) v_po0)))) v_skip)
  (v_one (v_ret (v_var 5)))))))
theorem k_l_word (Tx : Txt K mg) (G : All P w K mg base n) : FnAt P w K mg base rx0 (n + 1) "_law_word" ["_law_cell", "_law_long", "_law_at", "_law_turn"] (C (n + 1) .l_word) := by
  obtain ⟨g, fd, h1, F, h2⟩ := Tx.d_l_word
  exact ⟨g, fd, h1, F.kp, h2, kk_l_word F Tx G⟩
theorem sc_l_words : FnScope ["_law_cell", "_law_long", "_law_at", "_law_k"] ["_law_cell"] (defScope s_l_words) := ⟨rfl, rfl, rfl, by decide +kernel, rfl, by decide +kernel, by decide +kernel⟩
theorem kk_l_words {g : Addr} {fd : FuncData} (F : Fun K "_law_words" "_law_words" s_l_words g fd) (Tx : Txt K mg) (G : All P w K mg base n) : FnOk P w K mg base (L2.CX P w) (n + 1) g fd ["_law_cell"] (spF K rx0 1 (C (n + 1) .l_words)) := by
  have nd := sc_l_words.nd
  refine fn_ok F sc_l_words (n := 4) rfl fun cdv A outer s H E hr => ?_
  have tk := takes_of (X := cxOf (L2.CX P w) P w K mg base ["_law_cell", "_law_long", "_law_at", "_law_k"] "_law_words" (defScope s_l_words) g cdv A outer s H E) rfl rfl rfl rfl
  exact (v_seq (v_set 1 nd (v_add v_int (v_mod (v_var 0) v_int)))
  (v_seq (v_set 2 nd (v_mod (v_fdiv (v_var 0) v_int) (v_var 1)))
  (v_one (v_ret (v_comp (own := [(("_law_k" : Str), 3)]) rfl nd (s_range1 Tx.z_range v_int) (blk_is (N := ["_law_cell", "_law_long", "_law_at", "_law_k"]) (sc := defScope s_l_words) (by decide +kernel)) (go_name 3) (fun _ _ _ _ _ => pg_name (i := 3) nd rfl (by first | exact Or.inl rfl | exact Or.inr rfl)) (fun _ _ _ _ _ => v_ifs0) (fun _ _ _ _ _ => (v_call G.f_l_word hr takes0 (v_cons (v_fdiv (v_var 0) v_int) (v_cons (v_var 1) (v_cons (v_var 2) (v_cons (v_mul v_int (v_var 3)) v_nil)))) (alen_cons (alen_cons (alen_cons (alen_cons alen_nil)))))))))))
theorem k_l_words (Tx : Txt K mg) (G : All P w K mg base n) : FnAt P w K mg base rx0 (n + 1) "_law_words" ["_law_cell"] (C (n + 1) .l_words) := by
  obtain ⟨g, fd, h1, F, h2⟩ := Tx.d_l_words
  exact ⟨g, fd, h1, F.kp, h2, kk_l_words F Tx G⟩
theorem sc_l_leaf : FnScope ["_law_cell", "_law_words_here", "_law_number", "_law_atoms"] ["_law_cell", "_law_words_here"] (defScope s_l_leaf) := ⟨rfl, rfl, rfl, by decide +kernel, rfl, by decide +kernel, by decide +kernel⟩
theorem kk_l_leaf {g : Addr} {fd : FuncData} (F : Fun K "_law_leaf" "_law_leaf" s_l_leaf g fd) (Tx : Txt K mg) (G : All P w K mg base n) : FnOk P w K mg base (L2.CX P w) (n + 1) g fd ["_law_cell", "_law_words_here"] (spF K rx0 2 (C (n + 1) .l_leaf)) := by
  have nd := sc_l_leaf.nd
  refine fn_ok F sc_l_leaf (n := 4) rfl fun cdv A outer s H E hr => ?_
  have tk := takes_of (X := cxOf (L2.CX P w) P w K mg base ["_law_cell", "_law_words_here", "_law_number", "_law_atoms"] "_law_leaf" (defScope s_l_leaf) g cdv A outer s H E) rfl rfl rfl rfl
  exact (v_seq (v_set 2 nd (v_mod (v_mul (v_var 0) v_int) v_int))
  (v_seq (v_if (v_teq hr.units (v_mod (v_var 2) v_int) v_int) (v_one (v_ret (v_tup (v_cons v_str (v_cons (v_mod (v_var 0) (v_pow v_int v_int)) v_nil))))) v_skip)
  (v_seq (v_if (v_teq hr.units (v_mod (v_var 2) v_int) v_int) (v_seq (v_set 3 nd (v_lst (v_cons (v_tup (v_cons v_str (v_cons (v_ix (fun _ _ => rfl) (v_var 1) (v_mod (v_fdiv (v_var 2) v_int) v_int)) v_nil))) (v_cons (v_tup (v_cons v_str (v_cons (v_mod (v_var 0) v_int) v_nil))) (v_cons (v_tup (v_cons v_str (v_cons (v_ix (fun _ _ => rfl) (v_var 1) (v_mod (v_fdiv (v_var 2) v_int) v_int)) (v_cons (v_tup v_nil) v_nil)))) v_nil)))))
  (v_one (v_ret (v_tup (v_cons v_str (v_cons (v_ix (fun _ _ => rfl) (v_var 1) (v_mod (v_fdiv (v_var 2) v_int) v_int)) (v_cons (v_tuple Tx.z_tuple (v_slice (v_var 3) v_po0 (v_po1 (v_mod (v_fdiv (v_var 2) v_int) v_int)))) v_nil))))))) v_skip)
  (v_one (v_ret (v_tup (v_cons (v_ix (fun _ _ => rfl) (v_lst (v_cons v_str (v_cons v_str (v_cons v_str (v_cons v_str v_nil))))) (v_mod (v_var 2) v_int)) (v_cons (v_ix (fun _ _ => rfl) (v_var 1) (v_mod (v_fdiv (v_var 2) v_int) v_int)) v_nil))))))))
theorem k_l_leaf (Tx : Txt K mg) (G : All P w K mg base n) : FnAt P w K mg base rx0 (n + 1) "_law_leaf" ["_law_cell", "_law_words_here"] (C (n + 1) .l_leaf) := by
  obtain ⟨g, fd, h1, F, h2⟩ := Tx.d_l_leaf
  exact ⟨g, fd, h1, F.kp, h2, kk_l_leaf F Tx G⟩
theorem sc_l_tree : FnScope ["_law_cells", "_law_words_here", "_law_deep", "_law_number", "_law_rest", "_law_at", "_law_sign", "_law_one", "_law_far", "_law_two", "_law_other"] ["_law_cells", "_law_words_here", "_law_deep"] (defScope s_l_tree) := ⟨rfl, rfl, rfl, by decide +kernel, rfl, by decide +kernel, by decide +kernel⟩
theorem kk_l_tree {g : Addr} {fd : FuncData} (F : Fun K "_law_tree" "_law_tree" s_l_tree g fd) (Tx : Txt K mg) (G : All P w K mg base n) : FnOk P w K mg base (L2.CX P w) (n + 1) g fd ["_law_cells", "_law_words_here", "_law_deep"] (spF K rx0 3 (C (n + 1) .l_tree)) := by
  have nd := sc_l_tree.nd
  refine fn_ok F sc_l_tree (n := 11) rfl fun cdv A outer s H E hr => ?_
  have tk := takes_of (X := cxOf (L2.CX P w) P w K mg base ["_law_cells", "_law_words_here", "_law_deep", "_law_number", "_law_rest", "_law_at", "_law_sign", "_law_one", "_law_far", "_law_two", "_law_other"] "_law_tree" (defScope s_l_tree) g cdv A outer s H E) rfl rfl rfl rfl
  exact (v_seq (v_if (v_teq hr.units (v_len Tx.z_len (v_var 0)) v_int) (v_one (v_ret (v_tup (v_cons v_str (v_cons (v_ix (fun _ _ => rfl) (v_var 1) (v_mod (v_var 2) v_int)) v_nil))))) v_skip)
  (v_seq (v_if (v_bop (v_orT (v_teq hr.units (v_len Tx.z_len (v_var 0)) v_int) (v_or1 (v_teq hr.units (v_var 2) v_int)))) (v_one (v_ret (v_call G.f_l_leaf hr tk (v_cons (v_ix (fun _ _ => rfl) (v_var 0) v_int) (v_cons (v_var 1) v_nil)) (alen_cons (alen_cons alen_nil))))) v_skip)
  (v_seq (v_set 3 nd (v_mod (v_mul (v_ix (fun _ _ => rfl) (v_var 0) v_int) v_int) v_int))
  (v_seq (v_set 4 nd (v_slice (v_var 0) (v_po1 v_int) v_po0))
  (v_seq (v_set 5 nd (v_mod (v_fdiv (v_var 3) v_int) (v_add (v_len Tx.z_len (v_var 4)) v_int)))
  (v_seq (v_set 6 nd (v_ix (fun _ _ => rfl) (v_lst (v_cons v_str (v_cons v_str (v_cons v_str (v_cons v_str (v_cons v_str (v_cons v_str (v_cons v_str (v_cons v_str (v_cons v_str v_nil)))))))))) (v_mod (v_var 3) v_int)))
  (v_seq (v_if (v_teq hr.units (v_var 6) v_str) (v_one (v_ret (v_tup (v_cons v_str (v_cons (v_call G.f_l_tree hr tk (v_cons (v_var 4) (v_cons (v_var 1) (v_cons (v_sub (v_var 2) v_int) v_nil))) (alen_cons (alen_cons (alen_cons alen_nil)))) v_nil))))) v_skip)
  (v_seq (v_set 7 nd (v_call G.f_l_tree hr tk (v_cons (v_slice (v_var 4) v_po0 (v_po1 (v_var 5))) (v_cons (v_var 1) (v_cons (v_sub (v_var 2) v_int) v_nil))) (alen_cons (alen_cons (alen_cons alen_nil)))))
  (v_seq (v_if (v_teq hr.units (v_var 6) v_str) (v_seq (v_set 8 nd (v_add (v_var 5) (v_mod (v_fdiv (v_var 3) v_int) (v_add (v_sub (v_len Tx.z_len (v_var 4)) (v_var 5)) v_int))))
  (v_seq (v_set 9 nd (v_call G.f_l_tree hr tk (v_cons (v_slice (v_var 4) (v_po1 (v_var 5)) (v_po1 (v_var 8))) (v_cons (v_var 1) (v_cons (v_sub (v_var 2) v_int) v_nil))) (alen_cons (alen_cons (alen_cons alen_nil)))))
  (v_one (v_ret (v_tup (v_cons v_str (v_cons (v_var 7) (v_cons (v_var 9) (v_cons (v_call G.f_l_tree hr tk (v_cons (v_slice (v_var 4) (v_po1 (v_var 8)) v_po0) (v_cons (v_var 1) (v_cons (v_sub (v_var 2) v_int) v_nil))) (alen_cons (alen_cons (alen_cons alen_nil)))) v_nil))))))))) v_skip)
  (v_seq (v_set 10 nd (v_call G.f_l_tree hr tk (v_cons (v_slice (v_var 4) (v_po1 (v_var 5)) v_po0) (v_cons (v_var 1) (v_cons (v_sub (v_var 2) v_int) v_nil))) (alen_cons (alen_cons (alen_cons alen_nil)))))
  (v_seq (v_if (v_teq hr.units (v_var 6) v_str) (v_one (v_ret (v_tup (v_cons v_str (v_cons (v_ix (fun _ _ => rfl) (v_var 1) (v_mod (v_fdiv (v_var 3) v_int) v_int)) (v_cons (v_var 7) (v_cons (v_var 10) v_nil))))))) v_skip)
  (v_one (v_ret (v_tup (v_cons (v_var 6) (v_cons (v_var 7) (v_cons (v_var 10) v_nil)))))))))))))))))
theorem k_l_tree (Tx : Txt K mg) (G : All P w K mg base n) : FnAt P w K mg base rx0 (n + 1) "_law_tree" ["_law_cells", "_law_words_here", "_law_deep"] (C (n + 1) .l_tree) := by
  obtain ⟨g, fd, h1, F, h2⟩ := Tx.d_l_tree
  exact ⟨g, fd, h1, F.kp, h2, kk_l_tree F Tx G⟩
theorem sc_l_parts : FnScope ["_law_tree_here", "_law_part"] ["_law_tree_here"] (defScope s_l_parts) := ⟨rfl, rfl, rfl, by decide +kernel, rfl, by decide +kernel, by decide +kernel⟩
theorem kk_l_parts {g : Addr} {fd : FuncData} (F : Fun K "_law_parts" "_law_parts" s_l_parts g fd) (Tx : Txt K mg) (G : All P w K mg base n) : FnOk P w K mg base (L2.CX P w) (n + 1) g fd ["_law_tree_here"] (spF K rx0 1 (C (n + 1) .l_parts)) := by
  have nd := sc_l_parts.nd
  refine fn_ok F sc_l_parts (n := 2) rfl fun cdv A outer s H E hr => ?_
  have tk := takes_of (X := cxOf (L2.CX P w) P w K mg base ["_law_tree_here", "_law_part"] "_law_parts" (defScope s_l_parts) g cdv A outer s H E) rfl rfl rfl rfl
  exact (v_one (v_ret (v_comp (own := [(("_law_part" : Str), 1)]) rfl nd (s_seq (v_slice (v_var 0) (v_po1 v_int) v_po0)) (blk_is (N := ["_law_tree_here", "_law_part"]) (sc := defScope s_l_parts) (by decide +kernel)) (go_name 1) (fun _ _ _ _ _ => pg_name (i := 1) nd rfl (by first | exact Or.inl rfl | exact Or.inr rfl)) (fun _ _ _ _ _ => v_ifs1 (v_bop (v_andT (v_tne hr.units (v_ix (fun _ _ => rfl) (v_var 0) v_int) v_str) (v_and1 (v_tst (v_isi (c := "tuple") (by decide) (by decide +kernel) Tx.z_isinstance Tx.z_tuple (v_var 1))))))) (fun _ _ _ _ _ => (v_var 1)))))
theorem k_l_parts (Tx : Txt K mg) (G : All P w K mg base n) : FnAt P w K mg base rx0 (n + 1) "_law_parts" ["_law_tree_here"] (C (n + 1) .l_parts) := by
  obtain ⟨g, fd, h1, F, h2⟩ := Tx.d_l_parts
  exact ⟨g, fd, h1, F.kp, h2, kk_l_parts F Tx G⟩
theorem sc_l_places : FnScope ["_law_tree_here", "_law_found", "_law_ahead", "_law_place", "_law_part", "_law_some", "_law_number"] ["_law_tree_here"] (defScope s_l_places) := ⟨rfl, rfl, rfl, by decide +kernel, rfl, by decide +kernel, by decide +kernel⟩
theorem kk_l_places {g : Addr} {fd : FuncData} (F : Fun K "_law_places" "_law_places" s_l_places g fd) (Tx : Txt K mg) (G : All P w K mg base n) : FnOk P w K mg base (L2.CX P w) (n + 1) g fd ["_law_tree_here"] (spF K rx0 1 (C (n + 1) .l_places)) := by
  have nd := sc_l_places.nd
  refine fn_ok F sc_l_places (n := 7) rfl fun cdv A outer s H E hr => ?_
  have tk := takes_of (X := cxOf (L2.CX P w) P w K mg base ["_law_tree_here", "_law_found", "_law_ahead", "_law_place", "_law_part", "_law_some", "_law_number"] "_law_places" (defScope s_l_places) g cdv A outer s H E) rfl rfl rfl rfl
  exact (v_seq (v_set 1 nd (v_lstR v_nil))
  (v_seq (v_set 2 nd (v_lstR (v_cons (v_tup (v_cons (v_tup v_nil) (v_cons (v_var 0) v_nil))) v_nil)))
  (v_seq (v_while (passes_of rfl) (v_tgt (v_len Tx.z_len (v_var 2)) v_int) (v_seq (v_asg (v_pop (v_var 2)) (g_tup rfl (gs_cons 3 nd (gs_cons 4 nd gs_nil))))
  (v_seq (v_app (v_var 1) (v_var 3))
  (v_seq (v_set 5 nd (v_call G.f_l_parts hr tk (v_cons (v_var 4) v_nil) (alen_cons alen_nil)))
  (v_one (v_for (passes_of rfl) rfl (s_rev1 Tx.z_reversed Tx.z_range (v_len Tx.z_len (v_var 5))) (g_name 6 nd) (v_one (v_app (v_var 2) (v_tup (v_cons (v_add (v_var 3) (v_tup (v_cons (v_var 6) v_nil))) (v_cons (v_ix (fun _ _ => rfl) (v_var 5) (v_var 6)) v_nil)))))))))))
  (v_one (v_ret (v_var 1))))))
theorem k_l_places (Tx : Txt K mg) (G : All P w K mg base n) : FnAt P w K mg base rx0 (n + 1) "_law_places" ["_law_tree_here"] (C (n + 1) .l_places) := by
  obtain ⟨g, fd, h1, F, h2⟩ := Tx.d_l_places
  exact ⟨g, fd, h1, F.kp, h2, kk_l_places F Tx G⟩
theorem sc_l_same : FnScope ["_law_found", "_law_due", "_law_one", "_law_other"] ["_law_found", "_law_due"] (defScope s_l_same) := ⟨rfl, rfl, rfl, by decide +kernel, rfl, by decide +kernel, by decide +kernel⟩
theorem kk_l_same {g : Addr} {fd : FuncData} (F : Fun K "_law_same" "_law_same" s_l_same g fd) (Tx : Txt K mg) (G : All P w K mg base n) : FnOk P w K mg base (L2.CX P w) (n + 1) g fd ["_law_found", "_law_due"] (spF K rx0 2 (C (n + 1) .l_same)) := by
  have nd := sc_l_same.nd
  refine fn_ok F sc_l_same (n := 4) rfl fun cdv A outer s H E hr => ?_
  have tk := takes_of (X := cxOf (L2.CX P w) P w K mg base ["_law_found", "_law_due", "_law_one", "_law_other"] "_law_same" (defScope s_l_same) g cdv A outer s H E) rfl rfl rfl rfl
  exact (v_seq (v_if (v_tst (v_isi (c := "tuple") (by decide) (by decide +kernel) Tx.z_isinstance Tx.z_tuple (v_var 1))) (v_seq (v_if (v_bop (v_orT (v_notT (v_tst (v_isi (c := "tuple") (by decide) (by decide +kernel) Tx.z_isinstance Tx.z_tuple (v_var 0)))) (v_or1 (v_tne hr.units (v_len Tx.z_len (v_var 0)) (v_len Tx.z_len (v_var 1)))))) (v_one (v_ret v_bl)) v_skip)
  (v_seq (v_for (passes_of rfl) rfl (s_zip Tx.z_zip (v_var 0) (v_var 1)) (g_tup rfl (gs_cons 2 nd (gs_cons 3 nd gs_nil))) (v_one (v_if (v_notT (v_tst (v_call G.f_l_same hr tk (v_cons (v_var 2) (v_cons (v_var 3) v_nil)) (alen_cons (alen_cons alen_nil))))) (v_one (v_ret v_bl)) v_skip)))
  (v_one (v_ret v_bl)))) v_skip)
  (v_seq (v_if (v_tst (v_isi (c := "str") (by decide) (by decide +kernel) Tx.z_isinstance Tx.z_str (v_var 1))) (v_one (v_ret (v_andE (v_isi (c := "str") (by decide) (by decide +kernel) Tx.z_isinstance Tx.z_str (v_var 0)) (v_oneE (v_eq hr.units (v_var 0) (v_var 1)))))) v_skip)
  (v_one (v_ret (v_andE (v_call G.f_l_whole hr tk (v_cons (v_var 0) v_nil) (alen_cons alen_nil)) (v_oneE (v_eq hr.units (v_var 0) (v_var 1))))))))
theorem k_l_same (Tx : Txt K mg) (G : All P w K mg base n) : FnAt P w K mg base rx0 (n + 1) "_law_same" ["_law_found", "_law_due"] (C (n + 1) .l_same) := by
  obtain ⟨g, fd, h1, F, h2⟩ := Tx.d_l_same
  exact ⟨g, fd, h1, F.kp, h2, kk_l_same F Tx G⟩
theorem sc_law : FnScope ["_law_script", "_law_words_here", "_law_tree_here", "_law_due", "_law_found", "_law_many", "_law_some", "_law_others", "_law_laid", "_law_k"] ["_law_script"] (defScope s_law) := ⟨rfl, rfl, rfl, by decide +kernel, rfl, by decide +kernel, by decide +kernel⟩
theorem kk_law {g : Addr} {fd : FuncData} (F : Fun K "law" "law" s_law g fd) (Tx : Txt K mg) (G : All P w K mg base n) : FnOk P w K mg base (L2.CX P w) (n + 1) g fd ["_law_script"] (spF K rx0 1 (C (n + 1) .law)) := by
  have nd := sc_law.nd
  refine fn_ok F sc_law (n := 10) rfl fun cdv A outer s H E hr => ?_
  have tk := takes_of (X := cxOf (L2.CX P w) P w K mg base ["_law_script", "_law_words_here", "_law_tree_here", "_law_due", "_law_found", "_law_many", "_law_some", "_law_others", "_law_laid", "_law_k"] "law" (defScope s_law) g cdv A outer s H E) rfl rfl rfl rfl
  exact (v_seq (v_set 1 nd (v_call G.f_l_words hr tk (v_cons (v_call G.f_l_cell_at hr tk (v_cons (v_var 0) (v_cons v_int v_nil)) (alen_cons (alen_cons alen_nil))) v_nil) (alen_cons alen_nil)))
  (v_seq (v_set 2 nd (v_call G.f_l_tree hr tk (v_cons (v_slice (v_var 0) (v_po1 v_int) (v_po1 v_int)) (v_cons (v_var 1) (v_cons v_int v_nil))) (alen_cons (alen_cons (alen_cons alen_nil)))))
  (v_seq (v_set 3 nd (v_call G.f_l_places hr tk (v_cons (v_var 2) v_nil) (alen_cons alen_nil)))
  (v_seq (v_set 4 nd (v_callR G.f_p_places hr tk (v_cons (v_var 2) v_nil) (alen_cons alen_nil)))
  (v_seq (v_if (v_bop (v_orT (v_notT (v_tst (v_isi (c := "list") (by decide) (by decide +kernel) Tx.z_isinstance Tx.z_list (v_var 4)))) (v_or1 (v_notT (v_tst (v_call G.f_l_same hr tk (v_cons (v_tuple Tx.z_tuple (v_var 4)) (v_cons (v_tuple Tx.z_tuple (v_var 3)) v_nil)) (alen_cons (alen_cons alen_nil)))))))) (v_one (v_ret v_bl)) v_skip)
  (v_seq (v_app (v_var 4) (v_tup (v_cons v_int v_nil)))
  (v_seq (v_setL (v_tup (v_cons v_int (v_cons v_int v_nil))) (v_var 4) v_int)
  (v_seq (v_set 5 nd (v_call G.f_p_size hr tk (v_cons (v_var 2) v_nil) (alen_cons alen_nil)))
  (v_seq (v_if (v_bop (v_orT (v_notT (v_tst (v_call G.f_l_whole hr tk (v_cons (v_var 5) v_nil) (alen_cons alen_nil)))) (v_or1 (v_tne hr.units (v_var 5) (v_len Tx.z_len (v_var 3)))))) (v_one (v_ret v_bl)) v_skip)
  (v_seq (v_set 6 nd (v_call G.f_l_parts hr tk (v_cons (v_var 2) v_nil) (alen_cons alen_nil)))
  (v_seq (v_if (v_notT (v_tst (v_call G.f_l_same hr tk (v_cons (v_call G.f_p_parts hr tk (v_cons (v_var 2) v_nil) (alen_cons alen_nil)) (v_cons (v_tuple Tx.z_tuple (v_var 6)) v_nil)) (alen_cons (alen_cons alen_nil))))) (v_one (v_ret v_bl)) v_skip)
  (v_seq (v_setLc 7 (own := [(("_law_k" : Str), 9)]) rfl nd (s_range1 Tx.z_range (v_len Tx.z_len (v_var 6))) (blk_is (N := ["_law_script", "_law_words_here", "_law_tree_here", "_law_due", "_law_found", "_law_many", "_law_some", "_law_others", "_law_laid", "_law_k"]) (sc := defScope s_law) (by decide +kernel)) (go_name 9) (fun _ _ _ _ _ => pg_name (i := 9) nd rfl (by first | exact Or.inl rfl | exact Or.inr rfl)) (fun _ _ _ _ _ => v_ifs0) (fun _ _ _ _ _ => (v_call G.f_l_leaf hr takes0 (v_cons (v_add (v_fdiv (v_call G.f_l_cell_at hr takes0 (v_cons (v_var 0) (v_cons v_int v_nil)) (alen_cons (alen_cons alen_nil))) (v_add (v_var 9) v_int)) (v_var 9)) (v_cons (v_var 1) v_nil)) (alen_cons (alen_cons alen_nil)))))
  (v_seq (v_set 8 nd (v_call G.f_p_with_parts hr tk (v_cons (v_var 2) (v_cons (v_tuple Tx.z_tuple (v_var 7)) v_nil)) (alen_cons (alen_cons alen_nil))))
  (v_seq (v_if (v_notT (v_tst (v_call G.f_l_same hr tk (v_cons (v_var 8) (v_cons (v_add (v_slice (v_var 2) v_po0 (v_po1 (v_sub (v_len Tx.z_len (v_var 2)) (v_len Tx.z_len (v_var 6))))) (v_tuple Tx.z_tuple (v_var 7))) v_nil)) (alen_cons (alen_cons alen_nil))))) (v_one (v_ret v_bl)) v_skip)
  (v_one (v_ret (v_call G.f_l_same hr tk (v_cons (v_tuple Tx.z_tuple (v_call G.f_p_places hr tk (v_cons (v_var 2) v_nil) (alen_cons alen_nil))) (v_cons (v_tuple Tx.z_tuple (v_var 3)) v_nil)) (alen_cons (alen_cons alen_nil)))))))))))))))))))
theorem k_law (Tx : Txt K mg) (G : All P w K mg base n) : FnAt P w K mg base rx0 (n + 1) "law" ["_law_script"] (C (n + 1) .law) := by
  obtain ⟨g, fd, h1, F, h2⟩ := Tx.d_law
  exact ⟨g, fd, h1, F.kp, h2, kk_law F Tx G⟩
theorem all_ok (Tx : Txt K mg) : ∀ n : Nat, All P w K mg base n
  | 0 => by
    refine ⟨?_, ?_, ?_, ?_, ?_, ?_, ?_, ?_, ?_, ?_, ?_, ?_, ?_, ?_⟩
    · obtain ⟨g, fd, h1, F, h2⟩ := Tx.d_p_parts
      exact ⟨g, fd, h1, F.kp, h2, fn_none fun _ _ => rfl⟩
    · obtain ⟨g, fd, h1, F, h2⟩ := Tx.d_p_with_parts
      exact ⟨g, fd, h1, F.kp, h2, fn_none fun _ _ => rfl⟩
    · obtain ⟨g, fd, h1, F, h2⟩ := Tx.d_p_size
      exact ⟨g, fd, h1, F.kp, h2, fn_none fun _ _ => rfl⟩
    · obtain ⟨g, fd, h1, F, h2⟩ := Tx.d_p_places
      exact ⟨g, fd, h1, F.kp, h2, fn_none fun _ _ => rfl⟩
    · obtain ⟨g, fd, h1, F, h2⟩ := Tx.d_l_cell_at
      exact ⟨g, fd, h1, F.kp, h2, fn_none fun _ _ => rfl⟩
    · obtain ⟨g, fd, h1, F, h2⟩ := Tx.d_l_whole
      exact ⟨g, fd, h1, F.kp, h2, fn_none fun _ _ => rfl⟩
    · obtain ⟨g, fd, h1, F, h2⟩ := Tx.d_l_word
      exact ⟨g, fd, h1, F.kp, h2, fn_none fun _ _ => rfl⟩
    · obtain ⟨g, fd, h1, F, h2⟩ := Tx.d_l_words
      exact ⟨g, fd, h1, F.kp, h2, fn_none fun _ _ => rfl⟩
    · obtain ⟨g, fd, h1, F, h2⟩ := Tx.d_l_leaf
      exact ⟨g, fd, h1, F.kp, h2, fn_none fun _ _ => rfl⟩
    · obtain ⟨g, fd, h1, F, h2⟩ := Tx.d_l_tree
      exact ⟨g, fd, h1, F.kp, h2, fn_none fun _ _ => rfl⟩
    · obtain ⟨g, fd, h1, F, h2⟩ := Tx.d_l_parts
      exact ⟨g, fd, h1, F.kp, h2, fn_none fun _ _ => rfl⟩
    · obtain ⟨g, fd, h1, F, h2⟩ := Tx.d_l_places
      exact ⟨g, fd, h1, F.kp, h2, fn_none fun _ _ => rfl⟩
    · obtain ⟨g, fd, h1, F, h2⟩ := Tx.d_l_same
      exact ⟨g, fd, h1, F.kp, h2, fn_none fun _ _ => rfl⟩
    · obtain ⟨g, fd, h1, F, h2⟩ := Tx.d_law
      exact ⟨g, fd, h1, F.kp, h2, fn_none fun _ _ => rfl⟩
  | n + 1 => by
    have G := all_ok Tx n
    exact ⟨k_p_parts Tx G, k_p_with_parts Tx G, k_p_size Tx G, k_p_places Tx G, k_l_cell_at Tx G, k_l_whole Tx G, k_l_word Tx G, k_l_words Tx G, k_l_leaf Tx G, k_l_tree Tx G, k_l_parts Tx G, k_l_places Tx G, k_l_same Tx G, k_law Tx G⟩
end
end Y
namespace Y
open PySem L2 PyProof.Rows
def spLaw (K : PySem.W.Frag) : Sp := fun vs H Q _ => ∃ (a : Addr) (ns : List Int), vs = [.ref a] ∧ SqL K H a (ns.map V.int) ∧ ns.length ≤ 63 ∧ ∀ H', Q (.bl true) H'
theorem rvs_ints {K : PySem.W.Frag} {ρ : List Addr} {H : Hp} : ∀ ns : List Int, RVs K ρ H (ns.map DV.int) (ns.map V.int)
  | [] => by simp [RVs]
  | n :: ns => RVs.cons (by simp [RV]) (rvs_ints ns)
theorem law_ok {P : Program} {w : World} {K : PySem.W.Frag} {mg : Str → Option Value} {base : Heap} (L : LawTrue) (Tx : Txt K mg) {fa : Addr} {fd : FuncData} (F : Fun K "law" "law" s_law fa fd) : FnOk P w K mg base (L2.CX P w) 150 fa fd ["_law_script"] (spLaw K) := by
  refine (kk_law (n := 149) F Tx (all_ok Tx _)).imp fun vs H Q E ⟨a, ns, ev, hs, hl, q⟩ => ?_
  refine ⟨[], [.rol (ns.map DV.int)], [], by rw [ev]; rfl, ?_, ⟨List.nodup_nil, rfl, fun k a o h => by simp at h⟩, ?_⟩
  · rw [ev]
    refine rvs1 ?_
    simp only [RV]
    exact ⟨a, _, rfl, RolAt.of hs, rvs_ints ns⟩
  · have e := L ns hl
    show FnPost K rx0 [] H Q E (C 150 .law [.rol (ns.map DV.int)] [])
    rw [e]
    intro H' v _ _ r
    rw [r.bl]
    exact q H'
theorem all_mk (L : LawTrue) {l : PySem.W.OpenLaw} {w : World} {K : PySem.W.Frag} {h : Heap} {mg : Str → Option Value} {fa : Addr} (X : K.In h) (G : h.Ns mainGlobals mg) (hfa : mg "law" = some (.ref fa))
    {tLEAVES_0 tLEAVES_1 tLEAVES_2 tLEAVES_3 tLEAVES_4 : Tok} {a_LEAVES : Addr} {dd_LEAVES : Option Addr} {nn_LEAVES : Nat} {sl_LEAVES : Array (Option Value)} (ca_LEAVES : PySem.W.nsIn K mainGlobals "LEAVES" = some (some (.ref a_LEAVES))) (cl_LEAVES : K.lookup a_LEAVES = some ⟨.type "tuple", dd_LEAVES, .seq #[.str "num" tLEAVES_0, .str "name" tLEAVES_1, .str "ask" tLEAVES_2, .str "stop" tLEAVES_3, .str "gap" tLEAVES_4] nn_LEAVES, sl_LEAVES⟩)
    {f_p_parts : Addr} {od_p_parts an_p_parts : Option Addr} {sl_p_parts : Array (Option Value)} {oc_p_parts kV_p_parts dc_p_parts pm_p_parts cd_p_parts ct_p_parts : Value} (a_p_parts : PySem.W.nsIn K mainGlobals "parts" = some (some (.ref f_p_parts))) (l_p_parts : K.lookup f_p_parts = some ⟨oc_p_parts, od_p_parts, .func (PySem.W.fnOf "parts" "parts" (defArgs s_p_parts) (defBody s_p_parts) (defScope s_p_parts) .none kV_p_parts dc_p_parts pm_p_parts an_p_parts cd_p_parts ct_p_parts), sl_p_parts⟩) (e_p_parts : PySem.W.codeIn K cd_p_parts "parts" = true) (k_p_parts : PySem.W.keepIn K (.ref f_p_parts) = true)
    {f_p_with_parts : Addr} {od_p_with_parts an_p_with_parts : Option Addr} {sl_p_with_parts : Array (Option Value)} {oc_p_with_parts kV_p_with_parts dc_p_with_parts pm_p_with_parts cd_p_with_parts ct_p_with_parts : Value} (a_p_with_parts : PySem.W.nsIn K mainGlobals "with_parts" = some (some (.ref f_p_with_parts))) (l_p_with_parts : K.lookup f_p_with_parts = some ⟨oc_p_with_parts, od_p_with_parts, .func (PySem.W.fnOf "with_parts" "with_parts" (defArgs s_p_with_parts) (defBody s_p_with_parts) (defScope s_p_with_parts) .none kV_p_with_parts dc_p_with_parts pm_p_with_parts an_p_with_parts cd_p_with_parts ct_p_with_parts), sl_p_with_parts⟩) (e_p_with_parts : PySem.W.codeIn K cd_p_with_parts "with_parts" = true) (k_p_with_parts : PySem.W.keepIn K (.ref f_p_with_parts) = true)
    {f_p_size : Addr} {od_p_size an_p_size : Option Addr} {sl_p_size : Array (Option Value)} {oc_p_size kV_p_size dc_p_size pm_p_size cd_p_size ct_p_size : Value} (a_p_size : PySem.W.nsIn K mainGlobals "size" = some (some (.ref f_p_size))) (l_p_size : K.lookup f_p_size = some ⟨oc_p_size, od_p_size, .func (PySem.W.fnOf "size" "size" (defArgs s_p_size) (defBody s_p_size) (defScope s_p_size) .none kV_p_size dc_p_size pm_p_size an_p_size cd_p_size ct_p_size), sl_p_size⟩) (e_p_size : PySem.W.codeIn K cd_p_size "size" = true) (k_p_size : PySem.W.keepIn K (.ref f_p_size) = true)
    {f_p_places : Addr} {od_p_places an_p_places : Option Addr} {sl_p_places : Array (Option Value)} {oc_p_places kV_p_places dc_p_places pm_p_places cd_p_places ct_p_places : Value} (a_p_places : PySem.W.nsIn K mainGlobals "places" = some (some (.ref f_p_places))) (l_p_places : K.lookup f_p_places = some ⟨oc_p_places, od_p_places, .func (PySem.W.fnOf "places" "places" (defArgs s_p_places) (defBody s_p_places) (defScope s_p_places) .none kV_p_places dc_p_places pm_p_places an_p_places cd_p_places ct_p_places), sl_p_places⟩) (e_p_places : PySem.W.codeIn K cd_p_places "places" = true) (k_p_places : PySem.W.keepIn K (.ref f_p_places) = true)
    {f_l_cell_at : Addr} {od_l_cell_at an_l_cell_at : Option Addr} {sl_l_cell_at : Array (Option Value)} {oc_l_cell_at kV_l_cell_at dc_l_cell_at pm_l_cell_at cd_l_cell_at ct_l_cell_at : Value} (a_l_cell_at : PySem.W.nsIn K mainGlobals "_law_cell_at" = some (some (.ref f_l_cell_at))) (l_l_cell_at : K.lookup f_l_cell_at = some ⟨oc_l_cell_at, od_l_cell_at, .func (PySem.W.fnOf "_law_cell_at" "_law_cell_at" (defArgs s_l_cell_at) (defBody s_l_cell_at) (defScope s_l_cell_at) .none kV_l_cell_at dc_l_cell_at pm_l_cell_at an_l_cell_at cd_l_cell_at ct_l_cell_at), sl_l_cell_at⟩) (e_l_cell_at : PySem.W.codeIn K cd_l_cell_at "_law_cell_at" = true) (k_l_cell_at : PySem.W.keepIn K (.ref f_l_cell_at) = true)
    {f_l_whole : Addr} {od_l_whole an_l_whole : Option Addr} {sl_l_whole : Array (Option Value)} {oc_l_whole kV_l_whole dc_l_whole pm_l_whole cd_l_whole ct_l_whole : Value} (a_l_whole : PySem.W.nsIn K mainGlobals "_law_whole" = some (some (.ref f_l_whole))) (l_l_whole : K.lookup f_l_whole = some ⟨oc_l_whole, od_l_whole, .func (PySem.W.fnOf "_law_whole" "_law_whole" (defArgs s_l_whole) (defBody s_l_whole) (defScope s_l_whole) .none kV_l_whole dc_l_whole pm_l_whole an_l_whole cd_l_whole ct_l_whole), sl_l_whole⟩) (e_l_whole : PySem.W.codeIn K cd_l_whole "_law_whole" = true) (k_l_whole : PySem.W.keepIn K (.ref f_l_whole) = true)
    {f_l_word : Addr} {od_l_word an_l_word : Option Addr} {sl_l_word : Array (Option Value)} {oc_l_word kV_l_word dc_l_word pm_l_word cd_l_word ct_l_word : Value} (a_l_word : PySem.W.nsIn K mainGlobals "_law_word" = some (some (.ref f_l_word))) (l_l_word : K.lookup f_l_word = some ⟨oc_l_word, od_l_word, .func (PySem.W.fnOf "_law_word" "_law_word" (defArgs s_l_word) (defBody s_l_word) (defScope s_l_word) .none kV_l_word dc_l_word pm_l_word an_l_word cd_l_word ct_l_word), sl_l_word⟩) (e_l_word : PySem.W.codeIn K cd_l_word "_law_word" = true) (k_l_word : PySem.W.keepIn K (.ref f_l_word) = true)
    {f_l_words : Addr} {od_l_words an_l_words : Option Addr} {sl_l_words : Array (Option Value)} {oc_l_words kV_l_words dc_l_words pm_l_words cd_l_words ct_l_words : Value} (a_l_words : PySem.W.nsIn K mainGlobals "_law_words" = some (some (.ref f_l_words))) (l_l_words : K.lookup f_l_words = some ⟨oc_l_words, od_l_words, .func (PySem.W.fnOf "_law_words" "_law_words" (defArgs s_l_words) (defBody s_l_words) (defScope s_l_words) .none kV_l_words dc_l_words pm_l_words an_l_words cd_l_words ct_l_words), sl_l_words⟩) (e_l_words : PySem.W.codeIn K cd_l_words "_law_words" = true) (k_l_words : PySem.W.keepIn K (.ref f_l_words) = true)
    {f_l_leaf : Addr} {od_l_leaf an_l_leaf : Option Addr} {sl_l_leaf : Array (Option Value)} {oc_l_leaf kV_l_leaf dc_l_leaf pm_l_leaf cd_l_leaf ct_l_leaf : Value} (a_l_leaf : PySem.W.nsIn K mainGlobals "_law_leaf" = some (some (.ref f_l_leaf))) (l_l_leaf : K.lookup f_l_leaf = some ⟨oc_l_leaf, od_l_leaf, .func (PySem.W.fnOf "_law_leaf" "_law_leaf" (defArgs s_l_leaf) (defBody s_l_leaf) (defScope s_l_leaf) .none kV_l_leaf dc_l_leaf pm_l_leaf an_l_leaf cd_l_leaf ct_l_leaf), sl_l_leaf⟩) (e_l_leaf : PySem.W.codeIn K cd_l_leaf "_law_leaf" = true) (k_l_leaf : PySem.W.keepIn K (.ref f_l_leaf) = true)
    {f_l_tree : Addr} {od_l_tree an_l_tree : Option Addr} {sl_l_tree : Array (Option Value)} {oc_l_tree kV_l_tree dc_l_tree pm_l_tree cd_l_tree ct_l_tree : Value} (a_l_tree : PySem.W.nsIn K mainGlobals "_law_tree" = some (some (.ref f_l_tree))) (l_l_tree : K.lookup f_l_tree = some ⟨oc_l_tree, od_l_tree, .func (PySem.W.fnOf "_law_tree" "_law_tree" (defArgs s_l_tree) (defBody s_l_tree) (defScope s_l_tree) .none kV_l_tree dc_l_tree pm_l_tree an_l_tree cd_l_tree ct_l_tree), sl_l_tree⟩) (e_l_tree : PySem.W.codeIn K cd_l_tree "_law_tree" = true) (k_l_tree : PySem.W.keepIn K (.ref f_l_tree) = true)
    {f_l_parts : Addr} {od_l_parts an_l_parts : Option Addr} {sl_l_parts : Array (Option Value)} {oc_l_parts kV_l_parts dc_l_parts pm_l_parts cd_l_parts ct_l_parts : Value} (a_l_parts : PySem.W.nsIn K mainGlobals "_law_parts" = some (some (.ref f_l_parts))) (l_l_parts : K.lookup f_l_parts = some ⟨oc_l_parts, od_l_parts, .func (PySem.W.fnOf "_law_parts" "_law_parts" (defArgs s_l_parts) (defBody s_l_parts) (defScope s_l_parts) .none kV_l_parts dc_l_parts pm_l_parts an_l_parts cd_l_parts ct_l_parts), sl_l_parts⟩) (e_l_parts : PySem.W.codeIn K cd_l_parts "_law_parts" = true) (k_l_parts : PySem.W.keepIn K (.ref f_l_parts) = true)
    {f_l_places : Addr} {od_l_places an_l_places : Option Addr} {sl_l_places : Array (Option Value)} {oc_l_places kV_l_places dc_l_places pm_l_places cd_l_places ct_l_places : Value} (a_l_places : PySem.W.nsIn K mainGlobals "_law_places" = some (some (.ref f_l_places))) (l_l_places : K.lookup f_l_places = some ⟨oc_l_places, od_l_places, .func (PySem.W.fnOf "_law_places" "_law_places" (defArgs s_l_places) (defBody s_l_places) (defScope s_l_places) .none kV_l_places dc_l_places pm_l_places an_l_places cd_l_places ct_l_places), sl_l_places⟩) (e_l_places : PySem.W.codeIn K cd_l_places "_law_places" = true) (k_l_places : PySem.W.keepIn K (.ref f_l_places) = true)
    {f_l_same : Addr} {od_l_same an_l_same : Option Addr} {sl_l_same : Array (Option Value)} {oc_l_same kV_l_same dc_l_same pm_l_same cd_l_same ct_l_same : Value} (a_l_same : PySem.W.nsIn K mainGlobals "_law_same" = some (some (.ref f_l_same))) (l_l_same : K.lookup f_l_same = some ⟨oc_l_same, od_l_same, .func (PySem.W.fnOf "_law_same" "_law_same" (defArgs s_l_same) (defBody s_l_same) (defScope s_l_same) .none kV_l_same dc_l_same pm_l_same an_l_same cd_l_same ct_l_same), sl_l_same⟩) (e_l_same : PySem.W.codeIn K cd_l_same "_law_same" = true) (k_l_same : PySem.W.keepIn K (.ref f_l_same) = true)
    {f_law : Addr} {od_law an_law : Option Addr} {sl_law : Array (Option Value)} {oc_law kV_law dc_law pm_law cd_law ct_law : Value} (a_law : PySem.W.nsIn K mainGlobals "law" = some (some (.ref f_law))) (l_law : K.lookup f_law = some ⟨oc_law, od_law, .func (PySem.W.fnOf "law" "law" (defArgs s_law) (defBody s_law) (defScope s_law) .none kV_law dc_law pm_law an_law cd_law ct_law), sl_law⟩) (e_law : PySem.W.codeIn K cd_law "law" = true) (k_law : PySem.W.keepIn K (.ref f_law) = true)
    (z_bool : PySem.W.nsIn K mainGlobals "bool" = some none)
    (z_enumerate : PySem.W.nsIn K mainGlobals "enumerate" = some none)
    (z_int : PySem.W.nsIn K mainGlobals "int" = some none)
    (z_isinstance : PySem.W.nsIn K mainGlobals "isinstance" = some none)
    (z_len : PySem.W.nsIn K mainGlobals "len" = some none)
    (z_list : PySem.W.nsIn K mainGlobals "list" = some none)
    (z_range : PySem.W.nsIn K mainGlobals "range" = some none)
    (z_reversed : PySem.W.nsIn K mainGlobals "reversed" = some none)
    (z_str : PySem.W.nsIn K mainGlobals "str" = some none)
    (z_tuple : PySem.W.nsIn K mainGlobals "tuple" = some none)
    (z_zip : PySem.W.nsIn K mainGlobals "zip" = some none) :
    ∃ fd : FuncData, (∀ (s : Shared) (v : Value), BindsTo s fd ⟨[v], []⟩ [("_law_script", v)]) ∧ ∀ base : Heap, K.In base → base.Ns mainGlobals mg → FnOk l.prog w K mg base (L2.CX l.prog w) 150 fa fd ["_law_script"] (spLaw K) := by
  have e := hfa.symm.trans (PySem.W.mg_of X G a_law)
  cases e
  have c_LEAVES : MgC K mg "LEAVES" c_LEAVES := ⟨.ref a_LEAVES, _, PySem.W.mg_of X G ca_LEAVES, rfl, fun ρ H => by
    simp only [c_LEAVES, RV]
    refine ⟨a_LEAVES, [V.str "num", V.str "name", V.str "ask", V.str "stop", V.str "gap"], rfl, .inr ⟨_, _, _, cl_LEAVES, rfl, rfl, (by show 5 ≤ sizeLine; decide), ?_⟩, ?_⟩
    · exact .cons ⟨_, rfl⟩ (.cons ⟨_, rfl⟩ (.cons ⟨_, rfl⟩ (.cons ⟨_, rfl⟩ (.cons ⟨_, rfl⟩ (.nil)))))
    · simp [RVs, RV]⟩
  have F_p_parts := fun_mk (st := s_p_parts) l_p_parts e_p_parts k_p_parts
  have b_p_parts := F_p_parts.binds (ps := ["tree"]) fun _ _ _ _ _ _ us hl => match us, hl with | [_], _ => rfl
  have F_p_with_parts := fun_mk (st := s_p_with_parts) l_p_with_parts e_p_with_parts k_p_with_parts
  have b_p_with_parts := F_p_with_parts.binds (ps := ["tree", "some"]) fun _ _ _ _ _ _ us hl => match us, hl with | [_, _], _ => rfl
  have F_p_size := fun_mk (st := s_p_size) l_p_size e_p_size k_p_size
  have b_p_size := F_p_size.binds (ps := ["tree"]) fun _ _ _ _ _ _ us hl => match us, hl with | [_], _ => rfl
  have F_p_places := fun_mk (st := s_p_places) l_p_places e_p_places k_p_places
  have b_p_places := F_p_places.binds (ps := ["tree"]) fun _ _ _ _ _ _ us hl => match us, hl with | [_], _ => rfl
  have F_l_cell_at := fun_mk (st := s_l_cell_at) l_l_cell_at e_l_cell_at k_l_cell_at
  have b_l_cell_at := F_l_cell_at.binds (ps := ["_law_script", "_law_k"]) fun _ _ _ _ _ _ us hl => match us, hl with | [_, _], _ => rfl
  have F_l_whole := fun_mk (st := s_l_whole) l_l_whole e_l_whole k_l_whole
  have b_l_whole := F_l_whole.binds (ps := ["_law_found"]) fun _ _ _ _ _ _ us hl => match us, hl with | [_], _ => rfl
  have F_l_word := fun_mk (st := s_l_word) l_l_word e_l_word k_l_word
  have b_l_word := F_l_word.binds (ps := ["_law_cell", "_law_long", "_law_at", "_law_turn"]) fun _ _ _ _ _ _ us hl => match us, hl with | [_, _, _, _], _ => rfl
  have F_l_words := fun_mk (st := s_l_words) l_l_words e_l_words k_l_words
  have b_l_words := F_l_words.binds (ps := ["_law_cell"]) fun _ _ _ _ _ _ us hl => match us, hl with | [_], _ => rfl
  have F_l_leaf := fun_mk (st := s_l_leaf) l_l_leaf e_l_leaf k_l_leaf
  have b_l_leaf := F_l_leaf.binds (ps := ["_law_cell", "_law_words_here"]) fun _ _ _ _ _ _ us hl => match us, hl with | [_, _], _ => rfl
  have F_l_tree := fun_mk (st := s_l_tree) l_l_tree e_l_tree k_l_tree
  have b_l_tree := F_l_tree.binds (ps := ["_law_cells", "_law_words_here", "_law_deep"]) fun _ _ _ _ _ _ us hl => match us, hl with | [_, _, _], _ => rfl
  have F_l_parts := fun_mk (st := s_l_parts) l_l_parts e_l_parts k_l_parts
  have b_l_parts := F_l_parts.binds (ps := ["_law_tree_here"]) fun _ _ _ _ _ _ us hl => match us, hl with | [_], _ => rfl
  have F_l_places := fun_mk (st := s_l_places) l_l_places e_l_places k_l_places
  have b_l_places := F_l_places.binds (ps := ["_law_tree_here"]) fun _ _ _ _ _ _ us hl => match us, hl with | [_], _ => rfl
  have F_l_same := fun_mk (st := s_l_same) l_l_same e_l_same k_l_same
  have b_l_same := F_l_same.binds (ps := ["_law_found", "_law_due"]) fun _ _ _ _ _ _ us hl => match us, hl with | [_, _], _ => rfl
  have F_law := fun_mk (st := s_law) l_law e_law k_law
  have b_law := F_law.binds (ps := ["_law_script"]) fun _ _ _ _ _ _ us hl => match us, hl with | [_], _ => rfl
  have Tx : Txt K mg := ⟨PySem.W.mg_none_of X G z_bool, PySem.W.mg_none_of X G z_enumerate, PySem.W.mg_none_of X G z_int, PySem.W.mg_none_of X G z_isinstance, PySem.W.mg_none_of X G z_len, PySem.W.mg_none_of X G z_list, PySem.W.mg_none_of X G z_range, PySem.W.mg_none_of X G z_reversed, PySem.W.mg_none_of X G z_str, PySem.W.mg_none_of X G z_tuple, PySem.W.mg_none_of X G z_zip, c_LEAVES, ⟨_, _, PySem.W.mg_of X G a_p_parts, F_p_parts, b_p_parts⟩, ⟨_, _, PySem.W.mg_of X G a_p_with_parts, F_p_with_parts, b_p_with_parts⟩, ⟨_, _, PySem.W.mg_of X G a_p_size, F_p_size, b_p_size⟩, ⟨_, _, PySem.W.mg_of X G a_p_places, F_p_places, b_p_places⟩, ⟨_, _, PySem.W.mg_of X G a_l_cell_at, F_l_cell_at, b_l_cell_at⟩, ⟨_, _, PySem.W.mg_of X G a_l_whole, F_l_whole, b_l_whole⟩, ⟨_, _, PySem.W.mg_of X G a_l_word, F_l_word, b_l_word⟩, ⟨_, _, PySem.W.mg_of X G a_l_words, F_l_words, b_l_words⟩, ⟨_, _, PySem.W.mg_of X G a_l_leaf, F_l_leaf, b_l_leaf⟩, ⟨_, _, PySem.W.mg_of X G a_l_tree, F_l_tree, b_l_tree⟩, ⟨_, _, PySem.W.mg_of X G a_l_parts, F_l_parts, b_l_parts⟩, ⟨_, _, PySem.W.mg_of X G a_l_places, F_l_places, b_l_places⟩, ⟨_, _, PySem.W.mg_of X G a_l_same, F_l_same, b_l_same⟩, ⟨_, _, PySem.W.mg_of X G a_law, F_law, b_law⟩⟩
  exact ⟨_, fun s v => .of_eq rfl, fun base _ _ => law_ok L Tx F_law⟩
theorem walk {l : PySem.W.OpenLaw} {q : Program} {loose : List Str} {XP : (Str → Option Value) → Heap → Prop} {YP : World → Heap → Prop} {d : DefRec} {K : Params → PySem.W.Frag} (hn : l.most = some 63) (hdf : d.params.defaults = [])
    (hY : ∀ (w : World) (h : Heap), YP w h → (K w.params).In h)
    (F : ∀ (w : World) (mg : Str → Option Value) (fa : Addr) (h : Heap), (K w.params).In h → h.Ns mainGlobals mg → mg d.name = some (.ref fa) →
      ∃ fd : FuncData, (∀ (s : Shared) (u : Value), BindsTo s fd ⟨[u], []⟩ [("_law_script", u)]) ∧ ∀ base : Heap, (K w.params).In base → base.Ns mainGlobals mg → FnOk l.prog w (K w.params) mg base (L2.CX l.prog w) 150 fa fd ["_law_script"] (spLaw (K w.params))) :
    PySem.W.WalkO q loose XP YP l.row.toRowW d [] (fun f vs => PySem.call f vs) :=
  L2.walk_of (n := 63) (k := 150) (x := "_law_script") (CX := fun w => L2.CX l.prog w) (sp := fun w => spLaw (K w.params)) hn (by decide) hdf ⟨rfl, by decide, by decide⟩ hY F (fun _ _ a ns hl _ hS => ⟨a, ns, rfl, hS, hl, fun _ => rfl⟩) fun w H s e s' z => by
    obtain ⟨_, _, _, _, _, _, _, _, _, _, _, _, z⟩ := z
    exact z.elim
end Y
open PySem PySem.W PyProof.Rows
set_option maxRecDepth 100000 in
set_option maxHeartbeats 0 in
theorem PySem.Challenge.cw_recastle_k01_parts_counted_holds : PySem.Challenge.rw_recastle_k01_parts_counted.Holds := by
  w_on; o_law; k_head; (case hw => w_witness2)
  k_fill
  refine Y.walk (l := PySem.Challenge.rw_recastle_k01_parts_counted) rfl rfl (fun w h Y => PySem.W.kIn_of Y) ?F
  case F =>
    intro w mg fa h KX G hmg
    refine' Y.all_mk Y.law_true KX G hmg ?ca_LEAVES ?cl_LEAVES ?a_p_parts ?l_p_parts ?e_p_parts ?k_p_parts ?a_p_with_parts ?l_p_with_parts ?e_p_with_parts ?k_p_with_parts ?a_p_size ?l_p_size ?e_p_size ?k_p_size ?a_p_places ?l_p_places ?e_p_places ?k_p_places ?a_l_cell_at ?l_l_cell_at ?e_l_cell_at ?k_l_cell_at ?a_l_whole ?l_l_whole ?e_l_whole ?k_l_whole ?a_l_word ?l_l_word ?e_l_word ?k_l_word ?a_l_words ?l_l_words ?e_l_words ?k_l_words ?a_l_leaf ?l_l_leaf ?e_l_leaf ?k_l_leaf ?a_l_tree ?l_l_tree ?e_l_tree ?k_l_tree ?a_l_parts ?l_l_parts ?e_l_parts ?k_l_parts ?a_l_places ?l_l_places ?e_l_places ?k_l_places ?a_l_same ?l_l_same ?e_l_same ?k_l_same ?a_law ?l_law ?e_law ?k_law ?z_bool ?z_enumerate ?z_int ?z_isinstance ?z_len ?z_list ?z_range ?z_reversed ?z_str ?z_tuple ?z_zip
    (case ca_LEAVES => k_is)
    (case cl_LEAVES => k_is)
    (case a_p_parts => k_is)
    (case l_p_parts => k_is)
    (case e_p_parts => k_is)
    (case k_p_parts => k_is)
    (case a_p_with_parts => k_is)
    (case l_p_with_parts => k_is)
    (case e_p_with_parts => k_is)
    (case k_p_with_parts => k_is)
    (case a_p_size => k_is)
    (case l_p_size => k_is)
    (case e_p_size => k_is)
    (case k_p_size => k_is)
    (case a_p_places => k_is)
    (case l_p_places => k_is)
    (case e_p_places => k_is)
    (case k_p_places => k_is)
    (case a_l_cell_at => k_is)
    (case l_l_cell_at => k_is)
    (case e_l_cell_at => k_is)
    (case k_l_cell_at => k_is)
    (case a_l_whole => k_is)
    (case l_l_whole => k_is)
    (case e_l_whole => k_is)
    (case k_l_whole => k_is)
    (case a_l_word => k_is)
    (case l_l_word => k_is)
    (case e_l_word => k_is)
    (case k_l_word => k_is)
    (case a_l_words => k_is)
    (case l_l_words => k_is)
    (case e_l_words => k_is)
    (case k_l_words => k_is)
    (case a_l_leaf => k_is)
    (case l_l_leaf => k_is)
    (case e_l_leaf => k_is)
    (case k_l_leaf => k_is)
    (case a_l_tree => k_is)
    (case l_l_tree => k_is)
    (case e_l_tree => k_is)
    (case k_l_tree => k_is)
    (case a_l_parts => k_is)
    (case l_l_parts => k_is)
    (case e_l_parts => k_is)
    (case k_l_parts => k_is)
    (case a_l_places => k_is)
    (case l_l_places => k_is)
    (case e_l_places => k_is)
    (case k_l_places => k_is)
    (case a_l_same => k_is)
    (case l_l_same => k_is)
    (case e_l_same => k_is)
    (case k_l_same => k_is)
    (case a_law => k_is)
    (case l_law => k_is)
    (case e_law => k_is)
    (case k_law => k_is)
    (case z_bool => k_is)
    (case z_enumerate => k_is)
    (case z_int => k_is)
    (case z_isinstance => k_is)
    (case z_len => k_is)
    (case z_list => k_is)
    (case z_range => k_is)
    (case z_reversed => k_is)
    (case z_str => k_is)
    (case z_tuple => k_is)
    (case z_zip => k_is)
