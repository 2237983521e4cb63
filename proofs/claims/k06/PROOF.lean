import PyProof.Rows.All
import Wide.All
import OpenK.AllK
import Wide.FinOn
import HandS.ForMost
import HandS.ForExc
import HandS.Walk
import HandS.Zip
import HandS.IsInst
import HandS.TupAny
import HandS.SortInts
import HandS.RevRange
import HandS.Wide
import HandS.Conv
import KE.GoesEnum
import HandS.Dict
import HandS.More
import HandS.DictComp
import HandS.Defaults
import HandS.CallSlots
import HandS.Text
import HandS.Rev
import HandS.Iter
import HandS.TupMul
import HandS.TupLe
import HandS.SetKeys
import HandS.Finally
import PyProof.ListStr
import KE.KEqNest
import KE.KExcIs
import HandS.TryMany
import HandS.TryElse
import HandS.ExcValue
import HandS.Style
import HandS.Deep
import HandS.HotCalls
import HandS.ExcInit
import HandS.ExcField
import HandS.Strs
import PySem.Challenge.RW_recastle_k06_texts_read_again
set_option Elab.async false
set_option linter.all false
set_option maxRecDepth 100000
set_option maxHeartbeats 4000000
/-! A small language of values and combinators: what the defs of a text do, without a heap. -/
namespace Y
open PySem

abbrev Key := L2.Key
/-- a value: tuples and finished lists by what they hold; ref i: the i-th object of the store -/
inductive DV where
  | non | bl (b : Bool) | int (i : Int) | str (s : Str) | tup (xs : List DV) | lst (xs : List DV) | rol (xs : List DV) | dk (kvs : List (Key × DV)) | fz (kvs : List (Key × DV)) | exn (c : Nat) (x : DV) | ref (i : Nat)
abbrev Lo := List (Option DV)
abbrev Sto := List DV
inductive Out (α : Type) where
  | ok (a : α) (S : Sto) | exc (c : Nat) (a : DV) (l : Lo) (S : Sto) | bad
def Out.bind {α β : Type} (o : Out α) (f : α → Sto → Out β) : Out β := match o with
  | .ok a S => f a S
  | .exc c a l S => .exc c a l S
  | .bad => .bad
theorem Out.bind_ok {α β : Type} (a : α) (S : Sto) (f : α → Sto → Out β) : (Out.ok a S).bind f = f a S := rfl
def Out.of {α : Type} (o : Option α) (S : Sto) : Out α := match o with
  | some a => .ok a S
  | none => .bad
inductive Fl where
  | nx (l : Lo) | rt (d : DV) | bk (l : Lo) | ct (l : Lo)
abbrev ME := Lo → Sto → Out DV
abbrev MT := Lo → Sto → Out Bool
abbrev MA := Lo → Sto → Out (List DV)
abbrev MS := Lo → Sto → Out Fl
abbrev LIM : Nat := 16777216

/-! ### views -/
def seqOf (S : Sto) : DV → Option (List DV)
  | .tup xs => some xs
  | .lst xs => some xs
  | .rol xs => some xs
  | .ref k => match S[k]? with
    | some (.lst xs) => some xs
    | _ => none
  | _ => none
def lstOf (S : Sto) : DV → Option (List DV)
  | .lst xs => some xs
  | .ref k => match S[k]? with
    | some (.lst xs) => some xs
    | _ => none
  | _ => none
mutual
/-- no object of the store is in it -/
def noRef : DV → Bool
  | .ref _ => false
  | .tup xs => noRefs xs
  | .lst xs => noRefs xs
  | .rol xs => noRefs xs
  | .dk kvs => noRefK kvs
  | .fz kvs => noRefK kvs
  | .exn _ x => noRef x
  | _ => true
def noRefs : List DV → Bool
  | [] => true
  | x :: xs => noRef x && noRefs xs
def noRefK : List (Key × DV) → Bool
  | [] => true
  | (_, x) :: xs => noRef x && noRefK xs
end

/-! ### operations -/
open Classical in
noncomputable def addV (S : Sto) : DV → DV → Option DV
  | .int i, .int j => some (.int (i + j))
  | .str a, .str b => if a.length + b.length ≤ LIM then some (.str (a ++ b)) else none
  | .tup xs, .tup ys => if xs.length + ys.length ≤ LIM then some (.tup (xs ++ ys)) else none
  | x, y => match lstOf S x, lstOf S y with
    | some xs, some ys => if xs.length + ys.length ≤ LIM then some (.lst (xs ++ ys)) else none
    | _, _ => none
def subV : DV → DV → Option DV
  | .int i, .int j => some (.int (i - j))
  | _, _ => none
def MulOk (i j : Int) : Prop := (-(2 ^ 64) < i ∧ i < 2 ^ 64) ∨ (-(2 ^ 64) < j ∧ j < 2 ^ 64) ∨ (i.natAbs < 2 ^ 4000 ∧ j.natAbs < 2 ^ 4000)
open Classical in
noncomputable def mulV : DV → DV → Option DV
  | .int i, .int j => if MulOk i j then some (.int (i * j)) else none
  | _, _ => none
def modV : DV → DV → Option DV
  | .int i, .int j => if 0 < j then some (.int (i % j)) else none
  | _, _ => none
def DivOk (j : Int) : Prop := 0 < j ∧ j.natAbs < 2 ^ 1000
open Classical in
noncomputable def divV : DV → DV → Option DV
  | .int i, .int j => if DivOk j then some (.int (i / j)) else none
  | _, _ => none
def PowOk (i j : Int) : Prop := 0 ≤ j ∧ j ≤ 1000 ∧ i.natAbs < 2 ^ 64
open Classical in
noncomputable def powV : DV → DV → Option DV
  | .int i, .int j => if PowOk i j then some (.int (i ^ j.toNat)) else none
  | _, _ => none
def negV : DV → Option DV
  | .int i => some (.int (-i))
  | _ => none
/-- scalars that == tells apart -/
def scalD : DV → DV → Bool
  | .non, .non => true | .non, .int _ => true | .int _, .non => true | .non, .bl _ => true | .bl _, .non => true | .non, .str _ => true | .str _, .non => true
  | .int _, .int _ => true | .bl _, .bl _ => true | .str _, .str _ => true
  | .int _, .str _ => true | .str _, .int _ => true | .bl _, .str _ => true | .str _, .bl _ => true
  | _, _ => false
mutual
/-- data without bools, n deep at most -/
def plain : Nat → DV → Bool
  | _, .non => true
  | _, .int _ => true
  | _, .str s => PyData.strOk s
  | n + 1, .tup xs => plains n xs
  | n + 1, .lst xs => plains n xs
  | _, _ => false
def plains : Nat → List DV → Bool
  | _, [] => true
  | n, x :: xs => plain n x && plains n xs
end
/-- a top reference read -/
def rd (S : Sto) : DV → DV
  | .ref k => match S[k]? with
    | some x => x
    | none => .ref k
  | x => x
open Classical in
/-- the same value -/
noncomputable def eqB (x y : DV) : Bool := decide (x = y)
theorem eqB_iff {x y : DV} : eqB x y = true ↔ x = y := by
  unfold eqB
  exact @decide_eq_true_iff _ (Classical.propDecidable _)
theorem eqB_self (x : DV) : eqB x x = true := eqB_iff.mpr rfl
theorem eqB_of {x y : DV} {p : Prop} [Decidable p] (h : x = y ↔ p) : eqB x y = decide p := by
  rw [Bool.eq_iff_iff, eqB_iff, h, decide_eq_true_iff]
theorem eqB_int {i j : Int} : eqB (.int i) (.int j) = decide (i = j) := eqB_of (by simp)
theorem eqB_str {i j : Str} : eqB (.str i) (.str j) = decide (i = j) := eqB_of (by simp)
theorem eqB_bl {i j : Bool} : eqB (.bl i) (.bl j) = decide (i = j) := eqB_of (by simp)
noncomputable def eqV (S : Sto) (x y : DV) : Option Bool :=
  if scalD x y = true then some (eqB x y)
  else if plain 60 (rd S x) = true ∧ plain 60 (rd S y) = true then some (eqB (rd S x) (rd S y)) else none
def flatD : DV → Bool
  | .non => true
  | .int _ => true
  | .str _ => true
  | _ => false
noncomputable def inV (S : Sto) (x y : DV) : Option Bool := match seqOf S y with
  | some ys => if flatD x = true ∧ ys.all flatD = true then some (ys.any fun z => eqB z x) else none
  | none => match x, y with
    | .str a, .str b => if a.length = 1 then some (decide (a.cps.getD 0 0 ∈ b.cps.toList)) else none
    | _, _ => none
def isNon : DV → Bool
  | .non => true
  | _ => false
def ltV : DV → DV → Option Bool
  | .int i, .int j => some (decide (i < j))
  | _, _ => none
def leV : DV → DV → Option Bool
  | .int i, .int j => some (decide (i ≤ j))
  | _, _ => none
open Classical in
noncomputable def ixV (S : Sto) (x i : DV) : Option DV := match i with
  | .int i => match seqOf S x with
    | some xs => L2.atI xs i
    | none => match x with
      | .str z => if z.length ≤ LIM then (L2.atI z.cps.toList i).map fun c => .str ⟨#[c]⟩ else none
      | _ => none
  | _ => none
def cutD {α : Type} (xs : List α) (lo hi : Option Int) : List α := (xs.drop (HT.sIx xs.length 0 lo)).take (HT.sIx xs.length xs.length hi - HT.sIx xs.length 0 lo)
def slV (S : Sto) (x : DV) (lo hi : Option Int) : Option DV := match x with
  | .tup xs => some (.tup (cutD xs lo hi))
  | .str z => if z.length ≤ LIM then some (.str (L2.cutS z lo hi)) else none
  | x => (seqOf S x).map fun xs => .lst (cutD xs lo hi)
def lenV (S : Sto) (x : DV) : Option DV := match seqOf S x with
  | some xs => some (.int xs.length)
  | none => match x with
    | .str z => if z.length ≤ LIM then some (.int z.length) else none
    | _ => none
def tupleV (S : Sto) (x : DV) : Option DV := (seqOf S x).map .tup
def listV (S : Sto) (x : DV) : Option DV := (seqOf S x).map .lst
/-- the built-in class of a value -/
def tagOf (S : Sto) : DV → Option String
  | .non => some "NoneType"
  | .bl _ => some "bool"
  | .int _ => some "int"
  | .str _ => some "str"
  | .tup _ => some "tuple"
  | .lst _ => some "list"
  | .rol _ => some "list"
  | .dk _ => some "dict"
  | .fz _ => some "dict"
  | .exn _ _ => none
  | .ref k => match S[k]? with
    | some (.lst _) => some "list"
    | some (.dk _) => some "dict"
    | some (.fz _) => some "dict"
    | _ => none
def isTag (t c : String) : Bool := t == c || (t == "bool" && c == "int")
def isiV (S : Sto) (c : String) (x : DV) : Option DV := (tagOf S x).map fun t => .bl (isTag t c)

/-! ### expressions -/
def var (i : Nat) : ME := fun l S => match l[i]? with
  | some (some d) => .ok d S
  | _ => .bad
def cst (d : DV) : ME := fun _ S => .ok d S
def op1 (f : Sto → DV → Option DV) (a : ME) : ME := fun l S => (a l S).bind fun x S1 => Out.of (f S1 x) S1
def op2 (f : Sto → DV → DV → Option DV) (a b : ME) : ME := fun l S => (a l S).bind fun x S1 => (b l S1).bind fun y S2 => Out.of (f S2 x y) S2
noncomputable def add : ME → ME → ME := op2 addV
def sub : ME → ME → ME := op2 fun _ => subV
noncomputable def mul : ME → ME → ME := op2 fun _ => mulV
def mod : ME → ME → ME := op2 fun _ => modV
noncomputable def fdiv : ME → ME → ME := op2 fun _ => divV
noncomputable def pow : ME → ME → ME := op2 fun _ => powV
def neg : ME → ME := op1 fun _ => negV
noncomputable def eqE : ME → ME → ME := op2 fun S x y => (eqV S x y).map .bl
noncomputable def neE : ME → ME → ME := op2 fun S x y => (eqV S x y).map fun b => .bl !b
noncomputable def inE : ME → ME → ME := op2 fun S x y => (inV S x y).map .bl
noncomputable def ninE : ME → ME → ME := op2 fun S x y => (inV S x y).map fun b => .bl !b
def ltE : ME → ME → ME := op2 fun _ x y => (ltV x y).map .bl
def leE : ME → ME → ME := op2 fun _ x y => (leV x y).map .bl
def gtE : ME → ME → ME := op2 fun _ x y => (ltV y x).map .bl
def geE : ME → ME → ME := op2 fun _ x y => (leV y x).map .bl
def isN : ME → ME := op1 fun _ x => some (.bl (isNon x))
def notN : ME → ME := op1 fun _ x => some (.bl !(isNon x))
noncomputable def ix : ME → ME → ME := op2 ixV
def part (e : Option ME) (l : Lo) (S : Sto) : Out (Option Int) := match e with
  | none => .ok none S
  | some e => (e l S).bind fun x S1 => match x with
    | .int i => .ok (some i) S1
    | _ => .bad
def slice (a : ME) (lo hi : Option ME) : ME := fun l S => (a l S).bind fun x S1 => (part lo l S1).bind fun p S2 => (part hi l S2).bind fun q S3 => Out.of (slV S3 x p q) S3
def aNil : MA := fun _ S => .ok [] S
def aCons (e : ME) (r : MA) : MA := fun l S => (e l S).bind fun x S1 => (r l S1).bind fun xs S2 => .ok (x :: xs) S2
def tupE (a : MA) : ME := fun l S => (a l S).bind fun xs S1 => if xs.length ≤ LIM then .ok (.tup xs) S1 else .bad
/-- a list, finished -/
def lstE (a : MA) : ME := fun l S => (a l S).bind fun xs S1 => if xs.length ≤ LIM then .ok (.lst xs) S1 else .bad
/-- a list as an object of the store -/
def lstR (a : MA) : ME := fun l S => (a l S).bind fun xs S1 => if xs.length ≤ LIM ∧ noRefs xs = true then .ok (.ref S1.length) (S1 ++ [.lst xs]) else .bad
def lenE : ME → ME := op1 lenV
def tupleE : ME → ME := op1 tupleV
def listE : ME → ME := op1 listV
/-- list(x) as an object of the store -/
def listR (a : ME) : ME := fun l S => (a l S).bind fun x S1 => match seqOf S1 x with
  | some xs => if noRefs xs = true then .ok (.ref S1.length) (S1 ++ [.lst xs]) else .bad
  | none => .bad
def isiE (c : String) : ME → ME := op1 fun S => isiV S c
def tst (e : ME) : MT := fun l S => (e l S).bind fun x S1 => match x with
  | .bl b => .ok b S1
  | _ => .bad
def andT (a b : MT) : MT := fun l S => (a l S).bind fun c S1 => if c = true then b l S1 else .ok false S1
def orT (a b : MT) : MT := fun l S => (a l S).bind fun c S1 => if c = true then .ok true S1 else b l S1
def notT (a : MT) : MT := fun l S => (a l S).bind fun c S1 => .ok (!c) S1
def andE (a b : ME) : ME := fun l S => (a l S).bind fun x S1 => match x with
  | .bl true => b l S1
  | .bl false => .ok (.bl false) S1
  | _ => .bad
def orE (a b : ME) : ME := fun l S => (a l S).bind fun x S1 => match x with
  | .bl false => b l S1
  | .bl true => .ok (.bl true) S1
  | _ => .bad
def notE (a : ME) : ME := fun l S => (a l S).bind fun x S1 => match x with
  | .bl c => .ok (.bl !c) S1
  | _ => .bad

/-! ### calls -/
/-- what a def answers: its value, whether it is an object of its own -/
abbrev Ora := List DV → Sto → Out (DV × Bool)
def call (f : Ora) (a : MA) : ME := fun l S => (a l S).bind fun xs S1 => match f xs S1 with
  | .ok (d, _) S2 => .ok d S2
  | .exc c d _ S2 => .exc c d l S2
  | .bad => .bad
/-- a call whose new list becomes an object of the store -/
def callR (f : Ora) (a : MA) : ME := fun l S => (a l S).bind fun xs S1 => match f xs S1 with
  | .ok (d, true) S2 => if noRef d = true then .ok (.ref S2.length) (S2 ++ [d]) else .bad
  | .ok (_, false) _ => .bad
  | .exc c d _ S2 => .exc c d l S2
  | .bad => .bad

/-! ### sources -/
/-- what a for walks: the items, and the objects that must stand still meanwhile -/
abbrev MI := Lo → Sto → Out (List DV × List (Nat × DV))
def guardOf (S : Sto) : DV → List (Nat × DV)
  | .ref k => match S[k]? with
    | some x => [(k, x)]
    | none => []
  | _ => []
def sSeq (a : ME) : MI := fun l S => (a l S).bind fun x S1 => match seqOf S1 x with
  | some xs => .ok (xs, guardOf S1 x) S1
  | none => .bad
def rngD (lo : Int) (n : Nat) : List DV := (List.range n).map fun i => .int (lo + (i : Nat))
def RngOk (i : Int) : Prop := -(2 ^ 62) ≤ i ∧ i < 2 ^ 62
open Classical in
noncomputable def sRange1 (a : ME) : MI := fun l S => (a l S).bind fun x S1 => match x with
  | .int n => if RngOk n then .ok (rngD 0 n.toNat, []) S1 else .bad
  | _ => .bad
open Classical in
noncomputable def sRange2 (a b : ME) : MI := fun l S => (a l S).bind fun x S1 => (b l S1).bind fun y S2 => match x, y with
  | .int i, .int j => if RngOk i ∧ RngOk j then .ok (rngD i (j - i).toNat, []) S2 else .bad
  | _, _ => .bad
open Classical in
noncomputable def sRev1 (a : ME) : MI := fun l S => (a l S).bind fun x S1 => match x with
  | .int n => if RngOk n then .ok ((rngD 0 n.toNat).reverse, []) S1 else .bad
  | _ => .bad
def enumD (xs : List DV) : List DV := (List.range xs.length).zipWith (fun i x => .tup [.int (i : Nat), x]) xs
def sEnum (a : ME) : MI := fun l S => (a l S).bind fun x S1 => match seqOf S1 x with
  | some xs => .ok (enumD xs, guardOf S1 x) S1
  | none => .bad
def zipD (xs ys : List DV) : List DV := xs.zipWith (fun x y => .tup [x, y]) ys
def sZip (a b : ME) : MI := fun l S => (a l S).bind fun x S1 => (b l S1).bind fun y S2 => match seqOf S2 x, seqOf S2 y with
  | some xs, some ys => .ok (zipD xs ys, guardOf S2 x ++ guardOf S2 y) S2
  | _, _ => .bad

/-! ### targets -/
abbrev Tg := DV → Lo → Option Lo
def tN (i : Nat) : Tg := fun d l => some (l.set i (some d))
def tU (is : List Nat) : Tg := fun d l => match d with
  | .tup xs => if xs.length = is.length then some ((is.zip xs).foldl (fun l p => l.set p.1 (some p.2)) l) else none
  | _ => none

/-! ### statements -/
def skip : MS := fun l S => .ok (.nx l) S
def seq (a b : MS) : MS := fun l S => (a l S).bind fun f S1 => match f with
  | .nx l1 => b l1 S1
  | f => .ok f S1
def asg (t : Tg) (e : ME) : MS := fun l S => (e l S).bind fun x S1 => match t x l with
  | some l1 => .ok (.nx l1) S1
  | none => .bad
def ret (e : ME) : MS := fun l S => (e l S).bind fun x S1 => .ok (.rt x) S1
def retN : MS := fun _ S => .ok (.rt .non) S
def ifS (c : MT) (a b : MS) : MS := fun l S => (c l S).bind fun k S1 => if k = true then a l S1 else b l S1
def drop (e : ME) : MS := fun l S => (e l S).bind fun _ S1 => .ok (.nx l) S1
def brk : MS := fun l S => .ok (.bk l) S
def cont : MS := fun l S => .ok (.ct l) S
/-- x.append(e) -/
def app (a e : ME) : MS := fun l S => (a l S).bind fun x S1 => if (lstOf S1 x).isSome = true then (e l S1).bind fun y S2 => (match x with
  | .ref k => match S2[k]? with
    | some (.lst xs) => if xs.length < LIM ∧ noRef y = true then .ok (.nx l) (S2.set k (.lst (xs ++ [y]))) else .bad
    | _ => .bad
  | _ => .bad) else .bad
/-- x.extend(e) -/
def ext (a e : ME) : MS := fun l S => (a l S).bind fun x S1 => if (lstOf S1 x).isSome = true then (e l S1).bind fun y S2 => (match x with
  | .ref k => match S2[k]?, lstOf S2 y with
    | some (.lst xs), some ys => if xs.length + ys.length ≤ LIM ∧ noRefs ys = true then .ok (.nx l) (S2.set k (.lst (xs ++ ys))) else .bad
    | _, _ => .bad
  | _ => .bad) else .bad
/-- x[i] = e, x a list -/
def setL (a i e : ME) : MS := fun l S => (e l S).bind fun y S0 => (a l S0).bind fun x S1 => (i l S1).bind fun j S2 => match x, j with
  | .ref k, .int j => match S2[k]? with
    | some (.lst xs) => match L2.ixN xs.length j with
      | some m => if noRef y = true then .ok (.nx l) (S2.set k (.lst (xs.set m y))) else .bad
      | none => .bad
    | _ => .bad
  | _, _ => .bad
/-- x.pop() as a value -/
def popE (a : ME) : ME := fun l S => (a l S).bind fun x S1 => match x with
  | .ref k => match S1[k]? with
    | some (.lst xs) => match xs[xs.length - 1]? with
      | some y => .ok y (S1.set k (.lst xs.dropLast))
      | none => .bad
    | _ => .bad
  | _ => .bad
noncomputable def held (S : Sto) (gs : List (Nat × DV)) : Bool := gs.all fun g => match S[g.1]? with
  | some x => eqB x g.2
  | none => false
noncomputable def loop (t : Tg) (b : MS) (gs : List (Nat × DV)) : List DV → Lo → Sto → Out Fl
  | [], l, S => if held S gs = true then .ok (.nx l) S else .bad
  | x :: xs, l, S => if held S gs = true then match t x l with
    | some l1 => (b l1 S).bind fun f S1 => match f with
      | .nx l2 => loop t b gs xs l2 S1
      | .ct l2 => loop t b gs xs l2 S1
      | .bk l2 => .ok (.nx l2) S1
      | .rt d => .ok (.rt d) S1
    | none => .bad
    else .bad
noncomputable def forS (t : Tg) (i : MI) (b : MS) : MS := fun l S => (i l S).bind fun p S1 => loop t b p.2 p.1 l S1
def whileN (c : MT) (b : MS) : Nat → Lo → Sto → Out Fl
  | 0, _, _ => .bad
  | n + 1, l, S => (c l S).bind fun k S1 => if k = true then (b l S1).bind fun f S2 => (match f with
      | .nx l2 => whileN c b n l2 S2
      | .ct l2 => whileN c b n l2 S2
      | .bk l2 => .ok (.nx l2) S2
      | .rt d => .ok (.rt d) S2)
    else .ok (.nx l) S1
abbrev TURNS : Nat := 1000000
def whileS (c : MT) (b : MS) : MS := fun l S => whileN c b TURNS l S

/-! ### comprehensions -/
def wipeL (l : Lo) : List Nat → Lo
  | [] => l
  | v :: vs => (wipeL l vs).set v none
/-- the list that is made stands in the store, at n, meanwhile -/
noncomputable def compL (t : Tg) (c : MT) (e : ME) (gs : List (Nat × DV)) (l0 : Lo) (n : Nat) : List DV → Sto → Out Unit
  | [], S => if held S gs = true then .ok () S else .bad
  | x :: xs, S => if held S gs = true then match t x l0 with
    | some l1 => (c l1 S).bind fun k S1 => if k = true then (e l1 S1).bind fun y S2 => (match S2[n]? with
        | some (.lst acc) => if acc.length < LIM ∧ noRef y = true then compL t c e gs l0 n xs (S2.set n (.lst (acc ++ [y]))) else .bad
        | _ => .bad)
      else compL t c e gs l0 n xs S1
    | none => .bad
    else .bad
noncomputable def compR (own : List Nat) (t : Tg) (i : MI) (c : MT) (e : ME) : ME := fun l S => (i l S).bind fun p S1 => match compL t c e p.2 (wipeL l own) S1.length p.1 (S1 ++ [.lst []]) with
  | .ok _ S2 => .ok (.ref S1.length) S2
  | _ => .bad
noncomputable def comp (own : List Nat) (t : Tg) (i : MI) (c : MT) (e : ME) : ME := fun l S => (i l S).bind fun p S1 => match compL t c e p.2 (wipeL l own) S1.length p.1 (S1 ++ [.lst []]) with
  | .ok _ S2 => if S2.length = S1.length + 1 then (match S2[S1.length]? with
    | some (.lst ys) => .ok (.lst ys) (S2.take S1.length)
    | _ => .bad) else .bad
  | _ => .bad
def tYes : MT := fun _ S => .ok true S

/-! ### defs -/
mutual
/-- objects of the store that stand at m or farther on are in it -/
def noRefGe (m : Nat) : DV → Bool
  | .ref k => decide (k < m)
  | .tup xs => noRefGes m xs
  | .lst xs => noRefGes m xs
  | .rol xs => noRefGes m xs
  | .dk kvs => noRefGeK m kvs
  | .fz kvs => noRefGeK m kvs
  | .exn _ x => noRefGe m x
  | _ => true
def noRefGes (m : Nat) : List DV → Bool
  | [] => true
  | x :: xs => noRefGe m x && noRefGes m xs
def noRefGeK (m : Nat) : List (Key × DV) → Bool
  | [] => true
  | (_, x) :: xs => noRefGe m x && noRefGeK m xs
end
mutual
/-- the objects that stand at m or farther on, as values -/
def thaw (m : Nat) (S : Sto) : DV → DV
  | .ref k => if k < m then .ref k else match S[k]? with
    | some x => x
    | none => .ref k
  | .tup xs => .tup (thaws m S xs)
  | .lst xs => .lst (thaws m S xs)
  | x => x
def thaws (m : Nat) (S : Sto) : List DV → List DV
  | [] => []
  | x :: xs => thaw m S x :: thaws m S xs
end
/-- a def's end: its own object becomes a value (true: its own), the others go -/
def leave (m : Nat) (d : DV) (S : Sto) : Out (DV × Bool) := match d with
  | .ref k => if k < m then .ok (.ref k, false) (S.take m) else match S[k]? with
    | some x => .ok (x, true) (S.take m)
    | none => .bad
  | d => if noRefGe m (thaw m S d) = true then .ok (thaw m S d, false) (S.take m) else .bad
/-- a def of n slots, its arguments first -/
def fn (n : Nat) (b : MS) : Ora := fun args S => match b (args.map some ++ List.replicate (n - args.length) none) S with
  | .ok (.rt d) S1 => leave S.length d S1
  | .ok (.nx _) S1 => leave S.length .non S1
  | .exc c d _ S1 => if noRef d = true then .exc c d [] (S1.take S.length) else .bad
  | _ => .bad
end Y
/-! What the combinators tell is what the text does (over the hand layer). -/
namespace Y
open PySem L2

/-! ### how a value stands in the heap -/
/-- a list that nobody changes here -/
def RolAt (K : PySem.W.Frag) (ρ : List Addr) (H : Hp) (a : Addr) (vs : List V) : Prop := (∃ o, H a = some (.frz o (.lst vs))) ∨ (a ∉ ρ ∧ H a = some (.lst vs)) ∨ ∀ H', SqL K H' a vs
theorem RolAt.seq {K : PySem.W.Frag} {ρ : List Addr} {H : Hp} {a : Addr} {vs : List V} (h : RolAt K ρ H a vs) : SqL K H a vs := by
  rcases h with ⟨o, h⟩ | ⟨_, h⟩ | h
  · exact .inl (.inr ⟨o, h⟩)
  · exact .inl (.inl h)
  · exact h H
theorem RolAt.of {K : PySem.W.Frag} {H : Hp} {a : Addr} {vs : List V} (h : SqL K H a vs) : RolAt K [] H a vs := by
  rcases h with (h | ⟨o, h⟩) | h
  · exact .inr (.inl ⟨by simp, h⟩)
  · exact .inl ⟨o, h⟩
  · exact .inr (.inr fun _ => .inr h)
/-- an exception object of the class cls, its own dict od, at a -/
def ExY (cls : Value) (od : Option Addr) (a : Addr) : HO := .ext fun h => ∃ (oe : Obj) (vs : Array Value), h.get? a = some oe ∧ Zc cls od oe ∧ oe.data = .fields vs
/-- the classes of exceptions by numbers -/
def XNm : Nat → Str
  | 0 => "RecastError" | 1 => "NoText" | 2 => "TooGreat" | 3 => "NoPlace" | 4 => "NoRule" | 5 => "NoFill" | 6 => "NoScale" | 7 => "NoFall" | 8 => "NoPlain" | 9 => "NoPair" | 10 => "NoPaper" | 11 => "NoNumber" | 12 => "Wanted" | 13 => "TooLong" | 20 => "ValueError"
  | _ => "?"
/-- the field of each -/
def XFl : Nat → Str
  | 4 => "why" | 10 => "tried" | 12 => "question" | _ => "number"
def XCls (K : PySem.W.Frag) (c : Nat) (cls : Value) : Prop := ∃ C : Addr, cls = .ref C ∧ PySem.W.nsIn K mainGlobals (XNm c) = some (some (.ref C))
section
variable (K : PySem.W.Frag) (ρ : List Addr) (H : Hp)
mutual
def RV : DV → V → Prop
  | .non, v => v = .non
  | .bl b, v => v = .bl b
  | .int i, v => v = .int i
  | .str s, v => v = .str s
  | .tup xs, v => ∃ a vs, v = .ref a ∧ SqT K H a vs ∧ RVs xs vs
  | .lst xs, v => ∃ a vs, v = .ref a ∧ a ∉ ρ ∧ H a = some (.lst vs) ∧ RVs xs vs
  | .rol xs, v => ∃ a vs, v = .ref a ∧ RolAt K ρ H a vs ∧ RVs xs vs
  | .dk kvs, v => ∃ a ws, v = .ref a ∧ a ∉ ρ ∧ Rd H a (.dK ws) ∧ RVK kvs ws
  | .fz kvs, v => ∃ a ws, v = .ref a ∧ a ∉ ρ ∧ Rd H a (.dK ws) ∧ RVK kvs ws
  | .exn c x, v => ∃ (a : Addr) (cls : Value) (od : Option Addr), v = .ref a ∧ a ∉ ρ ∧ H a = some (ExY cls od a) ∧ XCls K c cls ∧ ((x = .non ∧ od = none) ∨ ∃ (dd : Addr) (fs : List (Str × V)) (u : V), od = some dd ∧ dd ∉ ρ ∧ H dd = some (.xd fs) ∧ fs.lookup (XFl c) = some u ∧ RV x u)
  | .ref k, v => ∃ a, ρ[k]? = some a ∧ v = .ref a
def RVs : List DV → List V → Prop
  | [], vs => vs = []
  | x :: xs, vs => ∃ v r, vs = v :: r ∧ RV x v ∧ RVs xs r
def RVK : List (Key × DV) → List (Key × V) → Prop
  | [], vs => vs = []
  | (k, x) :: xs, vs => ∃ v r, vs = (k, v) :: r ∧ RV x v ∧ RVK xs r
end
/-- an object of the store at a -/
def RO (a : Addr) : DV → Prop
  | .lst xs => ∃ vs, H a = some (.lst vs) ∧ RVs K ρ H xs vs ∧ noRefs xs = true
  | .dk kvs => ∃ ws, H a = some (.dK ws) ∧ RVK K ρ H kvs ws ∧ noRefK kvs = true
  | .fz kvs => ∃ ws, (∃ o, H a = some (.frz o (.dK ws))) ∧ RVK K ρ H kvs ws ∧ noRefK kvs = true
  | _ => False
structure RS (S : Sto) : Prop where
  nd : ρ.Nodup
  len : ρ.length = S.length
  at_ : ∀ (k : Nat) (a : Addr) (o : DV), ρ[k]? = some a → S[k]? = some o → RO K ρ H a o
structure RL (l : Lo) (σ : L2.St) : Prop where
  len : l.length = σ.length
  at_ : ∀ (i : Nat) (d : DV), l[i]? = some (some d) → ∃ v, σ[i]? = some (some v) ∧ RV K ρ H d v
end
structure Ext (ρ : List Addr) (H : Hp) (ρ' : List Addr) (H' : Hp) : Prop where
  pre : ∃ t, ρ' = ρ ++ t
  keep : ∀ a o, H a = some o → a ∉ ρ → H' a = some o
  tups : ∀ a xs, H a = some (.tup xs) → H' a = some (.tup xs)
  frzs : ∀ a o u, H a = some (.frz o u) → H' a = some (.frz o u)
  fresh : ∀ a, a ∈ ρ' → a ∈ ρ ∨ H a = none
  /-- what was tracked is tracked -/
  there : ∀ a, H' a = none → H a = none
section
variable {K : PySem.W.Frag} {ρ ρ' ρ1 : List Addr} {H H' H1 : Hp}
theorem Ext.refl : Ext ρ H ρ H := ⟨⟨[], by simp⟩, fun _ _ h _ => h, fun _ _ h => h, fun _ _ _ h => h, fun _ h => .inl h, fun _ h => h⟩
theorem Ext.trans (a : Ext ρ H ρ1 H1) (b : Ext ρ1 H1 ρ' H') : Ext ρ H ρ' H' := by
  refine ⟨?_, fun x o h n => b.keep x o (a.keep x o h n) fun m => ?_, fun x xs h => b.tups x xs (a.tups x xs h), fun x o u h => b.frzs x o u (a.frzs x o u h), fun x h => ?_, fun x h => a.there x (b.there x h)⟩
  · obtain ⟨t, rfl⟩ := a.pre
    obtain ⟨t', rfl⟩ := b.pre
    exact ⟨t ++ t', by simp⟩
  · rcases a.fresh x m with q | q
    · exact n q
    · rw [h] at q; cases q
  · rcases b.fresh x h with q | q
    · exact a.fresh x q
    · exact .inr (a.there x q)
theorem ext_new {p : Addr} {o : HO} (h : H p = none) : Ext ρ H ρ (upd H p o) :=
  ⟨⟨[], by simp⟩, fun a u e _ => by rw [upd_ne (ne_of_none e h)]; exact e, fun a u e => by rw [upd_ne (ne_of_none e h)]; exact e, fun a u v e => by rw [upd_ne (ne_of_none e h)]; exact e, fun a h => .inl h, fun a e => by
    by_cases z : a = p
    · rw [z]; exact h
    · rw [upd_ne z] at e; exact e⟩
theorem ext_push {p : Addr} {o : HO} (h : H p = none) : Ext ρ H (ρ ++ [p]) (upd H p o) := by
  have e := ext_new (ρ := ρ) (o := o) h
  refine ⟨⟨[p], rfl⟩, e.keep, e.tups, e.frzs, fun a m => ?_, e.there⟩
  rcases List.mem_append.mp m with q | q
  · exact .inl q
  · rw [List.mem_singleton] at q; rw [q]; exact .inr h
theorem sqT_ext (e : Ext ρ H ρ' H') {a : Addr} {vs : List V} (h : SqT K H a vs) : SqT K H' a vs := by
  rcases h with (h | ⟨o, h⟩) | h
  · exact .inl (.inl (e.tups _ _ h))
  · exact .inl (.inr ⟨o, e.frzs _ _ _ h⟩)
  · exact .inr h
theorem ext_notin (e : Ext ρ H ρ' H') {a : Addr} {o : HO} (h : H a = some o) (n : a ∉ ρ) : a ∉ ρ' := fun m => by
  rcases e.fresh a m with q | q
  · exact n q
  · rw [h] at q; cases q
theorem rd_ext (e : Ext ρ H ρ' H') {a : Addr} {u : HO} (h : Rd H a u) (n : a ∉ ρ) : Rd H' a u := by
  rcases h with h | ⟨o, h⟩
  · exact .inl (e.keep _ _ h n)
  · exact .inr ⟨o, e.frzs _ _ _ h⟩
theorem rd_notin (e : Ext ρ H ρ' H') {a : Addr} {u : HO} (h : Rd H a u) (n : a ∉ ρ) : a ∉ ρ' := by
  rcases h with h | ⟨o, h⟩
  · exact ext_notin e h n
  · exact ext_notin e h n
mutual
theorem RV.mono (e : Ext ρ H ρ' H') : ∀ (d : DV) (v : V), RV K ρ H d v → RV K ρ' H' d v
  | .non, v, h => by simp only [RV] at h ⊢; exact h
  | .bl b, v, h => by simp only [RV] at h ⊢; exact h
  | .int i, v, h => by simp only [RV] at h ⊢; exact h
  | .str s, v, h => by simp only [RV] at h ⊢; exact h
  | .tup xs, v, h => by
    simp only [RV] at h ⊢
    obtain ⟨a, vs, h1, h2, h3⟩ := h
    exact ⟨a, vs, h1, sqT_ext e h2, RVs.mono e xs vs h3⟩
  | .lst xs, v, h => by
    simp only [RV] at h ⊢
    obtain ⟨a, vs, h1, h2, h3, h4⟩ := h
    exact ⟨a, vs, h1, ext_notin e h3 h2, e.keep _ _ h3 h2, RVs.mono e xs vs h4⟩
  | .rol xs, v, h => by
    simp only [RV] at h ⊢
    obtain ⟨a, vs, h1, h2, h3⟩ := h
    refine ⟨a, vs, h1, ?_, RVs.mono e xs vs h3⟩
    rcases h2 with ⟨o, h⟩ | ⟨n, h⟩ | h
    · exact .inl ⟨o, e.frzs _ _ _ h⟩
    · exact .inr (.inl ⟨ext_notin e h n, e.keep _ _ h n⟩)
    · exact .inr (.inr h)
  | .dk kvs, v, h => by
    simp only [RV] at h ⊢
    obtain ⟨a, ws, h1, h2, h3, h4⟩ := h
    exact ⟨a, ws, h1, rd_notin e h3 h2, rd_ext e h3 h2, RVK.mono e kvs ws h4⟩
  | .fz kvs, v, h => by
    simp only [RV] at h ⊢
    obtain ⟨a, ws, h1, h2, h3, h4⟩ := h
    exact ⟨a, ws, h1, rd_notin e h3 h2, rd_ext e h3 h2, RVK.mono e kvs ws h4⟩
  | .exn c x, v, h => by
    simp only [RV] at h ⊢
    obtain ⟨a, cls, od, h1, h2, h3, h4, h5⟩ := h
    refine ⟨a, cls, od, h1, ext_notin e h3 h2, e.keep _ _ h3 h2, h4, ?_⟩
    rcases h5 with h5 | ⟨dd, fs, u, q1, q2, q3, q4, q5⟩
    · exact .inl h5
    · exact .inr ⟨dd, fs, u, q1, ext_notin e q3 q2, e.keep _ _ q3 q2, q4, RV.mono e x u q5⟩
  | .ref k, v, h => by
    simp only [RV] at h ⊢
    obtain ⟨a, h1, h2⟩ := h
    obtain ⟨t, rfl⟩ := e.pre
    exact ⟨a, by rw [List.getElem?_append_left (List.getElem?_eq_some_iff.mp h1).1]; exact h1, h2⟩
theorem RVs.mono (e : Ext ρ H ρ' H') : ∀ (xs : List DV) (vs : List V), RVs K ρ H xs vs → RVs K ρ' H' xs vs
  | [], vs, h => by simp only [RVs] at h ⊢; exact h
  | x :: xs, vs, h => by
    simp only [RVs] at h ⊢
    obtain ⟨v, r, h1, h2, h3⟩ := h
    exact ⟨v, r, h1, RV.mono e x v h2, RVs.mono e xs r h3⟩
theorem RVK.mono (e : Ext ρ H ρ' H') : ∀ (xs : List (Key × DV)) (vs : List (Key × V)), RVK K ρ H xs vs → RVK K ρ' H' xs vs
  | [], vs, h => by simp only [RVK] at h ⊢; exact h
  | (k, x) :: xs, vs, h => by
    simp only [RVK] at h ⊢
    obtain ⟨v, r, h1, h2, h3⟩ := h
    exact ⟨v, r, h1, RV.mono e x v h2, RVK.mono e xs r h3⟩
end
mutual
/-- fewer objects in the store: what has none of the others stands as it stood -/
theorem RV.sub {m : Nat} (hs : ∀ a ∈ ρ', a ∈ ρ) (hm : ∀ k a, k < m → ρ[k]? = some a → ρ'[k]? = some a) : ∀ (d : DV) (v : V), noRefGe m d = true → RV K ρ H d v → RV K ρ' H d v
  | .non, v, _, h => by simp only [RV] at h ⊢; exact h
  | .bl b, v, _, h => by simp only [RV] at h ⊢; exact h
  | .int i, v, _, h => by simp only [RV] at h ⊢; exact h
  | .str s, v, _, h => by simp only [RV] at h ⊢; exact h
  | .tup xs, v, n, h => by
    simp only [RV, noRefGe] at h n ⊢
    obtain ⟨a, vs, h1, h2, h3⟩ := h
    exact ⟨a, vs, h1, h2, RVs.sub hs hm xs vs n h3⟩
  | .lst xs, v, n, h => by
    simp only [RV, noRefGe] at h n ⊢
    obtain ⟨a, vs, h1, h2, h3, h4⟩ := h
    exact ⟨a, vs, h1, fun z => h2 (hs a z), h3, RVs.sub hs hm xs vs n h4⟩
  | .rol xs, v, n, h => by
    simp only [RV, noRefGe] at h n ⊢
    obtain ⟨a, vs, h1, h2, h3⟩ := h
    refine ⟨a, vs, h1, ?_, RVs.sub hs hm xs vs n h3⟩
    rcases h2 with ⟨o, h⟩ | ⟨n, h⟩ | h
    · exact .inl ⟨o, h⟩
    · exact .inr (.inl ⟨fun z => n (hs a z), h⟩)
    · exact .inr (.inr h)
  | .dk kvs, v, n, h => by
    simp only [RV, noRefGe] at h n ⊢
    obtain ⟨a, ws, h1, h2, h3, h4⟩ := h
    exact ⟨a, ws, h1, fun z => h2 (hs a z), h3, RVK.sub hs hm kvs ws n h4⟩
  | .fz kvs, v, n, h => by
    simp only [RV, noRefGe] at h n ⊢
    obtain ⟨a, ws, h1, h2, h3, h4⟩ := h
    exact ⟨a, ws, h1, fun z => h2 (hs a z), h3, RVK.sub hs hm kvs ws n h4⟩
  | .exn c x, v, n, h => by
    simp only [RV, noRefGe] at h n ⊢
    obtain ⟨a, cls, od, h1, h2, h3, h4, h5⟩ := h
    refine ⟨a, cls, od, h1, fun z => h2 (hs a z), h3, h4, ?_⟩
    rcases h5 with h5 | ⟨dd, fs, u, q1, q2, q3, q4, q5⟩
    · exact .inl h5
    · exact .inr ⟨dd, fs, u, q1, fun z => q2 (hs dd z), q3, q4, RV.sub hs hm x u n q5⟩
  | .ref k, v, n, h => by
    simp only [RV, noRefGe, decide_eq_true_eq] at h n ⊢
    obtain ⟨a, h1, h2⟩ := h
    exact ⟨a, hm k a n h1, h2⟩
theorem RVs.sub {m : Nat} (hs : ∀ a ∈ ρ', a ∈ ρ) (hm : ∀ k a, k < m → ρ[k]? = some a → ρ'[k]? = some a) : ∀ (xs : List DV) (vs : List V), noRefGes m xs = true → RVs K ρ H xs vs → RVs K ρ' H xs vs
  | [], vs, _, h => by simp only [RVs] at h ⊢; exact h
  | x :: xs, vs, n, h => by
    simp only [RVs, noRefGes, Bool.and_eq_true] at h n ⊢
    obtain ⟨v, r, h1, h2, h3⟩ := h
    exact ⟨v, r, h1, RV.sub hs hm x v n.1 h2, RVs.sub hs hm xs r n.2 h3⟩
theorem RVK.sub {m : Nat} (hs : ∀ a ∈ ρ', a ∈ ρ) (hm : ∀ k a, k < m → ρ[k]? = some a → ρ'[k]? = some a) : ∀ (xs : List (Key × DV)) (vs : List (Key × V)), noRefGeK m xs = true → RVK K ρ H xs vs → RVK K ρ' H xs vs
  | [], vs, _, h => by simp only [RVK] at h ⊢; exact h
  | (k, x) :: xs, vs, n, h => by
    simp only [RVK, noRefGeK, Bool.and_eq_true] at h n ⊢
    obtain ⟨v, r, h1, h2, h3⟩ := h
    exact ⟨v, r, h1, RV.sub hs hm x v n.1 h2, RVK.sub hs hm xs r n.2 h3⟩
end
mutual
theorem noRef_ge (m : Nat) : ∀ d : DV, noRef d = true → noRefGe m d = true
  | .non, _ => rfl
  | .bl _, _ => rfl
  | .int _, _ => rfl
  | .str _, _ => rfl
  | .tup xs, h => by simp only [noRef, noRefGe] at h ⊢; exact noRefs_ge m xs h
  | .lst xs, h => by simp only [noRef, noRefGe] at h ⊢; exact noRefs_ge m xs h
  | .rol xs, h => by simp only [noRef, noRefGe] at h ⊢; exact noRefs_ge m xs h
  | .dk xs, h => by simp only [noRef, noRefGe] at h ⊢; exact noRefK_ge m xs h
  | .fz xs, h => by simp only [noRef, noRefGe] at h ⊢; exact noRefK_ge m xs h
  | .exn _ x, h => by simp only [noRef, noRefGe] at h ⊢; exact noRef_ge m x h
  | .ref k, h => by simp [noRef] at h
theorem noRefs_ge (m : Nat) : ∀ xs : List DV, noRefs xs = true → noRefGes m xs = true
  | [], _ => rfl
  | x :: xs, h => by
    simp only [noRefs, noRefGes, Bool.and_eq_true] at h ⊢
    exact ⟨noRef_ge m x h.1, noRefs_ge m xs h.2⟩
theorem noRefK_ge (m : Nat) : ∀ xs : List (Key × DV), noRefK xs = true → noRefGeK m xs = true
  | [], _ => rfl
  | (k, x) :: xs, h => by
    simp only [noRefK, noRefGeK, Bool.and_eq_true] at h ⊢
    exact ⟨noRef_ge m x h.1, noRefK_ge m xs h.2⟩
end
theorem RVs.free (hs : ∀ a ∈ ρ', a ∈ ρ) {xs : List DV} {vs : List V} (n : noRefs xs = true) (h : RVs K ρ H xs vs) : RVs K ρ' H xs vs :=
  RVs.sub (m := 0) hs (fun _ _ z => absurd z (Nat.not_lt_zero _)) xs vs (noRefs_ge 0 xs n) h
theorem RVK.free (hs : ∀ a ∈ ρ', a ∈ ρ) {xs : List (Key × DV)} {vs : List (Key × V)} (n : noRefK xs = true) (h : RVK K ρ H xs vs) : RVK K ρ' H xs vs :=
  RVK.sub (m := 0) hs (fun _ _ z => absurd z (Nat.not_lt_zero _)) xs vs (noRefK_ge 0 xs n) h
theorem RV.free (hs : ∀ a ∈ ρ', a ∈ ρ) {x : DV} {v : V} (n : noRef x = true) (h : RV K ρ H x v) : RV K ρ' H x v :=
  RV.sub (m := 0) hs (fun _ _ z => absurd z (Nat.not_lt_zero _)) x v (noRef_ge 0 x n) h
theorem RVs.length : ∀ {xs : List DV} {vs : List V}, RVs K ρ H xs vs → xs.length = vs.length
  | [], vs, h => by simp only [RVs] at h; rw [h]; rfl
  | x :: xs, vs, h => by
    simp only [RVs] at h
    obtain ⟨v, r, rfl, h2, h3⟩ := h
    rw [List.length_cons, List.length_cons, RVs.length h3]
theorem RVs.get : ∀ {xs : List DV} {vs : List V} {i : Nat} {d : DV}, RVs K ρ H xs vs → xs[i]? = some d → ∃ v, vs[i]? = some v ∧ RV K ρ H d v
  | [], vs, i, d, h, e => by simp at e
  | x :: xs, vs, 0, d, h, e => by
    simp only [RVs] at h
    obtain ⟨v, r, rfl, h2, h3⟩ := h
    simp at e
    subst e
    exact ⟨v, rfl, h2⟩
  | x :: xs, vs, i + 1, d, h, e => by
    simp only [RVs] at h
    obtain ⟨v, r, rfl, h2, h3⟩ := h
    simp at e
    obtain ⟨u, h4, h5⟩ := RVs.get h3 e
    exact ⟨u, by simpa using h4, h5⟩
theorem RVs.getV : ∀ {xs : List DV} {vs : List V} {i : Nat} {v : V}, RVs K ρ H xs vs → vs[i]? = some v → ∃ d, xs[i]? = some d ∧ RV K ρ H d v
  | [], vs, i, d, h, e => by simp only [RVs] at h; rw [h] at e; simp at e
  | x :: xs, vs, 0, d, h, e => by
    simp only [RVs] at h
    obtain ⟨v, r, rfl, h2, h3⟩ := h
    simp at e
    subst e
    exact ⟨x, rfl, h2⟩
  | x :: xs, vs, i + 1, d, h, e => by
    simp only [RVs] at h
    obtain ⟨v, r, rfl, h2, h3⟩ := h
    simp at e
    obtain ⟨u, h4, h5⟩ := RVs.getV h3 e
    exact ⟨u, by simpa using h4, h5⟩
theorem RVs.append : ∀ {xs ys : List DV} {vs ws : List V}, RVs K ρ H xs vs → RVs K ρ H ys ws → RVs K ρ H (xs ++ ys) (vs ++ ws)
  | [], ys, vs, ws, h, h' => by simp only [RVs] at h; rw [h]; exact h'
  | x :: xs, ys, vs, ws, h, h' => by
    simp only [RVs] at h
    obtain ⟨v, r, rfl, h2, h3⟩ := h
    show RVs K ρ H (x :: (xs ++ ys)) (v :: (r ++ ws))
    simp only [RVs]
    exact ⟨v, _, rfl, h2, RVs.append h3 h'⟩
theorem RVs.take : ∀ {xs : List DV} {vs : List V} (n : Nat), RVs K ρ H xs vs → RVs K ρ H (xs.take n) (vs.take n)
  | [], vs, n, h => by simp only [RVs] at h; rw [h]; simp [RVs]
  | x :: xs, vs, 0, h => by simp [RVs]
  | x :: xs, vs, n + 1, h => by
    simp only [RVs] at h
    obtain ⟨v, r, rfl, h2, h3⟩ := h
    simp only [List.take_succ_cons, RVs]
    exact ⟨v, _, rfl, h2, RVs.take n h3⟩
theorem RVs.drop : ∀ {xs : List DV} {vs : List V} (n : Nat), RVs K ρ H xs vs → RVs K ρ H (xs.drop n) (vs.drop n)
  | [], vs, n, h => by simp only [RVs] at h; rw [h]; simp [RVs]
  | x :: xs, vs, 0, h => by simpa using h
  | x :: xs, vs, n + 1, h => by
    simp only [RVs] at h
    obtain ⟨v, r, rfl, h2, h3⟩ := h
    simp only [List.drop_succ_cons]
    exact RVs.drop n h3
theorem RVs.set : ∀ {xs : List DV} {vs : List V} (n : Nat) {d : DV} {v : V}, RV K ρ H d v → RVs K ρ H xs vs → RVs K ρ H (xs.set n d) (vs.set n v)
  | [], vs, n, d, v, hd, h => by simp only [RVs] at h; rw [h]; simp [RVs]
  | x :: xs, vs, 0, d, v, hd, h => by
    simp only [RVs] at h
    obtain ⟨v, r, rfl, h2, h3⟩ := h
    simp only [List.set_cons_zero, RVs]
    exact ⟨_, _, rfl, hd, h3⟩
  | x :: xs, vs, n + 1, d, v, hd, h => by
    simp only [RVs] at h
    obtain ⟨v, r, rfl, h2, h3⟩ := h
    simp only [List.set_cons_succ, RVs]
    exact ⟨_, _, rfl, h2, RVs.set n hd h3⟩
theorem rvs1 {d : DV} {v : V} (h : RV K ρ H d v) : RVs K ρ H [d] [v] := by
  simp only [RVs]
  exact ⟨_, _, rfl, h, rfl⟩
theorem RVs.cons {d : DV} {v : V} {xs : List DV} {vs : List V} (h : RV K ρ H d v) (h' : RVs K ρ H xs vs) : RVs K ρ H (d :: xs) (v :: vs) := by
  simp only [RVs]
  exact ⟨_, _, rfl, h, h'⟩
theorem RVs.cut {xs : List DV} {vs : List V} (lo hi : Option Int) (h : RVs K ρ H xs vs) : RVs K ρ H (cutD xs lo hi) (cutV vs lo hi) := by
  unfold cutD cutV
  rw [h.length]
  exact (h.drop _).take _
theorem noRefs_app : ∀ {xs ys : List DV}, noRefs xs = true → noRefs ys = true → noRefs (xs ++ ys) = true
  | [], ys, _, h => h
  | x :: xs, ys, h, h' => by
    simp only [noRefs, Bool.and_eq_true, List.cons_append] at h ⊢
    exact ⟨h.1, noRefs_app h.2 h'⟩
theorem noRefs_set : ∀ {xs : List DV} (n : Nat) {d : DV}, noRefs xs = true → noRef d = true → noRefs (xs.set n d) = true
  | [], n, d, _, _ => rfl
  | x :: xs, 0, d, h, h' => by
    simp only [noRefs, Bool.and_eq_true, List.set_cons_zero] at h ⊢
    exact ⟨h', h.2⟩
  | x :: xs, n + 1, d, h, h' => by
    simp only [noRefs, Bool.and_eq_true, List.set_cons_succ] at h ⊢
    exact ⟨h.1, noRefs_set n h.2 h'⟩
theorem noRefs_mem : ∀ {xs : List DV} {d : DV}, noRefs xs = true → d ∈ xs → noRef d = true
  | [], d, _, h => by simp at h
  | x :: xs, d, h, m => by
    simp only [noRefs, Bool.and_eq_true] at h
    rcases List.mem_cons.mp m with rfl | m
    · exact h.1
    · exact noRefs_mem h.2 m
theorem noRefs_sub : ∀ {xs ys : List DV}, noRefs xs = true → (∀ d ∈ ys, d ∈ xs) → noRefs ys = true
  | xs, [], _, _ => rfl
  | xs, y :: ys, h, m => by
    simp only [noRefs, Bool.and_eq_true]
    exact ⟨noRefs_mem h (m y List.mem_cons_self), noRefs_sub h fun d q => m d (List.mem_cons_of_mem _ q)⟩

theorem RO.mono (e : Ext ρ H ρ' H') {a : Addr} (h0 : H' a = H a) : ∀ {o : DV}, RO K ρ H a o → RO K ρ' H' a o
  | .lst xs, ⟨vs, h1, h2, h3⟩ => ⟨vs, by rw [h0]; exact h1, h2.mono e, h3⟩
  | .dk xs, ⟨vs, h1, h2, h3⟩ => ⟨vs, by rw [h0]; exact h1, h2.mono e, h3⟩
  | .fz xs, ⟨vs, h1, h2, h3⟩ => ⟨vs, by rw [h0]; exact h1, h2.mono e, h3⟩
theorem RO.free (hs : ∀ a ∈ ρ', a ∈ ρ) {a : Addr} : ∀ {o : DV}, RO K ρ H a o → RO K ρ' H a o
  | .lst xs, ⟨vs, h1, h2, h3⟩ => ⟨vs, h1, h2.free hs h3, h3⟩
  | .dk xs, ⟨vs, h1, h2, h3⟩ => ⟨vs, h1, h2.free hs h3, h3⟩
  | .fz xs, ⟨vs, h1, h2, h3⟩ => ⟨vs, h1, h2.free hs h3, h3⟩
theorem RO.there {a : Addr} : ∀ {o : DV}, RO K ρ H a o → ∃ u, H a = some u ∧ (∀ xs, u ≠ .tup xs)
  | .lst xs, ⟨vs, h1, _⟩ => ⟨_, h1, (fun _ z => by cases z)⟩
  | .dk xs, ⟨vs, h1, _⟩ => ⟨_, h1, (fun _ z => by cases z)⟩
  | .fz xs, ⟨vs, ⟨o, h1⟩, _⟩ => ⟨_, h1, (fun _ z => by cases z)⟩
/-- a thing that may be changed -/
def Live (H : Hp) (a : Addr) : Prop := ∃ u, H a = some u ∧ ∀ x y, u ≠ .frz x y
theorem Live.l {a : Addr} {xs : List V} (h : H a = some (.lst xs)) : Live H a := ⟨_, h, fun _ _ z => by cases z⟩
theorem Live.d {a : Addr} {xs : List (Key × V)} (h : H a = some (.dK xs)) : Live H a := ⟨_, h, fun _ _ z => by cases z⟩
theorem RS.mem {S : Sto} (s : RS K ρ H S) {a : Addr} (h : a ∈ ρ) : ∃ (k : Nat) (o : DV), ρ[k]? = some a ∧ S[k]? = some o ∧ RO K ρ H a o := by
  obtain ⟨k, hk⟩ := List.mem_iff_getElem?.mp h
  have hl : k < S.length := by rw [← s.len]; exact (List.getElem?_eq_some_iff.mp hk).1
  exact ⟨k, S[k], hk, List.getElem?_eq_getElem hl, s.at_ k a _ hk (List.getElem?_eq_getElem hl)⟩
theorem RS.there {S : Sto} (s : RS K ρ H S) {a : Addr} (h : a ∈ ρ) : ∃ u, H a = some u ∧ (∀ xs, u ≠ .tup xs) := by
  obtain ⟨k, o, _, _, h⟩ := s.mem h
  exact h.there
theorem RS.new {S : Sto} {p : Addr} {o : HO} (s : RS K ρ H S) (h : H p = none) : RS K ρ (upd H p o) S := by
  refine ⟨s.nd, s.len, fun k a u h1 h2 => (s.at_ k a u h1 h2).mono (ext_new h) ?_⟩
  obtain ⟨x, hx, _⟩ := s.there (List.mem_of_getElem? h1)
  rw [upd_ne (ne_of_none hx h)]
/-- everything on the store's addresses kept -/
theorem RS.keep {S : Sto} (s : RS K ρ H S) (e : Ext ρ H ρ H') (k : ∀ a ∈ ρ, H' a = H a) : RS K ρ H' S :=
  ⟨s.nd, s.len, fun j a u h1 h2 => (s.at_ j a u h1 h2).mono e (k a (List.mem_of_getElem? h1))⟩
theorem RS.push {S : Sto} {p : Addr} {o : HO} {d : DV} (s : RS K ρ H S) (h : H p = none) (hd : RO K (ρ ++ [p]) (upd H p o) p d) : RS K (ρ ++ [p]) (upd H p o) (S ++ [d]) := by
  have hn : p ∉ ρ := fun m => by
    obtain ⟨x, hx, _⟩ := s.there m
    rw [h] at hx; cases hx
  refine ⟨?_, by simp [s.len], fun k a u h1 h2 => ?_⟩
  · rw [List.nodup_append]
    exact ⟨s.nd, by simp, fun a ha b hb z => by rw [List.mem_singleton] at hb; rw [z, hb] at ha; exact hn ha⟩
  · by_cases hk : k < ρ.length
    · rw [List.getElem?_append_left hk] at h1
      rw [List.getElem?_append_left (by rw [← s.len]; exact hk)] at h2
      refine (s.at_ k a u h1 h2).mono (ext_push h) ?_
      obtain ⟨x, hx, _⟩ := s.there (List.mem_of_getElem? h1)
      rw [upd_ne (ne_of_none hx h)]
    · have e : k = ρ.length := by
        have := (List.getElem?_eq_some_iff.mp h1).1
        rw [List.length_append] at this
        simp at this
        omega
      subst e
      rw [List.getElem?_append_right (Nat.le_refl _), Nat.sub_self] at h1
      rw [s.len, List.getElem?_append_right (Nat.le_refl _), Nat.sub_self] at h2
      simp at h1 h2
      subst h1 h2
      exact hd
theorem ext_write {S : Sto} {a : Addr} {o : HO} (s : RS K ρ H S) (h : a ∈ ρ) (lv : Live H a) : Ext ρ H ρ (upd H a o) := by
  obtain ⟨x, hx, n1⟩ := s.there h
  have n2 : ∀ y z, x ≠ .frz y z := fun y z q => by
    obtain ⟨u, hu, n⟩ := lv
    rw [hx] at hu
    cases hu
    exact n y z q
  refine ⟨⟨[], by simp⟩, fun b u e n => by rw [upd_ne (fun z => n (by rw [z]; exact h))]; exact e, fun b u e => ?_, fun b u v e => ?_, fun b m => .inl m, fun b e => ?_⟩
  · rw [upd_ne (fun z => by rw [z, hx] at e; cases e; exact n1 _ rfl)]; exact e
  · rw [upd_ne (fun z => by rw [z, hx] at e; cases e; exact n2 _ _ rfl)]; exact e
  · by_cases z : b = a
    · rw [z, upd_same] at e; cases e
    · rw [upd_ne z] at e; exact e
theorem RS.write {S : Sto} {a : Addr} {o : HO} {k : Nat} {d : DV} (s : RS K ρ H S) (h : ρ[k]? = some a) (lv : Live H a) (hd : RO K ρ (upd H a o) a d) : RS K ρ (upd H a o) (S.set k d) := by
  refine ⟨s.nd, by simp [s.len], fun j b u h1 h2 => ?_⟩
  by_cases hj : j = k
  · subst hj
    rw [h] at h1
    cases h1
    rw [List.getElem?_set_self (by rw [← s.len]; exact (List.getElem?_eq_some_iff.mp h).1)] at h2
    cases h2
    exact hd
  · rw [List.getElem?_set_ne (Ne.symm hj)] at h2
    refine (s.at_ j b u h1 h2).mono (ext_write s (List.mem_of_getElem? h) lv) ?_
    exact upd_ne fun z => hj (nd_ix s.nd h1 (by rw [z]; exact h))
theorem RS.take {S : Sto} (s : RS K ρ H S) (m : Nat) : RS K (ρ.take m) H (S.take m) := by
  refine ⟨s.nd.sublist (List.take_sublist _ _), by simp [s.len], fun k a u h1 h2 => ?_⟩
  have hk : k < m := by
    have := (List.getElem?_eq_some_iff.mp h1).1
    rw [List.length_take] at this
    omega
  rw [List.getElem?_take_of_lt hk] at h1 h2
  exact (s.at_ k a u h1 h2).free fun a h => List.mem_of_mem_take h
theorem RS.sel {S : Sto} (s : RS K ρ H S) {m k : Nat} {a : Addr} {d : DV} (hm : m ≤ k) (h1 : ρ[k]? = some a) (h2 : S[k]? = some d) : RS K (ρ.take m ++ [a]) H (S.take m ++ [d]) := by
  have hk := (List.getElem?_eq_some_iff.mp h1).1
  have hsub : ∀ b ∈ ρ.take m ++ [a], b ∈ ρ := fun b h => by
    rcases List.mem_append.mp h with q | q
    · exact List.mem_of_mem_take q
    · rw [List.mem_singleton] at q; rw [q]; exact List.mem_of_getElem? h1
  have hn : a ∉ ρ.take m := fun q => by
    obtain ⟨j, hj⟩ := List.mem_iff_getElem?.mp q
    have hjm : j < m := by
      have := (List.getElem?_eq_some_iff.mp hj).1
      rw [List.length_take] at this
      omega
    rw [List.getElem?_take_of_lt hjm] at hj
    have := nd_ix s.nd hj h1
    omega
  refine ⟨?_, by simp [s.len], fun j b u e1 e2 => ?_⟩
  · rw [List.nodup_append]
    exact ⟨s.nd.sublist (List.take_sublist _ _), by simp, fun b hb c hc z => by rw [List.mem_singleton] at hc; rw [z, hc] at hb; exact hn hb⟩
  · have hl : (ρ.take m).length = m := by rw [List.length_take]; omega
    have hl' : (S.take m).length = m := by rw [List.length_take, ← s.len]; omega
    by_cases hj : j < m
    · rw [List.getElem?_append_left (by rw [hl]; exact hj), List.getElem?_take_of_lt hj] at e1
      rw [List.getElem?_append_left (by rw [hl']; exact hj), List.getElem?_take_of_lt hj] at e2
      exact (s.at_ j b u e1 e2).free hsub
    · have e : j = m := by
        have := (List.getElem?_eq_some_iff.mp e1).1
        rw [List.length_append, hl] at this
        simp at this
        omega
      subst e
      rw [List.getElem?_append_right (by rw [hl]; exact Nat.le_refl _), hl, Nat.sub_self] at e1
      rw [List.getElem?_append_right (by rw [hl']; exact Nat.le_refl _), hl', Nat.sub_self] at e2
      simp at e1 e2
      subst e1 e2
      exact (s.at_ k _ _ h1 h2).free hsub
theorem RL.mono {l : Lo} {σ : L2.St} (e : Ext ρ H ρ' H') (h : RL K ρ H l σ) : RL K ρ' H' l σ :=
  ⟨h.len, fun i d q => let ⟨v, h1, h2⟩ := h.at_ i d q; ⟨v, h1, h2.mono e⟩⟩
theorem RL.set {l : Lo} {σ : L2.St} (h : RL K ρ H l σ) (i : Nat) {d : DV} {v : V} (hv : RV K ρ H d v) : RL K ρ H (l.set i (some d)) (σ.set i (some v)) := by
  refine ⟨by simp [h.len], fun j x q => ?_⟩
  by_cases hj : j = i
  · subst hj
    have hl : j < l.length := by
      have := (List.getElem?_eq_some_iff.mp q).1
      simpa using this
    rw [List.getElem?_set_self hl] at q
    cases q
    exact ⟨v, List.getElem?_set_self (by rw [← h.len]; exact hl), hv⟩
  · rw [List.getElem?_set_ne (Ne.symm hj)] at q
    obtain ⟨u, h1, h2⟩ := h.at_ j x q
    exact ⟨u, by rw [List.getElem?_set_ne (Ne.symm hj)]; exact h1, h2⟩
theorem RL.forget {l : Lo} {σ : L2.St} (h : RL K ρ H l σ) (i : Nat) : RL K ρ H (l.set i none) (σ.set i none) := by
  refine ⟨by simp [h.len], fun j x q => ?_⟩
  by_cases hj : j = i
  · subst hj
    have hl : j < l.length := by
      have := (List.getElem?_eq_some_iff.mp q).1
      simpa using this
    rw [List.getElem?_set_self hl] at q
    cases q
  · rw [List.getElem?_set_ne (Ne.symm hj)] at q
    obtain ⟨u, h1, h2⟩ := h.at_ j x q
    exact ⟨u, by rw [List.getElem?_set_ne (Ne.symm hj)]; exact h1, h2⟩
theorem RL.wipe {l : Lo} {σ : L2.St} (h : RL K ρ H l σ) : ∀ vs : List Nat, RL K ρ H (wipeL l vs) (wipe σ vs)
  | [] => h
  | v :: vs => (RL.wipe h vs).forget v
end
end Y
/-! The readings of the combinators: expressions. -/
namespace Y
open PySem L2

theorem LIM_eq : LIM = sizeLine := by rw [sizeLine_eq]
/-- an exception: its class's number told by rx -/
abbrev Rx := Nat → Value → Prop
def RX (K : PySem.W.Frag) (ρ : List Addr) (H : Hp) (rx : Rx) (c : Nat) (x : DV) (cls : Value) (od : Option Addr) : Prop := rx c cls ∧ noRef x = true ∧ ((x = .non ∧ od = none) ∨ ∃ (dd : Addr) (fs : List (Str × V)) (u : V), od = some dd ∧ dd ∉ ρ ∧ H dd = some (.xd fs) ∧ fs.lookup (XFl c) = some u ∧ RV K ρ H x u)
theorem RX.cut {K : PySem.W.Frag} {ρ ρ' : List Addr} {H : Hp} {rx : Rx} {c : Nat} {x : DV} {cls : Value} {od : Option Addr} (hs : ∀ a ∈ ρ', a ∈ ρ) (h : RX K ρ H rx c x cls od) : RX K ρ' H rx c x cls od := by
  obtain ⟨h1, h2, h3⟩ := h
  refine ⟨h1, h2, ?_⟩
  rcases h3 with h3 | ⟨dd, fs, u, q1, q2, q3, q4, q5⟩
  · exact .inl h3
  · exact .inr ⟨dd, fs, u, q1, fun z => q2 (hs dd z), q3, q4, q5.free hs h2⟩
def Post {α : Type} (K : PySem.W.Frag) (rx : Rx) (W : WX) (ρ : List Addr) (H : Hp) (o : Out α) (R : α → Sto → Prop) : Prop := match o with
  | .ok a S => R a S
  | .exc c x l S => ∀ ρ' H' σ' cls od, Ext ρ H ρ' H' → RS K ρ' H' S → RL K ρ' H' l σ' → RX K ρ' H' rx c x cls od → W cls od σ' H'
  | .bad => False
section
variable {α β : Type} {K : PySem.W.Frag} {rx : Rx} {W : WX} {ρ ρ1 : List Addr} {H H1 : Hp}
theorem Post.imp {o : Out α} {R R' : α → Sto → Prop} (h : Post K rx W ρ H o R) (f : ∀ a S, R a S → R' a S) : Post K rx W ρ H o R' := by
  cases o with
  | ok a S => exact f a S h
  | exc c x l S => exact h
  | bad => exact h
theorem Post.bind {o : Out α} {f : α → Sto → Out β} {R : β → Sto → Prop} (h : Post K rx W ρ H (o.bind f) R) : Post K rx W ρ H o fun a S => Post K rx W ρ H (f a S) R := by
  cases o with
  | ok a S => exact h
  | exc c x l S => exact h
  | bad => exact h
theorem Post.shift {o : Out α} {R : α → Sto → Prop} (e : Ext ρ H ρ1 H1) (h : Post K rx W ρ H o R) : Post K rx W ρ1 H1 o R := by
  cases o with
  | ok a S => exact h
  | exc c x l S => exact fun ρ' H' σ' cls od e' => h ρ' H' σ' cls od (e.trans e')
  | bad => exact h
theorem Post.of {o : Option α} {S : Sto} {R : α → Sto → Prop} (h : Post K rx W ρ H (Out.of o S) R) : ∃ a, o = some a ∧ R a S := by
  cases o with
  | some a => exact ⟨a, rfl, h⟩
  | none => exact False.elim h
end

/-! ### readings -/
def QE (K : PySem.W.Frag) (ρ : List Addr) (H : Hp) (Q : VK) : DV → Sto → Prop := fun d S => ∀ ρ' H' v, Ext ρ H ρ' H' → RS K ρ' H' S → RV K ρ' H' d v → Q v H'
def QB (K : PySem.W.Frag) (ρ : List Addr) (H : Hp) (Q : Bool → Hp → Prop) : Bool → Sto → Prop := fun b S => ∀ ρ' H', Ext ρ H ρ' H' → RS K ρ' H' S → Q b H'
def QA (K : PySem.W.Frag) (ρ : List Addr) (H : Hp) (Q : List V → Hp → Prop) : List DV → Sto → Prop := fun d S => ∀ ρ' H' v, Ext ρ H ρ' H' → RS K ρ' H' S → RVs K ρ' H' d v → Q v H'
def QP (K : PySem.W.Frag) (ρ : List Addr) (H : Hp) (Q : Option Int → Hp → Prop) : Option Int → Sto → Prop := fun b S => ∀ ρ' H', Ext ρ H ρ' H' → RS K ρ' H' S → Q b H'
def tI (K : PySem.W.Frag) (rx : Rx) (W : WX) (m : ME) : TE := fun σ H Q => ∃ ρ l S, RL K ρ H l σ ∧ RS K ρ H S ∧ Post K rx W ρ H (m l S) (QE K ρ H Q)
def tT (K : PySem.W.Frag) (rx : Rx) (W : WX) (m : MT) : TT := fun σ H Q => ∃ ρ l S, RL K ρ H l σ ∧ RS K ρ H S ∧ Post K rx W ρ H (m l S) (QB K ρ H Q)
def tA (K : PySem.W.Frag) (rx : Rx) (W : WX) (m : MA) : TA := fun σ H Q => ∃ ρ l S, RL K ρ H l σ ∧ RS K ρ H S ∧ Post K rx W ρ H (m l S) (QA K ρ H Q)
def tP (K : PySem.W.Frag) (rx : Rx) (W : WX) (m : Lo → Sto → Out (Option Int)) : TO := fun σ H Q => ∃ ρ l S, RL K ρ H l σ ∧ RS K ρ H S ∧ Post K rx W ρ H (m l S) (QP K ρ H Q)

theorem pe_imp {X : Cx} {e : Expr} {t t' : TE} (h : PE X e t) (f : ∀ σ H Q, t' σ H Q → t σ H Q) : PE X e t' := ⟨fun pins s σ H Q I q => h.run pins s σ H Q I (f σ H Q q)⟩
theorem pt_imp {X : Cx} {e : Expr} {t t' : TT} (h : PT X e t) (f : ∀ σ H Q, t' σ H Q → t σ H Q) : PT X e t' := ⟨fun pins s σ H Q I q => h.run pins s σ H Q I (f σ H Q q)⟩
theorem pw_imp {X : Cx} {e : Expr} {t t' : TT} (h : PW X e t) (f : ∀ σ H Q, t' σ H Q → t σ H Q) : PW X e t' := ⟨fun w pins s σ H Q I q => h.run w pins s σ H Q I (f σ H Q q)⟩
theorem pa_imp {X : Cx} {e : List Expr} {t t' : TA} (h : PA X e t) (f : ∀ σ H Q, t' σ H Q → t σ H Q) : PA X e t' := ⟨fun p pins s σ H Q I q => h.run p pins s σ H Q I (f σ H Q q)⟩
theorem po_imp {X : Cx} {e : Option Expr} {t t' : TO} (h : PO X e t) (f : ∀ σ H Q, t' σ H Q → t σ H Q) : PO X e t' := ⟨fun pins s σ H Q I q => h.run pins s σ H Q I (f σ H Q q)⟩
theorem pe_or2 {X : Cx} {e : Expr} {t t' : TE} (h : PE X e t) (h' : PE X e t') : PE X e (fun σ H Q => t σ H Q ∨ t' σ H Q) :=
  ⟨fun pins s σ H Q I q => q.elim (h.run pins s σ H Q I) (h'.run pins s σ H Q I)⟩

/-- a step of two: from what the whole wants to what the first wants -/
theorem bindI {α : Type} {K : PySem.W.Frag} {rx : Rx} {W : WX} {ma : ME} {σ : L2.St} {H : Hp} {ρ : List Addr} {l : Lo} {S : Sto} {f : DV → Sto → Out α} {R : α → Sto → Prop} {Q1 : VK}
    (hl : RL K ρ H l σ) (hs : RS K ρ H S) (h : Post K rx W ρ H ((ma l S).bind f) R)
    (k : ∀ ρ1 H1 x S1 v, Ext ρ H ρ1 H1 → RS K ρ1 H1 S1 → RL K ρ1 H1 l σ → RV K ρ1 H1 x v → Post K rx W ρ1 H1 (f x S1) R → Q1 v H1) : tI K rx W ma σ H Q1 :=
  ⟨ρ, l, S, hl, hs, h.bind.imp fun x S1 q ρ1 H1 v e s r => k ρ1 H1 x S1 v e s (hl.mono e) r (q.shift e)⟩

section
variable {X : Cx} {rx : Rx} {W : WX}
abbrev IE (X : Cx) (rx : Rx) (W : WX) (e : Expr) (m : ME) : Prop := PE X e (tI X.K rx W m)
abbrev IT (X : Cx) (rx : Rx) (W : WX) (e : Expr) (m : MT) : Prop := PT X e (tT X.K rx W m)
abbrev IA (X : Cx) (rx : Rx) (W : WX) (e : List Expr) (m : MA) : Prop := PA X e (tA X.K rx W m)
abbrev IP (X : Cx) (rx : Rx) (W : WX) (e : Option Expr) (m : Option ME) : Prop := PO X e (tP X.K rx W (part m))

/-! ### names, constants -/
theorem v_var (i : Nat) {x : Str} {pos : Pos} (hN : X.N[i]? = some x := by rfl) (hv : Vis X.env.scope x := by first | exact Or.inl rfl | exact Or.inr (Or.inl rfl) | exact Or.inr (Or.inr rfl)) (hd : (x == ("__debug__" : Str)) = false := by decide)
    (hcd : (x == ("__classdict__" : Str)) = false := by decide) : IE X rx W (.Name x pos) (var i) := by
  refine pe_imp (pe_var hN hv hd hcd) fun σ H Q h => ?_
  obtain ⟨ρ, l, S, hl, hs, h⟩ := h
  unfold var at h
  split at h
  · rename_i d e
    obtain ⟨v, h1, h2⟩ := hl.at_ i d e
    exact ⟨v, h1, h ρ H v .refl hs h2⟩
  · exact False.elim h
theorem v_c {e : Expr} {d : DV} {v : V} (h : PE X e (tC v)) (r : ∀ ρ H, RV X.K ρ H d v) : IE X rx W e (cst d) :=
  pe_imp h fun σ H Q ⟨ρ, l, S, hl, hs, h⟩ => h ρ H v .refl hs (r ρ H)
theorem v_int {i j pos} : IE X rx W (.Constant (.int i) j pos) (cst (.int i)) := v_c pe_int fun _ _ => by simp [RV]
theorem v_bl {i j pos} : IE X rx W (.Constant (.bool i) j pos) (cst (.bl i)) := v_c pe_bl fun _ _ => by simp [RV]
theorem v_non {j pos} : IE X rx W (.Constant .none j pos) (cst .non) := v_c pe_non fun _ _ => by simp [RV]
theorem v_str {i j pos} : IE X rx W (.Constant (.str i) j pos) (cst (.str i)) := v_c pe_str fun _ _ => by simp [RV]
/-- a constant of the module -/
def MgC (K : PySem.W.Frag) (mg : Str → Option Value) (x : Str) (d : DV) : Prop := ∃ v u, mg x = some u ∧ RelV v u ∧ ∀ ρ H, RV K ρ H d v
theorem v_glob {x : Str} {d : DV} {pos : Pos} (c : MgC X.K X.mg x d) (hg : Gl X x := by rfl) (hd : (x == ("__debug__" : Str)) = false := by decide) : IE X rx W (.Name x pos) (cst d) := by
  obtain ⟨v, u, h1, h2, h3⟩ := c
  exact v_c (pe_glob hg h1 h2 hd) h3

/-! ### operators -/
theorem v_op {op : Operator} {r : R2} {f : Sto → DV → DV → Option DV} {a b : Expr} {ma mb : ME} {pos : Pos} (ho : OpR X (binaryOp op) r)
    (hf : ∀ {ρ : List Addr} {H : Hp} {S : Sto} {x y d : DV} {v u : V} {Q : VK}, RS X.K ρ H S → RV X.K ρ H x v → RV X.K ρ H y u → f S x y = some d → QE X.K ρ H Q d S → r v u H Q)
    (ha : IE X rx W a ma) (hb : IE X rx W b mb) : IE X rx W (.BinOp a op b pos) (op2 f ma mb) := by
  refine pe_imp (pe_op ho ha hb) fun σ H Q ⟨ρ, l, S, hl, hs, h⟩ => ?_
  refine bindI hl hs h fun ρ1 H1 x S1 v e1 s1 l1 r1 h1 => ?_
  refine bindI l1 s1 h1 fun ρ2 H2 y S2 u e2 s2 l2 r2 h2 => ?_
  obtain ⟨d, hd, q⟩ := h2.of
  exact hf s2 (r1.mono e2) r2 hd fun ρ' H' w e s r => q ρ' H' w (e1.trans (e2.trans e)) s r
theorem v_cmp {op : CmpOp} {r : R2} {f : Sto → DV → DV → Option Bool} {g : Bool → Bool} {a b : Expr} {ma mb : ME} {pos : Pos} (ho : OpR X (compareOp op) r) (hm : behindInMarks op b = false)
    (hf : ∀ {ρ : List Addr} {H : Hp} {S : Sto} {x y : DV} {c : Bool} {v u : V} {Q : VK}, RS X.K ρ H S → RV X.K ρ H x v → RV X.K ρ H y u → f S x y = some c → Q (.bl (g c)) H → r v u H Q)
    (ha : IE X rx W a ma) (hb : IE X rx W b mb) : IE X rx W (.Compare a [op] [b] pos) (op2 (fun S x y => (f S x y).map fun c => .bl (g c)) ma mb) := by
  refine pe_imp (pe_cmpR ho ha hb hm) fun σ H Q ⟨ρ, l, S, hl, hs, h⟩ => ?_
  refine bindI hl hs h fun ρ1 H1 x S1 v e1 s1 l1 r1 h1 => ?_
  refine bindI l1 s1 h1 fun ρ2 H2 y S2 u e2 s2 l2 r2 h2 => ?_
  obtain ⟨d, hd, q⟩ := h2.of
  dsimp only at hd
  cases hc : f S2 x y with
  | none => rw [hc] at hd; cases hd
  | some c =>
    rw [hc] at hd
    cases hd
    exact hf s2 (r1.mono e2) r2 hc (q ρ2 H2 _ (e1.trans e2) s2 (by simp [RV]))
theorem v_tcmp {op : CmpOp} {r : R2} {f : Sto → DV → DV → Option Bool} {g : Bool → Bool} {a b : Expr} {ma mb : ME} {pos : Pos} (ho : OpR X (compareOp op) r) (hm : behindInMarks op b = false)
    (hf : ∀ {ρ : List Addr} {H : Hp} {S : Sto} {x y : DV} {c : Bool} {v u : V} {Q : VK}, RS X.K ρ H S → RV X.K ρ H x v → RV X.K ρ H y u → f S x y = some c → Q (.bl (g c)) H → r v u H Q)
    (ha : IE X rx W a ma) (hb : IE X rx W b mb) : IT X rx W (.Compare a [op] [b] pos) (tst (op2 (fun S x y => (f S x y).map fun c => .bl (g c)) ma mb)) := by
  refine pt_imp (pt_cmpR ho ha hb hm) fun σ H Q ⟨ρ, l, S, hl, hs, h⟩ => ?_
  have h := Post.bind h
  refine bindI hl hs h fun ρ1 H1 x S1 v e1 s1 l1 r1 h1 => ?_
  refine bindI l1 s1 h1 fun ρ2 H2 y S2 u e2 s2 l2 r2 h2 => ?_
  obtain ⟨d, hd, q⟩ := h2.of
  dsimp only at hd
  cases hc : f S2 x y with
  | none => rw [hc] at hd; cases hd
  | some c =>
    rw [hc] at hd
    cases hd
    exact hf s2 (r1.mono e2) r2 hc ⟨g c, rfl, q ρ2 H2 (e1.trans e2) s2⟩
end

/-! ### what a value is -/
section
variable {K : PySem.W.Frag} {ρ : List Addr} {H : Hp} {S : Sto}
theorem RV.int {i : Int} {v : V} (h : RV K ρ H (.int i) v) : v = .int i := by simpa only [RV] using h
theorem RV.str {i : Str} {v : V} (h : RV K ρ H (.str i) v) : v = .str i := by simpa only [RV] using h
theorem RV.bl {i : Bool} {v : V} (h : RV K ρ H (.bl i) v) : v = .bl i := by simpa only [RV] using h
theorem RV.non {v : V} (h : RV K ρ H .non v) : v = .non := by simpa only [RV] using h
theorem RV.tup {xs : List DV} {v : V} (h : RV K ρ H (.tup xs) v) : ∃ a vs, v = .ref a ∧ SqT K H a vs ∧ RVs K ρ H xs vs := by simpa only [RV] using h
/-- a list that is tracked -/
theorem RV.lstOf (s : RS K ρ H S) {x : DV} {xs : List DV} {v : V} (h : RV K ρ H x v) (e : lstOf S x = some xs) : ∃ a vs, v = .ref a ∧ H a = some (.lst vs) ∧ RVs K ρ H xs vs := by
  cases x with
  | lst ys =>
    simp only [Y.lstOf, Option.some.injEq] at e
    subst e
    simp only [RV] at h
    obtain ⟨a, vs, h1, _, h3, h4⟩ := h
    exact ⟨a, vs, h1, h3, h4⟩
  | ref k =>
    simp only [RV] at h
    obtain ⟨a, h1, h2⟩ := h
    unfold Y.lstOf at e
    dsimp only at e
    split at e
    · rename_i zs q
      cases e
      obtain ⟨vs, h3, h4, _⟩ := s.at_ k a _ h1 q
      exact ⟨a, vs, h2, h3, h4⟩
    · cases e
  | _ => simp [Y.lstOf] at e
theorem RV.seqOf (s : RS K ρ H S) {x : DV} {xs : List DV} {v : V} (h : RV K ρ H x v) (e : seqOf S x = some xs) : ∃ a vs, v = .ref a ∧ (SqL K H a vs ∨ SqT K H a vs) ∧ RVs K ρ H xs vs := by
  cases x with
  | tup ys =>
    simp only [Y.seqOf, Option.some.injEq] at e
    subst e
    obtain ⟨a, vs, h1, h2, h3⟩ := h.tup
    exact ⟨a, vs, h1, .inr h2, h3⟩
  | rol ys =>
    simp only [Y.seqOf, Option.some.injEq] at e
    subst e
    simp only [RV] at h
    obtain ⟨a, vs, h1, h2, h3⟩ := h
    exact ⟨a, vs, h1, .inl h2.seq, h3⟩
  | lst ys =>
    obtain ⟨a, vs, h1, h2, h3⟩ := h.lstOf s (xs := ys) rfl
    simp only [Y.seqOf, Option.some.injEq] at e
    subst e
    exact ⟨a, vs, h1, .inl (SqL.of h2), h3⟩
  | ref k =>
    obtain ⟨a, vs, h1, h2, h3⟩ := h.lstOf s (xs := xs) (by simpa [Y.lstOf, Y.seqOf] using e)
    exact ⟨a, vs, h1, .inl (SqL.of h2), h3⟩
  | _ => simp [Y.seqOf] at e
/-- a list, not a tuple -/
theorem RV.seqL (s : RS K ρ H S) {x : DV} {xs : List DV} {v : V} (h : RV K ρ H x v) (e : Y.seqOf S x = some xs) (n : ∀ ys, x ≠ .tup ys) : ∃ a vs, v = .ref a ∧ SqL K H a vs ∧ RVs K ρ H xs vs := by
  cases x with
  | tup ys => exact absurd rfl (n ys)
  | rol ys =>
    simp only [Y.seqOf, Option.some.injEq] at e
    subst e
    simp only [RV] at h
    obtain ⟨a, vs, h1, h2, h3⟩ := h
    exact ⟨a, vs, h1, h2.seq, h3⟩
  | lst ys =>
    obtain ⟨a, vs, h1, h2, h3⟩ := h.lstOf s (xs := ys) rfl
    simp only [Y.seqOf, Option.some.injEq] at e
    subst e
    exact ⟨a, vs, h1, SqL.of h2, h3⟩
  | ref k =>
    obtain ⟨a, vs, h1, h2, h3⟩ := h.lstOf s (xs := xs) (by simpa [Y.lstOf, Y.seqOf] using e)
    exact ⟨a, vs, h1, SqL.of h2, h3⟩
  | _ => simp [Y.seqOf] at e
end

section
variable {X : Cx} {rx : Rx} {W : WX} {a b : Expr} {ma mb : ME} {pos : Pos}
theorem v_add (ha : IE X rx W a ma) (hb : IE X rx W b mb) : IE X rx W (.BinOp a .Add b pos) (add ma mb) := by
  refine v_op ((op_add.or op_add_str).or (op_catA.or op_cat)) (fun {ρ H S x y d v u Q} s rx' ry e q => ?_) ha hb
  unfold addV at e
  split at e
  · cases e
    exact .inl (.inl ⟨_, _, rx'.int, ry.int, q ρ H _ .refl s (by simp [RV])⟩)
  · split at e
    · rename_i hz
      cases e
      exact .inl (.inr ⟨_, _, rx'.str, ry.str, by rw [← LIM_eq]; exact hz, q ρ H _ .refl s (by simp [RV])⟩)
    · cases e
  · rename_i xs ys
    split at e
    · rename_i hz
      cases e
      obtain ⟨p, vs, rfl, h1, h2⟩ := rx'.tup
      obtain ⟨p', ws, rfl, h1', h2'⟩ := ry.tup
      have hl := h2.length
      have hl' := h2'.length
      refine .inr (.inl ⟨p, p', vs, ws, rfl, rfl, h1, h1', by rw [← LIM_eq, ← hl, ← hl']; exact hz, fun en => ?_, fun _ en => ?_, fun _ _ t ht => ?_⟩)
      · refine q ρ H _ .refl s ?_
        have : xs = [] := List.eq_nil_of_length_eq_zero (by rw [hl, en]; rfl)
        subst this
        simp only [RV, List.nil_append]
        exact ⟨p', ws, rfl, h1', h2'⟩
      · refine q ρ H _ .refl s ?_
        have : ys = [] := List.eq_nil_of_length_eq_zero (by rw [hl', en]; rfl)
        subst this
        simp only [RV, List.append_nil]
        exact ⟨p, vs, rfl, h1, h2⟩
      · refine q ρ _ _ (ext_new ht) (s.new ht) ?_
        simp only [RV]
        exact ⟨t, _, rfl, SqT.of upd_same, (h2.append h2').mono (ext_new ht)⟩
    · cases e
  · split at e
    · rename_i xs ys ex ey
      split at e
      · rename_i hz
        cases e
        obtain ⟨p, vs, rfl, h1, h2⟩ := rx'.lstOf s ex
        obtain ⟨p', ws, rfl, h1', h2'⟩ := ry.lstOf s ey
        refine .inr (.inr ⟨p, p', vs, ws, rfl, rfl, h1, h1', by rw [← LIM_eq, ← h2.length, ← h2'.length]; exact hz, fun t ht => ?_⟩)
        refine q ρ _ _ (ext_new ht) (s.new ht) ?_
        simp only [RV]
        refine ⟨t, _, rfl, fun m => ?_, upd_same, (h2.append h2').mono (ext_new ht)⟩
        obtain ⟨z, hz, _⟩ := s.there m
        rw [ht] at hz; cases hz
      · cases e
    · cases e
theorem v_sub (ha : IE X rx W a ma) (hb : IE X rx W b mb) : IE X rx W (.BinOp a .Sub b pos) (sub ma mb) := by
  refine v_op op_sub (fun {ρ H S x y d v u Q} s rx' ry e q => ?_) ha hb
  unfold subV at e
  split at e
  · cases e
    exact ⟨_, _, rx'.int, ry.int, q ρ H _ .refl s (by simp [RV])⟩
  · cases e
theorem MulOk.or {i j : Int} (h : MulOk i j) : CMul i j ∨ CMulW i j := by
  rcases h with h | h | h
  · exact .inl (.inl h)
  · exact .inl (.inr h)
  · exact .inr (wide_mul h.1 h.2 (by decide) (by decide) (by decide))
theorem v_mul (ha : IE X rx W a ma) (hb : IE X rx W b mb) : IE X rx W (.BinOp a .Mult b pos) (mul ma mb) := by
  refine v_op (op_mul.or op_mulW) (fun {ρ H S x y d v u Q} s rx' ry e q => ?_) ha hb
  unfold mulV at e
  split at e
  · split at e
    · rename_i hm
      cases e
      rcases hm.or with h | h
      · exact .inl ⟨_, _, rx'.int, ry.int, h, q ρ H _ .refl s (by simp [RV])⟩
      · exact .inr ⟨_, _, rx'.int, ry.int, h, q ρ H _ .refl s (by simp [RV])⟩
    · cases e
  · cases e
theorem v_mod (ha : IE X rx W a ma) (hb : IE X rx W b mb) : IE X rx W (.BinOp a .Mod b pos) (mod ma mb) := by
  refine v_op op_mod (fun {ρ H S x y d v u Q} s rx' ry e q => ?_) ha hb
  unfold modV at e
  split at e
  · split at e
    · rename_i hm
      cases e
      exact ⟨_, _, rx'.int, ry.int, hm, q ρ H _ .refl s (by simp [RV])⟩
    · cases e
  · cases e
theorem v_fdiv (ha : IE X rx W a ma) (hb : IE X rx W b mb) : IE X rx W (.BinOp a .FloorDiv b pos) (fdiv ma mb) := by
  refine v_op op_fdivW (fun {ρ H S x y d v u Q} s rx' ry e q => ?_) ha hb
  unfold divV at e
  split at e
  · split at e
    · rename_i hm
      cases e
      exact ⟨_, _, rx'.int, ry.int, wide_div hm.1 hm.2 (by decide) (by decide), q ρ H _ .refl s (by simp [RV])⟩
    · cases e
  · cases e
theorem v_pow (ha : IE X rx W a ma) (hb : IE X rx W b mb) : IE X rx W (.BinOp a .Pow b pos) (pow ma mb) := by
  refine v_op op_pow (fun {ρ H S x y d v u Q} s rx' ry e q => ?_) ha hb
  unfold powV at e
  split at e
  · split at e
    · rename_i hm
      cases e
      exact ⟨_, _, rx'.int, ry.int, ⟨hm.1, by have := hm.2.1; omega, hm.2.2⟩, q ρ H _ .refl s (by simp [RV])⟩
    · cases e
  · cases e
theorem v_neg (ha : IE X rx W a ma) : IE X rx W (.UnaryOp .USub a pos) (neg ma) := by
  refine pe_imp (pe_un un_neg ha) fun σ H Q ⟨ρ, l, S, hl, hs, h⟩ => ?_
  refine bindI hl hs h fun ρ1 H1 x S1 v e1 s1 l1 r1 h1 => ?_
  obtain ⟨d, hd, q⟩ := h1.of
  dsimp only at hd
  unfold negV at hd
  split at hd
  · cases hd
    exact ⟨_, r1.int, q ρ1 H1 _ e1 s1 (by simp [RV])⟩
  · cases hd

/-! ### comparisons -/
theorem scal_ok {K : PySem.W.Frag} {ρ : List Addr} {H : Hp} {x y : DV} {v u : V} (h : scalD x y = true) (rx' : RV K ρ H x v) (ry : RV K ρ H y u) : scal v u = true ∧ decide (v = u) = eqB x y := by
  have key : ∀ {p q : Prop} [Decidable p] {x y : DV}, (x = y ↔ q) → (p ↔ q) → decide p = eqB x y := fun {p q} _ x y h1 h2 => by
    rw [Bool.eq_iff_iff, eqB_iff, h1, decide_eq_true_iff, h2]
  cases x <;> cases y <;> simp only [scalD] at h <;> first | (exact absurd h (by decide)) | skip
  all_goals
    simp only [RV] at rx' ry
    subst rx' ry
    refine ⟨rfl, ?_⟩
    rw [Bool.eq_iff_iff, eqB_iff, decide_eq_true_iff]
    simp
end
end Y
namespace Y
open PySem L2

/-! ### data as a whole -/
mutual
def toPy : DV → PyData
  | .non => .none
  | .bl b => .bool b
  | .int i => .int i
  | .str s => .str s
  | .tup xs => .tuple (toPys xs)
  | .lst xs => .list (toPys xs)
  | _ => .none
def toPys : List DV → List PyData
  | [] => []
  | x :: xs => toPy x :: toPys xs
end
mutual
theorem plain_lay : ∀ (n : Nat) (d : DV), plain n d = true → (toPy d).canLay0 = true ∧ (toPy d).depth ≤ n
  | n, .non, _ => by simp [toPy, PyData.canLay0, PyData.depth]
  | n, .int _, _ => by simp [toPy, PyData.canLay0, PyData.depth]
  | n, .str _, h => by simpa [toPy, PyData.canLay0, PyData.depth, plain] using h
  | n + 1, .tup xs, h => by
    have q := plains_lay n xs (by simpa [plain] using h)
    simp only [toPy, PyData.canLay0, PyData.depth]
    exact ⟨q.1, by omega⟩
  | n + 1, .lst xs, h => by
    have q := plains_lay n xs (by simpa [plain] using h)
    simp only [toPy, PyData.canLay0, PyData.depth]
    exact ⟨q.1, by omega⟩
  | 0, .tup _, h => by simp [plain] at h
  | 0, .lst _, h => by simp [plain] at h
  | _, .bl _, h => by simp [plain] at h
  | _, .rol _, h => by simp [plain] at h
  | _, .dk _, h => by simp [plain] at h
  | _, .fz _, h => by simp [plain] at h
  | _, .ref _, h => by simp [plain] at h
theorem plains_lay : ∀ (n : Nat) (xs : List DV), plains n xs = true → PyData.canLayAll0 (toPys xs) = true ∧ PyData.depthAll (toPys xs) ≤ n
  | n, [], _ => by simp [toPys, PyData.canLayAll0, PyData.depthAll]
  | n, x :: xs, h => by
    simp only [plains, Bool.and_eq_true] at h
    have q := plain_lay n x h.1
    have q' := plains_lay n xs h.2
    simp only [toPys, PyData.canLayAll0, PyData.depthAll, Bool.and_eq_true]
    exact ⟨⟨q.1, q'.1⟩, Nat.max_le.mpr ⟨q.2, q'.2⟩⟩
end
theorem plain_shaped {d : DV} (h : plain 60 d = true) : SeqAt.shaped (toPy d) = true := by
  obtain ⟨h1, h2⟩ := plain_lay 60 d h
  unfold SeqAt.shaped
  rw [h1, Bool.true_and]
  exact decide_eq_true (by omega)
mutual
theorem plain_eqv : ∀ (n : Nat) (d : DV) (m : Nat) (e : DV), plain n d = true → plain m e = true → (PyData.eqv (toPy d) (toPy e) = true ↔ d = e)
  | n, .non, m, e, _, h' => by cases e <;> simp [toPy, PyData.eqv] <;> simp [plain] at h'
  | n, .int _, m, e, _, h' => by cases e <;> simp [toPy, PyData.eqv] <;> simp [plain] at h'
  | n, .str _, m, e, _, h' => by cases e <;> simp [toPy, PyData.eqv] <;> simp [plain] at h'
  | n + 1, .tup xs, m, e, h, h' => by
    cases e with
    | tup ys =>
      cases m with
      | zero => simp [plain] at h'
      | succ m =>
        simp only [toPy, PyData.eqv, DV.tup.injEq]
        exact plains_eqv n xs m ys (by simpa [plain] using h) (by simpa [plain] using h')
    | _ => simp [toPy, PyData.eqv] <;> simp [plain] at h'
  | n + 1, .lst xs, m, e, h, h' => by
    cases e with
    | lst ys =>
      cases m with
      | zero => simp [plain] at h'
      | succ m =>
        simp only [toPy, PyData.eqv, DV.lst.injEq]
        exact plains_eqv n xs m ys (by simpa [plain] using h) (by simpa [plain] using h')
    | _ => simp [toPy, PyData.eqv] <;> simp [plain] at h'
  | 0, .tup _, _, _, h, _ => by simp [plain] at h
  | 0, .lst _, _, _, h, _ => by simp [plain] at h
  | _, .bl _, _, _, h, _ => by simp [plain] at h
  | _, .rol _, _, _, h, _ => by simp [plain] at h
  | _, .dk _, _, _, h, _ => by simp [plain] at h
  | _, .fz _, _, _, h, _ => by simp [plain] at h
  | _, .ref _, _, _, h, _ => by simp [plain] at h
theorem plains_eqv : ∀ (n : Nat) (xs : List DV) (m : Nat) (ys : List DV), plains n xs = true → plains m ys = true → (PyData.eqvAll (toPys xs) (toPys ys) = true ↔ xs = ys)
  | n, [], m, [], _, _ => by simp [toPys, PyData.eqvAll]
  | n, [], m, y :: ys, _, _ => by simp [toPys, PyData.eqvAll]
  | n, x :: xs, m, [], _, _ => by simp [toPys, PyData.eqvAll]
  | n, x :: xs, m, y :: ys, h, h' => by
    simp only [plains, Bool.and_eq_true] at h h'
    simp only [toPys, PyData.eqvAll, Bool.and_eq_true, List.cons.injEq]
    rw [plain_eqv n x m y h.1 h'.1, plains_eqv n xs m ys h.2 h'.2]
end
section
variable {K : PySem.W.Frag} {ρ : List Addr} {H : Hp} {S : Sto}
mutual
theorem RV.dp : ∀ (n : Nat) (d : DV) (v : V), plain n d = true → RV K ρ H d v → Dp K H v (toPy d)
  | n, .non, v, _, r => by rw [r.non]; exact .non
  | n, .int _, v, _, r => by rw [r.int]; exact .int _
  | n, .str _, v, _, r => by rw [r.str]; exact .str _
  | n + 1, .tup xs, v, h, r => by
    obtain ⟨a, vs, rfl, h1, h2⟩ := r.tup
    simp only [toPy]
    exact .tup h1 (RVs.dp n xs vs (by simpa [plain] using h) h2)
  | n + 1, .lst xs, v, h, r => by
    simp only [RV] at r
    obtain ⟨a, vs, rfl, _, h1, h2⟩ := r
    simp only [toPy]
    exact .lst (SqL.of h1) (RVs.dp n xs vs (by simpa [plain] using h) h2)
  | 0, .tup _, _, h, _ => by simp [plain] at h
  | 0, .lst _, _, h, _ => by simp [plain] at h
  | _, .bl _, _, h, _ => by simp [plain] at h
  | _, .rol _, _, h, _ => by simp [plain] at h
  | _, .dk _, _, h, _ => by simp [plain] at h
  | _, .fz _, _, h, _ => by simp [plain] at h
  | _, .ref _, _, h, _ => by simp [plain] at h
theorem RVs.dp : ∀ (n : Nat) (xs : List DV) (vs : List V), plains n xs = true → RVs K ρ H xs vs → DpAll K H vs (toPys xs)
  | n, [], vs, _, r => by simp only [RVs] at r; rw [r]; exact .nil
  | n, x :: xs, vs, h, r => by
    simp only [RVs] at r
    obtain ⟨v, t, rfl, h2, h3⟩ := r
    simp only [plains, Bool.and_eq_true] at h
    exact .cons (RV.dp n x v h.1 h2) (RVs.dp n xs t h.2 h3)
end
theorem RV.dpR (s : RS K ρ H S) {x : DV} {v : V} (h : plain 60 (rd S x) = true) (r : RV K ρ H x v) : Dp K H v (toPy (rd S x)) := by
  cases x with
  | ref k =>
    simp only [RV] at r
    obtain ⟨a, h1, rfl⟩ := r
    simp only [rd] at h ⊢
    split at h
    · rename_i x hx
      have q := s.at_ k a x h1 hx
      cases x with
      | lst xs =>
        obtain ⟨vs, h3, h4, _⟩ := q
        simp only [toPy]
        exact .lst (SqL.of h3) (RVs.dp 59 xs vs (by simpa [plain] using h) h4)
      | dk _ => simp [plain] at h
      | fz _ => simp [plain] at h
      | _ => exact False.elim q
    · simp [plain] at h
  | _ => exact RV.dp 60 _ _ h r
end
section
variable {X : Cx} {rx : Rx} {W : WX} {a b : Expr} {ma mb : ME} {pos : Pos}
theorem eq_sem {ρ : List Addr} {H : Hp} {S : Sto} {x y : DV} {c : Bool} {v u : V} {Q : VK} (s : RS X.K ρ H S) (r1 : RV X.K ρ H x v) (r2 : RV X.K ρ H y u) (h : eqV S x y = some c) (q : Q (.bl c) H) :
    rEq v u H Q ∨ rEqD X.K v u H Q := by
  unfold eqV at h
  split at h
  · rename_i hs
    cases h
    obtain ⟨h1, h2⟩ := scal_ok hs r1 r2
    exact .inl ⟨h1, by rw [h2]; exact q⟩
  · split at h
    · rename_i hp
      cases h
      refine .inr ⟨_, _, r1.dpR s hp.1, r2.dpR s hp.2, plain_shaped hp.1, plain_shaped hp.2, ?_⟩
      have e : PyData.eqv (toPy (rd S x)) (toPy (rd S y)) = eqB (rd S x) (rd S y) := by
        rw [Bool.eq_iff_iff, eqB_iff]
        exact plain_eqv 60 _ 60 _ hp.1 hp.2
      rw [e]
      exact q
    · cases h
theorem ne_sem {ρ : List Addr} {H : Hp} {S : Sto} {x y : DV} {c : Bool} {v u : V} {Q : VK} (s : RS X.K ρ H S) (r1 : RV X.K ρ H x v) (r2 : RV X.K ρ H y u) (h : eqV S x y = some c) (q : Q (.bl !c) H) :
    rNe v u H Q ∨ rNeD X.K v u H Q := by
  unfold eqV at h
  split at h
  · rename_i hs
    cases h
    obtain ⟨h1, h2⟩ := scal_ok hs r1 r2
    exact .inl ⟨h1, by rw [h2]; exact q⟩
  · split at h
    · rename_i hp
      cases h
      refine .inr ⟨_, _, r1.dpR s hp.1, r2.dpR s hp.2, plain_shaped hp.1, plain_shaped hp.2, ?_⟩
      have e : PyData.eqv (toPy (rd S x)) (toPy (rd S y)) = eqB (rd S x) (rd S y) := by
        rw [Bool.eq_iff_iff, eqB_iff]
        exact plain_eqv 60 _ 60 _ hp.1 hp.2
      rw [e]
      exact q
    · cases h
theorem v_eq (hu : X.A.units + 64 < cLine) (ha : IE X rx W a ma) (hb : IE X rx W b mb) : IE X rx W (.Compare a [.Eq] [b] pos) (eqE ma mb) :=
  v_cmp (f := eqV) (g := fun c => c) (op_eq.or (op_eqD hu)) (nomark _) eq_sem ha hb
theorem v_teq (hu : X.A.units + 64 < cLine) (ha : IE X rx W a ma) (hb : IE X rx W b mb) : IT X rx W (.Compare a [.Eq] [b] pos) (tst (eqE ma mb)) :=
  v_tcmp (f := eqV) (g := fun c => c) (op_eq.or (op_eqD hu)) (nomark _) eq_sem ha hb
theorem v_ne (hu : X.A.units + 64 < cLine) (ha : IE X rx W a ma) (hb : IE X rx W b mb) : IE X rx W (.Compare a [.NotEq] [b] pos) (neE ma mb) :=
  v_cmp (f := eqV) (g := fun c => !c) (op_ne.or (op_neD hu)) (nomark _) ne_sem ha hb
theorem v_tne (hu : X.A.units + 64 < cLine) (ha : IE X rx W a ma) (hb : IE X rx W b mb) : IT X rx W (.Compare a [.NotEq] [b] pos) (tst (neE ma mb)) :=
  v_tcmp (f := eqV) (g := fun c => !c) (op_ne.or (op_neD hu)) (nomark _) ne_sem ha hb
theorem lt_sem {f : Int → Int → Bool} {g : DV → DV → Option Bool} (hg : ∀ x y c, g x y = some c → ∃ i j, x = .int i ∧ y = .int j ∧ c = f i j) {ρ : List Addr} {H : Hp} {S : Sto} {x y : DV} {c : Bool} {v u : V} {Q : VK} (s : RS X.K ρ H S) (r1 : RV X.K ρ H x v) (r2 : RV X.K ρ H y u)
    (h : g x y = some c) (q : Q (.bl c) H) : rI0 (fun i j => .bl (f i j)) v u H Q := by
  obtain ⟨i, j, rfl, rfl, rfl⟩ := hg x y c h
  exact ⟨i, j, r1.int, r2.int, q⟩
theorem lt_shape {x y : DV} {c : Bool} (h : ltV x y = some c) : ∃ i j, x = .int i ∧ y = .int j ∧ c = decide (i < j) := by
  unfold ltV at h
  split at h
  · cases h; exact ⟨_, _, rfl, rfl, rfl⟩
  · cases h
theorem le_shape {x y : DV} {c : Bool} (h : leV x y = some c) : ∃ i j, x = .int i ∧ y = .int j ∧ c = decide (i ≤ j) := by
  unfold leV at h
  split at h
  · cases h; exact ⟨_, _, rfl, rfl, rfl⟩
  · cases h
theorem gt_shape {x y : DV} {c : Bool} (h : ltV y x = some c) : ∃ i j, x = .int i ∧ y = .int j ∧ c = decide (j < i) := by
  obtain ⟨i, j, h1, h2, h3⟩ := lt_shape h
  exact ⟨j, i, h2, h1, h3⟩
theorem ge_shape {x y : DV} {c : Bool} (h : leV y x = some c) : ∃ i j, x = .int i ∧ y = .int j ∧ c = decide (j ≤ i) := by
  obtain ⟨i, j, h1, h2, h3⟩ := le_shape h
  exact ⟨j, i, h2, h1, h3⟩
theorem v_lt (ha : IE X rx W a ma) (hb : IE X rx W b mb) : IE X rx W (.Compare a [.Lt] [b] pos) (ltE ma mb) :=
  v_cmp (f := fun _ => ltV) (g := fun c => c) op_lt (nomark _) (lt_sem fun _ _ _ => lt_shape) ha hb
theorem v_tlt (ha : IE X rx W a ma) (hb : IE X rx W b mb) : IT X rx W (.Compare a [.Lt] [b] pos) (tst (ltE ma mb)) :=
  v_tcmp (f := fun _ => ltV) (g := fun c => c) op_lt (nomark _) (lt_sem fun _ _ _ => lt_shape) ha hb
theorem v_le (ha : IE X rx W a ma) (hb : IE X rx W b mb) : IE X rx W (.Compare a [.LtE] [b] pos) (leE ma mb) :=
  v_cmp (f := fun _ => leV) (g := fun c => c) op_le (nomark _) (lt_sem fun _ _ _ => le_shape) ha hb
theorem v_tle (ha : IE X rx W a ma) (hb : IE X rx W b mb) : IT X rx W (.Compare a [.LtE] [b] pos) (tst (leE ma mb)) :=
  v_tcmp (f := fun _ => leV) (g := fun c => c) op_le (nomark _) (lt_sem fun _ _ _ => le_shape) ha hb
theorem v_gt (ha : IE X rx W a ma) (hb : IE X rx W b mb) : IE X rx W (.Compare a [.Gt] [b] pos) (gtE ma mb) :=
  v_cmp (f := fun _ x y => ltV y x) (g := fun c => c) op_gt (nomark _) (lt_sem (g := fun x y => ltV y x) fun _ _ _ => gt_shape) ha hb
theorem v_tgt (ha : IE X rx W a ma) (hb : IE X rx W b mb) : IT X rx W (.Compare a [.Gt] [b] pos) (tst (gtE ma mb)) :=
  v_tcmp (f := fun _ x y => ltV y x) (g := fun c => c) op_gt (nomark _) (lt_sem (g := fun x y => ltV y x) fun _ _ _ => gt_shape) ha hb
theorem v_ge (ha : IE X rx W a ma) (hb : IE X rx W b mb) : IE X rx W (.Compare a [.GtE] [b] pos) (geE ma mb) :=
  v_cmp (f := fun _ x y => leV y x) (g := fun c => c) op_ge (nomark _) (lt_sem (g := fun x y => leV y x) fun _ _ _ => ge_shape) ha hb
theorem v_tge (ha : IE X rx W a ma) (hb : IE X rx W b mb) : IT X rx W (.Compare a [.GtE] [b] pos) (tst (geE ma mb)) :=
  v_tcmp (f := fun _ x y => leV y x) (g := fun c => c) op_ge (nomark _) (lt_sem (g := fun x y => leV y x) fun _ _ _ => ge_shape) ha hb

/-! ### in -/
theorem flat_ok {K : PySem.W.Frag} {ρ : List Addr} {H : Hp} {x : DV} {v : V} (h : flatD x = true) (r : RV K ρ H x v) : flatV v = true := by
  cases x <;> simp [flatD] at h
  · rw [r.non]; rfl
  · rw [r.int]; rfl
  · rw [r.str]; rfl
theorem flat_eqV {K : PySem.W.Frag} {ρ : List Addr} {H : Hp} {x y : DV} {v u : V} (h : flatD x = true) (h' : flatD y = true) (r : RV K ρ H x v) (r' : RV K ρ H y u) : L2.eqV v u = eqB x y := by
  rw [Bool.eq_iff_iff, eqB_iff]
  cases x <;> simp [flatD] at h <;> cases y <;> simp [flatD] at h' <;> simp only [RV] at r r' <;> subst r r' <;> simp [L2.eqV]
theorem flats_ok {K : PySem.W.Frag} {ρ : List Addr} {H : Hp} : ∀ {xs : List DV} {vs : List V}, xs.all flatD = true → RVs K ρ H xs vs → vs.all flatV = true
  | [], vs, _, r => by simp only [RVs] at r; rw [r]; rfl
  | x :: xs, vs, h, r => by
    simp only [RVs] at r
    obtain ⟨v, t, rfl, h2, h3⟩ := r
    rw [List.all_cons, Bool.and_eq_true] at h ⊢
    exact ⟨flat_ok h.1 h2, flats_ok h.2 h3⟩
theorem inV_ok {K : PySem.W.Frag} {ρ : List Addr} {H : Hp} {x : DV} {v : V} (hx : flatD x = true) (rx' : RV K ρ H x v) : ∀ {xs : List DV} {vs : List V}, xs.all flatD = true → RVs K ρ H xs vs → L2.inV v vs = xs.any fun z => eqB z x
  | [], vs, _, r => by simp only [RVs] at r; rw [r]; rfl
  | y :: ys, vs, h, r => by
    simp only [RVs] at r
    obtain ⟨u, t, rfl, h2, h3⟩ := r
    rw [List.all_cons, Bool.and_eq_true] at h
    have ih := inV_ok hx rx' h.2 h3
    unfold L2.inV at ih ⊢
    rw [List.any_cons, List.any_cons, ih, flat_eqV h.1 hx h2 rx']
theorem in_sem (neg : Bool) {ρ : List Addr} {H : Hp} {S : Sto} {x y : DV} {c : Bool} {v u : V} {Q : VK} (s : RS X.K ρ H S) (r1 : RV X.K ρ H x v) (r2 : RV X.K ρ H y u) (h : inV S x y = some c) (q : Q (.bl (if neg then !c else c)) H) :
    rIn X.K neg v u H Q ∨ (∃ (c : Nat) (z : Str), v = .str ⟨#[c]⟩ ∧ u = .str z ∧ Q (.bl (if neg then !decide (c ∈ z.cps.toList) else decide (c ∈ z.cps.toList))) H) := by
  unfold inV at h
  split at h
  · rename_i ys e
    split at h
    · rename_i hf
      cases h
      obtain ⟨p, vs, rfl, h1, h2⟩ := r2.seqOf s e
      refine .inl ⟨p, vs, rfl, h1, flat_ok hf.1 r1, flats_ok hf.2 h2, ?_⟩
      rw [inV_ok hf.1 r1 hf.2 h2]
      exact q
    · cases h
  · split at h
    · rename_i a b _
      split at h
      · rename_i hl
        cases h
        rw [r1.str, r2.str]
        have e : a = ⟨#[a.cps.getD 0 0]⟩ := by
          obtain ⟨⟨l⟩⟩ := a
          have hl' : l.length = 1 := hl
          match l, hl' with
          | [c], _ => rfl
        exact .inr ⟨a.cps.getD 0 0, b, congrArg V.str e, rfl, q⟩
      · cases h
    · cases h
theorem v_in (hm : behindInMarks .In b = false := by rfl) (ha : IE X rx W a ma) (hb : IE X rx W b mb) : IE X rx W (.Compare a [.In] [b] pos) (inE ma mb) :=
  v_cmp (f := inV) (g := fun c => c) (op_in_seq.or op_in_sign) hm (in_sem false) ha hb
theorem v_tin (hm : behindInMarks .In b = false := by rfl) (ha : IE X rx W a ma) (hb : IE X rx W b mb) : IT X rx W (.Compare a [.In] [b] pos) (tst (inE ma mb)) :=
  v_tcmp (f := inV) (g := fun c => c) (op_in_seq.or op_in_sign) hm (in_sem false) ha hb
theorem v_nin (hm : behindInMarks .NotIn b = false := by rfl) (ha : IE X rx W a ma) (hb : IE X rx W b mb) : IE X rx W (.Compare a [.NotIn] [b] pos) (ninE ma mb) :=
  v_cmp (f := inV) (g := fun c => !c) (op_notIn_seq.or op_notIn_sign) hm (in_sem true) ha hb
theorem v_tnin (hm : behindInMarks .NotIn b = false := by rfl) (ha : IE X rx W a ma) (hb : IE X rx W b mb) : IT X rx W (.Compare a [.NotIn] [b] pos) (tst (ninE ma mb)) :=
  v_tcmp (f := inV) (g := fun c => !c) (op_notIn_seq.or op_notIn_sign) hm (in_sem true) ha hb
end
end Y
namespace Y
open PySem L2
section
variable {X : Cx} {rx : Rx} {W : WX} {a b : Expr} {ma mb : ME} {pos : Pos}
theorem notin_of {K : PySem.W.Frag} {ρ : List Addr} {H : Hp} {S : Sto} (s : RS K ρ H S) {p : Addr} (h : H p = none) : p ∉ ρ := fun m => by
  obtain ⟨z, hz, _⟩ := s.there m
  rw [h] at hz; cases hz
theorem rv_newL {K : PySem.W.Frag} {ρ : List Addr} {H : Hp} {S : Sto} (s : RS K ρ H S) {p : Addr} (h : H p = none) {xs : List DV} {vs : List V} (r : RVs K ρ H xs vs) : RV K ρ (upd H p (.lst vs)) (.lst xs) (.ref p) := by
  simp only [RV]
  exact ⟨p, vs, rfl, notin_of s h, upd_same, r.mono (ext_new h)⟩
theorem rv_newT {K : PySem.W.Frag} {ρ : List Addr} {H : Hp} {p : Addr} (h : H p = none) {xs : List DV} {vs : List V} (r : RVs K ρ H xs vs) : RV K ρ (upd H p (.tup vs)) (.tup xs) (.ref p) := by
  simp only [RV]
  exact ⟨p, vs, rfl, SqT.of upd_same, r.mono (ext_new h)⟩

/-! ### is None -/
theorem isNon_ok {K : PySem.W.Frag} {ρ : List Addr} {H : Hp} {x : DV} {v : V} (r : RV K ρ H x v) : decide (v = .non) = isNon x := by
  cases x with
  | non => rw [r.non]; rfl
  | bl _ => rw [r.bl]; rfl
  | int _ => rw [r.int]; rfl
  | str _ => rw [r.str]; rfl
  | tup _ => obtain ⟨a, _, rfl, _⟩ := r.tup; rfl
  | lst _ => simp only [RV] at r; obtain ⟨a, _, rfl, _⟩ := r; rfl
  | rol _ => simp only [RV] at r; obtain ⟨a, _, rfl, _⟩ := r; rfl
  | dk _ => simp only [RV] at r; obtain ⟨a, _, rfl, _⟩ := r; rfl
  | fz _ => simp only [RV] at r; obtain ⟨a, _, rfl, _⟩ := r; rfl
  | exn _ _ => simp only [RV] at r; obtain ⟨a, _, _, rfl, _⟩ := r; rfl
  | ref _ => simp only [RV] at r; obtain ⟨a, _, rfl⟩ := r; rfl
/-- an operation on one value: by what the text's reading is -/
theorem un_rule {r : V → Hp → VK → Prop} {e : Expr} {f : Sto → DV → Option DV} {te : TE} (h : PE X e (tUn r (tI X.K rx W ma)))
    (hf : ∀ {ρ : List Addr} {H : Hp} {S : Sto} {x d : DV} {v : V} {Q : VK}, RS X.K ρ H S → RV X.K ρ H x v → f S x = some d → QE X.K ρ H Q d S → r v H Q) : IE X rx W e (op1 f ma) := by
  refine pe_imp h fun σ H Q ⟨ρ, l, S, hl, hs, h⟩ => ?_
  refine bindI hl hs h fun ρ1 H1 x S1 v e1 s1 l1 r1 h1 => ?_
  obtain ⟨d, hd, q⟩ := h1.of
  exact hf s1 r1 hd fun ρ' H' w e s r => q ρ' H' w (e1.trans e) s r
theorem v_isN {j pos'} (ha : IE X rx W a ma) : IE X rx W (.Compare a [.Is] [.Constant .none j pos'] pos) (isN ma) :=
  un_rule (te := tI X.K rx W ma) (pe_cmp (pc_isN ha) rfl) fun {ρ H S x d v Q} s r e q => by
    cases e
    show Q (.bl (decide (v = .non))) H
    rw [isNon_ok r]
    exact q ρ H _ .refl s (by simp [RV])
theorem v_notN {j pos'} (ha : IE X rx W a ma) : IE X rx W (.Compare a [.IsNot] [.Constant .none j pos'] pos) (notN ma) :=
  un_rule (te := tI X.K rx W ma) (pe_cmp (pc_notN ha) rfl) fun {ρ H S x d v Q} s r e q => by
    cases e
    show Q (.bl (!decide (v = .non))) H
    rw [isNon_ok r]
    exact q ρ H _ .refl s (by simp [RV])

/-! ### items, slices -/
theorem atI_len {α : Type} {xs : List α} {i : Int} {d : α} (h : atI xs i = some d) : ∃ j, ixN xs.length i = some j ∧ xs[j]? = some d := by
  unfold atI at h
  cases e : ixN xs.length i with
  | none => rw [e] at h; cases h
  | some j => rw [e] at h; exact ⟨j, rfl, h⟩
theorem RVs.atI {K : PySem.W.Frag} {ρ : List Addr} {H : Hp} {xs : List DV} {vs : List V} {i : Int} {d : DV} (r : RVs K ρ H xs vs) (h : L2.atI xs i = some d) : ∃ v, L2.atI vs i = some v ∧ RV K ρ H d v := by
  obtain ⟨j, h1, h2⟩ := atI_len h
  obtain ⟨v, h3, h4⟩ := r.get h2
  refine ⟨v, ?_, h4⟩
  unfold L2.atI
  rw [← r.length, h1]
  exact h3
theorem v_ix (hp : PlainIx b) (ha : IE X rx W a ma) (hb : IE X rx W b mb) : IE X rx W (.Subscript a b pos) (ix ma mb) := by
  refine pe_imp (pe_ix ix_seq ha hb hp) fun σ H Q ⟨ρ, l, S, hl, hs, h⟩ => ?_
  refine bindI hl hs h fun ρ1 H1 x S1 v e1 s1 l1 r1 h1 => ?_
  refine bindI l1 s1 h1 fun ρ2 H2 y S2 u e2 s2 l2 r2 h2 => ?_
  obtain ⟨d, hd, q⟩ := h2.of
  unfold ixV at hd
  split at hd
  · rename_i i
    rw [r2.int]
    split at hd
    · rename_i xs ex
      obtain ⟨p, vs, rfl, h3, h4⟩ := (r1.mono e2).seqOf s2 ex
      obtain ⟨w, h5, h6⟩ := h4.atI hd
      rcases h3 with h3 | h3
      · exact .inl ⟨p, vs, i, w, rfl, rfl, h3, h5, q ρ2 H2 w (e1.trans e2) s2 h6⟩
      · exact .inr (.inl ⟨p, vs, i, w, rfl, rfl, h3, h5, q ρ2 H2 w (e1.trans e2) s2 h6⟩)
    · split at hd
      · rename_i z _
        split at hd
        · rename_i hz
          cases hc : L2.atI z.cps.toList i with
          | none => rw [hc] at hd; cases hd
          | some c =>
            rw [hc] at hd
            cases hd
            exact .inr (.inr ⟨z, i, c, r1.str, rfl, by rw [← LIM_eq]; exact hz, hc, q ρ2 H2 _ (e1.trans e2) s2 (by simp [RV])⟩)
        · cases hd
      · cases hd
  · cases hd
theorem v_po0 : IP X rx W none none := po_imp po_none fun σ H Q ⟨ρ, l, S, hl, hs, h⟩ => h ρ H .refl hs
theorem v_po1 (ha : IE X rx W a ma) : IP X rx W (some a) (some ma) := by
  refine po_imp (po_some ha) fun σ H Q ⟨ρ, l, S, hl, hs, h⟩ => ?_
  refine bindI hl hs h fun ρ1 H1 x S1 v e1 s1 l1 r1 h1 => ?_
  cases x with
  | int i => exact ⟨i, r1.int, h1 ρ1 H1 e1 s1⟩
  | _ => exact False.elim h1
theorem sub_sem {ρ : List Addr} {H : Hp} {S : Sto} {x d : DV} {v : V} {lo hi : Option Int} {Q : VK} (s : RS X.K ρ H S) (r : RV X.K ρ H x v) (h : slV S x lo hi = some d) (q : QE X.K ρ H Q d S) :
    (rSlA X.K v lo hi H Q ∨ rSlL X.K v lo hi H Q) ∨ rSlS v lo hi H Q := by
  unfold slV at h
  split at h
  · rename_i xs
    cases h
    obtain ⟨p, vs, rfl, h1, h2⟩ := r.tup
    refine .inl (.inl ⟨p, vs, rfl, h1, fun hw => ?_, fun _ t ht => ?_⟩)
    · refine q ρ H _ .refl s ?_
      simp only [RV]
      refine ⟨p, vs, rfl, h1, ?_⟩
      have e : cutD xs lo hi = xs := by
        unfold cutD
        rw [h2.length, hw.1, hw.2, List.drop_zero, Nat.sub_zero, ← h2.length, List.take_length]
      rw [e]
      exact h2
    · exact q ρ _ _ (ext_new ht) (s.new ht) (rv_newT ht (h2.cut lo hi))
  · split at h
    · rename_i hz
      cases h
      exact .inr ⟨_, r.str, by rw [← LIM_eq]; exact hz, q ρ H _ .refl s (by simp [RV])⟩
    · cases h
  · rename_i n1 n2
    cases ex : seqOf S x with
    | none => rw [ex] at h; cases h
    | some xs =>
      rw [ex] at h
      cases h
      obtain ⟨p, vs, rfl, h1, h2⟩ := r.seqL s ex fun ys e => n1 ys e
      exact .inl (.inr ⟨p, vs, rfl, h1, fun t ht => q ρ _ _ (ext_new ht) (s.new ht) (rv_newL s ht (h2.cut lo hi))⟩)
theorem v_slice {lo hi : Option Expr} {ml mh : Option ME} {p2 : Pos} (ha : IE X rx W a ma) (h1 : IP X rx W lo ml) (h2 : IP X rx W hi mh) : IE X rx W (.Subscript a (.Slice lo hi none p2) pos) (slice ma ml mh) := by
  refine pe_imp (pe_slice ((sl_tupA.or sl_list).or sl_str) ha h1 h2) fun σ H Q ⟨ρ, l, S, hl, hs, h⟩ => ?_
  refine bindI hl hs h fun ρ1 H1 x S1 v e1 s1 l1 r1 h1 => ?_
  refine ⟨ρ1, l, S1, l1, s1, h1.bind.imp fun p S2 h2 ρ2 H2 e2 s2 => ?_⟩
  refine ⟨ρ2, l, S2, l1.mono e2, s2, (h2.shift e2).bind.imp fun p' S3 h3 ρ3 H3 e3 s3 => ?_⟩
  obtain ⟨d, hd, q⟩ := h3.of
  exact sub_sem s3 ((r1.mono e2).mono e3) hd fun ρ' H' w e s r => q ρ' H' w (e1.trans (e2.trans (e3.trans e))) s r

/-! ### displays -/
theorem v_nil : IA X rx W [] aNil := pa_imp pa_nil fun σ H Q ⟨ρ, l, S, hl, hs, h⟩ => h ρ H [] .refl hs (by simp [RVs])
theorem v_cons {e : Expr} {es : List Expr} {m : ME} {ms : MA} (h1 : IE X rx W e m) (h2 : IA X rx W es ms) (hs : starEach (e :: es) X.env = (false, eval e X.env) :: starEach es X.env := by rfl) : IA X rx W (e :: es) (aCons m ms) := by
  refine pa_imp (pa_cons h1 h2 hs) fun σ H Q ⟨ρ, l, S, hl, hs, h⟩ => ?_
  refine bindI hl hs h fun ρ1 H1 x S1 v e1 s1 l1 r1 h1 => ?_
  refine ⟨ρ1, l, S1, l1, s1, h1.bind.imp fun xs S2 h2 ρ2 H2 vs e2 s2 r2 => ?_⟩
  exact h2 ρ2 H2 _ (e1.trans e2) s2 (RVs.cons (r1.mono e2) r2)
theorem bindA {α : Type} {K : PySem.W.Frag} {rx : Rx} {W : WX} {ma : MA} {σ : L2.St} {H : Hp} {ρ : List Addr} {l : Lo} {S : Sto} {f : List DV → Sto → Out α} {R : α → Sto → Prop} {Q1 : List V → Hp → Prop}
    (hl : RL K ρ H l σ) (hs : RS K ρ H S) (h : Post K rx W ρ H ((ma l S).bind f) R)
    (k : ∀ ρ1 H1 x S1 v, Ext ρ H ρ1 H1 → RS K ρ1 H1 S1 → RL K ρ1 H1 l σ → RVs K ρ1 H1 x v → Post K rx W ρ1 H1 (f x S1) R → Q1 v H1) : tA K rx W ma σ H Q1 :=
  ⟨ρ, l, S, hl, hs, h.bind.imp fun x S1 q ρ1 H1 v e s r => k ρ1 H1 x S1 v e s (hl.mono e) r (q.shift e)⟩
theorem v_tup {es : List Expr} {ms : MA} {x1} (h : IA X rx W es ms) : IE X rx W (.Tuple es x1 pos) (tupE ms) := by
  refine pe_imp (pe_tup h) fun σ H Q ⟨ρ, l, S, hl, hs, h⟩ => ?_
  refine bindA hl hs h fun ρ1 H1 xs S1 vs e1 s1 l1 r1 h1 => ?_
  split at h1
  · rename_i hz
    exact ⟨by rw [← r1.length, ← LIM_eq]; exact hz, fun p hp => h1 ρ1 _ _ (e1.trans (ext_new hp)) (s1.new hp) (rv_newT hp r1)⟩
  · exact False.elim h1
theorem v_lst {es : List Expr} {ms : MA} (h : IA X rx W es ms) : IE X rx W (.List es pos) (lstE ms) := by
  refine pe_imp (pe_lst h) fun σ H Q ⟨ρ, l, S, hl, hs, h⟩ => ?_
  refine bindA hl hs h fun ρ1 H1 xs S1 vs e1 s1 l1 r1 h1 => ?_
  split at h1
  · rename_i hz
    exact ⟨by rw [← r1.length, ← LIM_eq]; exact hz, fun p hp => h1 ρ1 _ _ (e1.trans (ext_new hp)) (s1.new hp) (rv_newL s1 hp r1)⟩
  · exact False.elim h1
theorem ro_push {K : PySem.W.Frag} {ρ : List Addr} {H : Hp} {p : Addr} (hp : H p = none) {xs : List DV} {vs : List V} (r : RVs K ρ H xs vs) (n : noRefs xs = true) : RO K (ρ ++ [p]) (upd H p (.lst vs)) p (.lst xs) :=
  ⟨vs, upd_same, r.mono (ext_push hp), n⟩
theorem rv_last {K : PySem.W.Frag} {ρ : List Addr} {H : Hp} {S : Sto} {p : Addr} (s : RS K ρ H S) {H' : Hp} : RV K (ρ ++ [p]) H' (.ref S.length) (.ref p) := by
  simp only [RV]
  exact ⟨p, by rw [← s.len, List.getElem?_append_right (Nat.le_refl _), Nat.sub_self]; rfl, rfl⟩
theorem v_lstR {es : List Expr} {ms : MA} (h : IA X rx W es ms) : IE X rx W (.List es pos) (lstR ms) := by
  refine pe_imp (pe_lst h) fun σ H Q ⟨ρ, l, S, hl, hs, h⟩ => ?_
  refine bindA hl hs h fun ρ1 H1 xs S1 vs e1 s1 l1 r1 h1 => ?_
  split at h1
  · rename_i hz
    exact ⟨by rw [← r1.length, ← LIM_eq]; exact hz.1, fun p hp => h1 _ _ _ (e1.trans (ext_push hp)) (s1.push hp (ro_push hp r1 hz.2)) (rv_last s1)⟩
  · exact False.elim h1

/-! ### built-ins of one argument -/
/-- f(a), by what the built-in asks -/
theorem bi_rule {r : List V → Hp → VK → Prop} {e : Expr} {f : Sto → DV → Option DV} (h : PE X e (tCB r (tA X.K rx W (aCons ma aNil))))
    (hf : ∀ {ρ : List Addr} {H : Hp} {S : Sto} {x d : DV} {v : V} {Q : VK}, RS X.K ρ H S → RV X.K ρ H x v → f S x = some d → QE X.K ρ H Q d S → r [v] H Q) : IE X rx W e (op1 f ma) := by
  refine pe_imp h fun σ H Q ⟨ρ, l, S, hl, hs, h⟩ => ?_
  refine ⟨ρ, l, S, hl, hs, ?_⟩
  show Post X.K rx W ρ H ((ma l S).bind fun x S1 => .ok [x] S1) _
  have h' : Post X.K rx W ρ H ((ma l S).bind fun x S1 => Out.of (f S1 x) S1) (QE X.K ρ H Q) := h
  cases e : ma l S with
  | ok x S1 =>
    rw [e] at h'
    obtain ⟨d, hd, q⟩ := Post.of h'
    intro ρ1 H1 vs e1 s1 r1
    simp only [RVs] at r1
    obtain ⟨v, t, rfl, r2, rfl⟩ := r1
    exact hf s1 r2 hd fun ρ' H' w e s r => q ρ' H' w (e1.trans e) s r
  | exc c x l' S1 => rw [e] at h'; exact h'
  | bad => rw [e] at h'; exact h'
theorem len_sem {ρ : List Addr} {H : Hp} {S : Sto} {x d : DV} {v : V} {Q : VK} (s : RS X.K ρ H S) (r : RV X.K ρ H x v) (h : lenV S x = some d) (q : QE X.K ρ H Q d S) : ∃ x n, [v] = [x] ∧ LenV X.K x H n ∧ Q (.int n) H := by
  unfold lenV at h
  split at h
  · rename_i xs ex
    cases h
    obtain ⟨p, vs, rfl, h1, h2⟩ := r.seqOf s ex
    refine ⟨.ref p, xs.length, rfl, ?_, q ρ H _ .refl s (by simp [RV])⟩
    rw [h2.length]
    rcases h1 with h1 | h1
    · exact .inl ⟨vs, h1, rfl⟩
    · exact .inr ⟨vs, h1, rfl⟩
  · split at h
    · rename_i z _
      split at h
      · rename_i hz
        cases h
        rw [r.str]
        exact ⟨.str z, z.length, rfl, ⟨by rw [← LIM_eq]; exact hz, rfl⟩, q ρ H _ .refl s (by simp [RV])⟩
      · cases h
    · cases h
theorem v_len {p : Pos} (hm : X.mg "len" = none) (ha : IE X rx W a ma) (hg : Gl X "len" := by rfl) (hs : starEach [a] X.env = (false, eval a X.env) :: starEach [] X.env := by rfl) (hpl : (backTo pos (starEach [] X.env)).any (·.1) = false := by rfl) :
    IE X rx W (.Call (.Name "len" p) [a] [] pos) (lenE ma) :=
  bi_rule (pe_callB call_len hg hm PySem.boot_len (v_cons ha v_nil hs) (by decide) (by decide) hs hpl) len_sem
theorem v_tuple {p : Pos} (hm : X.mg "tuple" = none) (ha : IE X rx W a ma) (hg : Gl X "tuple" := by rfl) (hs : starEach [a] X.env = (false, eval a X.env) :: starEach [] X.env := by rfl) (hpl : (backTo pos (starEach [] X.env)).any (·.1) = false := by rfl) :
    IE X rx W (.Call (.Name "tuple" p) [a] [] pos) (tupleE ma) :=
  bi_rule (pe_callTy call_tuple_of hg hm (by decide +kernel) (v_cons ha v_nil hs) (by decide) (by decide) hs hpl) fun {ρ H S x d v Q} s r h q => by
    unfold tupleV at h
    cases ex : seqOf S x with
    | none => rw [ex] at h; cases h
    | some xs =>
      rw [ex] at h
      cases h
      obtain ⟨p, vs, rfl, h1, h2⟩ := r.seqOf s ex
      refine ⟨p, vs, rfl, ?_⟩
      rcases h1 with h1 | h1
      · exact .inl ⟨h1, fun t ht => q ρ _ _ (ext_new ht) (s.new ht) (rv_newT ht h2)⟩
      · refine .inr ⟨h1, q ρ H _ .refl s ?_⟩
        simp only [RV]
        exact ⟨p, vs, rfl, h1, h2⟩
theorem v_list {p : Pos} (hm : X.mg "list" = none) (ha : IE X rx W a ma) (hg : Gl X "list" := by rfl) (hs : starEach [a] X.env = (false, eval a X.env) :: starEach [] X.env := by rfl) (hpl : (backTo pos (starEach [] X.env)).any (·.1) = false := by rfl) :
    IE X rx W (.Call (.Name "list" p) [a] [] pos) (listE ma) :=
  bi_rule (pe_callTy call_list_of hg hm (by decide +kernel) (v_cons ha v_nil hs) (by decide) (by decide) hs hpl) fun {ρ H S x d v Q} s r h q => by
    unfold listV at h
    cases ex : seqOf S x with
    | none => rw [ex] at h; cases h
    | some xs =>
      rw [ex] at h
      cases h
      obtain ⟨p, vs, rfl, h1, h2⟩ := r.seqOf s ex
      exact ⟨p, vs, rfl, h1, fun t ht => q ρ _ _ (ext_new ht) (s.new ht) (rv_newL s ht h2)⟩
theorem v_listR {p : Pos} (hm : X.mg "list" = none) (ha : IE X rx W a ma) (hg : Gl X "list" := by rfl) (hs : starEach [a] X.env = (false, eval a X.env) :: starEach [] X.env := by rfl) (hpl : (backTo pos (starEach [] X.env)).any (·.1) = false := by rfl) :
    IE X rx W (.Call (.Name "list" p) [a] [] pos) (listR ma) := by
  refine pe_imp (pe_callTy call_list_of hg hm (by decide +kernel) (v_cons ha v_nil hs) (by decide) (by decide) hs hpl) fun σ H Q ⟨ρ, l, S, hl, hs, h⟩ => ?_
  refine ⟨ρ, l, S, hl, hs, ?_⟩
  show Post X.K rx W ρ H ((ma l S).bind fun x S1 => .ok [x] S1) _
  have h' : Post X.K rx W ρ H ((ma l S).bind _) (QE X.K ρ H Q) := h
  cases e : ma l S with
  | ok x S1 =>
    rw [e] at h'
    intro ρ1 H1 vs e1 s1 r1
    simp only [RVs] at r1
    obtain ⟨v, t, rfl, r2, rfl⟩ := r1
    simp only [Out.bind] at h'
    split at h'
    · rename_i xs ex
      split at h'
      · rename_i hn
        obtain ⟨p, vs, rfl, h1, h2⟩ := r2.seqOf s1 ex
        exact ⟨p, vs, rfl, h1, fun t ht => h' _ _ _ (e1.trans (ext_push ht)) (s1.push ht (ro_push ht h2 hn)) (rv_last s1)⟩
      · exact False.elim h'
    · exact False.elim h'
  | exc c x l' S1 => rw [e] at h'; exact h'
  | bad => rw [e] at h'; exact h'

/-! ### isinstance -/
theorem tag_ok {K : PySem.W.Frag} {ρ : List Addr} {H : Hp} {S : Sto} {x : DV} {v : V} {t : String} (s : RS K ρ H S) (r : RV K ρ H x v) (h : tagOf S x = some t) : TyX K H v (.type t) := by
  cases x with
  | non => rw [r.non]; cases h; exact .base .non
  | bl b => rw [r.bl]; cases h; exact .base (.bl b)
  | int i => rw [r.int]; cases h; exact .base (.int i)
  | str z => rw [r.str]; cases h; exact .base (.str z)
  | tup xs =>
    cases h
    obtain ⟨a, vs, rfl, h1, _⟩ := r.tup
    rcases h1 with (h1 | ⟨o, h1⟩) | ⟨o, its, n, h1, h2, _⟩
    · exact .base (.tup h1)
    · exact .fTuple h1
    · exact .kTuple h1 h2
  | lst xs =>
    cases h
    simp only [RV] at r
    obtain ⟨a, vs, rfl, _, h1, _⟩ := r
    exact .base (.lst h1)
  | rol xs =>
    cases h
    simp only [RV] at r
    obtain ⟨a, vs, rfl, h1, _⟩ := r
    rcases h1 with ⟨o, h1⟩ | ⟨_, h1⟩ | h1
    · exact .base (.frz h1)
    · exact .base (.lst h1)
    · rcases h1 (fun _ => none) with (h2 | ⟨o, h2⟩) | ⟨o, its, n, h2, h3, _⟩
      · cases h2
      · cases h2
      · exact .kList h2 h3
  | dk kvs =>
    cases h
    simp only [RV] at r
    obtain ⟨a, vs, rfl, _, h1, _⟩ := r
    rcases h1 with h1 | ⟨o, h1⟩
    · exact .base (.dK h1)
    · exact .fDict h1
  | fz kvs =>
    cases h
    simp only [RV] at r
    obtain ⟨a, vs, rfl, _, h1, _⟩ := r
    rcases h1 with h1 | ⟨o, h1⟩
    · exact .base (.dK h1)
    · exact .fDict h1
  | exn c y => cases h
  | ref k =>
    simp only [RV] at r
    obtain ⟨a, h1, rfl⟩ := r
    simp only [tagOf] at h
    split at h
    · rename_i xs hx
      cases h
      obtain ⟨vs, h2, _⟩ := s.at_ k a _ h1 hx
      exact .base (.lst h2)
    · rename_i xs hx
      cases h
      obtain ⟨vs, h2, _⟩ := s.at_ k a _ h1 hx
      exact .base (.dK h2)
    · rename_i xs hx
      cases h
      obtain ⟨vs, ⟨o, h2⟩, _⟩ := s.at_ k a _ h1 hx
      exact .fDict h2
    · cases h
/-- the built-in classes that are asked for -/
def tags : List String := ["NoneType", "bool", "int", "str", "tuple", "list", "dict"]
def asked : List String := ["bool", "int", "str", "tuple", "list", "dict"]
theorem tag_in {S : Sto} {x : DV} {t : String} (h : tagOf S x = some t) : t ∈ tags := by
  unfold tagOf at h
  split at h
  all_goals first | (cases h; decide) | (cases h; done) | skip
  split at h
  all_goals first | (cases h; decide) | cases h
theorem kit_all {K : PySem.W.Frag} : ∀ t ∈ tags, ∀ c ∈ asked, PySem.W.kitOne K (.type t) (.type c) = some (isTag t c) := by
  intro t ht c hc
  simp only [tags, asked, List.mem_cons, List.not_mem_nil, or_false] at ht hc
  rcases ht with rfl | rfl | rfl | rfl | rfl | rfl | rfl <;> rcases hc with rfl | rfl | rfl | rfl | rfl | rfl <;> first | rfl | decide +kernel | kernel_rfl
theorem v_isi {c : String} {cn : Str} {p p2 : Pos} (hc : c ∈ asked) (hv : bootBuiltins cn = some (.type c)) (hm : X.mg "isinstance" = none) (hmc : X.mg cn = none) (ha : IE X rx W a ma) (hg : Gl X "isinstance" := by rfl) (hgc : Gl X cn := by rfl)
    (hn : cn ≠ "__name__" := by decide) (hd : (cn == ("__debug__" : Str)) = false := by decide)
    (hs : starEach [a, .Name cn p2] X.env = (false, eval a X.env) :: starEach [.Name cn p2] X.env := by rfl) (hs2 : starEach [.Name cn p2] X.env = (false, eval (.Name cn p2) X.env) :: starEach [] X.env := by rfl) (hpl : (backTo pos (starEach [.Name cn p2] X.env)).any (·.1) = false := by rfl) :
    IE X rx W (.Call (.Name "isinstance" p) [a, .Name cn p2] [] pos) (isiE c ma) := by
  refine pe_imp (pe_callB call_isi hg hm (by decide +kernel) (pa_cons ha (pa_cons (pe_bltn (v := .ty c) hgc hmc hv rfl hn hd) pa_nil hs2) hs) (by decide) (by decide) hs hpl) fun σ H Q ⟨ρ, l, S, hl, hs, h⟩ => ?_
  refine bindI hl hs h fun ρ1 H1 x S1 v e1 s1 l1 r1 h1 => ?_
  obtain ⟨d, hd, q⟩ := h1.of
  dsimp only [isiV] at hd
  cases et : tagOf S1 x with
  | none => rw [et] at hd; cases hd
  | some t =>
    rw [et] at hd
    cases hd
    exact ⟨v, .ty c, .type t, .type c, isTag t c, rfl, .ty c, tag_ok s1 r1 et, kit_all t (tag_in et) c hc, q ρ1 H1 _ e1 s1 (by simp [RV])⟩

/-! ### tests -/
theorem v_tst (ha : IE X rx W a ma) (he : ∀ whole, isTrue a X.env whole = (do let v ← whole; standAt a.pos; holding [v] (truthy v)) := by intro _; rfl) : IT X rx W a (tst ma) := by
  refine pt_imp (pt_val ha he) fun σ H Q ⟨ρ, l, S, hl, hs, h⟩ => ?_
  refine bindI hl hs h fun ρ1 H1 x S1 v e1 s1 l1 r1 h1 => ?_
  cases x with
  | bl c => exact ⟨c, r1.bl, h1 ρ1 H1 e1 s1⟩
  | _ => exact False.elim h1
theorem bindT {α : Type} {K : PySem.W.Frag} {rx : Rx} {W : WX} {ma : MT} {σ : L2.St} {H : Hp} {ρ : List Addr} {l : Lo} {S : Sto} {f : Bool → Sto → Out α} {R : α → Sto → Prop} {Q1 : Bool → Hp → Prop}
    (hl : RL K ρ H l σ) (hs : RS K ρ H S) (h : Post K rx W ρ H ((ma l S).bind f) R)
    (k : ∀ ρ1 H1 x S1, Ext ρ H ρ1 H1 → RS K ρ1 H1 S1 → RL K ρ1 H1 l σ → Post K rx W ρ1 H1 (f x S1) R → Q1 x H1) : tT K rx W ma σ H Q1 :=
  ⟨ρ, l, S, hl, hs, h.bind.imp fun x S1 q ρ1 H1 e s => k ρ1 H1 x S1 e s (hl.mono e) (q.shift e)⟩
theorem back_E {K : PySem.W.Frag} {rx : Rx} {W : WX} {m : ME} {σ : L2.St} {H : Hp} {ρ ρ1 : List Addr} {H1 : Hp} {l : Lo} {S : Sto} {Q : VK} (e : Ext ρ H ρ1 H1) (l1 : RL K ρ1 H1 l σ) (s1 : RS K ρ1 H1 S) (h : Post K rx W ρ1 H1 (m l S) (QE K ρ H Q)) : tI K rx W m σ H1 Q :=
  ⟨ρ1, l, S, l1, s1, h.imp fun d S' q ρ' H' v e' => q ρ' H' v (e.trans e')⟩
theorem back_T {K : PySem.W.Frag} {rx : Rx} {W : WX} {m : MT} {σ : L2.St} {H : Hp} {ρ ρ1 : List Addr} {H1 : Hp} {l : Lo} {S : Sto} {Q : Bool → Hp → Prop} (e : Ext ρ H ρ1 H1) (l1 : RL K ρ1 H1 l σ) (s1 : RS K ρ1 H1 S) (h : Post K rx W ρ1 H1 (m l S) (QB K ρ H Q)) : tT K rx W m σ H1 Q :=
  ⟨ρ1, l, S, l1, s1, h.imp fun d S' q ρ' H' e' => q ρ' H' (e.trans e')⟩
abbrev IW (X : Cx) (rx : Rx) (W : WX) (e : Expr) (m : MT) : Prop := PW X e (tT X.K rx W m)
variable {ta tb : MT} {rest : List Expr}
theorem v_and1 (h : IT X rx W a ta) : IW X rx W (.BoolOp .And [a] pos) ta := pw_and1 h
theorem v_or1 (h : IT X rx W a ta) : IW X rx W (.BoolOp .Or [a] pos) ta := pw_or1 h
theorem v_andT (h : IT X rx W a ta) (h' : IW X rx W (.BoolOp .And (b :: rest) pos) tb) : IW X rx W (.BoolOp .And (a :: b :: rest) pos) (andT ta tb) :=
  pw_imp (pw_and h h') fun σ H Q ⟨ρ, l, S, hl, hs, h⟩ => bindT hl hs h fun ρ1 H1 c S1 e1 s1 l1 h1 => by
    cases c with
    | true =>
      rw [if_pos rfl] at h1 ⊢
      exact back_T e1 l1 s1 h1
    | false =>
      rw [if_neg Bool.false_ne_true] at h1 ⊢
      exact h1 ρ1 H1 e1 s1
theorem v_orT (h : IT X rx W a ta) (h' : IW X rx W (.BoolOp .Or (b :: rest) pos) tb) : IW X rx W (.BoolOp .Or (a :: b :: rest) pos) (orT ta tb) :=
  pw_imp (pw_or h h') fun σ H Q ⟨ρ, l, S, hl, hs, h⟩ => bindT hl hs h fun ρ1 H1 c S1 e1 s1 l1 h1 => by
    cases c with
    | true =>
      rw [if_pos rfl] at h1 ⊢
      exact h1 ρ1 H1 e1 s1
    | false =>
      rw [if_neg Bool.false_ne_true] at h1 ⊢
      exact back_T e1 l1 s1 h1
theorem v_bop (h : IW X rx W a ta) : IT X rx W a ta := PW.pt h
theorem v_notT (h : IT X rx W a ta) : IT X rx W (.UnaryOp .Not a pos) (notT ta) :=
  pt_imp (pt_not h) fun σ H Q ⟨ρ, l, S, hl, hs, h⟩ => bindT hl hs h fun ρ1 H1 c S1 e1 s1 l1 h1 => h1 ρ1 H1 e1 s1
theorem v_oneE {op} (h : IE X rx W a ma) : IE X rx W (.BoolOp op [a] pos) ma := pe_one h
theorem v_andE (ha : IE X rx W a ma) (hb : IE X rx W (.BoolOp .And (b :: rest) pos) mb) : IE X rx W (.BoolOp .And (a :: b :: rest) pos) (andE ma mb) :=
  pe_imp (pe_and ha hb) fun σ H Q ⟨ρ, l, S, hl, hs, h⟩ => bindI hl hs h fun ρ1 H1 x S1 v e1 s1 l1 r1 h1 => by
    cases x with
    | bl c =>
      refine ⟨c, r1.bl, ?_⟩
      cases c with
      | true =>
        rw [if_pos rfl]
        exact back_E e1 l1 s1 h1
      | false =>
        rw [if_neg Bool.false_ne_true]
        exact h1 ρ1 H1 _ e1 s1 (by simp [RV])
    | _ => exact False.elim h1
theorem v_orE (ha : IE X rx W a ma) (hb : IE X rx W (.BoolOp .Or (b :: rest) pos) mb) : IE X rx W (.BoolOp .Or (a :: b :: rest) pos) (orE ma mb) :=
  pe_imp (pe_or ha hb) fun σ H Q ⟨ρ, l, S, hl, hs, h⟩ => bindI hl hs h fun ρ1 H1 x S1 v e1 s1 l1 r1 h1 => by
    cases x with
    | bl c =>
      refine ⟨c, r1.bl, ?_⟩
      cases c with
      | true =>
        rw [if_pos rfl]
        exact h1 ρ1 H1 _ e1 s1 (by simp [RV])
      | false =>
        rw [if_neg Bool.false_ne_true]
        exact back_E e1 l1 s1 h1
    | _ => exact False.elim h1
theorem v_notE (ha : IE X rx W a ma) : IE X rx W (.UnaryOp .Not a pos) (notE ma) :=
  pe_imp (pe_not ha) fun σ H Q ⟨ρ, l, S, hl, hs, h⟩ => bindI hl hs h fun ρ1 H1 x S1 v e1 s1 l1 r1 h1 => by
    cases x with
    | bl c => exact ⟨c, r1.bl, h1 ρ1 H1 _ e1 s1 (by simp [RV])⟩
    | _ => exact False.elim h1

/-! ### calls -/
/-- what a def promises: what f tells -/
def FnPost (K : PySem.W.Frag) (rx : Rx) (ρ : List Addr) (H : Hp) (Q : VK) (E : XK) : Out (DV × Bool) → Prop
  | .ok (d, false) S' => ∀ H' v, Ext ρ H ρ H' → RS K ρ H' S' → RV K ρ H' d v → Q v H'
  | .ok (d, true) S' => ∀ H' p, Ext ρ H (ρ ++ [p]) H' → RS K (ρ ++ [p]) H' (S' ++ [d]) → Q (.ref p) H'
  | .exc c x _ S' => ∀ H' cls od, Ext ρ H ρ H' → RS K ρ H' S' → RX K ρ H' rx c x cls od → E cls od H'
  | .bad => False
def spF (K : PySem.W.Frag) (rx : Rx) (n : Nat) (f : Ora) : Sp := fun vs H Q E => ∃ ρ args S, vs.length = n ∧ RVs K ρ H args vs ∧ RS K ρ H S ∧ FnPost K rx ρ H Q E (f args S)
structure FnAt (P : Program) (w : World) (K : PySem.W.Frag) (mg : Str → Option Value) (base : Heap) (rx : Rx) (k : Nat) (x : Str) (ps : List Str) (f : Ora) : Prop where
  ex : ∃ (g : Addr) (fd : FuncData), mg x = some (.ref g) ∧ PySem.W.keepIn K (.ref g) = true ∧ Binds K fd ps [] ∧ FnOk P w K mg base (L2.CX P w) k g fd ps (spF K rx ps.length f)
theorem RVs.snoc_ext {K : PySem.W.Frag} {ρ : List Addr} {p : Addr} {H : Hp} {S : Sto} {d : DV} (s : RS K (ρ ++ [p]) H (S ++ [d])) : RS K ρ H S ∧ RV K ρ H d (.ref p) := by
  have hl : ρ.length = S.length := by
    have := s.len
    simp at this
    exact this
  have t := s.take ρ.length
  rw [List.take_left, hl, List.take_left] at t
  refine ⟨t, ?_⟩
  have h1 : (ρ ++ [p])[ρ.length]? = some p := by rw [List.getElem?_append_right (Nat.le_refl _), Nat.sub_self]; rfl
  have h2 : (S ++ [d])[ρ.length]? = some d := by rw [hl, List.getElem?_append_right (Nat.le_refl _), Nat.sub_self]; rfl
  have q := s.at_ _ _ _ h1 h2
  have hn : p ∉ ρ := fun m => by
    have := s.nd
    rw [List.nodup_append] at this
    exact this.2.2 p m p (by simp) rfl
  have hsub : ∀ a ∈ ρ, a ∈ ρ ++ [p] := fun a h => List.mem_append_left _ h
  cases d with
  | lst xs =>
    obtain ⟨vs, h3, h4, h5⟩ := q
    simp only [RV]
    exact ⟨p, vs, rfl, hn, h3, h4.free hsub h5⟩
  | dk kvs =>
    obtain ⟨vs, h3, h4, h5⟩ := q
    simp only [RV]
    exact ⟨p, vs, rfl, hn, .inl h3, h4.free hsub h5⟩
  | fz kvs =>
    obtain ⟨vs, h3, h4, h5⟩ := q
    simp only [RV]
    exact ⟨p, vs, rfl, hn, .inr h3, h4.free hsub h5⟩
  | _ => exact False.elim q
theorem Ext.init {ρ : List Addr} {p : Addr} {H H' : Hp} (e : Ext ρ H (ρ ++ [p]) H') : Ext ρ H ρ H' := ⟨⟨[], by simp⟩, e.keep, e.tups, e.frzs, fun a h => .inl h, e.there⟩
theorem v_call {e : Expr} {es : List Expr} {ms : MA} {x : Str} {p : Pos} {k : Nat} {ps : List Str} {f : Ora} (F : FnAt X.prog X.w X.K X.mg X.base rx k x ps f) (hr : Room k X.A) (tk : Takes X W) (ha : IA X rx W (e :: es) ms) (hn : ∀ l S xs S', ms l S = .ok xs S' → xs.length = ps.length)
    (hg : Gl X x := by rfl) (hdb : (x == ("__debug__" : Str)) = false := by decide) (he : starEach (e :: es) X.env = (false, eval e X.env) :: starEach es X.env := by rfl) (hpl : (backTo pos (starEach es X.env)).any (·.1) = false := by rfl) :
    IE X rx W (.Call (.Name x p) (e :: es) [] pos) (call f ms) := by
  obtain ⟨g, fd, hm, hk, hb, ok⟩ := F.ex
  refine pe_imp (pe_callS (E := WE W) ok hr hg hm hk hb (fun σ => passAt tk σ) ha hdb he hpl) fun σ H Q ⟨ρ, l, S, hl, hs, h⟩ => ?_
  have h' : Post X.K rx W ρ H ((ms l S).bind _) (QE X.K ρ H Q) := h
  cases em : ms l S with
  | bad => rw [em] at h'; exact False.elim h'
  | exc c x l' S' => rw [em] at h'; exact ⟨ρ, l, S, hl, hs, by rw [em]; exact h'⟩
  | ok xs S1 =>
    rw [em] at h'
    refine ⟨ρ, l, S, hl, hs, ?_⟩
    rw [em]
    intro ρ1 H1 vs e1 s1 r1
    refine ⟨ρ1, xs, S1, by rw [← r1.length]; exact hn l S xs S1 em, r1, s1, ?_⟩
    simp only [Out.bind] at h'
    cases ef : f xs S1 with
    | bad => rw [ef] at h'; exact h'
    | exc c x l' S2 =>
      rw [ef] at h'
      intro H' cls od e2 s2 q
      exact h' ρ1 H' σ cls od (e1.trans e2) s2 ((hl.mono e1).mono e2) q
    | ok dw S2 =>
      obtain ⟨d, w⟩ := dw
      rw [ef] at h'
      cases w with
      | false => exact fun H' v e2 s2 r2 => h' ρ1 H' v (e1.trans e2) s2 r2
      | true => exact fun H' p e2 s2 => h' ρ1 H' _ (e1.trans e2.init) (RVs.snoc_ext s2).1 (RVs.snoc_ext s2).2
theorem v_callR {e : Expr} {es : List Expr} {ms : MA} {x : Str} {p : Pos} {k : Nat} {ps : List Str} {f : Ora} (F : FnAt X.prog X.w X.K X.mg X.base rx k x ps f) (hr : Room k X.A) (tk : Takes X W) (ha : IA X rx W (e :: es) ms) (hn : ∀ l S xs S', ms l S = .ok xs S' → xs.length = ps.length)
    (hg : Gl X x := by rfl) (hdb : (x == ("__debug__" : Str)) = false := by decide) (he : starEach (e :: es) X.env = (false, eval e X.env) :: starEach es X.env := by rfl) (hpl : (backTo pos (starEach es X.env)).any (·.1) = false := by rfl) :
    IE X rx W (.Call (.Name x p) (e :: es) [] pos) (callR f ms) := by
  obtain ⟨g, fd, hm, hk, hb, ok⟩ := F.ex
  refine pe_imp (pe_callS (E := WE W) ok hr hg hm hk hb (fun σ => passAt tk σ) ha hdb he hpl) fun σ H Q ⟨ρ, l, S, hl, hs, h⟩ => ?_
  have h' : Post X.K rx W ρ H ((ms l S).bind _) (QE X.K ρ H Q) := h
  cases em : ms l S with
  | bad => rw [em] at h'; exact False.elim h'
  | exc c x l' S' => rw [em] at h'; exact ⟨ρ, l, S, hl, hs, by rw [em]; exact h'⟩
  | ok xs S1 =>
    rw [em] at h'
    refine ⟨ρ, l, S, hl, hs, ?_⟩
    rw [em]
    intro ρ1 H1 vs e1 s1 r1
    refine ⟨ρ1, xs, S1, by rw [← r1.length]; exact hn l S xs S1 em, r1, s1, ?_⟩
    simp only [Out.bind] at h'
    cases ef : f xs S1 with
    | bad => rw [ef] at h'; exact h'
    | exc c x l' S2 =>
      rw [ef] at h'
      intro H' cls od e2 s2 q
      exact h' ρ1 H' σ cls od (e1.trans e2) s2 ((hl.mono e1).mono e2) q
    | ok dw S2 =>
      obtain ⟨d, w⟩ := dw
      rw [ef] at h'
      cases w with
      | false => exact False.elim h'
      | true =>
        dsimp only at h'
        split at h'
        · refine fun H' p e2 s2 => h' (ρ1 ++ [p]) H' _ (e1.trans e2) s2 ?_
          simp only [RV]
          have hl2 : ρ1.length = S2.length := by
            have := s2.len
            simp at this
            exact this
          exact ⟨p, by rw [← hl2, List.getElem?_append_right (Nat.le_refl _), Nat.sub_self]; rfl, rfl⟩
        · exact False.elim h'
end
end Y
namespace Y
open PySem L2
/-! ### statements -/
def QS (K : PySem.W.Frag) (ρ : List Addr) (H : Hp) (D : Ends) : Fl → Sto → Prop
  | .nx l, S => ∀ ρ' H' σ', Ext ρ H ρ' H' → RS K ρ' H' S → RL K ρ' H' l σ' → D.nx σ' H'
  | .bk l, S => ∀ ρ' H' σ', Ext ρ H ρ' H' → RS K ρ' H' S → RL K ρ' H' l σ' → D.bk σ' H'
  | .ct l, S => ∀ ρ' H' σ', Ext ρ H ρ' H' → RS K ρ' H' S → RL K ρ' H' l σ' → D.ct σ' H'
  | .rt d, S => ∀ ρ' H' v, Ext ρ H ρ' H' → RS K ρ' H' S → RV K ρ' H' d v → D.rt v H'
def tS (K : PySem.W.Frag) (rx : Rx) (W : WX) (m : MS) : TS := fun D σ H => ∃ ρ l S, RL K ρ H l σ ∧ RS K ρ H S ∧ Post K rx W ρ H (m l S) (QS K ρ H D)
theorem ps_imp {X : Cx} {e : Stmt} {t t' : TS} (h : PS X e t) (f : ∀ D σ H, t' D σ H → t D σ H) : PS X e t' := ⟨fun pins s σ H D I q => h.run pins s σ H D I (f D σ H q)⟩
theorem pss_imp {X : Cx} {e : List Stmt} {t t' : TS} (h : PSs X e t) (f : ∀ D σ H, t' D σ H → t D σ H) : PSs X e t' := ⟨fun pins s σ H D I q => h.run pins s σ H D I (f D σ H q)⟩
theorem QS.back {K : PySem.W.Frag} {ρ ρ1 : List Addr} {H H1 : Hp} {D : Ends} {f : Fl} {S : Sto} (e : Ext ρ H ρ1 H1) (h : QS K ρ H D f S) : QS K ρ1 H1 D f S := by
  cases f with
  | nx l => exact fun ρ' H' σ' e' => h ρ' H' σ' (e.trans e')
  | bk l => exact fun ρ' H' σ' e' => h ρ' H' σ' (e.trans e')
  | ct l => exact fun ρ' H' σ' e' => h ρ' H' σ' (e.trans e')
  | rt d => exact fun ρ' H' v e' => h ρ' H' v (e.trans e')
theorem back_S {K : PySem.W.Frag} {rx : Rx} {W : WX} {m : MS} {σ : L2.St} {H : Hp} {ρ ρ1 : List Addr} {H1 : Hp} {l : Lo} {S : Sto} {D : Ends} (e : Ext ρ H ρ1 H1) (l1 : RL K ρ1 H1 l σ) (s1 : RS K ρ1 H1 S) (h : Post K rx W ρ1 H1 (m l S) (QS K ρ H D)) : tS K rx W m D σ H1 :=
  ⟨ρ1, l, S, l1, s1, h.imp fun d S' q => q.back e⟩
/-- a target -/
def TgOk (K : PySem.W.Frag) (g : TG) (t : Tg) : Prop := ∀ (ρ : List Addr) (H : Hp) (l : Lo) (σ : L2.St) (d : DV) (v : V) (l' : Lo) (Q : L2.St → Hp → Prop), RL K ρ H l σ → RV K ρ H d v → t d l = some l' → (∀ σ', RL K ρ H l' σ' → Q σ' H) → g v σ H Q
structure IG (X : Cx) (e : Expr) (t : Tg) : Prop where
  ex : ∃ g, PG X e g ∧ TgOk X.K g t
theorem tg_name {K : PySem.W.Frag} (i : Nat) : TgOk K (gName i) (tN i) := fun ρ H l σ d v l' Q hl hv e k => by
  cases e
  exact k _ (hl.set i hv)
def gNames : List Nat → TGs
  | [] => gNil
  | i :: is => gCons (gName i) (gNames is)
theorem tg_names {K : PySem.W.Frag} {ρ : List Addr} {H : Hp} {Q : L2.St → Hp → Prop} : ∀ (is : List Nat) (xs : List DV) (vs : List V) (l : Lo) (σ : L2.St), RL K ρ H l σ → RVs K ρ H xs vs → xs.length = is.length →
    (∀ σ', RL K ρ H ((is.zip xs).foldl (fun l p => l.set p.1 (some p.2)) l) σ' → Q σ' H) → gNames is vs σ H Q
  | [], [], vs, l, σ, hl, hv, _, k => by
    simp only [RVs] at hv
    exact ⟨hv, k σ hl⟩
  | i :: is, x :: xs, vs, l, σ, hl, hv, hn, k => by
    simp only [RVs] at hv
    obtain ⟨v, r, rfl, h1, h2⟩ := hv
    exact ⟨v, r, rfl, tg_names is xs r _ _ (hl.set i h1) h2 (by simpa using hn) k⟩
theorem tg_tup {K : PySem.W.Frag} (is : List Nat) : TgOk K (gTup K is.length (gNames is)) (tU is) := fun ρ H l σ d v l' Q hl hv e k => by
  unfold tU at e
  split at e
  · rename_i xs
    split at e
    · rename_i hn
      cases e
      obtain ⟨a, vs, rfl, h1, h2⟩ := hv.tup
      exact ⟨a, vs, rfl, h1, by rw [← h2.length]; exact hn, tg_names is xs vs l σ hl h2 hn k⟩
    · cases e
  · cases e
section
variable {X : Cx} {rx : Rx} {W : WX} {a b e tg : Expr} {ma mb me : ME} {pos : Pos} {st : Stmt} {rest : List Stmt}
abbrev IS (X : Cx) (rx : Rx) (W : WX) (st : Stmt) (m : MS) : Prop := PS X st (tS X.K rx W m)
abbrev ISs (X : Cx) (rx : Rx) (W : WX) (st : List Stmt) (m : MS) : Prop := PSs X st (tS X.K rx W m)
theorem g_name (i : Nat) {x : Str} (hN : X.N.Nodup) (hi : X.N[i]? = some x := by rfl) (hx : Loc X.env.scope x := by first | exact Or.inl rfl | exact Or.inr rfl) (hf : X.fn x = true ∨ X.env.scope.names.lookup x = some .local := by first | exact .inl rfl | exact .inr rfl) : IG X (.Name x pos) (tN i) :=
  ⟨_, pg_name hN hi hx hf, tg_name i⟩
structure IGs (X : Cx) (es : List Expr) (is : List Nat) : Prop where
  run : PGs X es (gNames is)
theorem gs_nil : IGs X [] [] := ⟨pgs_nil⟩
theorem gs_cons (i : Nat) {x : Str} {es : List Expr} {is : List Nat} (hN : X.N.Nodup) (h : IGs X es is) (hi : X.N[i]? = some x := by rfl) (hx : Loc X.env.scope x := by first | exact Or.inl rfl | exact Or.inr rfl) (hf : X.fn x = true ∨ X.env.scope.names.lookup x = some .local := by first | exact .inl rfl | exact .inr rfl)
    (hs : (assignEach (.Name x pos :: es) X.env).map (·.2) = assign (.Name x pos) X.env :: (assignEach es X.env).map (·.2) := by rfl) : IGs X (.Name x pos :: es) (i :: is) :=
  ⟨pgs_cons (pg_name hN hi hx hf) h.run hs⟩
theorem g_tup {es : List Expr} {is : List Nat} {k : Nat} (hc : X.calm = true) (h : IGs X es is) (hn : (assignEach es X.env).length = is.length := by rfl) (hst : (assignEach es X.env).findIdx? (·.1) = none := by rfl) : IG X (.Tuple es k pos) (tU is) :=
  ⟨_, pg_tup hc h.run hn hst, tg_tup is⟩

theorem v_skip : ISs X rx W [] skip := pss_imp pss_nil fun D σ H ⟨ρ, l, S, hl, hs, h⟩ => h ρ H σ .refl hs hl
theorem v_one {m : MS} (h : IS X rx W st m) : ISs X rx W [st] m := pss_one h
theorem v_seq {m m' : MS} (h : IS X rx W st m) (h' : ISs X rx W rest m') : ISs X rx W (st :: rest) (seq m m') :=
  pss_imp (pss_cons h h') fun D σ H ⟨ρ, l, S, hl, hs, h⟩ => ⟨ρ, l, S, hl, hs, h.bind.imp fun f S1 q => by
    cases f with
    | nx l1 => exact fun ρ' H' σ' e' s' l' => back_S e' l' s' (q.shift e')
    | bk l1 => exact q
    | ct l1 => exact q
    | rt d => exact q⟩
theorem v_asg {t : Tg} (he : IE X rx W e me) (hg : IG X tg t) (hs : swapsWithSole [tg] e pos.line X.env = pure false := by rfl) (hw : swappedStores [tg] e X.env = pure none := by rfl)
    (h1 : (assignEach [tg] X.env).map (·.2) = [assign tg X.env] := by rfl) : IS X rx W (.Assign [tg] e pos) (asg t me) := by
  obtain ⟨g, hp, ht⟩ := hg.ex
  refine ps_imp (ps_asg he hp hs hw h1) fun D σ H ⟨ρ, l, S, hl, hs, h⟩ => ?_
  refine bindI hl hs h fun ρ1 H1 x S1 v e1 s1 l1 r1 h1 => ?_
  split at h1
  · rename_i l' hl'
    exact ht ρ1 H1 l σ x v l' _ l1 r1 hl' fun σ' l2 => h1 ρ1 H1 σ' e1 s1 l2
  · exact False.elim h1
theorem v_set (i : Nat) {x : Str} {pos' : Pos} (hN : X.N.Nodup) (he : IE X rx W e me) (hi : X.N[i]? = some x := by rfl) (hx : Loc X.env.scope x := by first | exact Or.inl rfl | exact Or.inr rfl) (hs : swapsWith e (some (.Name x pos')) pos.line X.env = pure false := by rfl)
    (hf : X.fn x = true ∨ X.env.scope.names.lookup x = some .local := by first | exact .inl rfl | exact .inr rfl) : IS X rx W (.Assign [.Name x pos'] e pos) (asg (tN i) me) :=
  ps_imp (ps_set hN hi hx he hs hf) fun D σ H ⟨ρ, l, S, hl, hs, h⟩ => bindI hl hs h fun ρ1 H1 x S1 v e1 s1 l1 r1 h1 => h1 ρ1 H1 _ e1 s1 (l1.set i r1)
theorem v_ret (he : IE X rx W e me) : IS X rx W (.Return (some e) pos) (ret me) :=
  ps_imp (ps_ret he) fun D σ H ⟨ρ, l, S, hl, hs, h⟩ => bindI hl hs h fun ρ1 H1 x S1 v e1 s1 l1 r1 h1 => h1 ρ1 H1 v e1 s1 r1
theorem v_retN : IS X rx W (.Return none pos) retN := ps_imp ps_retN fun D σ H ⟨ρ, l, S, hl, hs, h⟩ => h ρ H .non .refl hs (by simp [RV])
theorem v_pass : IS X rx W (.Pass pos) skip := ps_imp ps_pass fun D σ H ⟨ρ, l, S, hl, hs, h⟩ => h ρ H σ .refl hs hl
theorem v_brk : IS X rx W (.Break pos) brk := ps_imp ps_break fun D σ H ⟨ρ, l, S, hl, hs, h⟩ => h ρ H σ .refl hs hl
theorem v_cont : IS X rx W (.Continue pos) cont := ps_imp ps_continue fun D σ H ⟨ρ, l, S, hl, hs, h⟩ => h ρ H σ .refl hs hl
theorem v_if {c : MT} {m m' : MS} {t t' : List Stmt} (hc : IT X rx W e c) (h : ISs X rx W t m) (h' : ISs X rx W t' m') : IS X rx W (.If e t t' pos) (ifS c m m') :=
  ps_imp (ps_if hc h h') fun D σ H ⟨ρ, l, S, hl, hs, h⟩ => bindT hl hs h fun ρ1 H1 k S1 e1 s1 l1 h1 => by
    cases k with
    | true =>
      rw [if_pos rfl] at h1 ⊢
      exact back_S e1 l1 s1 h1
    | false =>
      rw [if_neg Bool.false_ne_true] at h1 ⊢
      exact back_S e1 l1 s1 h1
theorem v_drop (he : IE X rx W e me) (hs : swapsWith e none pos.line X.env = pure false := by rfl) : IS X rx W (.Expr e pos) (drop me) :=
  ps_imp (ps_expr he hs) fun D σ H ⟨ρ, l, S, hl, hs, h⟩ => bindI hl hs h fun ρ1 H1 x S1 v e1 s1 l1 r1 h1 => h1 ρ1 H1 _ e1 s1 l1
theorem tyL {K : PySem.W.Frag} {ρ : List Addr} {H : Hp} {S : Sto} {x : DV} {v : V} (s : RS K ρ H S) (r : RV K ρ H x v) (h : (lstOf S x).isSome = true) : tyV K "list" v H := by
  obtain ⟨xs, e⟩ := Option.isSome_iff_exists.mp h
  obtain ⟨a, vs, rfl, h1, _⟩ := r.lstOf s e
  exact .inl ⟨rfl, vs, SqL.of h1⟩
theorem RV.ref {K : PySem.W.Frag} {ρ : List Addr} {H : Hp} {k : Nat} {v : V} (h : RV K ρ H (.ref k) v) : ∃ a, ρ[k]? = some a ∧ v = .ref a := by simpa only [RV] using h
theorem v_app {apos cpos : Pos} (ha : IE X rx W a ma) (he : IE X rx W e me) (hbase : attributeBase a "append" X.env (eval a X.env) = eval a X.env := by rfl)
    (hfew : ((backTo cpos (starEach [e] X.env)).all (fun x => !x.1) && (backToKw cpos (keywordEach [] X.env)).all (fun x => x.1.isSome)
      && decide (([e]).length + ([] : List Keyword).length + (if ([] : List Keyword).isEmpty then 0 else 1) < 30)) = true := by rfl)
    (hline : (apos.endLine == cpos.line) = true := by rfl) (hs : starEach [e] X.env = (false, eval e X.env) :: starEach [] X.env := by rfl) (hplain : (backTo cpos (starEach [] X.env)).any (·.1) = false := by rfl)
    (hsw : swapsWith (.Call (.Attribute a "append" apos) [e] [] cpos) none pos.line X.env = pure false := by rfl) : IS X rx W (.Expr (.Call (.Attribute a "append" apos) [e] [] cpos) pos) (app ma me) := by
  refine ps_imp (ps_expr (pe_bm PySem.F.plainAttrs_list PySem.F.slot_list_append PySem.F.type_list_append mt_append ha (pa_cons he pa_nil hs) hbase hfew hline hs hplain) hsw) fun D σ H ⟨ρ, l, S, hl, hs, h⟩ => ?_
  refine bindI hl hs h fun ρ1 H1 x S1 v e1 s1 l1 r1 h1 => ?_
  split at h1
  · rename_i hx
    refine ⟨tyL s1 r1 hx, bindI l1 s1 h1 fun ρ2 H2 y S2 u e2 s2 l2 r2 h2 => ?_⟩
    split at h2
    · rename_i k
      split at h2
      · rename_i xs hk
        split at h2
        · rename_i hz
          obtain ⟨p, hp, rfl⟩ := (r1.mono e2).ref
          obtain ⟨vs, h3, h4, h5⟩ := s2.at_ k p _ hp hk
          refine ⟨p, vs, u, rfl, rfl, h3, by rw [← h4.length, ← LIM_eq]; exact hz.1, ?_⟩
          have ew : Ext ρ2 H2 ρ2 (upd H2 p (.lst (vs ++ [u]))) := ext_write s2 (List.mem_of_getElem? hp) (Live.l h3)
          refine h2 ρ2 _ σ (e1.trans (e2.trans ew)) (s2.write hp (Live.l h3) ⟨_, upd_same, (h4.append (rvs1 r2)).mono ew, noRefs_app h5 ?_⟩) (l2.mono ew)
          simp only [noRefs, hz.2]
          all_goals rfl
        · exact False.elim h2
      · exact False.elim h2
    · exact False.elim h2
  · exact False.elim h1
theorem v_ext {apos cpos : Pos} (ha : IE X rx W a ma) (he : IE X rx W e me) (hbase : attributeBase a "extend" X.env (eval a X.env) = eval a X.env := by rfl)
    (hfew : ((backTo cpos (starEach [e] X.env)).all (fun x => !x.1) && (backToKw cpos (keywordEach [] X.env)).all (fun x => x.1.isSome)
      && decide (([e]).length + ([] : List Keyword).length + (if ([] : List Keyword).isEmpty then 0 else 1) < 30)) = true := by rfl)
    (hline : (apos.endLine == cpos.line) = true := by rfl) (hs : starEach [e] X.env = (false, eval e X.env) :: starEach [] X.env := by rfl) (hplain : (backTo cpos (starEach [] X.env)).any (·.1) = false := by rfl)
    (hsw : swapsWith (.Call (.Attribute a "extend" apos) [e] [] cpos) none pos.line X.env = pure false := by rfl) : IS X rx W (.Expr (.Call (.Attribute a "extend" apos) [e] [] cpos) pos) (ext ma me) := by
  refine ps_imp (ps_expr (pe_bm PySem.F.plainAttrs_list PySem.F.slot_list_extend PySem.F.type_list_extend mt_extend ha (pa_cons he pa_nil hs) hbase hfew hline hs hplain) hsw) fun D σ H ⟨ρ, l, S, hl, hs, h⟩ => ?_
  refine bindI hl hs h fun ρ1 H1 x S1 v e1 s1 l1 r1 h1 => ?_
  split at h1
  · rename_i hx
    refine ⟨tyL s1 r1 hx, bindI l1 s1 h1 fun ρ2 H2 y S2 u e2 s2 l2 r2 h2 => ?_⟩
    split at h2
    · rename_i k
      split at h2
      · rename_i xs ys hk hy
        split at h2
        · rename_i hz
          obtain ⟨p, hp, rfl⟩ := (r1.mono e2).ref
          obtain ⟨vs, h3, h4, h5⟩ := s2.at_ k p _ hp hk
          obtain ⟨q, ws, rfl, h6, h7⟩ := r2.lstOf s2 hy
          refine ⟨p, q, vs, ws, rfl, rfl, h3, h6, by rw [← h4.length, ← h7.length, ← LIM_eq]; exact hz.1, ?_⟩
          have ew : Ext ρ2 H2 ρ2 (upd H2 p (.lst (vs ++ ws))) := ext_write s2 (List.mem_of_getElem? hp) (Live.l h3)
          exact h2 ρ2 _ σ (e1.trans (e2.trans ew)) (s2.write hp (Live.l h3) ⟨_, upd_same, (h4.append h7).mono ew, noRefs_app h5 hz.2⟩) (l2.mono ew)
        · exact False.elim h2
      · exact False.elim h2
    · exact False.elim h2
  · exact False.elim h1
theorem v_setL {i : Expr} {mi : ME} {tpos : Pos} (he : IE X rx W e me) (ha : IE X rx W a ma) (hi : IE X rx W i mi) (hpg : ∀ {to ti : TE} {t : TSet}, PE X a to → PE X i ti → PSet X t → PG X (.Subscript a i tpos) (gSub to ti t) := by intro _ _ _ h1 h2 h3; exact pg_sub h1 h2 h3)
    (hs : swapsWithSole [.Subscript a i tpos] e pos.line X.env = pure false := by rfl) (hw : swappedStores [.Subscript a i tpos] e X.env = pure none := by rfl)
    (h1 : (assignEach [.Subscript a i tpos] X.env).map (·.2) = [assign (.Subscript a i tpos) X.env] := by rfl) : IS X rx W (.Assign [.Subscript a i tpos] e pos) (setL ma mi me) := by
  refine ps_imp (ps_asg he (hpg ha hi set_list) hs hw h1) fun D σ H ⟨ρ, l, S, hl, hs, h⟩ => ?_
  refine bindI hl hs h fun ρ1 H1 y S1 u e1 s1 l1 r1 h1 => ?_
  refine bindI l1 s1 h1 fun ρ2 H2 x S2 v e2 s2 l2 r2 h2 => ?_
  refine bindI l2 s2 h2 fun ρ3 H3 j S3 w e3 s3 l3 r3 h3 => ?_
  split at h3
  · rename_i k j
    split at h3
    · rename_i xs hk
      split at h3
      · rename_i m hm
        split at h3
        · rename_i hn
          obtain ⟨p, hp, rfl⟩ := (r2.mono e3).ref
          obtain ⟨vs, h4, h5, h6⟩ := s3.at_ k p _ hp hk
          rw [r3.int]
          refine ⟨p, vs, j, m, rfl, rfl, h4, by rw [← h5.length]; exact hm, ?_⟩
          have ew : Ext ρ3 H3 ρ3 (upd H3 p (.lst (vs.set m u))) := ext_write s3 (List.mem_of_getElem? hp) (Live.l h4)
          exact h3 ρ3 _ σ (e1.trans (e2.trans (e3.trans ew))) (s3.write hp (Live.l h4) ⟨_, upd_same, (h5.set m ((r1.mono e2).mono e3)).mono ew, noRefs_set m h6 hn⟩) (l3.mono ew)
        · exact False.elim h3
      · exact False.elim h3
    · exact False.elim h3
  · exact False.elim h3
theorem v_pop {apos cpos : Pos} (ha : IE X rx W a ma) (hbase : attributeBase a "pop" X.env (eval a X.env) = eval a X.env := by rfl) (hline : (apos.endLine == cpos.line) = true := by rfl) :
    IE X rx W (.Call (.Attribute a "pop" apos) [] [] cpos) (popE ma) := by
  refine pe_imp (pe_bm0 PySem.F.plainAttrs_list PySem.F.slot_list_pop PySem.F.type_list_pop mt_pop ha hbase hline) fun σ H Q ⟨ρ, l, S, hl, hs, h⟩ => ?_
  refine bindI hl hs h fun ρ1 H1 x S1 v e1 s1 l1 r1 h1 => ?_
  split at h1
  · rename_i k
    split at h1
    · rename_i xs hk
      split at h1
      · rename_i y hy
        obtain ⟨p, hp, rfl⟩ := r1.ref
        obtain ⟨vs, h3, h4, h5⟩ := s1.at_ k p _ hp hk
        obtain ⟨u, hu, ru⟩ := h4.get hy
        have ew : Ext ρ1 H1 ρ1 (upd H1 p (.lst vs.dropLast)) := ext_write s1 (List.mem_of_getElem? hp) (Live.l h3)
        refine ⟨.inl ⟨rfl, vs, SqL.of h3⟩, p, vs, u, rfl, rfl, h3, by rw [← h4.length]; exact hu, ?_⟩
        refine h1 ρ1 _ u (e1.trans ew) (s1.write hp (Live.l h3) ⟨_, upd_same, ?_, noRefs_sub h5 fun d m => List.dropLast_subset _ m⟩) (ru.mono ew)
        have e1 : vs.dropLast = vs.take (xs.length - 1) := by rw [List.dropLast_eq_take, h4.length]
        have q : RVs X.K ρ1 H1 xs.dropLast vs.dropLast := by
          rw [e1, List.dropLast_eq_take]
          exact h4.take _
        exact q.mono ew
      · exact False.elim h1
    · exact False.elim h1
  · exact False.elim h1
/-- behind a turn: what the loop's rest wants -/
theorem flow_turn {K : PySem.W.Frag} {rx : Rx} {W : WX} {ρ ρ0 : List Addr} {H H0 : Hp} {D : Ends} {N : L2.St → Hp → Prop} {f : Fl} {S : Sto} {rest : Lo → Sto → Out Fl} (e0 : Ext ρ0 H0 ρ H)
    (hN : ∀ ρ' H' σ' l, Ext ρ H ρ' H' → RS K ρ' H' S → RL K ρ' H' l σ' → Post K rx W ρ' H' (rest l S) (QS K ρ' H' D) → N σ' H')
    (h : Post K rx W ρ H (match f with
      | .nx l2 => rest l2 S
      | .ct l2 => rest l2 S
      | .bk l2 => .ok (.nx l2) S
      | .rt d => .ok (.rt d) S) (QS K ρ0 H0 D)) : QS K ρ H { D with nx := N, ct := N, bk := D.nx } f S := by
  cases f with
  | nx l => exact fun ρ' H' σ' e s r => hN ρ' H' σ' l e s r ((h.shift e).imp fun _ _ q => q.back (e0.trans e))
  | ct l => exact fun ρ' H' σ' e s r => hN ρ' H' σ' l e s r ((h.shift e).imp fun _ _ q => q.back (e0.trans e))
  | bk l => exact fun ρ' H' σ' e s r => h ρ' H' σ' (e0.trans e) s r
  | rt d => exact fun ρ' H' v e s r => h ρ' H' v (e0.trans e) s r
theorem v_while {c : MT} {m : MS} {body : List Stmt} (hp : PassesOwn (model X.prog X.w) X.A X.env X.xe) (hc : IT X rx W e c) (hb : ISs X rx W body m) : IS X rx W (.While e body [] pos) (whileS c m) := by
  refine ps_imp (ps_while hp hc hb) fun D σ H ⟨ρ, l, S, hl, hs, h⟩ => ?_
  refine ⟨fun n σ1 H1 => ∃ ρ1 l1 S1, RL X.K ρ1 H1 l1 σ1 ∧ RS X.K ρ1 H1 S1 ∧ Post X.K rx W ρ1 H1 (whileN c m n l1 S1) (QS X.K ρ1 H1 D), ⟨TURNS, ρ, l, S, hl, hs, h⟩, ?_⟩
  rintro n σ1 H1 ⟨ρ1, l1, S1, hl1, hs1, h1⟩
  cases n with
  | zero => exact False.elim h1
  | succ n =>
    unfold whileN at h1
    refine bindT hl1 hs1 h1 fun ρ2 H2 k S2 e2 s2 l2 h2 => ?_
    cases k with
    | true =>
      rw [if_pos rfl] at h2 ⊢
      refine ⟨_, fun σ' H' q => ⟨n, Nat.lt_succ_self n, q⟩, ρ2, l1, S2, l2, s2, h2.bind.imp fun f S3 h3 => ?_⟩
      exact flow_turn e2 (fun ρ' H' σ' l e s r q => ⟨ρ', l, S3, r, s, q⟩) h3
    | false =>
      rw [if_neg Bool.false_ne_true] at h2 ⊢
      exact h2 ρ2 H2 σ1 e2 s2 l2

/-! ### for -/
/-- a source: what it gives at each turn -/
structure Src (K : PySem.W.Frag) (ρ : List Addr) (H : Hp) (xs : List DV) (gs : List (Nat × DV)) (J : It) (G : Hp → Prop) (Y : Nat → Hp → V → Hp → Prop) : Prop where
  walk : Walk J xs.length G Y
  go : ∀ ρ1 H1 S1, Ext ρ H ρ1 H1 → RS K ρ1 H1 S1 → held S1 gs = true → G H1
  yl : ∀ ρ1 H1 S1, Ext ρ H ρ1 H1 → RS K ρ1 H1 S1 → held S1 gs = true → ∀ i x H2, i < xs.length → Y i H1 x H2 → ∃ d, xs[i]? = some d ∧ RV K ρ1 H2 d x ∧ Ext ρ1 H1 ρ1 H2 ∧ RS K ρ1 H2 S1
def tN' (K : PySem.W.Frag) (rx : Rx) (W : WX) (m : MI) : TI := fun σ H R => ∃ ρ l S, RL K ρ H l σ ∧ RS K ρ H S ∧ Post K rx W ρ H (m l S) fun p S' =>
  ∀ ρ' H' J G Y, Ext ρ H ρ' H' → RS K ρ' H' S' → Src K ρ' H' p.1 p.2 J G Y → R J H'
abbrev II (X : Cx) (rx : Rx) (W : WX) (tg e : Expr) (m : MI) : Prop := PI X tg e (tN' X.K rx W m)
theorem pi_imp {tg e : Expr} {t t' : TI} (h : PI X tg e t) (f : ∀ σ H R, t' σ H R → t σ H R) : PI X tg e t' := ⟨fun pins s σ H R I q => h.run pins s σ H R I (f σ H R q)⟩
theorem loop_held {t : Tg} {m : MS} {gs : List (Nat × DV)} {xs : List DV} {l : Lo} {S : Sto} {K : PySem.W.Frag} {ρ : List Addr} {H : Hp} {R : Fl → Sto → Prop} (h : Post K rx W ρ H (loop t m gs xs l S) R) : held S gs = true := by
  cases xs with
  | nil =>
    unfold loop at h
    split at h
    · assumption
    · exact False.elim h
  | cons x xs =>
    unfold loop at h
    split at h
    · assumption
    · exact False.elim h
theorem v_for {t : Tg} {mi : MI} {m : MS} {it : Expr} {body : List Stmt} (hp : PassesOwn (model X.prog X.w) X.A X.env X.xe) (hc : X.calm = true) (hi : II X rx W tg it mi) (hg : IG X tg t) (hb : ISs X rx W body m)
    (hf : ∀ x, foldedSetIterable it X.env x = pure x := by intro _; rfl) : IS X rx W (.For tg it body [] pos) (forS t mi m) := by
  obtain ⟨g, hpg, ht⟩ := hg.ex
  refine ps_imp (ps_for hp hc hi hpg hb hf) fun D σ H ⟨ρ, l, S, hl, hs, h⟩ => ?_
  refine ⟨ρ, l, S, hl, hs, h.bind.imp fun p S1 h1 ρ1 H1 J G Y e1 s1 src => ?_⟩
  refine for_it src.walk (fun i σ2 H2 => ∃ ρ2 l2 S2, Ext ρ1 H1 ρ2 H2 ∧ RL X.K ρ2 H2 l2 σ2 ∧ RS X.K ρ2 H2 S2 ∧ Post X.K rx W ρ2 H2 (loop t m p.2 (p.1.drop i) l2 S2) (QS X.K ρ2 H2 D))
    ⟨ρ1, l, S1, .refl, hl.mono e1, s1, (h1.shift e1).imp fun _ _ q => q.back e1⟩ ?_ ?_ ?_
  · rintro i σ2 H2 _ ⟨ρ2, l2, S2, e2, hl2, s2, h2⟩
    exact src.go ρ2 H2 S2 e2 s2 (loop_held h2)
  · rintro i x σ2 H2 H3 hi ⟨ρ2, l2, S2, e2, hl2, s2, h2⟩ y
    obtain ⟨d, hd, r3, e3, s3⟩ := src.yl ρ2 H2 S2 e2 s2 (loop_held h2) i x H3 hi y
    have hdr : p.1.drop i = d :: p.1.drop (i + 1) := by
      obtain ⟨hlt, he⟩ := List.getElem?_eq_some_iff.mp hd
      rw [List.drop_eq_getElem_cons hlt, he]
    rw [hdr] at h2
    unfold loop at h2
    split at h2
    · split at h2
      · rename_i l3 hl3
        refine ht ρ2 H3 l2 σ2 d x l3 _ (hl2.mono e3) r3 hl3 fun σ3 hσ3 => ?_
        refine ⟨ρ2, l3, S2, hσ3, s3, (h2.shift e3).bind.imp fun f S4 h4 => ?_⟩
        exact flow_turn e3 (fun ρ' H' σ' l e s r q => ⟨ρ', l, S4, e2.trans (e3.trans e), r, s, q⟩) h4
      · exact False.elim h2
    · exact False.elim h2
  · rintro σ2 H2 ⟨ρ2, l2, S2, e2, hl2, s2, h2⟩
    rw [List.drop_length] at h2
    unfold loop at h2
    split at h2
    · exact h2 ρ2 H2 σ2 .refl s2 hl2
    · exact False.elim h2

/-! ### comprehensions -/
abbrev W0 : WX := fun _ _ _ _ => False
/-- the tests of a comprehension -/
abbrev ITs (X : Cx) (rx : Rx) (ifs : List Expr) (c : MT) : Prop := PTs X ifs (tT X.K rx W0 c)
theorem pts_imp {e : List Expr} {t t' : TT} (h : PTs X e t) (f : ∀ σ H Q, t' σ H Q → t σ H Q) : PTs X e t' := ⟨fun pins s σ H Q I q => h.run pins s σ H Q I (f σ H Q q)⟩
theorem v_ifs0 : ITs X rx [] tYes := pts_imp pts_nil fun σ H Q ⟨ρ, l, S, hl, hs, h⟩ => h ρ H .refl hs
theorem v_ifs1 {c : MT} (h : IT X rx W0 e c) : ITs X rx [e] c := pts_one h
theorem comp_held {t : Tg} {c : MT} {gs : List (Nat × DV)} {xs : List DV} {l : Lo} {n : Nat} {S : Sto} {R : Unit → Sto → Prop} {K : PySem.W.Frag} {ρ : List Addr} {H : Hp} (h : Post K rx W0 ρ H (compL t c me gs l n xs S) R) : held S gs = true := by
  cases xs with
  | nil =>
    unfold compL at h
    split at h
    · assumption
    · exact False.elim h
  | cons x xs =>
    unfold compL at h
    split at h
    · assumption
    · exact False.elim h
theorem comp_core {t : Tg} {g : TG} {c : MT} {own : List Nat} {σ : L2.St} {l : Lo} {ρ1 : List Addr} {H1 : Hp} {S1 : Sto} {p : List DV × List (Nat × DV)} {J : It} {G : Hp → Prop} {Y : Nat → Hp → V → Hp → Prop} {Qd : Hp → Prop} {D : Addr} {K : PySem.W.Frag}
    (ht : TgOk K g t) (gw : ∀ (x : V) (H0 : Hp) (Q : L2.St → Hp → Prop), g x (wipe σ own) H0 Q → g x (wipe σ own) H0 fun σ2 H2 => wipe σ2 own = wipe σ own ∧ Q σ2 H2) (hl : RL K ρ1 H1 l σ) (hs : RS K ρ1 H1 S1) (src : Src K ρ1 H1 p.1 p.2 J G Y) (hD : H1 D = none)
    (h : Post K rx W0 ρ1 H1 (compL t c me p.2 (wipeL l own) S1.length p.1 (S1 ++ [.lst []])) fun _ S2 => ∀ ρ2 H2, Ext (ρ1 ++ [D]) (upd H1 D (.lst [])) ρ2 H2 → RS K ρ2 H2 S2 → Qd H2) :
    ∃ W : Nat → Nat → Hp → Prop, (∃ m, W 0 m (upd H1 D (.lst []))) ∧ ∀ i m H, W i m H →
      (J.stop i H ∧ Qd H) ∨ (J.go i H ∧ ∃ Nx : Hp → Prop, (∀ H', Nx H' → ∃ m', m' < m ∧ W (i + 1) m' H') ∧ ∀ x H', J.yld i H x H' → g x (wipe σ own) H' fun σ2 H2 => wipe σ2 own = wipe σ own ∧ tT K rx W0 c σ2 H2 fun b H3 =>
        if b = true then tI K rx W0 me σ2 H3 fun y H4 => ∃ acc, H4 D = some (.lst acc) ∧ acc.length < sizeLine ∧ Nx (upd H4 D (.lst (acc ++ [y]))) else Nx H3) := by
  have e0 : Ext ρ1 H1 (ρ1 ++ [D]) (upd H1 D (.lst [])) := ext_push hD
  have atD : ∀ {ρ2 : List Addr} {H2 : Hp}, Ext (ρ1 ++ [D]) (upd H1 D (.lst [])) ρ2 H2 → ρ2[S1.length]? = some D := fun {ρ2 H2} e => by
    obtain ⟨t, rfl⟩ := e.pre
    rw [← hs.len, List.append_assoc, List.getElem?_append_right (Nat.le_refl _), Nat.sub_self]
    rfl
  refine lc_it src.walk (fun i H => ∃ ρ2 S2, Ext (ρ1 ++ [D]) (upd H1 D (.lst [])) ρ2 H ∧ RS K ρ2 H S2 ∧ Post K rx W0 ρ2 H (compL t c me p.2 (wipeL l own) S1.length (p.1.drop i) S2) fun _ S2 => ∀ ρ2 H2, Ext (ρ1 ++ [D]) (upd H1 D (.lst [])) ρ2 H2 → RS K ρ2 H2 S2 → Qd H2)
    ⟨ρ1 ++ [D], S1 ++ [.lst []], .refl, hs.push (d := .lst []) hD ⟨[], upd_same, by simp [RVs], rfl⟩, by rw [List.drop_zero]; exact h.shift e0⟩ ?_ ?_ ?_
  · rintro i H _ ⟨ρ2, S2, e2, s2, h2⟩
    exact src.go ρ2 H S2 (e0.trans e2) s2 (comp_held h2)
  · rintro i x H H' hi ⟨ρ2, S2, e2, s2, h2⟩ y
    obtain ⟨d, hd, r3, e3, s3⟩ := src.yl ρ2 H S2 (e0.trans e2) s2 (comp_held h2) i x H' hi y
    have hdr : p.1.drop i = d :: p.1.drop (i + 1) := by
      obtain ⟨hlt, he⟩ := List.getElem?_eq_some_iff.mp hd
      rw [List.drop_eq_getElem_cons hlt, he]
    rw [hdr] at h2
    unfold compL at h2
    split at h2
    · split at h2
      · rename_i l3 hl3
        have hlw : RL K ρ2 H' (wipeL l own) (wipe σ own) := (((hl.mono e0).mono e2).mono e3).wipe own
        refine gw _ _ _ (ht ρ2 H' _ _ d x l3 _ hlw r3 hl3 fun σ3 hσ3 => ?_)
        refine bindT hσ3 s3 (h2.shift e3) fun ρ4 H4 k S4 e4 s4 l4 h4 => ?_
        cases k with
        | true =>
          rw [if_pos rfl] at h4 ⊢
          refine bindI l4 s4 h4 fun ρ5 H5 z S5 v e5 s5 l5 r5 h5 => ?_
          have e15 := e2.trans (e3.trans (e4.trans e5))
          split at h5
          · rename_i acc hk
            split at h5
            · rename_i hz
              obtain ⟨vs, h6, h7, h8⟩ := s5.at_ _ D _ (atD e15) hk
              have ew : Ext ρ5 H5 ρ5 (upd H5 D (.lst (vs ++ [v]))) := ext_write s5 (List.mem_of_getElem? (atD e15)) (Live.l h6)
              refine ⟨vs, h6, by rw [← h7.length, ← LIM_eq]; exact hz.1, ρ5, _, e15.trans ew, s5.write (d := .lst (acc ++ [z])) (atD e15) (Live.l h6) ⟨_, upd_same, (h7.append (rvs1 r5)).mono ew, noRefs_app h8 ?_⟩, h5.shift ew⟩
              simp only [noRefs, hz.2]
              all_goals rfl
            · exact False.elim h5
          · exact False.elim h5
        | false =>
          rw [if_neg Bool.false_ne_true] at h4 ⊢
          exact ⟨ρ4, S4, e2.trans (e3.trans e4), s4, h4⟩
      · exact False.elim h2
    · exact False.elim h2
  · rintro H ⟨ρ2, S2, e2, s2, h2⟩
    rw [List.drop_length] at h2
    unfold compL at h2
    split at h2
    · exact h2 ρ2 H e2 s2
    · exact False.elim h2
/-- the reading of a comprehension -/
theorem comp_read {t : Tg} {g : TG} {c : MT} {mi : MI} {own : List Nat} {σ : L2.St} {H : Hp} {Q : VK} {K : PySem.W.Frag} (ht : TgOk K g t) (gw : ∀ (x : V) (H0 : Hp) (Q : L2.St → Hp → Prop), g x (wipe σ own) H0 Q → g x (wipe σ own) H0 fun σ2 H2 => wipe σ2 own = wipe σ own ∧ Q σ2 H2)
    (h : tI K rx W (comp own t mi c me) σ H Q) : tLc (tN' K rx W mi) g (tT K rx W0 c) (tI K rx W0 me) own σ H Q := by
  obtain ⟨ρ, l, S, hl, hs, h⟩ := h
  refine ⟨ρ, l, S, hl, hs, h.bind.imp fun p S1 h1 ρ1 H1 J G Y e1 s1 src D hD => ?_⟩
  refine comp_core ht gw (hl.mono e1) s1 src hD ?_
  cases ec : compL t c me p.2 (wipeL l own) S1.length p.1 (S1 ++ [.lst []]) with
  | bad => rw [ec] at h1; exact h1
  | exc _ _ _ _ => rw [ec] at h1; exact False.elim h1
  | ok u S2 =>
    rw [ec] at h1
    intro ρ2 H2 e2 s2
    dsimp only at h1
    split at h1
    · rename_i hn
      split at h1
      · rename_i ys hy
        have hp := e2.pre
        obtain ⟨tl, rfl⟩ := hp
        have hl2 := s2.len
        have : tl = [] := List.eq_nil_of_length_eq_zero (by simp only [List.length_append, List.length_singleton, hn, s1.len] at hl2; omega)
        subst this
        rw [List.append_nil] at s2 e2
        have e12 : Ext ρ1 H1 (ρ1 ++ [D]) H2 := (ext_push hD).trans e2
        have hS : S2 = S2.take S1.length ++ [.lst ys] := by
          obtain ⟨hlt, he⟩ := List.getElem?_eq_some_iff.mp hy
          have q := List.take_append_drop S1.length S2
          rw [List.drop_eq_getElem_cons hlt, he, List.drop_eq_nil_of_le (by omega)] at q
          exact q.symm
        rw [hS] at s2
        have z := RVs.snoc_ext s2
        exact h1 ρ1 H2 _ (e1.trans e12.init) z.1 z.2
      · exact False.elim h1
    · exact False.elim h1
theorem compR_read {t : Tg} {g : TG} {c : MT} {mi : MI} {own : List Nat} {σ : L2.St} {H : Hp} {Q : VK} {K : PySem.W.Frag} (ht : TgOk K g t) (gw : ∀ (x : V) (H0 : Hp) (Q : L2.St → Hp → Prop), g x (wipe σ own) H0 Q → g x (wipe σ own) H0 fun σ2 H2 => wipe σ2 own = wipe σ own ∧ Q σ2 H2)
    (h : tI K rx W (compR own t mi c me) σ H Q) : tLc (tN' K rx W mi) g (tT K rx W0 c) (tI K rx W0 me) own σ H Q := by
  obtain ⟨ρ, l, S, hl, hs, h⟩ := h
  refine ⟨ρ, l, S, hl, hs, h.bind.imp fun p S1 h1 ρ1 H1 J G Y e1 s1 src D hD => ?_⟩
  refine comp_core ht gw (hl.mono e1) s1 src hD ?_
  cases ec : compL t c me p.2 (wipeL l own) S1.length p.1 (S1 ++ [.lst []]) with
  | bad => rw [ec] at h1; exact h1
  | exc _ _ _ _ => rw [ec] at h1; exact False.elim h1
  | ok u S2 =>
    rw [ec] at h1
    intro ρ2 H2 e2 s2
    refine h1 ρ2 H2 _ (e1.trans ((ext_push hD).trans e2)) s2 ?_
    obtain ⟨t, rfl⟩ := e2.pre
    simp only [RV]
    exact ⟨D, by rw [← s1.len, List.append_assoc, List.getElem?_append_right (Nat.le_refl _), Nat.sub_self]; rfl, rfl⟩
/-- a target that writes the comprehension's own names alone -/
structure IGo (X : Cx) (own : List Nat) (tg : Expr) (g : TG) (t : Tg) : Prop where
  ok : TgOk X.K g t
  own : ∀ (σ : L2.St) (x : V) (H0 : Hp) (Q : L2.St → Hp → Prop), g x (wipe σ own) H0 Q → g x (wipe σ own) H0 fun σ2 H2 => wipe σ2 own = wipe σ own ∧ Q σ2 H2
theorem wipe_get : ∀ (vs : List Nat) (σ : L2.St) (j : Nat), (wipe σ vs)[j]? = if j ∈ vs ∧ j < σ.length then some none else σ[j]?
  | [], σ, j => by simp [wipe]
  | v :: vs, σ, j => by
    unfold wipe
    by_cases hj : j = v
    · subst hj
      by_cases hl : j < σ.length
      · rw [List.getElem?_set_self (by rw [wipe_length]; exact hl), if_pos ⟨List.mem_cons_self, hl⟩]
      · rw [if_neg (fun z => hl z.2), List.getElem?_eq_none (by rw [List.length_set, wipe_length]; omega), List.getElem?_eq_none (by omega)]
    · rw [List.getElem?_set_ne (Ne.symm hj), wipe_get vs σ j]
      by_cases h : j ∈ vs ∧ j < σ.length
      · rw [if_pos h, if_pos ⟨List.mem_cons_of_mem _ h.1, h.2⟩]
      · rw [if_neg h, if_neg fun z => h ⟨(List.mem_cons.mp z.1).resolve_left hj, z.2⟩]
theorem wipe_own {σ : L2.St} {own : List Nat} {i : Nat} (h : i ∈ own) (x : Option V) : wipe ((wipe σ own).set i x) own = wipe σ own := by
  refine List.ext_getElem? fun j => ?_
  rw [wipe_get, wipe_get, List.length_set, wipe_length]
  by_cases hj : j ∈ own ∧ j < σ.length
  · rw [if_pos hj, if_pos hj]
  · rw [if_neg hj, if_neg hj]
    by_cases hji : j = i
    · subst hji
      have hl : ¬ j < σ.length := fun z => hj ⟨h, z⟩
      rw [List.getElem?_eq_none (by rw [List.length_set, wipe_length]; omega), List.getElem?_eq_none (by omega)]
    · rw [List.getElem?_set_ne (Ne.symm hji), wipe_get, if_neg hj]
theorem wipe_own2 {σ σ' : L2.St} {own : List Nat} {i : Nat} (h : i ∈ own) (x : Option V) (e : wipe σ' own = wipe σ own) : wipe (σ'.set i x) own = wipe σ own := by
  rw [← e]
  refine List.ext_getElem? fun j => ?_
  rw [wipe_get, wipe_get, List.length_set]
  by_cases hj : j ∈ own ∧ j < σ'.length
  · rw [if_pos hj, if_pos hj]
  · rw [if_neg hj, if_neg hj]
    by_cases hji : j = i
    · subst hji
      have hl : ¬ j < σ'.length := fun z => hj ⟨h, z⟩
      rw [List.getElem?_eq_none (by rw [List.length_set]; omega), List.getElem?_eq_none (by omega)]
    · rw [List.getElem?_set_ne (Ne.symm hji)]
theorem go_name (i : Nat) {own : List Nat} (h : i ∈ own := by decide) : IGo X own tg (gName i) (tN i) :=
  ⟨tg_name i, fun σ x H0 Q q => ⟨wipe_own h _, q⟩⟩
theorem names_own {own : List Nat} {σ : L2.St} {Q : L2.St → Hp → Prop} {H : Hp} : ∀ (is : List Nat) (vs : List V) (σ1 : L2.St), (∀ i ∈ is, i ∈ own) → wipe σ1 own = wipe σ own → gNames is vs σ1 H Q → gNames is vs σ1 H fun σ2 H2 => wipe σ2 own = wipe σ own ∧ Q σ2 H2
  | [], vs, σ1, _, e, q => ⟨q.1, e, q.2⟩
  | i :: is, vs, σ1, h, e, ⟨v, r, e1, q⟩ => ⟨v, r, e1, names_own is r _ (fun j m => h j (List.mem_cons_of_mem _ m)) (wipe_own2 (h i List.mem_cons_self) _ e) q⟩
theorem wipe_wipe {σ : L2.St} {own : List Nat} : wipe (wipe σ own) own = wipe σ own := by
  refine List.ext_getElem? fun j => ?_
  rw [wipe_get, wipe_length]
  by_cases hj : j ∈ own ∧ j < σ.length
  · rw [if_pos hj, wipe_get, if_pos hj]
  · rw [if_neg hj]
theorem go_tup (is : List Nat) {own : List Nat} (h : ∀ i ∈ is, i ∈ own := by decide) : IGo X own tg (gTup X.K is.length (gNames is)) (tU is) :=
  ⟨tg_tup is, fun σ x H0 Q ⟨a, xs, e, hq, hl, q⟩ => ⟨a, xs, e, hq, hl, names_own is xs _ h wipe_wipe q⟩⟩
theorem v_comp {t : Tg} {g : TG} {c : MT} {mi : MI} {it : Expr} {ifs : List Expr} {scope : Scope} {own : List (Str × Nat)} (hc : X.calm = true) (hN : X.N.Nodup) (hi : II X rx W tg it mi) (ok : blkC X.N X.env.scope scope own = true) (hgo : IGo X (own.map (·.2)) tg g t)
    (hg : ∀ (s : Shared) (H : Hp) (C : Addr) (cl : List (Str × Addr)) (fp : List Addr), PG (X.blk s H scope (compEnvC scope cl C X.env) fp) tg g) (ht : ∀ (s : Shared) (H : Hp) (C : Addr) (cl : List (Str × Addr)) (fp : List Addr), ITs (X.blk s H scope (compEnvC scope cl C X.env) fp) rx ifs c)
    (he : ∀ (s : Shared) (H : Hp) (C : Addr) (cl : List (Str × Addr)) (fp : List Addr), IE (X.blk s H scope (compEnvC scope cl C X.env) fp) rx W0 e me) (hs : ∀ x, foldedSetIterable it X.env x = pure x := by intro _; rfl) :
    IE X rx W (.ListComp e [⟨tg, it, ifs, 0⟩] scope pos) (comp (own.map (·.2)) t mi c me) :=
  pe_imp (pe_lc hc hN hi (blkOk_by ok) hg ht he hs) fun σ H Q h => comp_read hgo.ok (fun x => hgo.own σ x) h
theorem v_compR {t : Tg} {g : TG} {c : MT} {mi : MI} {it : Expr} {ifs : List Expr} {scope : Scope} {own : List (Str × Nat)} (hc : X.calm = true) (hN : X.N.Nodup) (hi : II X rx W tg it mi) (ok : blkC X.N X.env.scope scope own = true) (hgo : IGo X (own.map (·.2)) tg g t)
    (hg : ∀ (s : Shared) (H : Hp) (C : Addr) (cl : List (Str × Addr)) (fp : List Addr), PG (X.blk s H scope (compEnvC scope cl C X.env) fp) tg g) (ht : ∀ (s : Shared) (H : Hp) (C : Addr) (cl : List (Str × Addr)) (fp : List Addr), ITs (X.blk s H scope (compEnvC scope cl C X.env) fp) rx ifs c)
    (he : ∀ (s : Shared) (H : Hp) (C : Addr) (cl : List (Str × Addr)) (fp : List Addr), IE (X.blk s H scope (compEnvC scope cl C X.env) fp) rx W0 e me) (hs : ∀ x, foldedSetIterable it X.env x = pure x := by intro _; rfl) :
    IE X rx W (.ListComp e [⟨tg, it, ifs, 0⟩] scope pos) (compR (own.map (·.2)) t mi c me) :=
  pe_imp (pe_lc hc hN hi (blkOk_by ok) hg ht he hs) fun σ H Q h => compR_read hgo.ok (fun x => hgo.own σ x) h
/-- x = [..], x a plain local name -/
theorem v_setLc (i : Nat) {y : Str} {py spos : Pos} {t : Tg} {g : TG} {c : MT} {mi : MI} {it : Expr} {ifs : List Expr} {scope : Scope} {own : List (Str × Nat)} (hc : X.calm = true) (hN : X.N.Nodup) (hi : II X rx W tg it mi) (ok : blkC X.N X.env.scope scope own = true) (hgo : IGo X (own.map (·.2)) tg g t)
    (hg : ∀ (s : Shared) (H : Hp) (C : Addr) (cl : List (Str × Addr)) (fp : List Addr), PG (X.blk s H scope (compEnvC scope cl C X.env) fp) tg g) (ht : ∀ (s : Shared) (H : Hp) (C : Addr) (cl : List (Str × Addr)) (fp : List Addr), ITs (X.blk s H scope (compEnvC scope cl C X.env) fp) rx ifs c)
    (he : ∀ (s : Shared) (H : Hp) (C : Addr) (cl : List (Str × Addr)) (fp : List Addr), IE (X.blk s H scope (compEnvC scope cl C X.env) fp) rx W0 e me)
    (hy : X.N[i]? = some y := by rfl) (hyl : X.env.scope.names.lookup y = some .local := by rfl) (hsw : swapsWith (.ListComp e [⟨tg, it, ifs, 0⟩] scope pos) (some (.Name y py)) spos.line X.env = pure true := by exact sw_true rfl rfl rfl (by decide +kernel))
    (hs : ∀ x, foldedSetIterable it X.env x = pure x := by intro _; rfl) :
    IS X rx W (.Assign [.Name y py] (.ListComp e [⟨tg, it, ifs, 0⟩] scope pos) spos) (asg (tN i) (comp (own.map (·.2)) t mi c me)) :=
  ps_imp (ps_setLc hc hN hy hyl hsw hi (blkOk_by ok) hg ht he hs) fun D σ H ⟨ρ, l, S, hl, hs, h⟩ =>
    comp_read hgo.ok (fun x => hgo.own σ x) (bindI hl hs h fun ρ1 H1 x S1 v e1 s1 l1 r1 h1 => h1 ρ1 H1 _ e1 s1 (l1.set i r1))
theorem v_setLcR (i : Nat) {y : Str} {py spos : Pos} {t : Tg} {g : TG} {c : MT} {mi : MI} {it : Expr} {ifs : List Expr} {scope : Scope} {own : List (Str × Nat)} (hc : X.calm = true) (hN : X.N.Nodup) (hi : II X rx W tg it mi) (ok : blkC X.N X.env.scope scope own = true) (hgo : IGo X (own.map (·.2)) tg g t)
    (hg : ∀ (s : Shared) (H : Hp) (C : Addr) (cl : List (Str × Addr)) (fp : List Addr), PG (X.blk s H scope (compEnvC scope cl C X.env) fp) tg g) (ht : ∀ (s : Shared) (H : Hp) (C : Addr) (cl : List (Str × Addr)) (fp : List Addr), ITs (X.blk s H scope (compEnvC scope cl C X.env) fp) rx ifs c)
    (he : ∀ (s : Shared) (H : Hp) (C : Addr) (cl : List (Str × Addr)) (fp : List Addr), IE (X.blk s H scope (compEnvC scope cl C X.env) fp) rx W0 e me)
    (hy : X.N[i]? = some y := by rfl) (hyl : X.env.scope.names.lookup y = some .local := by rfl) (hsw : swapsWith (.ListComp e [⟨tg, it, ifs, 0⟩] scope pos) (some (.Name y py)) spos.line X.env = pure true := by exact sw_true rfl rfl rfl (by decide +kernel))
    (hs : ∀ x, foldedSetIterable it X.env x = pure x := by intro _; rfl) :
    IS X rx W (.Assign [.Name y py] (.ListComp e [⟨tg, it, ifs, 0⟩] scope pos) spos) (asg (tN i) (compR (own.map (·.2)) t mi c me)) :=
  ps_imp (ps_setLc hc hN hy hyl hsw hi (blkOk_by ok) hg ht he hs) fun D σ H ⟨ρ, l, S, hl, hs, h⟩ =>
    compR_read hgo.ok (fun x => hgo.own σ x) (bindI hl hs h fun ρ1 H1 x S1 v e1 s1 l1 r1 h1 => h1 ρ1 H1 _ e1 s1 (l1.set i r1))
end
end Y
/-! enumerate over a tuple. -/
namespace PySem
open Sem (wp)
theorem y_meets_enum1 {v : Value} {o : Obj} {H : Heap → Prop} (B : Begins v o H) :
    Meets (Builtin.«enumerate.__new__» ⟨[.type "enumerate", v], []⟩) (fun _ R s => H s.heap ∧
      R (.ok (.ret (.ref (s.heap.push o).objs.size))) { s with heap := (s.heap.push o).push { cls := .type "enumerate", data := .fields #[.none, .bool false, .ref s.heap.objs.size, rawInt 0, .none, .none] } }) :=
  .of_wp fun prog w A R s h => by
    obtain ⟨hp, g, d, tk, os⟩ := s; obtain ⟨h1, h⟩ := h
    have hsub := sub_enumerate
    have q1 : ∀ {A' : Around} {E : Value → Shared → Prop} {Q : Value → Shared → Prop}, Q (.ref hp.objs.size) ⟨hp.push o, g, d, tk, os⟩ → wpAny (model prog w) A' (pyIter v) Q E ⟨hp, g, d, tk, os⟩ :=
      fun q => B.iter prog w _ _ ⟨hp, g, d, tk, os⟩ _ h1 q
    wp_walk using q1
    refine wpAny_stack_any fun st => wpAny_pure ?_
    split
    · rename_i c _ _ _ _ _
      cases (c == Value.type "enumerate")
      · wp_walk using q1
        exact ⟨_, rfl, h⟩
      · wp_walk using q1
        exact ⟨_, rfl, h⟩
    · wp_walk using q1
      exact ⟨_, rfl, h⟩
theorem y_call_enum {prog : Program} {w : World} {A : Around} {E : Value → Shared → Prop} {s : Shared} {v : Value} {o : Obj} {H : Heap → Prop} {Q : Value → Shared → Prop} (B : Begins v o H) (h1 : H s.heap)
    (h : ∀ h', IsEnum h' (s.heap.objs.size + 1) s.heap.objs.size 0 .none → h'.get? s.heap.objs.size = some o → h'.objs.size = s.heap.objs.size + 2 →
      (∀ b o, s.heap.get? b = some o → h'.get? b = some o) → Q (.ref (s.heap.objs.size + 1)) { s with heap := h' }) :
    wpAny (model prog w) A (call (.type "enumerate") [v]) Q E s := by
  refine callType_new F.called_enumerate (by decide) (F.typeCall_enumerate_1 _) (F.newCall_enumerate_1 _) (fun obj => F.args_object_init_2 obj _) F.entry_enumerate_new
    (y_meets_enum1 B) ⟨h1, ?_⟩
  have hz : (s.heap.push o).objs.size = s.heap.objs.size + 1 := Heap.size_push ..
  show _ ∧ _
  rw [hz]
  have he : IsEnum ((s.heap.push o).push { cls := .type "enumerate", data := .fields #[.none, .bool false, .ref s.heap.objs.size, rawInt 0, .none, .none] }) (s.heap.objs.size + 1) s.heap.objs.size 0 .none := by
    have := Heap.get?_push_size (s.heap.push o) (o := { cls := .type "enumerate", data := .fields #[.none, .bool false, .ref s.heap.objs.size, rawInt 0, .none, .none] }) rfl
    rw [hz] at this; exact this
  refine ⟨⟨_, he, rfl⟩, h _ he (Heap.get?_push_of_some _ (Heap.get?_push_size _ B.free)) (by rw [Heap.size_push, hz]) fun b o x => Heap.get?_push_of_some _ (Heap.get?_push_of_some _ x)⟩
end PySem
namespace L2
open PySem PySem.Spec PyProof.Rows
/-- the tuple at a, each item in a new pair -/
def IteT (K : PySem.W.Frag) (a : Addr) : It :=
  ⟨fun i H => ∃ (xs : List V) (x : V), SqT K H a xs ∧ xs[i]? = some x, fun i H v H' => ∃ T x, v = .ref T ∧ H T = none ∧ H' = upd H T (.tup [.int (i : Nat), x]) ∧ ∀ xs, SqT K H a xs → xs[i]? = some x, fun i H => ∃ xs : List V, SqT K H a xs ∧ xs.length = i⟩
theorem ne_enum {h : Heap} {e it a : Addr} {i : Int} {old : Value} {its : Array Value} (he : IsEnum h e it i old) (p : h.IsTuple a its) : e ≠ a := fun z => by
  obtain ⟨o, ho, hc, _⟩ := p
  have q : h.get? e = some _ := he
  rw [z, ho] at q
  cases q
  simp at hc
theorem ne_iter {h : Heap} {it a b : Addr} {i : Nat} {its : Array Value} (hi : h.IsTupleIter it b i) (p : h.IsTuple a its) : a ≠ it := fun z => by
  obtain ⟨o, ho, hc, _⟩ := p
  obtain ⟨o', ho', hc', _⟩ := hi
  rw [z, ho'] at ho
  cases ho
  rw [hc'] at hc
  simp at hc
theorem turn_enumT {P : Program} {w : World} {K : PySem.W.Frag} {elts : List Expr} {kk : Nat} {tpos : Pos} (a e it : Addr) :
    Turn P w K (.Tuple elts kk tpos) (IteT K a) [e, it] e (fun i h => (∃ old, IsEnum h e it ((i : Nat) : Int) old) ∧ h.IsTupleIter it a i ∧ e ≠ it) where
  mem := by simp
  obj := fun i h st b hb => by
    obtain ⟨⟨old, he⟩, ⟨o, ho, hc, hd⟩, _⟩ := st
    have e' : b = e ∨ b = it := by simpa using hb
    rcases e' with z | z
    · rw [z]; exact ⟨_, he, fun v q => nomatch q⟩
    · rw [z]; exact ⟨o, ho, fun v q => by rw [hd] at q; cases q⟩
  keep := fun i h h' st k => let ⟨⟨old, he⟩, hi, hne⟩ := st; ⟨⟨old, k e (by simp) _ he⟩, hi.at fun o q => k it (by simp) o q, hne⟩
  item := by
    intro X hP hw hK hc i pins s σ H E I hf st hg
    subst hP hw hK
    obtain ⟨⟨old, he⟩, hit, hne⟩ := st
    obtain ⟨xs, x, hq, hx⟩ := hg
    obtain ⟨its, rv, p, hz⟩ := I.tuple hq
    have pT : s.heap.IsTuple a its.toArray := p
    obtain ⟨u, hu, ru⟩ := rv.get hx
    have hel : e < s.heap.objs.size := Heap.lt_size he
    have hil : it < s.heap.objs.size := by obtain ⟨_, q, _⟩ := hit; exact Heap.lt_size q
    have nea := ne_enum he pT
    have nia := ne_iter hit pT
    have D : Draws X.prog X.w X.A.in1 it [it, a] its.toArray.size (fun i v => its.toArray[i]? = some v) (fun i h => h.IsTupleIter it a i ∧ h.IsTuple a its.toArray) := Draws.tuple (A := X.A.in1) (show X.A.in1.handled = none from I.ok.hd hc) it a nia its.toArray
    refine wpAny_pyNext_enum_itemD D he ⟨hit, pT⟩ (by have := (List.getElem?_eq_some_iff.mp hu).1; simpa using this) hne (by simp [hne, nea]) fun y h' tk hP ho hit' hT hsz hk => ?_
    have hy : y = u := by
      have hP' : its[i]? = some y := by simpa using hP
      rw [hu] at hP'
      exact (Option.some.inj hP').symm
    subst hy
    refine ⟨_, rfl, wpAny_letOwnedTupleGo_enum (s := { s with heap := h', toks := tk + 1 }) ho fun h'' he' sb => ?_⟩
    have hT2 : h''.get? s.heap.objs.size = some { cls := .type "tuple", data := .seq #[.int i tk, y] } := (sb.2 _ (Nat.ne_of_gt hel)).trans hT
    have new : ObjOk X.prog X.w (upd H s.heap.objs.size (.tup [.int (i : Nat), x])) h'' s.heap.objs.size (.tup [.int (i : Nat), x]) :=
      ⟨by show 2 ≤ sizeLine; decide, [.int i tk, y], .cons ⟨_, rfl⟩ (.cons ru .nil), ⟨_, hT2, rfl, _, rfl⟩⟩
    have I1 : Inv X pins σ (upd H s.heap.objs.size (.tup [.int (i : Nat), x])) { s with heap := h'', toks := tk + 1 } :=
      I.turnedNew (ch := [e, it]) (fun b ob hb q => (sb.2 b (fun z => hb (by simp [z]))).trans (hk b ob (fun z => hb (by simp [z])) (fun z => hb (by simp [z])) q)) hf (Nat.le_refl _) new
    refine ⟨.ref s.heap.objs.size, _, I1, rfl, ⟨_, x, rfl, I.hok.fresh (Nat.le_refl _), rfl, fun ys hy => by rw [I.tuple_inj hy hq]; exact hx⟩, ⟨⟨y, ?_⟩, hit'.1.at fun o q => (sb.2 it (Ne.symm hne)).trans q, hne⟩, fun b hb => ?_⟩
    · have e1 : ((i + 1 : Nat) : Int) = (i : Int) + 1 := by omega
      rw [e1]; exact he'
    · have hb' : b < s.heap.objs.size := by
        have e' : b = e ∨ b = it := by simpa using hb
        rcases e' with z | z
        · rw [z]; exact hel
        · rw [z]; exact hil
      rw [upd_ne (Nat.ne_of_lt hb')]
      exact (hf b hb).1
  done := by
    intro X hP hw hK hc i pins s σ H E I hf st hg
    subst hP hw hK
    obtain ⟨⟨old, he⟩, hit, hne⟩ := st
    obtain ⟨xs, hq, hx⟩ := hg
    obtain ⟨its, rv, p, hz⟩ := I.tuple hq
    have pT : s.heap.IsTuple a its.toArray := p
    have nia := ne_iter hit pT
    have D : Draws X.prog X.w X.A.in1 it [it, a] its.toArray.size (fun i v => its.toArray[i]? = some v) (fun i h => h.IsTupleIter it a i ∧ h.IsTuple a its.toArray) := Draws.tuple (A := X.A.in1) (show X.A.in1.handled = none from I.ok.hd hc) it a nia its.toArray
    obtain ⟨f0, f1, f2, f3, f4, f5⟩ := hf it (by simp)
    have hl := rv.length
    have hn : its.toArray.size = i := by rw [List.size_toArray, ← hl, hx]
    exact wpAny_pyNext_enum_endD D he ⟨by rw [hn]; exact hit, pT⟩ fun h' eb => ⟨rfl, I.turned (t' := s.toks) (fun b o hb q => eb b o hb q) f0 f1 f3 f4 f5⟩
  self := fun A i s Q E st h => let ⟨⟨_, he⟩, _⟩ := st; wpAny_pyIter_enum he h
def iEnumA (K : PySem.W.Frag) (ta : TA) : TI := fun σ H R => ta σ H fun vs H1 => ∃ a xs, vs = [.ref a] ∧ ((SqL K H1 a xs ∧ R (Ite K a) H1) ∨ (SqT K H1 a xs ∧ R (IteT K a) H1))
theorem pi_enumA {X : Cx} {e : Expr} {ta : TA} {p pos tpos : Pos} {elts : List Expr} {kk : Nat} (hg : Gl X "enumerate") (hm : X.mg "enumerate" = none) (ha : PA X [e] ta) (hs : starEach [e] X.env = [(false, eval e X.env)] := by rfl) :
    PI X (.Tuple elts kk tpos) (.Call (.Name "enumerate" p) [e] [] pos) (iEnumA X.K ta) := by
  refine ⟨fun pins s σ H R I h => ?_⟩
  refine Call_ (ld_blt I hg hm boot_enumerate (PyProof.Rows.callWith_type1 (thn (ha.run pos pins s σ H _ I h) fun us s1 ⟨vs, H1, I1, r1, q1⟩ => ?_) hs rfl))
  obtain ⟨a, xs, ex, q1⟩ := q1
  subst ex
  cases r1 with
  | cons r rr =>
    cases rr
    cases r
    have fr : ∀ b, b ∈ [s1.heap.objs.size + 1, s1.heap.objs.size] → FpOk X pins H1 b := fun b hb => by
      have e' : b = s1.heap.objs.size + 1 ∨ b = s1.heap.objs.size := by simpa using hb
      have hle : s1.heap.objs.size ≤ b := by
        rcases e' with z | z
        · rw [z]; exact Nat.le_add_right _ _
        · rw [z]; exact Nat.le_refl _
      exact I1.fpOk hle (I1.hok.fresh hle)
    rcases q1 with ⟨hq, q⟩ | ⟨hq, q⟩
    · obtain ⟨its, rv, p', hz⟩ := I1.list hq
      refine call_enumerate_list p'.isList fun h' he hit hsz hk => wpAny_pyIter_enum he ?_
      have I2 : Inv X pins σ H1 { s1 with heap := h' } := I1.kept (t' := s1.toks) hk
      exact ⟨s1.heap.objs.size + 1, [s1.heap.objs.size + 1, s1.heap.objs.size], _, _, H1, rfl, I2, turn_enum a (s1.heap.objs.size + 1) s1.heap.objs.size, ⟨⟨.none, he⟩, hit, Nat.succ_ne_self _⟩, fr, q⟩
    · obtain ⟨its, rv, p', hz⟩ := I1.tuple hq
      refine y_call_enum (begins_tuple a its.toArray) (show s1.heap.IsTuple a its.toArray from p') fun h' he hit hsz hk => wpAny_pyIter_enum he ?_
      have I2 : Inv X pins σ H1 { s1 with heap := h' } := I1.kept (t' := s1.toks) hk
      exact ⟨s1.heap.objs.size + 1, [s1.heap.objs.size + 1, s1.heap.objs.size], _, _, H1, rfl, I2, turn_enumT a (s1.heap.objs.size + 1) s1.heap.objs.size, ⟨⟨.none, he⟩, ⟨_, hit, rfl, rfl⟩, Nat.succ_ne_self _⟩, fr, q⟩
end L2
namespace Y
open PySem L2 RZ PyProof.Rows
section
variable {X : Cx} {rx : Rx} {W : WX} {a b e tg : Expr} {ma mb me : ME} {pos : Pos}
theorem pi_or {tg e : Expr} {t t' : TI} (h : PI X tg e t) (h' : PI X tg e t') : PI X tg e (fun σ H R => t σ H R ∨ t' σ H R) :=
  ⟨fun pins s σ H R I q => q.elim (h.run pins s σ H R I) (h'.run pins s σ H R I)⟩
theorem seq_stay {K : PySem.W.Frag} {ρ ρ1 : List Addr} {H H1 : Hp} {S S1 : Sto} {x : DV} {xs : List DV} {v : V} (r : RV K ρ H x v) (e : seqOf S x = some xs) (hh : held S1 (guardOf S x) = true) (ex : Ext ρ H ρ1 H1) : RV K ρ1 H1 x v ∧ seqOf S1 x = some xs := by
  refine ⟨r.mono ex, ?_⟩
  cases x with
  | ref k =>
    unfold seqOf at e
    dsimp only at e
    split at e
    · rename_i zs q
      cases e
      unfold guardOf held at hh
      dsimp only at hh
      rw [q] at hh
      simp only [List.all_cons, List.all_nil, Bool.and_true] at hh
      split at hh
      · rename_i y hy
        rw [eqB_iff] at hh
        subst hh
        unfold seqOf
        dsimp only
        rw [hy]
      · exact absurd hh Bool.false_ne_true
    · cases e
  | tup _ => exact e
  | lst _ => exact e
  | rol _ => exact e
  | _ => simp [seqOf] at e
theorem held_app {S : Sto} {g g' : List (Nat × DV)} : held S (g ++ g') = (held S g && held S g') := by
  unfold held
  rw [List.all_append]
/-! ### a list, a tuple -/
theorem src_list {K : PySem.W.Frag} {ρ : List Addr} {H : Hp} {S : Sto} {x : DV} {xs : List DV} {a : Addr} (s : RS K ρ H S) (r : RV K ρ H x (.ref a)) (e : seqOf S x = some xs) (n : ∀ ys, x ≠ .tup ys) :
    Src K ρ H xs (guardOf S x) (Itl K a) (fun H => ∃ vs, SqL K H a vs ∧ vs.length = xs.length) (fun i H x H' => H' = H ∧ ∀ vs, SqL K H a vs → vs[i]? = some x) where
  walk := ⟨fun i H hi ⟨vs, h, hl⟩ => ⟨vs, vs[i]'(by omega), h, by simp [show i < vs.length by omega]⟩, fun H ⟨vs, h, hl⟩ => ⟨vs, h, by omega⟩, fun _ _ _ _ _ _ y => y⟩
  go := fun ρ1 H1 S1 ex s1 hh => by
    obtain ⟨r1, e1⟩ := seq_stay r e hh ex
    obtain ⟨a', vs, h1, h2, h3⟩ := r1.seqL s1 e1 n
    cases h1
    exact ⟨vs, h2, h3.length.symm⟩
  yl := fun ρ1 H1 S1 ex s1 hh i v H2 hi y => by
    obtain ⟨r1, e1⟩ := seq_stay r e hh ex
    obtain ⟨a', vs, h1, h2, h3⟩ := r1.seqL s1 e1 n
    cases h1
    obtain ⟨rfl, y⟩ := y
    obtain ⟨d, h4, h5⟩ := h3.getV (y vs h2)
    exact ⟨d, h4, h5, .refl, s1⟩
theorem src_tup {K : PySem.W.Frag} {ρ : List Addr} {H : Hp} {xs : List DV} {a : Addr} {vs : List V} (h : SqT K H a vs) (r : RVs K ρ H xs vs) :
    Src K ρ H xs [] (Itt K a) (fun H => SqT K H a vs) (YAt vs) where
  walk := by
    have w : Walk (Itt K a) vs.length (fun H => SqT K H a vs) (YAt vs) := walk_tup
    rw [← r.length] at w
    exact w
  go := fun ρ1 H1 S1 ex s1 hh => sqT_ext ex h
  yl := fun ρ1 H1 S1 ex s1 hh i v H2 hi y => by
    obtain ⟨rfl, y⟩ := y
    obtain ⟨d, h4, h5⟩ := (r.mono ex).getV y
    exact ⟨d, h4, h5, .refl, s1⟩
theorem s_seq (ha : IE X rx W a ma) : II X rx W tg a (sSeq ma) := by
  refine pi_imp (pi_or (pi_list ha) (pi_tup ha)) fun σ H R ⟨ρ, l, S, hl, hs, h⟩ => ?_
  have h' : Post X.K rx W ρ H ((ma l S).bind _) _ := h
  cases em : ma l S with
  | bad => rw [em] at h'; exact False.elim h'
  | exc c x l' S' => rw [em] at h'; exact .inl ⟨ρ, l, S, hl, hs, by rw [em]; exact h'⟩
  | ok x S1 =>
    rw [em] at h'
    simp only [Out.bind] at h'
    split at h'
    · rename_i xs ex
      by_cases ht : ∃ ys, x = .tup ys
      · obtain ⟨ys, rfl⟩ := ht
        simp only [seqOf, Option.some.injEq] at ex
        subst ex
        refine .inr ⟨ρ, l, S, hl, hs, ?_⟩
        rw [em]
        intro ρ1 H1 v e1 s1 r1
        obtain ⟨p, vs, rfl, h1, h2⟩ := r1.tup
        exact ⟨p, rfl, ⟨vs, h1⟩, h' ρ1 H1 _ _ _ e1 s1 (src_tup h1 h2)⟩
      · refine .inl ⟨ρ, l, S, hl, hs, ?_⟩
        rw [em]
        intro ρ1 H1 v e1 s1 r1
        have hn : ∀ ys, x ≠ .tup ys := fun ys z => ht ⟨ys, z⟩
        obtain ⟨p, vs, rfl, h1, h2⟩ := r1.seqL s1 ex hn
        exact ⟨p, rfl, ⟨vs, h1⟩, h' ρ1 H1 _ _ _ e1 s1 (src_list s1 r1 ex hn)⟩
    · exact False.elim h'
/-! ### range -/
theorem src_range {K : PySem.W.Frag} {ρ : List Addr} {H : Hp} (lo : Int) (n : Nat) : Src K ρ H (rngD lo n) [] (Itr lo n) (fun _ => True) (YFn fun i => .int (lo + i)) where
  walk := by
    have w : Walk (Itr lo n) n (fun _ => True) (YFn fun i => .int (lo + i)) := walk_range
    have e : (rngD lo n).length = n := by simp [rngD]
    rw [e]
    exact ⟨w.goes, w.stops, w.yields⟩
  go := fun _ _ _ _ _ _ => trivial
  yl := fun ρ1 H1 S1 ex s1 hh i v H2 hi y => by
    obtain ⟨rfl, rfl⟩ := y
    have hn : i < n := by simpa [rngD] using hi
    exact ⟨.int (lo + i), by simp [rngD, hn], by simp [RV], .refl, s1⟩
theorem s_range1 {p : Pos} (hm : X.mg "range" = none) (ha : IE X rx W a ma) (hg : Gl X "range" := by rfl) (hs : starEach [a] X.env = (false, eval a X.env) :: starEach [] X.env := by rfl) : II X rx W tg (.Call (.Name "range" p) [a] [] pos) (sRange1 ma) := by
  refine pi_imp (pi_range1 hg hm (pa_cons ha pa_nil hs) hs) fun σ H R ⟨ρ, l, S, hl, hs, h⟩ => ?_
  refine bindI hl hs h fun ρ1 H1 x S1 v e1 s1 l1 r1 h1 => ?_
  split at h1
  · rename_i n
    split at h1
    · rename_i hz
      exact ⟨n, by rw [r1.int], hz.1, hz.2, h1 ρ1 H1 _ _ _ e1 s1 (src_range 0 n.toNat)⟩
    · exact False.elim h1
  · exact False.elim h1
theorem s_range2 {p : Pos} (hm : X.mg "range" = none) (ha : IE X rx W a ma) (hb : IE X rx W b mb) (hg : Gl X "range" := by rfl) (hs : starEach [a, b] X.env = [(false, eval a X.env), (false, eval b X.env)] := by rfl) (hs2 : starEach [b] X.env = (false, eval b X.env) :: starEach [] X.env := by rfl) :
    II X rx W tg (.Call (.Name "range" p) [a, b] [] pos) (sRange2 ma mb) := by
  refine pi_imp (pi_range2 hg hm (pa_cons ha (pa_cons hb pa_nil hs2) (by rw [hs, hs2]; rfl)) hs (by rw [hs2]; rfl)) fun σ H R ⟨ρ, l, S, hl, hs, h⟩ => ?_
  refine bindI hl hs h fun ρ1 H1 x S1 v e1 s1 l1 r1 h1 => ?_
  refine bindI l1 s1 h1 fun ρ2 H2 y S2 u e2 s2 l2 r2 h2 => ?_
  split at h2
  · rename_i i j
    split at h2
    · rename_i hz
      exact ⟨i, j, by rw [r1.int, r2.int], ⟨hz.1.1, hz.1.2, hz.2.1, hz.2.2⟩, h2 ρ2 H2 _ _ _ (e1.trans e2) s2 (src_range i (j - i).toNat)⟩
    · exact False.elim h2
  · exact False.elim h2
/-! ### reversed(range(n)) -/
theorem src_rev {K : PySem.W.Frag} {ρ : List Addr} {H : Hp} (n : Nat) : Src K ρ H (rngD 0 n).reverse [] (Itc ((0 : Int) + (n : Int) - 1) (-1) n) (fun _ => True) (YFn fun i => .int ((0 : Int) + (n : Int) - 1 + (i : Nat) * (-1))) where
  walk := by
    have w : Walk (Itc ((0 : Int) + (n : Int) - 1) (-1) n) n (fun _ => True) (YFn fun i => .int ((0 : Int) + (n : Int) - 1 + (i : Nat) * (-1))) := walk_rangeC
    have e : (rngD 0 n).reverse.length = n := by simp [rngD]
    rw [e]
    exact ⟨w.goes, w.stops, w.yields⟩
  go := fun _ _ _ _ _ _ => trivial
  yl := fun ρ1 H1 S1 ex s1 hh i v H2 hi y => by
    obtain ⟨rfl, rfl⟩ := y
    have hn : i < n := by simpa [rngD] using hi
    refine ⟨.int ((0 : Int) + (n : Int) - 1 + (i : Nat) * (-1)), ?_, by simp [RV], .refl, s1⟩
    rw [List.getElem?_reverse (by simpa [rngD] using hn)]
    simp only [rngD, List.length_map, List.length_range, List.getElem?_map]
    rw [List.getElem?_range (by omega)]
    simp only [Option.map_some, Option.some.injEq, DV.int.injEq]
    omega
theorem s_rev1 {p p2 pos2 : Pos} (hm : X.mg "reversed" = none) (hm2 : X.mg "range" = none) (ha : IE X rx W a ma) (hg : Gl X "reversed" := by rfl) (hg2 : Gl X "range" := by rfl) (hs : starEach [a] X.env = (false, eval a X.env) :: starEach [] X.env := by rfl)
    (hs2 : starEach [.Call (.Name "range" p2) [a] [] pos2] X.env = (false, eval (.Call (.Name "range" p2) [a] [] pos2) X.env) :: starEach [] X.env := by rfl) :
    II X rx W tg (.Call (.Name "reversed" p) [.Call (.Name "range" p2) [a] [] pos2] [] pos) (sRev1 ma) := by
  refine pi_imp (pi_revR hg hm (prg_1 hg2 hm2 ha hs) hs2) fun σ H R ⟨ρ, l, S, hl, hs, h⟩ => ?_
  refine bindI hl hs h fun ρ1 H1 x S1 v e1 s1 l1 r1 h1 => ?_
  split at h1
  · rename_i n
    split at h1
    · rename_i hz
      refine ⟨n, r1.int, by decide, by decide, hz.1, hz.2, ?_⟩
      have q := h1 ρ1 H1 _ _ _ e1 s1 (src_rev n.toNat)
      rw [Int.sub_zero]
      exact q
    · exact False.elim h1
  · exact False.elim h1

/-! ### enumerate, zip -/
theorem enum_get {xs : List DV} {i : Nat} {d : DV} (h : xs[i]? = some d) : (enumD xs)[i]? = some (.tup [.int (i : Nat), d]) := by
  obtain ⟨hl, he⟩ := List.getElem?_eq_some_iff.mp h
  unfold enumD
  rw [List.getElem?_zipWith, List.getElem?_range hl, h]
theorem enum_len (xs : List DV) : (enumD xs).length = xs.length := by simp [enumD]
theorem rv_pair {K : PySem.W.Frag} {ρ : List Addr} {H : Hp} {T : Addr} {d d' : DV} {v v' : V} (hT : H T = none) (r : RV K ρ H d v) (r' : RV K ρ H d' v') : RV K ρ (upd H T (.tup [v, v'])) (.tup [d, d']) (.ref T) :=
  rv_newT hT (RVs.cons r (rvs1 r'))
theorem src_enumL {K : PySem.W.Frag} {ρ : List Addr} {H : Hp} {S : Sto} {x : DV} {xs : List DV} {a : Addr} (s : RS K ρ H S) (r : RV K ρ H x (.ref a)) (e : seqOf S x = some xs) (n : ∀ ys, x ≠ .tup ys) :
    Src K ρ H (enumD xs) (guardOf S x) (Ite K a) (fun H => ∃ vs, SqL K H a vs ∧ vs.length = xs.length) (fun i H v H' => ∃ T x, v = .ref T ∧ H T = none ∧ H' = upd H T (.tup [.int (i : Nat), x]) ∧ ∀ xs, SqL K H a xs → xs[i]? = some x) where
  walk := by
    rw [enum_len]
    exact ⟨fun i H hi ⟨vs, h, hl⟩ => ⟨vs, vs[i]'(by omega), h, by simp [show i < vs.length by omega]⟩, fun H ⟨vs, h, hl⟩ => ⟨vs, h, by omega⟩, fun _ _ _ _ _ _ y => y⟩
  go := fun ρ1 H1 S1 ex s1 hh => by
    obtain ⟨r1, e1⟩ := seq_stay r e hh ex
    obtain ⟨a', vs, h1, h2, h3⟩ := r1.seqL s1 e1 n
    cases h1
    exact ⟨vs, h2, h3.length.symm⟩
  yl := fun ρ1 H1 S1 ex s1 hh i v H2 hi y => by
    obtain ⟨r1, e1⟩ := seq_stay r e hh ex
    obtain ⟨a', vs, h1, h2, h3⟩ := r1.seqL s1 e1 n
    cases h1
    obtain ⟨T, z, rfl, hT, rfl, y⟩ := y
    obtain ⟨d, h4, h5⟩ := h3.getV (y vs h2)
    exact ⟨_, enum_get h4, rv_pair hT (by simp [RV]) h5, ext_new hT, s1.new hT⟩
theorem src_enumT {K : PySem.W.Frag} {ρ : List Addr} {H : Hp} {xs : List DV} {a : Addr} {vs : List V} (h : SqT K H a vs) (r : RVs K ρ H xs vs) :
    Src K ρ H (enumD xs) [] (IteT K a) (fun H => SqT K H a vs) (fun i H v H' => ∃ T x, v = .ref T ∧ H T = none ∧ H' = upd H T (.tup [.int (i : Nat), x]) ∧ ∀ xs, SqT K H a xs → xs[i]? = some x) where
  walk := by
    rw [enum_len, r.length]
    exact ⟨fun i H hi q => ⟨vs, vs[i], q, by simp [hi]⟩, fun H q => ⟨vs, q, rfl⟩, fun _ _ _ _ _ _ y => y⟩
  go := fun ρ1 H1 S1 ex s1 hh => sqT_ext ex h
  yl := fun ρ1 H1 S1 ex s1 hh i v H2 hi y => by
    obtain ⟨T, z, rfl, hT, rfl, y⟩ := y
    obtain ⟨d, h4, h5⟩ := (r.mono ex).getV (y vs (sqT_ext ex h))
    exact ⟨_, enum_get h4, rv_pair hT (by simp [RV]) h5, ext_new hT, s1.new hT⟩
theorem s_enum {p tpos : Pos} {elts : List Expr} {kk : Nat} (hm : X.mg "enumerate" = none) (ha : IE X rx W a ma) (hg : Gl X "enumerate" := by rfl) (hs : starEach [a] X.env = (false, eval a X.env) :: starEach [] X.env := by rfl) :
    II X rx W (.Tuple elts kk tpos) (.Call (.Name "enumerate" p) [a] [] pos) (sEnum ma) := by
  refine pi_imp (pi_enumA hg hm (pa_cons ha pa_nil hs) hs) fun σ H R ⟨ρ, l, S, hl, hs, h⟩ => ?_
  refine bindI hl hs h fun ρ1 H1 x S1 v e1 s1 l1 r1 h1 => ?_
  split at h1
  · rename_i xs ex
    by_cases ht : ∃ ys, x = .tup ys
    · obtain ⟨ys, rfl⟩ := ht
      simp only [seqOf, Option.some.injEq] at ex
      subst ex
      obtain ⟨p, vs, rfl, h3, h2⟩ := r1.tup
      exact ⟨p, vs, rfl, .inr ⟨h3, h1 ρ1 H1 _ _ _ e1 s1 (src_enumT h3 h2)⟩⟩
    · have hn : ∀ ys, x ≠ .tup ys := fun ys z => ht ⟨ys, z⟩
      obtain ⟨p, vs, rfl, h3, h2⟩ := r1.seqL s1 ex hn
      exact ⟨p, vs, rfl, .inl ⟨h3, h1 ρ1 H1 _ _ _ e1 s1 (src_enumL s1 r1 ex hn)⟩⟩
  · exact False.elim h1
theorem zip_get {xs ys : List DV} {i : Nat} {d d' : DV} (h : xs[i]? = some d) (h' : ys[i]? = some d') : (zipD xs ys)[i]? = some (.tup [d, d']) := by
  unfold zipD
  rw [List.getElem?_zipWith, h, h']
theorem zip_len (xs ys : List DV) : (zipD xs ys).length = min xs.length ys.length := by simp [zipD]
theorem src_zipL {K : PySem.W.Frag} {ρ : List Addr} {H : Hp} {S : Sto} {x x' : DV} {xs xs' : List DV} {a a' : Addr} (s : RS K ρ H S) (r : RV K ρ H x (.ref a)) (e : seqOf S x = some xs) (n : ∀ ys, x ≠ .tup ys) (r' : RV K ρ H x' (.ref a')) (e' : seqOf S x' = some xs') (n' : ∀ ys, x' ≠ .tup ys) :
    Src K ρ H (zipD xs xs') (guardOf S x ++ guardOf S x') (Itz K a a') (fun H => (∃ vs, SqL K H a vs ∧ vs.length = xs.length) ∧ ∃ vs, SqL K H a' vs ∧ vs.length = xs'.length)
      (fun i H v H' => ∃ T x y, v = .ref T ∧ H T = none ∧ H' = upd H T (.tup [x, y]) ∧ (∀ xs, SqL K H a xs → xs[i]? = some x) ∧ ∀ ys, SqL K H a' ys → ys[i]? = some y) where
  walk := by
    rw [zip_len]
    exact ⟨fun i H hi ⟨⟨vs, h, hl⟩, ws, h', hl'⟩ => ⟨vs, ws, vs[i]'(by omega), ws[i]'(by omega), h, h', by simp [show i < vs.length by omega], by simp [show i < ws.length by omega]⟩, fun H ⟨⟨vs, h, hl⟩, ws, h', hl'⟩ => ⟨vs, ws, h, h', by omega⟩, fun _ _ _ _ _ _ y => y⟩
  go := fun ρ1 H1 S1 ex s1 hh => by
    rw [held_app, Bool.and_eq_true] at hh
    obtain ⟨r1, e1⟩ := seq_stay r e hh.1 ex
    obtain ⟨r2, e2⟩ := seq_stay r' e' hh.2 ex
    obtain ⟨_, vs, h1, h2, h3⟩ := r1.seqL s1 e1 n
    obtain ⟨_, ws, h4, h5, h6⟩ := r2.seqL s1 e2 n'
    cases h1
    cases h4
    exact ⟨⟨vs, h2, h3.length.symm⟩, ws, h5, h6.length.symm⟩
  yl := fun ρ1 H1 S1 ex s1 hh i v H2 hi y => by
    rw [held_app, Bool.and_eq_true] at hh
    obtain ⟨r1, e1⟩ := seq_stay r e hh.1 ex
    obtain ⟨r2, e2⟩ := seq_stay r' e' hh.2 ex
    obtain ⟨_, vs, h1, h2, h3⟩ := r1.seqL s1 e1 n
    obtain ⟨_, ws, h4, h5, h6⟩ := r2.seqL s1 e2 n'
    cases h1
    cases h4
    obtain ⟨T, z, z', rfl, hT, rfl, y1, y2⟩ := y
    obtain ⟨d, h7, h8⟩ := h3.getV (y1 vs h2)
    obtain ⟨d', h7', h8'⟩ := h6.getV (y2 ws h5)
    exact ⟨_, zip_get h7 h7', rv_pair hT h8 h8', ext_new hT, s1.new hT⟩
theorem src_zipT {K : PySem.W.Frag} {ρ : List Addr} {H : Hp} {xs xs' : List DV} {a a' : Addr} {vs ws : List V} (h : SqT K H a vs) (r : RVs K ρ H xs vs) (h' : SqT K H a' ws) (r' : RVs K ρ H xs' ws) :
    Src K ρ H (zipD xs xs') [] (ItzT K a a') (fun H => SqT K H a vs ∧ SqT K H a' ws)
      (fun i H v H' => ∃ T x y, v = .ref T ∧ H T = none ∧ H' = upd H T (.tup [x, y]) ∧ (∀ xs, SqT K H a xs → xs[i]? = some x) ∧ ∀ ys, SqT K H a' ys → ys[i]? = some y) where
  walk := by
    rw [zip_len, r.length, r'.length]
    exact ⟨fun i H hi q => ⟨vs, ws, vs[i]'(by omega), ws[i]'(by omega), q.1, q.2, by simp [show i < vs.length by omega], by simp [show i < ws.length by omega]⟩, fun H q => ⟨vs, ws, q.1, q.2, by omega⟩, fun _ _ _ _ _ _ y => y⟩
  go := fun ρ1 H1 S1 ex s1 hh => ⟨sqT_ext ex h, sqT_ext ex h'⟩
  yl := fun ρ1 H1 S1 ex s1 hh i v H2 hi y => by
    obtain ⟨T, z, z', rfl, hT, rfl, y1, y2⟩ := y
    obtain ⟨d, h7, h8⟩ := (r.mono ex).getV (y1 vs (sqT_ext ex h))
    obtain ⟨d', h7', h8'⟩ := (r'.mono ex).getV (y2 ws (sqT_ext ex h'))
    exact ⟨_, zip_get h7 h7', rv_pair hT h8 h8', ext_new hT, s1.new hT⟩
/-- two of a kind: both lists or both tuples -/
def sameKind : DV → DV → Bool
  | .tup _, .tup _ => true
  | .tup _, _ => false
  | _, .tup _ => false
  | _, _ => true
def sZip2 (a b : ME) : MI := fun l S => (a l S).bind fun x S1 => (b l S1).bind fun y S2 => if sameKind x y = true then (match seqOf S2 x, seqOf S2 y with
  | some xs, some ys => .ok (zipD xs ys, guardOf S2 x ++ guardOf S2 y) S2
  | _, _ => .bad) else .bad
theorem s_zip {p tpos : Pos} {elts : List Expr} {kk : Nat} (hm : X.mg "zip" = none) (ha : IE X rx W a ma) (hb : IE X rx W b mb) (hg : Gl X "zip" := by rfl) (hs : starEach [a, b] X.env = (false, eval a X.env) :: starEach [b] X.env := by rfl) (hs2 : starEach [b] X.env = (false, eval b X.env) :: starEach [] X.env := by rfl)
    (hpl : (backTo pos (starEach [b] X.env)).any (·.1) = false := by rfl) : II X rx W (.Tuple elts kk tpos) (.Call (.Name "zip" p) [a, b] [] pos) (sZip2 ma mb) := by
  refine pi_imp (pi_zipA hg hm (pa_cons ha (pa_cons hb pa_nil hs2) hs) hs hpl) fun σ H R ⟨ρ, l, S, hl, hs, h⟩ => ?_
  refine bindI hl hs h fun ρ1 H1 x S1 v e1 s1 l1 r1 h1 => ?_
  refine bindI l1 s1 h1 fun ρ2 H2 y S2 u e2 s2 l2 r2 h2 => ?_
  have r1 := r1.mono e2
  split at h2
  · rename_i hk
    split at h2
    · rename_i xs ys ex ey
      by_cases ht : ∃ zs, x = .tup zs
      · obtain ⟨zs, rfl⟩ := ht
        cases y with
        | tup zs' =>
          simp only [seqOf, Option.some.injEq] at ex ey
          subst ex ey
          obtain ⟨p, vs, rfl, h3, h4⟩ := r1.tup
          obtain ⟨p', ws, rfl, h3', h4'⟩ := r2.tup
          exact ⟨p, p', vs, ws, rfl, .inr ⟨h3, h3', h2 ρ2 H2 _ _ _ (e1.trans e2) s2 (src_zipT h3 h4 h3' h4')⟩⟩
        | _ => simp [sameKind] at hk
      · have hn : ∀ ys, x ≠ .tup ys := fun ys z => ht ⟨ys, z⟩
        have hn' : ∀ ys, y ≠ .tup ys := fun ys z => by
          subst z
          cases x <;> first | exact hn _ rfl | simp [sameKind] at hk
        obtain ⟨p, vs, rfl, h3, h4⟩ := r1.seqL s2 ex hn
        obtain ⟨p', ws, rfl, h3', h4'⟩ := r2.seqL s2 ey hn'
        exact ⟨p, p', vs, ws, rfl, .inl ⟨h3, h3', h2 ρ2 H2 _ _ _ (e1.trans e2) s2 (src_zipL s2 r1 ex hn r2 ey hn')⟩⟩
    · exact False.elim h2
  · exact False.elim h2
end

/-! ### defs -/
section
variable {P : Program} {w : World} {K : PySem.W.Frag} {mg : Str → Option Value} {base : Heap} {rx : Rx}
theorem rl_start {ρ : List Addr} {H : Hp} {args : List DV} {vs : List V} {N : List Str} {n : Nat} (r : RVs K ρ H args vs) (h : n = N.length) : RL K ρ H (args.map some ++ List.replicate (n - args.length) none) (L2.start N vs) := by
  unfold L2.start
  subst h
  have hl := r.length
  refine ⟨by simp [hl], fun i d e => ?_⟩
  by_cases hi : i < args.length
  · rw [List.getElem?_append_left (by simpa using hi), List.getElem?_map] at e
    cases ea : args[i]? with
    | none => rw [ea] at e; cases e
    | some a =>
      rw [ea] at e
      cases e
      obtain ⟨v, h1, h2⟩ := r.get ea
      exact ⟨v, by rw [List.getElem?_append_left (by simp; omega), List.getElem?_map, h1]; rfl, h2⟩
  · rw [List.getElem?_append_right (by simpa using hi), List.getElem?_replicate] at e
    split at e <;> cases e
theorem Ext.cut {ρ ρ' : List Addr} {H H' : Hp} (e : Ext ρ H ρ' H') : Ext ρ H ρ H' := ⟨⟨[], by simp⟩, e.keep, e.tups, e.frzs, fun a h => .inl h, e.there⟩
theorem Ext.cut1 {ρ ρ' : List Addr} {H H' : Hp} {k : Nat} {a : Addr} (e : Ext ρ H ρ' H') (h : ρ'[k]? = some a) (hn : H a = none) : Ext ρ H (ρ ++ [a]) H' :=
  ⟨⟨[a], rfl⟩, e.keep, e.tups, e.frzs, fun b m => by
    rcases List.mem_append.mp m with q | q
    · exact .inl q
    · rw [List.mem_singleton] at q; rw [q]; exact .inr hn, e.there⟩
theorem leave_lt {m k : Nat} {S : Sto} (h : k < m) : leave m (.ref k) S = .ok (.ref k, false) (S.take m) := by
  unfold leave
  exact if_pos h
theorem leave_own {m k : Nat} {S : Sto} {y : DV} (h : ¬ k < m) (e : S[k]? = some y) : leave m (.ref k) S = .ok (y, true) (S.take m) := by
  unfold leave
  dsimp only
  rw [if_neg h, e]
theorem leave_no {m k : Nat} {S : Sto} (h : ¬ k < m) (e : S[k]? = none) : leave m (.ref k) S = .bad := by
  unfold leave
  dsimp only
  rw [if_neg h, e]
theorem leave_val {m : Nat} {d : DV} {S : Sto} (h : ∀ k, d ≠ .ref k) : leave m d S = if noRefGe m (thaw m S d) = true then .ok (thaw m S d, false) (S.take m) else .bad := by
  cases d <;> first | rfl | exact absurd rfl (h _)
mutual
theorem thaw_id {m : Nat} {S : Sto} : ∀ d : DV, noRefGe m d = true → thaw m S d = d
  | .ref k, h => by
    simp only [noRefGe, decide_eq_true_iff] at h
    simp only [thaw, if_pos h]
  | .tup xs, h => by
    simp only [noRefGe] at h
    simp only [thaw, thaws_id xs h]
  | .lst xs, h => by
    simp only [noRefGe] at h
    simp only [thaw, thaws_id xs h]
  | .non, _ => by simp only [thaw]
  | .bl _, _ => by simp only [thaw]
  | .int _, _ => by simp only [thaw]
  | .str _, _ => by simp only [thaw]
  | .rol _, _ => by simp only [thaw]
  | .dk _, _ => by simp only [thaw]
  | .fz _, _ => by simp only [thaw]
  | .exn _ _, _ => by simp only [thaw]
theorem thaws_id {m : Nat} {S : Sto} : ∀ xs : List DV, noRefGes m xs = true → thaws m S xs = xs
  | [], _ => by simp only [thaws]
  | x :: xs, h => by
    simp only [noRefGes, Bool.and_eq_true] at h
    simp only [thaws, thaw_id x h.1, thaws_id xs h.2]
end
section
variable {K : PySem.W.Frag} {ρ t : List Addr} {H : Hp} {S : Sto} {m : Nat}
theorem not_front (s : RS K (ρ ++ t) H S) (hl : ρ.length = m) {k : Nat} {a : Addr} (hk : ¬ k < m) (ha : (ρ ++ t)[k]? = some a) : a ∉ ρ := fun q => by
  obtain ⟨j, hj⟩ := List.mem_iff_getElem?.mp q
  have hjl := (List.getElem?_eq_some_iff.mp hj).1
  have := nd_ix s.nd (show (ρ ++ t)[j]? = some a by rw [List.getElem?_append_left hjl]; exact hj) ha
  omega
mutual
theorem RV.thaw (s : RS K (ρ ++ t) H S) (hl : ρ.length = m) : ∀ (d : DV) (v : V), RV K (ρ ++ t) H d v → noRefGe m (thaw m S d) = true → RV K ρ H (thaw m S d) v
  | .ref k, v, h, n => by
    by_cases hk : k < m
    · simp only [Y.thaw, if_pos hk] at n ⊢
      simp only [RV] at h ⊢
      obtain ⟨a, h1, h2⟩ := h
      rw [List.getElem?_append_left (by omega)] at h1
      exact ⟨a, h1, h2⟩
    · simp only [Y.thaw, if_neg hk] at n ⊢
      obtain ⟨a, ha, rfl⟩ := h.ref
      have hna := not_front s hl hk ha
      have hsub : ∀ a ∈ ρ, a ∈ ρ ++ t := fun a h => List.mem_append_left _ h
      cases ek : S[k]? with
      | none =>
        rw [ek] at n
        simp [noRefGe, hk] at n
      | some y =>
        have q := s.at_ k a y ha ek
        cases y with
        | lst xs =>
          obtain ⟨vs, h3, h4, h5⟩ := q
          simp only [RV]
          exact ⟨a, vs, rfl, hna, h3, h4.free hsub h5⟩
        | dk kvs =>
          obtain ⟨vs, h3, h4, h5⟩ := q
          simp only [RV]
          exact ⟨a, vs, rfl, hna, .inl h3, h4.free hsub h5⟩
        | fz kvs =>
          obtain ⟨vs, h3, h4, h5⟩ := q
          simp only [RV]
          exact ⟨a, vs, rfl, hna, .inr h3, h4.free hsub h5⟩
        | _ => exact False.elim q
  | .tup xs, v, h, n => by
    simp only [Y.thaw, noRefGe] at n
    simp only [Y.thaw, RV] at h ⊢
    obtain ⟨a, vs, h1, h2, h3⟩ := h
    exact ⟨a, vs, h1, h2, RVs.thaw s hl xs vs h3 n⟩
  | .lst xs, v, h, n => by
    simp only [Y.thaw, noRefGe] at n
    simp only [Y.thaw, RV] at h ⊢
    obtain ⟨a, vs, h1, h2, h3, h4⟩ := h
    exact ⟨a, vs, h1, fun q => h2 (List.mem_append_left _ q), h3, RVs.thaw s hl xs vs h4 n⟩
  | .non, v, h, n => by simp only [Y.thaw, RV] at h ⊢; exact h
  | .bl _, v, h, n => by simp only [Y.thaw, RV] at h ⊢; exact h
  | .int _, v, h, n => by simp only [Y.thaw, RV] at h ⊢; exact h
  | .str _, v, h, n => by simp only [Y.thaw, RV] at h ⊢; exact h
  | .rol xs, v, h, n => by
    simp only [Y.thaw] at n ⊢
    exact h.sub (m := m) (fun a q => List.mem_append_left _ q) (fun k a hk e => by rw [List.getElem?_append_left (by omega)] at e; exact e) _ _ n
  | .exn c x, v, h, n => by
    simp only [Y.thaw] at n ⊢
    exact h.sub (m := m) (fun a q => List.mem_append_left _ q) (fun k a hk e => by rw [List.getElem?_append_left (by omega)] at e; exact e) _ _ n
  | .fz xs, v, h, n => by
    simp only [Y.thaw] at n ⊢
    exact h.sub (m := m) (fun a q => List.mem_append_left _ q) (fun k a hk e => by rw [List.getElem?_append_left (by omega)] at e; exact e) _ _ n
  | .dk xs, v, h, n => by
    simp only [Y.thaw] at n ⊢
    exact h.sub (m := m) (fun a q => List.mem_append_left _ q) (fun k a hk e => by rw [List.getElem?_append_left (by omega)] at e; exact e) _ _ n
theorem RVs.thaw (s : RS K (ρ ++ t) H S) (hl : ρ.length = m) : ∀ (xs : List DV) (vs : List V), RVs K (ρ ++ t) H xs vs → noRefGes m (thaws m S xs) = true → RVs K ρ H (thaws m S xs) vs
  | [], vs, h, n => by simp only [thaws, RVs] at h ⊢; exact h
  | x :: xs, vs, h, n => by
    simp only [thaws, noRefGes, Bool.and_eq_true] at n
    simp only [thaws, RVs] at h ⊢
    obtain ⟨v, r, h1, h2, h3⟩ := h
    exact ⟨v, r, h1, RV.thaw s hl x v h2 n.1, RVs.thaw s hl xs r h3 n.2⟩
end
end
/-- a def's body, from what is promised of the def -/
theorem fn_core {N ps : List Str} {n : Nat} {b : MS} {vs : List V} {H : Hp} {Q : VK} {E : XK} (hn : n = N.length) (h : spF K rx ps.length (fn n b) vs H Q E) :
    tS K rx (fun cls d _ H => E cls d H) b { nx := fun _ H' => Q .non H', rt := Q } (L2.start N vs) H := by
  obtain ⟨ρ, args, S0, hlen, r, hs, h⟩ := h
  refine ⟨ρ, _, S0, rl_start r hn, hs, ?_⟩
  unfold fn at h
  cases eb : b (args.map some ++ List.replicate (n - args.length) none) S0 with
  | bad => rw [eb] at h; exact False.elim h
  | exc c y l S1 =>
    rw [eb] at h
    dsimp only at h
    intro ρ' H' σ' cls od e s1 _ q
    by_cases hy : noRef y = true
    · rw [if_pos hy] at h
      refine h H' cls od e.cut ?_ (q.cut fun a m => by obtain ⟨t, et⟩ := e.pre; rw [et]; exact List.mem_append_left _ m)
      obtain ⟨t, rfl⟩ := e.pre
      have z := s1.take ρ.length
      rw [List.take_left, hs.len] at z
      exact z
    · rw [if_neg hy] at h
      exact False.elim h
  | ok fl S1 =>
    rw [eb] at h
    have fin : ∀ {d : DV} {ρ' : List Addr} {H' : Hp} {v : V}, FnPost K rx ρ H Q E (leave S0.length d S1) → Ext ρ H ρ' H' → RS K ρ' H' S1 → RV K ρ' H' d v → Q v H' := fun {d ρ' H' v} h e s1 rv => by
      obtain ⟨t, rfl⟩ := e.pre
      have tk := s1.take ρ.length
      rw [List.take_left, hs.len] at tk
      have plain : noRefGe S0.length d = true → RV K ρ H' d v := fun hd => rv.sub (m := S0.length) (fun a h => List.mem_append_left _ h) (fun k a hk e => by
        rw [List.getElem?_append_left (by rw [hs.len]; exact hk)] at e
        exact e) d v hd
      by_cases hd : ∃ k, d = .ref k
      · obtain ⟨k, rfl⟩ := hd
        by_cases hk : k < S0.length
        · rw [leave_lt hk] at h
          exact h H' v e.cut tk (plain (by simp [noRefGe, hk]))
        · cases ek : S1[k]? with
          | none => rw [leave_no hk ek] at h; exact False.elim h
          | some y =>
            rw [leave_own hk ek] at h
            obtain ⟨a, ha, rfl⟩ := rv.ref
            have hge : ρ.length ≤ k := by rw [hs.len]; omega
            have hna : a ∉ ρ := fun m => by
              obtain ⟨j, hj⟩ := List.mem_iff_getElem?.mp m
              have hjl := (List.getElem?_eq_some_iff.mp hj).1
              have := nd_ix s1.nd (show (ρ ++ t)[j]? = some a by rw [List.getElem?_append_left hjl]; exact hj) ha
              omega
            have hfr : H a = none := (e.fresh a (List.mem_of_getElem? ha)).resolve_left hna
            have z := s1.sel hge ha ek
            rw [List.take_left, hs.len] at z
            exact h H' a (e.cut1 ha hfr) z
      · rw [leave_val (fun k z => hd ⟨k, z⟩)] at h
        by_cases hn : noRefGe S0.length (thaw S0.length S1 d) = true
        · rw [if_pos hn] at h
          exact h H' v e.cut tk (RV.thaw s1 hs.len d v rv hn)
        · rw [if_neg hn] at h
          exact False.elim h
    cases fl with
    | bk l => exact False.elim h
    | ct l => exact False.elim h
    | rt d => exact fun ρ' H' v e s1 rv => fin h e s1 rv
    | nx l => exact fun ρ' H' σ' e s1 _ => fin (d := .non) (v := .non) h e s1 (by simp [RV])
/-- a def keeps the promise of its combinator -/
theorem fn_ok {x qual : Str} {st : Stmt} {f : Addr} {fd : FuncData} {N ps : List Str} {k n : Nat} {b : MS} (F : Fun K x qual st f fd) (S : FnScope N ps (defScope st)) (hn : n = N.length)
    (hb : ∀ (cdv : Value) (A : Around) (outer : List Env) (s : Shared) (H : Hp) (E : XK), Room k (A.deeper (envOfC qual (defScope st) s.heap.objs.size f cdv)) →
      ISs (cxOf (L2.CX P w) P w K mg base N qual (defScope st) f cdv A outer s H E) rx (fun cls d _ H => E cls d H) (defBody st) b) : FnOk P w K mg base (L2.CX P w) (k + 1) f fd ps (spF K rx ps.length (fn n b)) := by
  refine F.okX S (fun vs H Q E h => ?_) fun cdv A outer s H vs Q E hr h => ⟨_, hb cdv A outer s H E hr, fn_core hn h⟩
  obtain ⟨_, _, _, h, _⟩ := h
  exact h
/-- no level: nothing is promised -/
theorem fn_none {f : Addr} {fd : FuncData} {ps : List Str} {k : Nat} {g : Ora} (h : ∀ args S, g args S = .bad) : FnOk P w K mg base (L2.CX P w) k f fd ps (spF K rx ps.length g) := by
  have no : ∀ vs H Q E, ¬ spF K rx ps.length g vs H Q E := fun vs H Q E ⟨ρ, args, S, _, _, _, q⟩ => by
    rw [h] at q
    exact q
  exact ⟨fun vs H Q E h => absurd h (no vs H Q E), fun A outer s H args us vs Q E _ _ _ _ h => absurd h (no vs H Q E)⟩
end
end Y
/-! Dicts. -/
namespace Y
open PySem L2

/-! ### what they do -/
theorem u1 {k : Nat} {A : Around} (r : Room k A) : A.units + 1 < cLine := by have := r.units; omega
theorem u66 {k : Nat} {A : Around} (r : Room k A) : A.units + 66 < cLine := by have := r.un; omega
def keyOf : DV → Option Key
  | .int i => some (.inl i)
  | .str s => some (.inr s)
  | _ => none
def dkOf (S : Sto) : DV → Option (List (Key × DV))
  | .dk kvs => some kvs
  | .fz kvs => some kvs
  | .ref k => match S[k]? with
    | some (.dk kvs) => some kvs
    | some (.fz kvs) => some kvs
    | _ => none
  | _ => none
def getK (kvs : List (Key × DV)) (k : Key) : Option DV := (kvs.find? fun kv => decide (kv.1 = k)).map (·.2)
def putD (kvs : List (Key × DV)) (k : Key) (d : DV) : List (Key × DV) :=
  if (kvs.any fun kv => decide (kv.1 = k)) = true then kvs.map (fun kv => if kv.1 = k then (kv.1, d) else kv) else kvs ++ [(k, d)]
def keyD : Key → DV
  | .inl i => .int i
  | .inr s => .str s
/-- {} -/
def dctN : ME := fun _ S => .ok (.ref S.length) (S ++ [.dk []])
/-- d[i] = e -/
def setK (a i e : ME) : MS := fun l S => (e l S).bind fun y S0 => (a l S0).bind fun x S1 => (i l S1).bind fun j S2 => match x, keyOf j with
  | .ref k, some j => match S2[k]? with
    | some (.dk kvs) => if kvs.length < LIM ∧ noRef y = true then .ok (.nx l) (S2.set k (.dk (putD kvs j y))) else .bad
    | _ => .bad
  | _, _ => .bad
/-- d.get(k, x) -/
def getE (a k x : ME) : ME := fun l S => (a l S).bind fun u S1 => if (dkOf S1 u).isSome = true then (k l S1).bind fun j S2 => (x l S2).bind fun z S3 => (match dkOf S3 u, keyOf j with
  | some kvs, some j => .ok ((getK kvs j).getD z) S3
  | _, _ => .bad) else .bad
def ixKV (S : Sto) (x i : DV) : Option DV := match dkOf S x, keyOf i with
  | some kvs, some j => getK kvs j
  | _, _ => none
noncomputable def ixAV (S : Sto) (x i : DV) : Option DV := if (dkOf S x).isSome = true then ixKV S x i else ixV S x i
/-- x[i], x a dict, a list, a tuple or a text -/
noncomputable def ixA : ME → ME → ME := op2 ixAV
def inDV (S : Sto) (x y : DV) : Option Bool := match dkOf S y, keyOf x with
  | some kvs, some j => some (getK kvs j).isSome
  | _, _ => none
/-- k in d -/
noncomputable def inAV (S : Sto) (x y : DV) : Option Bool := if (dkOf S y).isSome = true then inDV S x y else inV S x y
noncomputable def inA : ME → ME → ME := op2 fun S x y => (inAV S x y).map .bl
noncomputable def ninA : ME → ME → ME := op2 fun S x y => (inAV S x y).map fun b => .bl !b
def flatK : DV → Bool
  | .non => true
  | .bl _ => true
  | .int _ => true
  | .str _ => true
  | _ => false
/-- values of a dict, compared -/
noncomputable def valEq (x y : DV) : Option Bool := match x, y with
  | .bl a, .bl b => some (decide (a = b))
  | x, y => if plain 60 x = true ∧ plain 60 y = true then some (eqB x y) else none
noncomputable def allK (ls : List (Key × DV)) : List (Key × DV) → Option Bool
  | [] => some true
  | (k, v) :: r => match getK ls k with
    | none => some false
    | some u => match valEq v u, allK ls r with
      | some a, some b => some (a && b)
      | _, _ => none
/-- two dicts, compared -/
noncomputable def eqKV (S : Sto) (x y : DV) : Option Bool := match dkOf S x, dkOf S y with
  | some ks, some ls => if ks.length = ls.length then allK ls ks else some false
  | _, _ => none
noncomputable def eqAV (S : Sto) (x y : DV) : Option Bool := if (dkOf S x).isSome = true then eqKV S x y else eqV S x y
noncomputable def eqA : ME → ME → ME := op2 fun S x y => (eqAV S x y).map .bl
noncomputable def neA : ME → ME → ME := op2 fun S x y => (eqAV S x y).map fun b => .bl !b
def leS (a b : Str) : Bool := !Spec.ltCps b.cps.toList a.cps.toList
def sortS (ks : List Str) : List Str := ks.mergeSort leS
def strs? : List (Key × DV) → Option (List Str)
  | [] => some []
  | (.inr s, _) :: r => (strs? r).map (s :: ·)
  | _ => none
def sortDV (S : Sto) (x : DV) : Option (List DV) := match dkOf S x with
  | some kvs => match strs? kvs with
    | some ks => if ks.length < 64 then some ((sortS ks).map .str) else none
    | none => none
  | none => none
/-- sorted(d) as a value; as an object of the store -/
def sortD : ME → ME := op1 fun S x => (sortDV S x).map .lst
def sortDR (a : ME) : ME := fun l S => (a l S).bind fun x S1 => match sortDV S1 x with
  | some xs => .ok (.ref S1.length) (S1 ++ [.lst xs])
  | none => .bad

/-! ### texts in order -/
theorem leS_total (a b : Str) : (leS a b || leS b a) = true := by
  unfold leS
  rw [PyProof.Rows.ltCps_eq, PyProof.Rows.ltCps_eq]
  have := List.le_total (α := Nat) a.cps.toList b.cps.toList
  rw [← List.not_lt, ← List.not_lt] at this
  simpa using this
theorem leS_trans (a b c : Str) (h : leS a b = true) (h' : leS b c = true) : leS a c = true := by
  unfold leS at *
  rw [PyProof.Rows.ltCps_eq] at *
  simp only [Bool.not_eq_true', decide_eq_false_iff_not, List.not_lt] at *
  exact List.le_trans h h'
theorem leS_anti (a b : Str) (h : leS a b = true) (h' : leS b a = true) : a = b := by
  unfold leS at *
  rw [PyProof.Rows.ltCps_eq] at *
  simp only [Bool.not_eq_true', decide_eq_false_iff_not, List.not_lt] at *
  have := List.le_antisymm h h'
  cases a; cases b
  simp only [Str.mk.injEq]
  exact Array.toList_inj.mp this
theorem risingS_all {p : Str} : ∀ {l : List Str}, PyProof.Rows.risingS p l = true → (p :: l).Pairwise fun a b => leS a b = true
  | [], _ => by simp
  | x :: r, h => by
    simp only [PyProof.Rows.risingS, Bool.and_eq_true] at h
    have ih := risingS_all h.2
    refine List.Pairwise.cons (fun y m => ?_) ih
    rcases List.mem_cons.mp m with rfl | m
    · exact h.1
    · exact leS_trans _ _ _ h.1 (List.rel_of_pairwise_cons ih m)
theorem sortedS_all : ∀ {l : List Str}, PyProof.Rows.sortedS l = true → l.Pairwise fun a b => leS a b = true
  | [], _ => List.Pairwise.nil
  | _ :: _, h => risingS_all h
theorem sortS_perm (ks : List Str) : (sortS ks).Perm ks := List.mergeSort_perm _ _
theorem sortS_pw (ks : List Str) : (sortS ks).Pairwise fun a b => leS a b = true := List.pairwise_mergeSort leS_trans leS_total ks
theorem sortS_eq {ks ys : List Str} (h : ys.Perm ks) (h' : ys.Pairwise fun a b => leS a b = true) : ys = sortS ks :=
  List.Perm.eq_of_pairwise (fun a b _ _ => leS_anti a b) h' (sortS_pw ks) (h.trans (sortS_perm ks).symm)

/-! ### how they stand in the heap -/
section
variable {K : PySem.W.Frag} {ρ : List Addr} {H : Hp} {S : Sto}
theorem RV.dkOf (s : RS K ρ H S) {x : DV} {kvs : List (Key × DV)} {v : V} (h : RV K ρ H x v) (e : Y.dkOf S x = some kvs) : ∃ a ws, v = .ref a ∧ Rd H a (.dK ws) ∧ RVK K ρ H kvs ws := by
  cases x with
  | dk ys =>
    simp only [Y.dkOf, Option.some.injEq] at e
    subst e
    simp only [RV] at h
    obtain ⟨a, vs, h1, _, h3, h4⟩ := h
    exact ⟨a, vs, h1, h3, h4⟩
  | fz ys =>
    simp only [Y.dkOf, Option.some.injEq] at e
    subst e
    simp only [RV] at h
    obtain ⟨a, vs, h1, _, h3, h4⟩ := h
    exact ⟨a, vs, h1, h3, h4⟩
  | ref k =>
    simp only [RV] at h
    obtain ⟨a, h1, h2⟩ := h
    unfold Y.dkOf at e
    dsimp only at e
    split at e
    · rename_i zs q
      cases e
      obtain ⟨vs, h3, h4, _⟩ := s.at_ k a _ h1 q
      exact ⟨a, vs, h2, .inl h3, h4⟩
    · rename_i zs q
      cases e
      obtain ⟨vs, h3, h4, _⟩ := s.at_ k a _ h1 q
      exact ⟨a, vs, h2, .inr h3, h4⟩
    · cases e
  | _ => simp [Y.dkOf] at e
theorem keyOf_v {x : DV} {j : Key} {v : V} (h : keyOf x = some j) (r : RV K ρ H x v) : v = kV j := by
  unfold keyOf at h
  split at h
  · cases h; exact r.int
  · cases h; exact r.str
  · cases h
theorem RVK.length : ∀ {kvs : List (Key × DV)} {ws : List (Key × V)}, RVK K ρ H kvs ws → kvs.length = ws.length
  | [], ws, h => by
    simp only [RVK] at h
    rw [h]
    all_goals rfl
  | (k, x) :: r, ws, h => by
    simp only [RVK] at h
    obtain ⟨v, t, rfl, _, h2⟩ := h
    rw [List.length_cons, List.length_cons, RVK.length h2]
theorem RVK.get (j : Key) : ∀ {kvs : List (Key × DV)} {ws : List (Key × V)}, RVK K ρ H kvs ws → match getK kvs j with
    | some d => ∃ v, valV ws j = some v ∧ RV K ρ H d v
    | none => valV ws j = none
  | [], ws, h => by
    simp only [RVK] at h
    subst h
    simp [getK, valV]
  | (k, x) :: r, ws, h => by
    simp only [RVK] at h
    obtain ⟨v, t, rfl, h1, h2⟩ := h
    have ih := RVK.get j h2
    by_cases e : k = j
    · have e1 : getK ((k, x) :: r) j = some x := by simp [getK, List.find?_cons, e]
      rw [e1]
      exact ⟨v, valV_pos (p := (k, v)) e, h1⟩
    · have e1 : getK ((k, x) :: r) j = getK r j := by simp [getK, List.find?_cons, e]
      rw [e1, valV_neg (p := (k, v)) e]
      exact ih
theorem RVK.any (j : Key) : ∀ {kvs : List (Key × DV)} {ws : List (Key × V)}, RVK K ρ H kvs ws → (kvs.any fun kv => decide (kv.1 = j)) = ws.any fun kv => decide (kv.1 = j)
  | [], ws, h => by simp only [RVK] at h; subst h; rfl
  | (k, x) :: r, ws, h => by
    simp only [RVK] at h
    obtain ⟨v, t, rfl, h1, h2⟩ := h
    rw [List.any_cons, List.any_cons, RVK.any j h2]
theorem RVK.set (j : Key) {d : DV} {u : V} (hd : RV K ρ H d u) : ∀ {kvs : List (Key × DV)} {ws : List (Key × V)}, RVK K ρ H kvs ws →
    RVK K ρ H (kvs.map fun kv => if kv.1 = j then (kv.1, d) else kv) (ws.map fun kv => if kv.1 = j then (kv.1, u) else kv)
  | [], ws, h => by
    simp only [RVK] at h
    subst h
    simp [RVK]
  | (k, x) :: r, ws, h => by
    simp only [RVK] at h
    obtain ⟨v, t, rfl, h1, h2⟩ := h
    have ih := RVK.set j hd h2
    rw [List.map_cons, List.map_cons]
    by_cases e : k = j
    · simp only [e, if_true, RVK]
      exact ⟨u, _, rfl, hd, by simpa using ih⟩
    · simp only [e, if_false, RVK]
      exact ⟨v, _, rfl, h1, by simpa using ih⟩
theorem RVK.snoc (j : Key) {d : DV} {u : V} (hd : RV K ρ H d u) : ∀ {kvs : List (Key × DV)} {ws : List (Key × V)}, RVK K ρ H kvs ws → RVK K ρ H (kvs ++ [(j, d)]) (ws ++ [(j, u)])
  | [], ws, h => by
    simp only [RVK] at h
    subst h
    simp [RVK, hd]
  | (k, x) :: r, ws, h => by
    simp only [RVK] at h
    obtain ⟨v, t, rfl, h1, h2⟩ := h
    have ih := RVK.snoc j hd h2
    simp only [List.cons_append, RVK]
    exact ⟨v, _, rfl, h1, ih⟩
theorem RVK.put (j : Key) {d : DV} {u : V} (hd : RV K ρ H d u) {kvs : List (Key × DV)} {ws : List (Key × V)} (h : RVK K ρ H kvs ws) : RVK K ρ H (putD kvs j d) (putK ws j u) := by
  unfold putD putK
  rw [h.any j]
  split
  · exact h.set j hd
  · exact h.snoc j hd
theorem noRefK_all : ∀ {kvs : List (Key × DV)}, noRefK kvs = true ↔ ∀ p ∈ kvs, noRef p.2 = true
  | [] => by simp [noRefK]
  | (k, x) :: r => by simp [noRefK, noRefK_all (kvs := r)]
theorem noRefK_put {kvs : List (Key × DV)} {j : Key} {d : DV} (h : noRefK kvs = true) (hd : noRef d = true) : noRefK (putD kvs j d) = true := by
  rw [noRefK_all] at *
  intro p m
  unfold putD at m
  split at m
  · obtain ⟨q, hq, rfl⟩ := List.mem_map.mp m
    split
    · exact hd
    · exact h q hq
  · rcases List.mem_append.mp m with m | m
    · exact h p m
    · rw [List.mem_singleton] at m
      rw [m]
      exact hd
theorem RVK.strs : ∀ {kvs : List (Key × DV)} {ws : List (Key × V)} {ks : List Str}, RVK K ρ H kvs ws → strs? kvs = some ks → ws.map (·.1) = ks.map Sum.inr
  | [], ws, ks, h, e => by
    simp only [RVK] at h
    simp only [strs?, Option.some.injEq] at e
    subst h e
    rfl
  | (.inr z, x) :: r, ws, ks, h, e => by
    simp only [RVK] at h
    obtain ⟨v, t, rfl, h1, h2⟩ := h
    simp only [strs?, Option.map_eq_some_iff] at e
    obtain ⟨ks', e1, rfl⟩ := e
    rw [List.map_cons, List.map_cons, RVK.strs h2 e1]
  | (.inl z, x) :: r, ws, ks, h, e => by simp [strs?] at e
theorem noRefs_strs : ∀ ks : List Str, noRefs (ks.map DV.str) = true
  | [] => rfl
  | k :: ks => by simp only [List.map_cons, noRefs, noRef, noRefs_strs ks, Bool.and_self]
theorem rvs_strs : ∀ ks : List Str, RVs K ρ H (ks.map DV.str) (ks.map V.str)
  | [] => by simp [RVs]
  | k :: ks => RVs.cons (by simp [RV]) (rvs_strs ks)
end
section
variable {X : Cx} {rx : Rx} {W : WX} {a b e i : Expr} {ma mb me mi : ME} {pos : Pos}
theorem v_dctN : IE X rx W (.Dict [] [] pos) dctN := by
  refine pe_imp pe_dnewK fun σ H Q ⟨ρ, l, S, hl, hs, h⟩ p hp => ?_
  refine h (ρ ++ [p]) _ (.ref p) (ext_push hp) (hs.push (d := .dk []) hp ⟨[], upd_same, by simp [RVK], rfl⟩) ?_
  simp only [RV]
  refine ⟨p, ?_, rfl⟩
  rw [List.getElem?_append_right (by rw [hs.len]; exact Nat.le_refl _), hs.len, Nat.sub_self]
  rfl
theorem v_setK {tpos : Pos} (hu : X.A.units + 1 < cLine) (he : IE X rx W e me) (ha : IE X rx W a ma) (hi : IE X rx W i mi) (hs : swapsWith e (some (.Subscript a i tpos)) pos.line X.env = pure false := by rfl) : IS X rx W (.Assign [.Subscript a i tpos] e pos) (setK ma mi me) := by
  refine ps_imp (ps_dput hu ha hi he hs) fun D σ H ⟨ρ, l, S, hl, hs, h⟩ => ?_
  refine bindI hl hs h fun ρ1 H1 y S1 u e1 s1 l1 r1 h1 => ?_
  refine bindI l1 s1 h1 fun ρ2 H2 x S2 v e2 s2 l2 r2 h2 => ?_
  refine bindI l2 s2 h2 fun ρ3 H3 j S3 w e3 s3 l3 r3 h3 => ?_
  split at h3
  · rename_i k j' hj
    split at h3
    · rename_i kvs hk
      split at h3
      · rename_i hn
        obtain ⟨p, hp, rfl⟩ := (r2.mono e3).ref
        obtain ⟨ws, h4, h5, h6⟩ := s3.at_ k p _ hp hk
        rw [keyOf_v hj r3]
        refine ⟨p, _, rfl, DPut.k h4 (by rw [← h5.length, ← LIM_eq]; exact hn.1), ?_⟩
        have ew : Ext ρ3 H3 ρ3 (upd H3 p (.dK (putK ws j' u))) := ext_write s3 (List.mem_of_getElem? hp) (Live.d h4)
        exact h3 ρ3 _ σ (e1.trans (e2.trans (e3.trans ew))) (s3.write (d := .dk (putD kvs j' y)) hp (Live.d h4) ⟨_, upd_same, RVK.mono ew _ _ (h5.put j' ((r1.mono e2).mono e3)), noRefK_put h6 hn.2⟩) (l3.mono ew)
      · exact False.elim h3
    · exact False.elim h3
  · exact False.elim h3
theorem dget_of {K : PySem.W.Frag} {ρ : List Addr} {H : Hp} {S : Sto} {x y : DV} {v u : V} {kvs : List (Key × DV)} {j : Key} (s : RS K ρ H S) (r : RV K ρ H x v) (r' : RV K ρ H y u) (e : dkOf S x = some kvs) (ej : keyOf y = some j) :
    ∃ a o, v = .ref a ∧ IsD H a ∧ DGet H a u o ∧ match getK kvs j with
      | some d => ∃ w, o = some w ∧ RV K ρ H d w
      | none => o = none := by
  obtain ⟨a, ws, rfl, h1, h2⟩ := r.dkOf s e
  have ek := keyOf_v ej r'
  subst ek
  exact ⟨a, _, rfl, .inl ⟨ws, h1⟩, .inl ⟨ws, j, h1, rfl, rfl⟩, h2.get j⟩
theorem v_ixA (hu : X.A.units + 1 < cLine) (hp : PlainIx b) (hn : NoSl b) (ha : IE X rx W a ma) (hb : IE X rx W b mb) : IE X rx W (.Subscript a b pos) (ixA ma mb) := by
  refine pe_imp (pe_or2 (v_ix (rx := rx) (W := W) hp ha hb) (pe_dget hu ha hb hn)) fun σ H Q ⟨ρ, l, S, hl, hs, h⟩ => ?_
  have key : ixA ma mb l S = op2 ixKV ma mb l S ∨ ixA ma mb l S = ix ma mb l S := by
    cases ea : ma l S with
    | bad => exact .inr (by show (ma l S).bind _ = (ma l S).bind _; rw [ea]; rfl)
    | exc c x l' S' => exact .inr (by show (ma l S).bind _ = (ma l S).bind _; rw [ea]; rfl)
    | ok x S1 =>
      cases eb : mb l S1 with
      | bad => exact .inr (by show (ma l S).bind _ = (ma l S).bind _; rw [ea]; show (mb l S1).bind _ = (mb l S1).bind _; rw [eb]; rfl)
      | exc c x l' S' => exact .inr (by show (ma l S).bind _ = (ma l S).bind _; rw [ea]; show (mb l S1).bind _ = (mb l S1).bind _; rw [eb]; rfl)
      | ok y S2 =>
        by_cases ed : (dkOf S2 x).isSome = true
        · refine .inl ?_
          show (ma l S).bind _ = (ma l S).bind _
          rw [ea]
          show (mb l S1).bind _ = (mb l S1).bind _
          rw [eb]
          show Out.of (ixAV S2 x y) S2 = Out.of (ixKV S2 x y) S2
          unfold ixAV
          rw [if_pos ed]
        · refine .inr ?_
          show (ma l S).bind _ = (ma l S).bind _
          rw [ea]
          show (mb l S1).bind _ = (mb l S1).bind _
          rw [eb]
          show Out.of (ixAV S2 x y) S2 = Out.of (ixV S2 x y) S2
          unfold ixAV
          rw [if_neg ed]
  rcases key with e | e
  · rw [e] at h
    refine .inr ?_
    refine bindI hl hs h fun ρ1 H1 x' S1' v e1 s1 l1 r1 h1 => ?_
    refine bindI l1 s1 h1 fun ρ2 H2 y' S2' u e2 s2 l2 r2 h2 => ?_
    obtain ⟨d, hd, q⟩ := h2.of
    unfold ixKV at hd
    split at hd
    · rename_i kvs' j ed' ej
      obtain ⟨p, o, rfl, _, g, hg⟩ := dget_of s2 (r1.mono e2) r2 ed' ej
      rw [hd] at hg
      obtain ⟨w, rfl, rw'⟩ := hg
      exact ⟨p, w, rfl, g, q ρ2 H2 w (e1.trans e2) s2 rw'⟩
    · cases hd
  · rw [e] at h
    exact .inl ⟨ρ, l, S, hl, hs, h⟩
theorem v_getE {apos cpos : Pos} {ky x : Expr} {mk mx : ME} (hu : X.A.units + 1 < cLine) (ha : IE X rx W a ma) (hk : IE X rx W ky mk) (hx : IE X rx W x mx) (hbase : attributeBase a "get" X.env (eval a X.env) = eval a X.env := by rfl)
    (hfew : ((backTo cpos (starEach [ky, x] X.env)).all (fun x => !x.1) && (backToKw cpos (keywordEach [] X.env)).all (fun x => x.1.isSome)
      && decide (([ky, x] : List Expr).length + ([] : List Keyword).length + (if ([] : List Keyword).isEmpty then 0 else 1) < 30)) = true := by rfl)
    (hline : (apos.endLine == cpos.line) = true := by rfl) (ht : backTo cpos (starEach [ky, x] X.env) = [(false, eval ky X.env), (false, eval x X.env)] := by rfl) : IE X rx W (.Call (.Attribute a "get" apos) [ky, x] [] cpos) (getE ma mk mx) := by
  refine pe_imp (pe_dget2 hu ha hk hx ⟨hbase, hfew, hline, ht⟩) fun σ H Q ⟨ρ, l, S, hl, hs, h⟩ => ?_
  refine bindI hl hs h fun ρ1 H1 u S1 v e1 s1 l1 r1 h1 => ?_
  split at h1
  · rename_i hd
    obtain ⟨kvs, ed⟩ := Option.isSome_iff_exists.mp hd
    obtain ⟨p, ws, rfl, hp, _⟩ := r1.dkOf s1 ed
    refine ⟨p, rfl, .inl ⟨ws, hp⟩, ?_⟩
    refine bindI l1 s1 h1 fun ρ2 H2 j S2 w e2 s2 l2 r2 h2 => ?_
    refine bindI l2 s2 h2 fun ρ3 H3 z S3 y e3 s3 l3 r3 h3 => ?_
    split at h3
    · rename_i kvs' j' ed' ej
      obtain ⟨p', o, e', _, g, hg⟩ := dget_of s3 ((r1.mono e2).mono e3) (r2.mono e3) ed' ej
      cases e'
      refine ⟨o, g, h3 ρ3 H3 _ (e1.trans (e2.trans e3)) s3 ?_⟩
      cases eg : getK kvs' j' with
      | none =>
        rw [eg] at hg
        rw [hg]
        exact r3
      | some d =>
        rw [eg] at hg
        obtain ⟨w', rfl, rw'⟩ := hg
        exact rw'
    · exact False.elim h3
  · exact False.elim h1
/-- in a dict, as an operator -/
theorem op_inD (hu : X.A.units + 1 < cLine) : OpR X (compareOp .In) (fun y x H Q => ∃ a o, x = .ref a ∧ DGet H a y o ∧ Q (.bl o.isSome) H) := by
  rintro pins s σ H y x v u Q I rx ry ⟨a, o, rfl, g, q⟩
  obtain rfl : u = Value.ref a := ry
  exact d_in hu I g rx fun s' I' => ⟨.bl o.isSome, H, I', rfl, q⟩
theorem op_ninD (hu : X.A.units + 1 < cLine) : OpR X (compareOp .NotIn) (fun y x H Q => ∃ a o, x = .ref a ∧ DGet H a y o ∧ Q (.bl (!o.isSome)) H) := by
  rintro pins s σ H y x v u Q I rx ry ⟨a, o, rfl, g, q⟩
  obtain rfl : u = Value.ref a := ry
  exact d_notIn hu I g rx fun s' I' => ⟨.bl (!o.isSome), H, I', rfl, q⟩
theorem inA_sem (neg : Bool) {ρ : List Addr} {H : Hp} {S : Sto} {x y : DV} {c : Bool} {v u : V} {Q : VK} (s : RS X.K ρ H S) (r1 : RV X.K ρ H x v) (r2 : RV X.K ρ H y u) (h : inAV S x y = some c) (q : Q (.bl (if neg then !c else c)) H) :
    (rIn X.K neg v u H Q ∨ (∃ (c : Nat) (z : Str), v = .str ⟨#[c]⟩ ∧ u = .str z ∧ Q (.bl (if neg then !decide (c ∈ z.cps.toList) else decide (c ∈ z.cps.toList))) H)) ∨ ∃ a o, u = .ref a ∧ DGet H a v o ∧ Q (.bl (if neg then !o.isSome else o.isSome)) H := by
  unfold inAV at h
  split at h
  · refine .inr ?_
    unfold inDV at h
    split at h
    · rename_i kvs j ed ej
      cases h
      obtain ⟨p, o, rfl, _, g, hg⟩ := dget_of s r2 r1 ed ej
      refine ⟨p, o, rfl, g, ?_⟩
      have e : o.isSome = (getK kvs j).isSome := by
        cases eg : getK kvs j with
        | none => rw [eg] at hg; rw [hg]; rfl
        | some d =>
          rw [eg] at hg
          obtain ⟨w, rfl, _⟩ := hg
          rfl
      rw [e]
      exact q
    · cases h
  · exact .inl (in_sem neg s r1 r2 h q)
theorem v_inA (hu : X.A.units + 1 < cLine) (hm : behindInMarks .In b = false := by rfl) (ha : IE X rx W a ma) (hb : IE X rx W b mb) : IE X rx W (.Compare a [.In] [b] pos) (inA ma mb) :=
  v_cmp (f := inAV) (g := fun c => c) ((op_in_seq.or op_in_sign).or (op_inD hu)) hm (inA_sem false) ha hb
theorem v_tinA (hu : X.A.units + 1 < cLine) (hm : behindInMarks .In b = false := by rfl) (ha : IE X rx W a ma) (hb : IE X rx W b mb) : IT X rx W (.Compare a [.In] [b] pos) (tst (inA ma mb)) :=
  v_tcmp (f := inAV) (g := fun c => c) ((op_in_seq.or op_in_sign).or (op_inD hu)) hm (inA_sem false) ha hb
theorem v_ninA (hu : X.A.units + 1 < cLine) (hm : behindInMarks .NotIn b = false := by rfl) (ha : IE X rx W a ma) (hb : IE X rx W b mb) : IE X rx W (.Compare a [.NotIn] [b] pos) (ninA ma mb) :=
  v_cmp (f := inAV) (g := fun c => !c) ((op_notIn_seq.or op_notIn_sign).or (op_ninD hu)) hm (inA_sem true) ha hb
theorem v_tninA (hu : X.A.units + 1 < cLine) (hm : behindInMarks .NotIn b = false := by rfl) (ha : IE X rx W a ma) (hb : IE X rx W b mb) : IT X rx W (.Compare a [.NotIn] [b] pos) (tst (ninA ma mb)) :=
  v_tcmp (f := inAV) (g := fun c => !c) ((op_notIn_seq.or op_notIn_sign).or (op_ninD hu)) hm (inA_sem true) ha hb
theorem RVK.mem {K : PySem.W.Frag} {ρ : List Addr} {H : Hp} : ∀ {kvs : List (Key × DV)} {ws : List (Key × V)} {p : Key × V}, RVK K ρ H kvs ws → p ∈ ws → ∃ d, (p.1, d) ∈ kvs ∧ RV K ρ H d p.2
  | [], ws, p, h, m => by simp only [RVK] at h; subst h; cases m
  | (k, x) :: r, ws, p, h, m => by
    simp only [RVK] at h
    obtain ⟨v, t, rfl, h1, h2⟩ := h
    rcases List.mem_cons.mp m with rfl | m
    · exact ⟨x, List.mem_cons_self, h1⟩
    · obtain ⟨d, h3, h4⟩ := RVK.mem h2 m
      exact ⟨d, List.mem_cons_of_mem _ h3, h4⟩
/-- two values that are told apart -/
def EqVV (K : PySem.W.Frag) (H : Hp) (v y : V) (e : Bool) : Prop := ∃ d d', Dp K H v d ∧ Dp K H y d' ∧ SeqAt.shaped d = true ∧ SeqAt.shaped d' = true ∧ e = PyData.eqv d d'
inductive HitsV (K : PySem.W.Frag) (H : Hp) (ls : List (Key × V)) : List (Key × V) → Bool → Prop
  | nil : HitsV K H ls [] true
  | miss {k : Key} {v : V} {r : List (Key × V)} : valV ls k = none → HitsV K H ls ((k, v) :: r) false
  | hit {k : Key} {v y : V} {r : List (Key × V)} {e b : Bool} : valV ls k = some y → EqVV K H v y e → HitsV K H ls r b → HitsV K H ls ((k, v) :: r) (e && b)
theorem valEq_ok {K : PySem.W.Frag} {ρ : List Addr} {H : Hp} {x y : DV} {v u : V} {c : Bool} (r1 : RV K ρ H x v) (r2 : RV K ρ H y u) (h : valEq x y = some c) : EqVV K H v u c := by
  unfold valEq at h
  split at h
  · rename_i a b
    cases h
    rw [r1.bl, r2.bl]
    exact ⟨_, _, .bl _, .bl _, by cases a <;> decide, by cases b <;> decide, by cases a <;> cases b <;> decide⟩
  · split at h
    · rename_i hp
      cases h
      exact ⟨_, _, RV.dp 60 _ _ hp.1 r1, RV.dp 60 _ _ hp.2 r2, plain_shaped hp.1, plain_shaped hp.2, by rw [Bool.eq_iff_iff, eqB_iff]; exact (plain_eqv 60 _ 60 _ hp.1 hp.2).symm⟩
    · cases h
theorem allK_ok {K : PySem.W.Frag} {ρ : List Addr} {H : Hp} {ls : List (Key × DV)} {zs : List (Key × V)} (hz : RVK K ρ H ls zs) : ∀ {ks : List (Key × DV)} {ws : List (Key × V)} {c : Bool}, RVK K ρ H ks ws → allK ls ks = some c → HitsV K H zs ws c
  | [], ws, c, h, e => by
    simp only [RVK] at h
    simp only [allK, Option.some.injEq] at e
    subst h e
    exact .nil
  | (k, x) :: r, ws, c, h, e => by
    simp only [RVK] at h
    obtain ⟨v, t, rfl, h1, h2⟩ := h
    have g := hz.get k
    simp only [allK] at e
    split at e
    · rename_i eg
      cases e
      rw [eg] at g
      exact .miss g
    · rename_i u eg
      rw [eg] at g
      obtain ⟨y, hy, ry⟩ := g
      split at e
      · rename_i p q ep eq
        cases e
        exact .hit hy (valEq_ok h1 ry ep) (allK_ok hz h2 eq)
      · cases e
def rEqK (K : PySem.W.Frag) (neg : Bool) : R2 := fun x y H Q => ∃ a b ks ls r, x = .ref a ∧ y = .ref b ∧ Rd H a (.dK ks) ∧ Rd H b (.dK ls) ∧ (ks.length = ls.length → HitsV K H ls ks r) ∧ Q (.bl (if neg then !(decide (ks.length = ls.length) && r) else decide (ks.length = ls.length) && r)) H
theorem hitsV_run {pins : List (Addr × Obj)} {σ : L2.St} {H : Hp} {s : Shared} {A : Around} (I : Inv X pins σ H s) (hu : A.in1.units + 64 < cLine) {ls : List (Key × V)} {vb : List (Key × Value)} (rb : KV ls vb) {ks : List (Key × V)} {va : List (Key × Value)} (ra : KV ks va) :
    ∀ {r : Bool}, HitsV X.K H ls ks r → PySem.W.KeqHits A.in1 s vb va r := by
  unfold KV at ra
  induction ra with
  | nil => intro r h; cases h; exact .nil
  | @cons p q ps qs h t k =>
    intro r hp
    obtain ⟨h1, h2⟩ := h
    obtain ⟨key, v⟩ := q
    obtain ⟨key', v'⟩ := p
    dsimp only at h1 h2
    subst h1
    cases hp with
    | miss hn =>
      have rr : RelO none (valueAt vb key') := by rw [← hn]; exact rb.val key'
      refine .miss ?_
      cases e : valueAt vb key' with
      | none => rfl
      | some _ => rw [e] at rr; exact False.elim rr
    | hit hy he hr =>
      rename_i y e b
      have rr : RelO (some y) (valueAt vb key') := by rw [← hy]; exact rb.val key'
      obtain ⟨y', hy', ry⟩ := rr.some_of
      obtain ⟨d, d', hd, hd', sd, sd', rfl⟩ := he
      obtain ⟨as, q1⟩ := Dp.reads I d v' v hd h2
      obtain ⟨bs, q2⟩ := Dp.reads I d' y y' hd' ry
      exact .hit hy' (PySem.W.keq_at q1 q2 sd sd' hu) (k hr)
theorem op_eqK (hu : X.A.units + 66 < cLine) : OpR X (compareOp .Eq) (rEqK X.K false) := by
  intro pins s σ H x y v u Q I rx ry h
  obtain ⟨a, b, ks, ls, r, rfl, rfl, ea, eb, hh, q⟩ := h
  obtain rfl : v = Value.ref a := rx
  obtain rfl : u = Value.ref b := ry
  obtain ⟨_, ya, va, ra, da⟩ := dk_rd I.hok ea
  obtain ⟨_, yb, vb, rb, db⟩ := dk_rd I.hok eb
  have e1 : (va.length == vb.length) = decide (ks.length = ls.length) := by rw [← ra.length, ← rb.length, Bool.eq_iff_iff]; simp
  refine PySem.W.keq_eq (knd := mixKind X.prog X.w) (r := r) ya yb da db (by omega) (fun el => hitsV_run I (by show X.A.units + 1 + 64 < cLine; omega) rb ra (hh (by rw [ra.length, rb.length]; exact el))) (fin_bl I q (by rw [e1]; rfl))
theorem op_neK (hu : X.A.units + 66 < cLine) : OpR X (compareOp .NotEq) (rEqK X.K true) := by
  intro pins s σ H x y v u Q I rx ry h
  obtain ⟨a, b, ks, ls, r, rfl, rfl, ea, eb, hh, q⟩ := h
  obtain rfl : v = Value.ref a := rx
  obtain rfl : u = Value.ref b := ry
  obtain ⟨_, ya, va, ra, da⟩ := dk_rd I.hok ea
  obtain ⟨_, yb, vb, rb, db⟩ := dk_rd I.hok eb
  have e1 : (va.length == vb.length) = decide (ks.length = ls.length) := by rw [← ra.length, ← rb.length, Bool.eq_iff_iff]; simp
  refine PySem.W.keq_ne (knd := mixKind X.prog X.w) (r := r) ya yb da db (by omega) (fun el => hitsV_run I (by show X.A.units + 1 + 64 < cLine; omega) rb ra (hh (by rw [ra.length, rb.length]; exact el))) (fin_bl I q (by rw [e1]; rfl))
theorem eqK_sem (neg : Bool) {ρ : List Addr} {H : Hp} {S : Sto} {x y : DV} {c : Bool} {v u : V} {Q : VK} (s : RS X.K ρ H S) (r1 : RV X.K ρ H x v) (r2 : RV X.K ρ H y u) (h : eqKV S x y = some c) (q : Q (.bl (if neg then !c else c)) H) : rEqK X.K neg v u H Q := by
  unfold eqKV at h
  split at h
  · rename_i ks ls e1 e2
    obtain ⟨a, ws, rfl, h1, h2⟩ := r1.dkOf s e1
    obtain ⟨b, zs, rfl, h3, h4⟩ := r2.dkOf s e2
    have l1 := h2.length
    have l2 := h4.length
    split at h
    · rename_i hl
      refine ⟨a, b, ws, zs, c, rfl, rfl, h1, h3, fun _ => allK_ok h4 h2 h, ?_⟩
      rw [decide_eq_true (by rw [← l1, ← l2]; exact hl), Bool.true_and]
      exact q
    · rename_i hl
      cases h
      refine ⟨a, b, ws, zs, false, rfl, rfl, h1, h3, fun e => absurd (by rw [l1, l2]; exact e) hl, ?_⟩
      rw [Bool.and_false]
      exact q
  · cases h
theorem v_eqA (hu : X.A.units + 66 < cLine) (ha : IE X rx W a ma) (hb : IE X rx W b mb) : IE X rx W (.Compare a [.Eq] [b] pos) (eqA ma mb) :=
  v_cmp (f := eqAV) (g := fun c => c) ((op_eq.or (op_eqD (by omega))).or (op_eqK hu)) (nomark _) (fun {ρ H S x y c v u Q} s r1 r2 h q => by
    unfold eqAV at h
    split at h
    · exact .inr (eqK_sem false s r1 r2 h q)
    · exact .inl (eq_sem s r1 r2 h q)) ha hb
theorem v_teqA (hu : X.A.units + 66 < cLine) (ha : IE X rx W a ma) (hb : IE X rx W b mb) : IT X rx W (.Compare a [.Eq] [b] pos) (tst (eqA ma mb)) :=
  v_tcmp (f := eqAV) (g := fun c => c) ((op_eq.or (op_eqD (by omega))).or (op_eqK hu)) (nomark _) (fun {ρ H S x y c v u Q} s r1 r2 h q => by
    unfold eqAV at h
    split at h
    · exact .inr (eqK_sem false s r1 r2 h q)
    · exact .inl (eq_sem s r1 r2 h q)) ha hb
theorem v_neA (hu : X.A.units + 66 < cLine) (ha : IE X rx W a ma) (hb : IE X rx W b mb) : IE X rx W (.Compare a [.NotEq] [b] pos) (neA ma mb) :=
  v_cmp (f := eqAV) (g := fun c => !c) ((op_ne.or (op_neD (by omega))).or (op_neK hu)) (nomark _) (fun {ρ H S x y c v u Q} s r1 r2 h q => by
    unfold eqAV at h
    split at h
    · exact .inr (eqK_sem true s r1 r2 h q)
    · exact .inl (ne_sem s r1 r2 h q)) ha hb
theorem v_tneA (hu : X.A.units + 66 < cLine) (ha : IE X rx W a ma) (hb : IE X rx W b mb) : IT X rx W (.Compare a [.NotEq] [b] pos) (tst (neA ma mb)) :=
  v_tcmp (f := eqAV) (g := fun c => !c) ((op_ne.or (op_neD (by omega))).or (op_neK hu)) (nomark _) (fun {ρ H S x y c v u Q} s r1 r2 h q => by
    unfold eqAV at h
    split at h
    · exact .inr (eqK_sem true s r1 r2 h q)
    · exact .inl (ne_sem s r1 r2 h q)) ha hb
theorem v_sortD {p : Pos} (hc : X.calm = true) (hm : X.mg "sorted" = none) (ha : IE X rx W a ma) (hg : Gl X "sorted" := by rfl) (hs : starEach [a] X.env = (false, eval a X.env) :: starEach [] X.env := by rfl) (hpl : (backTo pos (starEach [] X.env)).any (·.1) = false := by rfl) :
    IE X rx W (.Call (.Name "sorted" p) [a] [] pos) (sortD ma) :=
  bi_rule (pe_callB (call_sortedD hc) hg hm (by decide +kernel) (v_cons ha v_nil hs) (by decide) (by decide) hs hpl) fun {ρ H S x d v Q} s r h q => by
    cases ex : sortDV S x with
    | none => rw [ex] at h; cases h
    | some xs =>
      rw [ex] at h
      cases h
      unfold sortDV at ex
      split at ex
      · rename_i kvs ed
        split at ex
        · rename_i ks es
          split at ex
          · rename_i hl
            cases ex
            obtain ⟨p, ws, rfl, h1, h2⟩ := r.dkOf s ed
            refine ⟨p, ws, ks, rfl, h1, h2.strs es, hl, fun ys t hp hy ht => ?_⟩
            rw [sortS_eq hp (sortedS_all hy)]
            refine q ρ _ _ (ext_new ht) (s.new ht) ?_
            simp only [RV]
            refine ⟨t, _, rfl, fun m => ?_, upd_same, rvs_strs _⟩
            obtain ⟨z, hz, _⟩ := s.there m
            rw [ht] at hz; cases hz
          · cases ex
        · cases ex
      · cases ex
theorem v_sortDR {p : Pos} (hc : X.calm = true) (hm : X.mg "sorted" = none) (ha : IE X rx W a ma) (hg : Gl X "sorted" := by rfl) (hs : starEach [a] X.env = (false, eval a X.env) :: starEach [] X.env := by rfl) (hpl : (backTo pos (starEach [] X.env)).any (·.1) = false := by rfl) :
    IE X rx W (.Call (.Name "sorted" p) [a] [] pos) (sortDR ma) := by
  refine pe_imp (pe_callB (call_sortedD hc) hg hm (by decide +kernel) (v_cons ha v_nil hs) (by decide) (by decide) hs hpl) fun σ H Q ⟨ρ, l, S, hl, hs, h⟩ => ?_
  refine ⟨ρ, l, S, hl, hs, ?_⟩
  show Post X.K rx W ρ H ((ma l S).bind fun x S1 => .ok [x] S1) _
  have h' : Post X.K rx W ρ H ((ma l S).bind _) (QE X.K ρ H Q) := h
  cases e : ma l S with
  | ok x S1 =>
    rw [e] at h'
    intro ρ1 H1 vs e1 s1 r1
    simp only [RVs] at r1
    obtain ⟨v, t, rfl, r2, rfl⟩ := r1
    simp only [Out.bind] at h'
    split at h'
    · rename_i xs ex
      unfold sortDV at ex
      split at ex
      · rename_i kvs ed
        split at ex
        · rename_i ks es
          split at ex
          · rename_i hl'
            cases ex
            obtain ⟨p, ws, rfl, h1, h2⟩ := r2.dkOf s1 ed
            refine ⟨p, ws, ks, rfl, h1, h2.strs es, hl', fun ys t hp hy ht => ?_⟩
            rw [sortS_eq hp (sortedS_all hy)]
            exact h' _ _ _ (e1.trans (ext_push ht)) (s1.push ht (ro_push ht (rvs_strs _) (noRefs_strs _))) (rv_last s1)
          · cases ex
        · cases ex
      · cases ex
    · exact False.elim h'
  | exc c x l' S1 => rw [e] at h'; exact h'
  | bad => rw [e] at h'; exact h'
end
end Y
/-! Dicts written out and copied; int(x); defaults. -/
namespace Y
open PySem L2 PyProof.Rows
/-- d.copy(), dict(d) -/
def copyR (a : ME) : ME := fun l S => (a l S).bind fun x S1 => match dkOf S1 x with
  | some kvs => if noRefK kvs = true then .ok (.ref S1.length) (S1 ++ [.dk kvs]) else .bad
  | none => .bad
/-- a dict that may be changed -/
def dkLv (S : Sto) : DV → Option (List (Key × DV))
  | .ref k => match S[k]? with
    | some (.dk kvs) => some kvs
    | _ => none
  | _ => none
theorem RV.dkLv {K : PySem.W.Frag} {ρ : List Addr} {H : Hp} {S : Sto} (s : RS K ρ H S) {x : DV} {kvs : List (Key × DV)} {v : V} (h : RV K ρ H x v) (e : Y.dkLv S x = some kvs) : ∃ (k : Nat) (a : Addr) (ws : List (Key × V)), x = .ref k ∧ S[k]? = some (.dk kvs) ∧ ρ[k]? = some a ∧ v = .ref a ∧ H a = some (.dK ws) ∧ RVK K ρ H kvs ws ∧ noRefK kvs = true := by
  unfold Y.dkLv at e
  split at e
  · rename_i k
    obtain ⟨a, ha, rfl⟩ := h.ref
    split at e
    · rename_i kvs' hk
      cases e
      obtain ⟨ws, h3, h4, h5⟩ := s.at_ k a _ ha hk
      exact ⟨k, a, ws, rfl, hk, ha, rfl, h3, h4, h5⟩
    · cases e
  · cases e
/-- d.copy() -/
def copyM (a : ME) : ME := fun l S => (a l S).bind fun x S1 => match dkLv S1 x with
  | some kvs => .ok (.ref S1.length) (S1 ++ [.dk kvs])
  | none => .bad
def prs : List (ME × ME) → Lo → Sto → Out (List (DV × DV))
  | [], _, S => .ok [] S
  | p :: r, l, S => (p.1 l S).bind fun x S1 => (p.2 l S1).bind fun y S2 => (prs r l S2).bind fun t S3 => .ok ((x, y) :: t) S3
def keyed : List (DV × DV) → Option (List (Key × DV))
  | [] => some []
  | (k, y) :: r => match keyOf k, keyed r with
    | some k, some r => some ((k, y) :: r)
    | _, _ => none
def mergeD (kvs more : List (Key × DV)) : List (Key × DV) := more.foldl (fun acc kv => putD acc kv.1 kv.2) kvs
open Classical in
/-- {k: v, ..} -/
noncomputable def dctR (ps : List (ME × ME)) : ME := fun l S => (prs ps l (S ++ [.dk []])).bind fun t S2 => match keyed t with
  | some kvs => if noRefK kvs = true ∧ kvs.length ≤ 15 ∧ S2[S.length]? = some (.dk []) then .ok (.ref S.length) (S2.set S.length (.dk (mergeD [] kvs))) else .bad
  | none => .bad
def intV : DV → Option DV
  | .int i => some (.int i)
  | .bl b => some (.int (if b then 1 else 0))
  | _ => none
def intE : ME → ME := op1 fun _ => intV
/-- a call whose last arguments are defaults -/
def callD (f : Ora) (ds : List DV) (a : MA) : ME := call (fun xs S => f (xs ++ ds) S) a
section
variable {X : Cx} {rx : Rx} {W : WX} {a b e i : Expr} {ma mb me mi : ME} {pos : Pos}
theorem ro_pushK {K : PySem.W.Frag} {ρ : List Addr} {H : Hp} {p : Addr} (hp : H p = none) {xs : List (Key × DV)} {vs : List (Key × V)} (r : RVK K ρ H xs vs) (n : noRefK xs = true) : RO K (ρ ++ [p]) (upd H p (.dK vs)) p (.dk xs) :=
  ⟨vs, upd_same, RVK.mono (ext_push hp) _ _ r, n⟩
def rDCopy : V → List V → Hp → VK → Prop := fun x vs H Q => ∃ (a : Addr) (kvs : List (Key × V)), x = .ref a ∧ vs = [] ∧ Rd H a (.dK kvs) ∧ ∀ p, H p = none → Q (.ref p) (upd H p (.dK kvs))
theorem mtd_copy : MtR X "dict.copy" rDCopy := by
  intro pins s σ H x vs v us Q I rx rv h
  obtain ⟨a, kvs, ex, ev, e, q⟩ := h
  subst ex
  subst ev
  obtain rfl : v = Value.ref a := rx
  have hus := rv.zero
  subst hus
  obtain ⟨z, hd, vs, rel, dd⟩ := dk_rd I.hok e
  have hm : (s.heap.objs.size == sysModules) = false := beq_eq_false_iff_ne.mpr (Nat.ne_of_gt I.big)
  exact call_meetsIn PySem.F.slot_dict_copy dd.typeIs PySem.F.entry_dict_copy (PySem.F.args_dict_copy_1 _) (meets_dict_copy (mixKind X.prog X.w) a hd) ⟨vs, dd, by rw [← rel.length]; exact z, fun h' d' _ hs =>
    ⟨.ref s.heap.objs.size, upd H s.heap.objs.size (.dK kvs), I.laid (t' := s.toks) hs (Nat.le_refl _) (show ObjOk X.prog X.w _ _ _ (.dK kvs) from ⟨z, hm, vs, rel, d'⟩), rfl, q _ (I.hok.fresh (Nat.le_refl _))⟩⟩
theorem v_dcopy {apos cpos : Pos} (ha : IE X rx W a ma) (hbase : attributeBase a "copy" X.env (eval a X.env) = eval a X.env := by rfl) (hline : (apos.endLine == cpos.line) = true := by rfl) :
    IE X rx W (.Call (.Attribute a "copy" apos) [] [] cpos) (copyM ma) := by
  refine pe_imp (pe_bm0 PySem.F.plainAttrs_dict PySem.F.slot_dict_copy PySem.F.type_dict_copy mtd_copy ha hbase hline) fun σ H Q ⟨ρ, l, S, hl, hs, h⟩ => ?_
  refine bindI hl hs h fun ρ1 H1 x S1 v e1 s1 l1 r1 h1 => ?_
  split at h1
  · rename_i kvs ed
    obtain ⟨_, p, ws, _, _, _, rfl, hp, hr, hn⟩ := r1.dkLv s1 ed
    exact ⟨.inr (.inr (.inl ⟨rfl, .inl ⟨ws, hp⟩⟩)), p, ws, rfl, rfl, .inl hp, fun t ht => h1 _ _ _ (e1.trans (ext_push ht)) (s1.push ht (ro_pushK ht hr hn)) (rv_last s1)⟩
  · exact False.elim h1
theorem v_dictR {p : Pos} (hm : X.mg "dict" = none) (ha : IE X rx W a ma) (hg : Gl X "dict" := by rfl) (hs : starEach [a] X.env = (false, eval a X.env) :: starEach [] X.env := by rfl) (hpl : (backTo pos (starEach [] X.env)).any (·.1) = false := by rfl) :
    IE X rx W (.Call (.Name "dict" p) [a] [] pos) (copyR ma) := by
  refine pe_imp (pe_callTy call_dictD hg hm (by decide +kernel) (v_cons ha v_nil hs) (by decide) (by decide) hs hpl) fun σ H Q ⟨ρ, l, S, hl, hs, h⟩ => ?_
  refine ⟨ρ, l, S, hl, hs, ?_⟩
  show Post X.K rx W ρ H ((ma l S).bind fun x S1 => .ok [x] S1) _
  have h' : Post X.K rx W ρ H ((ma l S).bind _) (QE X.K ρ H Q) := h
  cases e : ma l S with
  | ok x S1 =>
    rw [e] at h'
    intro ρ1 H1 vs e1 s1 r1
    simp only [RVs] at r1
    obtain ⟨v, t, rfl, r2, rfl⟩ := r1
    simp only [Out.bind] at h'
    split at h'
    · rename_i kvs ed
      split at h'
      · rename_i hn
        obtain ⟨p, ws, rfl, hp, hr⟩ := r2.dkOf s1 ed
        exact ⟨p, ws, rfl, hp, fun t ht => h' _ _ _ (e1.trans (ext_push ht)) (s1.push ht (ro_pushK ht hr hn)) (rv_last s1)⟩
      · exact False.elim h'
    · exact False.elim h'
  | exc c x l' S1 => rw [e] at h'; exact h'
  | bad => rw [e] at h'; exact h'
theorem v_int1 {p : Pos} (hm : X.mg "int" = none) (ha : IE X rx W a ma) (hg : Gl X "int" := by rfl) (hs : starEach [a] X.env = (false, eval a X.env) :: starEach [] X.env := by rfl) (hpl : (backTo pos (starEach [] X.env)).any (·.1) = false := by rfl) :
    IE X rx W (.Call (.Name "int" p) [a] [] pos) (intE ma) :=
  bi_rule (pe_callTy call_int1 hg hm (by decide +kernel) (v_cons ha v_nil hs) (by decide) (by decide) hs hpl) fun {ρ H S x d v Q} s r h q => by
    unfold intV at h
    split at h
    · cases h
      exact .inl ⟨_, congrArg (fun z => [z]) r.int, q ρ H _ .refl s (by simp [RV])⟩
    · cases h
      exact .inr ⟨_, congrArg (fun z => [z]) r.bl, q ρ H _ .refl s (by simp [RV])⟩
    · cases h
theorem tst_isN {l : Lo} {S : Sto} : tst (isN ma) l S = (ma l S).bind fun x S1 => .ok (isNon x) S1 := by
  unfold tst isN op1
  cases ma l S <;> rfl
theorem tst_notN {l : Lo} {S : Sto} : tst (notN ma) l S = (ma l S).bind fun x S1 => .ok (!isNon x) S1 := by
  unfold tst notN op1
  cases ma l S <;> rfl
theorem v_tisN {j pos'} (ha : IE X rx W a ma) : IT X rx W (.Compare a [.Is] [.Constant .none j pos'] pos) (tst (isN ma)) := by
  refine pt_imp (pt_cmp (pc_isN ha) rfl) fun σ H Q ⟨ρ, l, S, hl, hs, h⟩ => ?_
  rw [tst_isN] at h
  refine bindI hl hs h fun ρ1 H1 x S1 v e1 s1 l1 r1 h1 => ?_
  exact ⟨_, rfl, by rw [isNon_ok r1]; exact h1 ρ1 H1 e1 s1⟩
theorem v_tnotN {j pos'} (ha : IE X rx W a ma) : IT X rx W (.Compare a [.IsNot] [.Constant .none j pos'] pos) (tst (notN ma)) := by
  refine pt_imp (pt_cmp (pc_notN ha) rfl) fun σ H Q ⟨ρ, l, S, hl, hs, h⟩ => ?_
  rw [tst_notN] at h
  refine bindI hl hs h fun ρ1 H1 x S1 v e1 s1 l1 r1 h1 => ?_
  exact ⟨_, rfl, by rw [isNon_ok r1]; exact h1 ρ1 H1 e1 s1⟩
/-! ### displays -/
def RVP (K : PySem.W.Frag) (ρ : List Addr) (H : Hp) : List (DV × DV) → List (V × V) → Prop
  | [], ws => ws = []
  | (x, y) :: r, ws => ∃ v u t, ws = (v, u) :: t ∧ RV K ρ H x v ∧ RV K ρ H y u ∧ RVP K ρ H r t
structure Prs (X : Cx) (rx : Rx) (W : WX) (pos : Pos) (ks : List (Option Expr)) (vs : List Expr) (ps : List (ME × ME)) : Prop where
  run : PPs X pos ks vs (ps.map fun p => (tI X.K rx W p.1, tI X.K rx W p.2))
theorem p_nil : Prs X rx W pos [] [] [] := ⟨pps_nil⟩
theorem p_cons {k v : Expr} {ks : List (Option Expr)} {vs : List Expr} {mk mv : ME} {ps : List (ME × ME)} (hk : IE X rx W k mk) (hv : IE X rx W v mv) (h : Prs X rx W pos ks vs ps) : Prs X rx W pos (some k :: ks) (v :: vs) ((mk, mv) :: ps) := ⟨pps_cons hk hv h.run⟩
theorem pairs_read {K : PySem.W.Frag} {σ : L2.St} {l : Lo} : ∀ (ps : List (ME × ME)) (ρ : List Addr) (H : Hp) (S : Sto) (R : List (DV × DV) → Sto → Prop) (Q : List (V × V) → Hp → Prop), RL K ρ H l σ → RS K ρ H S → Post K rx W ρ H (prs ps l S) R →
    (∀ ρ' H' t ws S', Ext ρ H ρ' H' → RS K ρ' H' S' → RVP K ρ' H' t ws → R t S' → Q ws H') → tPairs (ps.map fun p => (tI K rx W p.1, tI K rx W p.2)) σ H Q
  | [], ρ, H, S, R, Q, hl, hs, h, k => k ρ H [] [] S .refl hs (by simp [RVP]) h
  | p :: r, ρ, H, S, R, Q, hl, hs, h, k => by
    refine bindI hl hs h fun ρ1 H1 x S1 v e1 s1 l1 r1 h1 => ?_
    refine bindI l1 s1 h1 fun ρ2 H2 y S2 u e2 s2 l2 r2 h2 => ?_
    refine pairs_read r ρ2 H2 S2 _ _ l2 s2 h2.bind fun ρ3 H3 t ws S3 e3 s3 r3 h3 => ?_
    refine k ρ3 H3 ((x, y) :: t) ((v, u) :: ws) S3 (e1.trans (e2.trans e3)) s3 ?_ h3
    simp only [RVP]
    exact ⟨v, u, ws, rfl, (r1.mono e2).mono e3, r2.mono e3, r3⟩
theorem RVP.keyed {K : PySem.W.Frag} {ρ : List Addr} {H : Hp} : ∀ {t : List (DV × DV)} {ws : List (V × V)} {kvs : List (Key × DV)}, RVP K ρ H t ws → Y.keyed t = some kvs → ∃ zs : List (Key × V), ws = zs.map (fun kv => (kV kv.1, kv.2)) ∧ RVK K ρ H kvs zs
  | [], ws, kvs, h, e => by
    simp only [RVP] at h
    simp only [Y.keyed, Option.some.injEq] at e
    subst h e
    exact ⟨[], rfl, by simp [RVK]⟩
  | (x, y) :: r, ws, kvs, h, e => by
    simp only [RVP] at h
    obtain ⟨v, u, t, rfl, h1, h2, h3⟩ := h
    simp only [Y.keyed] at e
    split at e
    · rename_i k r' ek er
      cases e
      obtain ⟨zs, rfl, hz⟩ := RVP.keyed h3 er
      refine ⟨(k, u) :: zs, by rw [keyOf_v ek h1]; rfl, ?_⟩
      simp only [RVK]
      exact ⟨u, zs, rfl, h2, hz⟩
    · cases e
theorem RVK.merge {K : PySem.W.Frag} {ρ : List Addr} {H : Hp} : ∀ {more : List (Key × DV)} {zs : List (Key × V)} {kvs : List (Key × DV)} {ws : List (Key × V)}, RVK K ρ H more zs → RVK K ρ H kvs ws → RVK K ρ H (mergeD kvs more) (mergeK ws zs)
  | [], zs, kvs, ws, h, h' => by
    simp only [RVK] at h
    subst h
    exact h'
  | (k, x) :: r, zs, kvs, ws, h, h' => by
    simp only [RVK] at h
    obtain ⟨v, t, rfl, h1, h2⟩ := h
    have q := RVK.merge (more := r) (zs := t) (kvs := putD kvs k x) (ws := putK ws k v) h2 (h'.put k h1)
    exact q
theorem noRefK_merge : ∀ {more kvs : List (Key × DV)}, noRefK more = true → noRefK kvs = true → noRefK (mergeD kvs more) = true
  | [], kvs, _, h => h
  | (k, x) :: r, kvs, h, h' => by
    simp only [noRefK, Bool.and_eq_true] at h
    have q := noRefK_merge (more := r) (kvs := putD kvs k x) h.2 (noRefK_put h' h.1)
    exact q
theorem v_dctR {ks : List (Option Expr)} {vs : List Expr} {ps : List (ME × ME)} (h : Prs X rx W pos ks vs ps) (hall : ks.all (·.isSome) = true := by rfl) (hl : ks.length = vs.length := by rfl) (h0 : ks ≠ [] := by simp) (h15 : ks.length ≤ 15 := by decide) :
    IE X rx W (.Dict ks vs pos) (dctR ps) := by
  refine pe_imp (pe_disp h.run hall hl h0 h15) fun σ H Q ⟨ρ, l, S, hl, hs, h⟩ p hp => ?_
  have hs1 : RS X.K (ρ ++ [p]) (upd H p (.dK [])) (S ++ [.dk []]) := hs.push (d := .dk []) hp ⟨[], upd_same, by simp [RVK], rfl⟩
  have e0 : Ext ρ H (ρ ++ [p]) (upd H p (.dK [])) := ext_push hp
  refine pairs_read ps (ρ ++ [p]) (upd H p (.dK [])) (S ++ [.dk []]) _ _ (hl.mono e0) hs1 (h.bind.shift e0) fun ρ' H' t ws S' e s r q => ?_
  have hat : ρ'[S.length]? = some p := by
    obtain ⟨u, rfl⟩ := e.pre
    rw [← hs.len, List.append_assoc, List.getElem?_append_right (Nat.le_refl _), Nat.sub_self]
    rfl
  split at q
  · rename_i kvs ek
    split at q
    · rename_i hn
      obtain ⟨hn1, hn2, hn3⟩ := hn
      obtain ⟨zs, h3, h4, _⟩ := s.at_ _ p _ hat hn3
      have : zs = [] := by simpa only [RVK] using h4
      subst this
      obtain ⟨ys, rfl, hy⟩ := r.keyed ek
      refine ⟨h3, ys, rfl, by rw [← hy.length]; exact hn2, ?_⟩
      have ew : Ext ρ' H' ρ' (upd H' p (.dK (mergeK [] ys))) := ext_write s (List.mem_of_getElem? hat) (Live.d h3)
      have rm : RVK X.K ρ' H' (mergeD [] kvs) (mergeK [] ys) := RVK.merge (kvs := []) hy (by simp [RVK])
      have q' : QE X.K ρ H Q (.ref S.length) (S'.set S.length (.dk (mergeD [] kvs))) := q
      refine q' ρ' _ _ (e0.trans (e.trans ew)) (s.write (d := .dk (mergeD [] kvs)) hat (Live.d h3) ⟨_, upd_same, RVK.mono ew _ _ rm, noRefK_merge hn1 (by simp [noRefK])⟩) ?_
      simp only [RV]
      exact ⟨p, hat, rfl⟩
    · exact False.elim q
  · exact False.elim q
/-! ### defaults -/
structure FnAtD (P : Program) (w : World) (K : PySem.W.Frag) (mg : Str → Option Value) (base : Heap) (rx : Rx) (k : Nat) (x : Str) (ps : List Str) (ds : List DV) (f : Ora) : Prop where
  ex : ∃ (g : Addr) (fd : FuncData) (dvs : List V) (dus : List Value), mg x = some (.ref g) ∧ PySem.W.keepIn K (.ref g) = true ∧ Binds K fd ps dus ∧ Vals dvs dus ∧ (∀ ρ H, RVs K ρ H ds dvs) ∧ FnOk P w K mg base (L2.CX P w) k g fd ps (spF K rx ps.length f)
theorem RVs.app {K : PySem.W.Frag} {ρ : List Addr} {H : Hp} : ∀ {xs ys : List DV} {vs us : List V}, RVs K ρ H xs vs → RVs K ρ H ys us → RVs K ρ H (xs ++ ys) (vs ++ us)
  | xs, ys, vs, us, h, h' => h.append h'
theorem v_callD {e : Expr} {es : List Expr} {ms : MA} {x : Str} {p : Pos} {k : Nat} {ps : List Str} {ds : List DV} {f : Ora} (F : FnAtD X.prog X.w X.K X.mg X.base rx k x ps ds f) (hr : Room k X.A) (tk : Takes X W) (ha : IA X rx W (e :: es) ms) (hn : ∀ l S xs S', ms l S = .ok xs S' → xs.length + ds.length = ps.length)
    (hg : Gl X x := by rfl) (hdb : (x == ("__debug__" : Str)) = false := by decide) (he : starEach (e :: es) X.env = (false, eval e X.env) :: starEach es X.env := by rfl) (hpl : (backTo pos (starEach es X.env)).any (·.1) = false := by rfl) :
    IE X rx W (.Call (.Name x p) (e :: es) [] pos) (callD f ds ms) := by
  obtain ⟨g, fd, dvs, dus, hm, hk, hb, hv, hrv, ok⟩ := F.ex
  refine pe_imp (pe_callSD (E := WE W) ok hr hg hm hk hb hv (fun σ => passAt tk σ) ha hdb he hpl) fun σ H Q ⟨ρ, l, S, hl, hs, h⟩ => ?_
  have h' : Post X.K rx W ρ H ((ms l S).bind _) (QE X.K ρ H Q) := h
  cases em : ms l S with
  | bad => rw [em] at h'; exact False.elim h'
  | exc c x l' S' => rw [em] at h'; exact ⟨ρ, l, S, hl, hs, by rw [em]; exact h'⟩
  | ok xs S1 =>
    rw [em] at h'
    refine ⟨ρ, l, S, hl, hs, ?_⟩
    rw [em]
    intro ρ1 H1 vs e1 s1 r1
    have rr := r1.append (hrv ρ1 H1)
    refine ⟨ρ1, xs ++ ds, S1, by rw [← rr.length, List.length_append]; exact hn l S xs S1 em, rr, s1, ?_⟩
    simp only [Out.bind] at h'
    cases ef : f (xs ++ ds) S1 with
    | bad => rw [ef] at h'; exact h'
    | exc c x l' S2 =>
      rw [ef] at h'
      intro H' cls od e2 s2 q
      exact h' ρ1 H' σ cls od (e1.trans e2) s2 ((hl.mono e1).mono e2) q
    | ok dw S2 =>
      obtain ⟨d, w⟩ := dw
      rw [ef] at h'
      cases w with
      | false => exact fun H' v e2 s2 r2 => h' ρ1 H' v (e1.trans e2) s2 r2
      | true => exact fun H' p e2 s2 => h' ρ1 H' _ (e1.trans e2.init) (RVs.snoc_ext s2).1 (RVs.snoc_ext s2).2
end
/-- a def with defaults keeps the promise of its combinator -/
theorem fn_okD {P : Program} {w : World} {K : PySem.W.Frag} {mg : Str → Option Value} {base : Heap} {rx : Rx} {x qual : Str} {params : Arguments} {body : List Stmt} {scope : Scope} {dvs : List V} {f : Addr} {fd : FuncData} {N ps : List Str} {k n : Nat} {b : MS}
    (F : FunD K x qual params body scope dvs [] f fd) (S : FnScope N ps scope) (hn : n = N.length)
    (hb : ∀ (cdv : Value) (A : Around) (outer : List Env) (s : Shared) (H : Hp) (E : XK), Room k (A.deeper (envOfC qual scope s.heap.objs.size f cdv)) →
      ISs (cxOf (L2.CX P w) P w K mg base N qual scope f cdv A outer s H E) rx (fun cls d _ H => E cls d H) body b) : FnOk P w K mg base (L2.CX P w) (k + 1) f fd ps (spF K rx ps.length (fn n b)) := by
  refine F.ok S (fun vs H Q E h => ?_) fun cdv A outer s H vs Q E hr h => ⟨_, hb cdv A outer s H E hr, fn_core hn h⟩
  obtain ⟨_, _, _, h, _⟩ := h
  exact h
end Y
/-! join; reversed. -/
namespace Y
open PySem L2 PyProof.Rows RT
def strsOf : List DV → Option (List Str)
  | [] => some []
  | .str s :: r => (strsOf r).map (s :: ·)
  | _ => none
/-- sep.join(xs) -/
def joinE (o a : ME) : ME := fun l S => (o l S).bind fun x S1 => match x with
  | .str sep => (a l S1).bind fun y S2 => (match seqOf S2 y with
    | some xs => match strsOf xs with
      | some ys => if (ys.map (·.length)).sum + ys.length * sep.length ≤ 16777216 then .ok (.str (Txt.join sep ys)) S2 else .bad
      | none => .bad
    | none => .bad)
  | _ => .bad
def sRevL (a : ME) : MI := fun l S => (a l S).bind fun x S1 => match seqOf S1 x with
  | some xs => .ok (xs.reverse, guardOf S1 x) S1
  | none => .bad
open Classical in
/-- range(a, b, c) -/
noncomputable def sRange3 (a b c : ME) : MI := fun l S => (a l S).bind fun x S1 => (b l S1).bind fun y S2 => (c l S2).bind fun z S3 => match x, y, z with
  | .int i, .int j, .int k => if RgC i j k (Builtin.Range.rangeSize i j k).toNat then .ok ((List.range (Builtin.Range.rangeSize i j k).toNat).map fun (t : Nat) => DV.int (i + (t : Int) * k), []) S3 else .bad
  | _, _, _ => .bad
theorem RVs.strsOf {K : PySem.W.Frag} {ρ : List Addr} {H : Hp} : ∀ {xs : List DV} {vs : List V} {ys : List Str}, RVs K ρ H xs vs → Y.strsOf xs = some ys → vs = ys.map V.str
  | [], vs, ys, h, e => by
    simp only [RVs] at h
    simp only [Y.strsOf, Option.some.injEq] at e
    subst h e
    rfl
  | .str s :: r, vs, ys, h, e => by
    simp only [RVs] at h
    obtain ⟨v, t, rfl, h1, h2⟩ := h
    simp only [Y.strsOf, Option.map_eq_some_iff] at e
    obtain ⟨zs, e1, rfl⟩ := e
    rw [h1.str, RVs.strsOf h2 e1]
    rfl
  | .non :: r, vs, ys, h, e => by simp [Y.strsOf] at e
  | .bl _ :: r, vs, ys, h, e => by simp [Y.strsOf] at e
  | .int _ :: r, vs, ys, h, e => by simp [Y.strsOf] at e
  | .tup _ :: r, vs, ys, h, e => by simp [Y.strsOf] at e
  | .lst _ :: r, vs, ys, h, e => by simp [Y.strsOf] at e
  | .rol _ :: r, vs, ys, h, e => by simp [Y.strsOf] at e
  | .dk _ :: r, vs, ys, h, e => by simp [Y.strsOf] at e
  | .fz _ :: r, vs, ys, h, e => by simp [Y.strsOf] at e
  | .exn _ _ :: r, vs, ys, h, e => by simp [Y.strsOf] at e
  | .ref _ :: r, vs, ys, h, e => by simp [Y.strsOf] at e
section
variable {X : Cx} {rx : Rx} {W : WX} {a b e o tg : Expr} {ma mb me mo : ME} {pos : Pos}
theorem v_join {apos : Pos} (ho : IE X rx W o mo) (ha : IE X rx W a ma) (hs : starEach [a] X.env = [(false, eval a X.env)] := by rfl) (hbase : attributeBase o "join" X.env (eval o X.env) = eval o X.env := by rfl) (hline : (apos.endLine == pos.line) = true := by rfl) :
    IE X rx W (.Call (.Attribute o "join" apos) [a] [] pos) (joinE mo ma) := by
  refine pe_imp (pe_join ho ha hs hbase hline) fun σ H Q ⟨ρ, l, S, hl, hs, h⟩ => ?_
  refine bindI hl hs h fun ρ1 H1 x S1 v e1 s1 l1 r1 h1 => ?_
  split at h1
  · rename_i sep
    refine ⟨⟨sep, r1.str⟩, ?_⟩
    refine bindI l1 s1 h1 fun ρ2 H2 y S2 u e2 s2 l2 r2 h2 => ?_
    split at h2
    · rename_i xs ex
      split at h2
      · rename_i ys ey
        split at h2
        · rename_i hz
          obtain ⟨p, vs, rfl, h3, h4⟩ := r2.seqOf s2 ex
          obtain rfl := h4.strsOf ey
          exact ⟨sep, p, ys, r1.str, rfl, h3, hz, h2 ρ2 H2 _ (e1.trans e2) s2 (by simp [RV])⟩
        · exact False.elim h2
      · exact False.elim h2
    · exact False.elim h2
  · exact False.elim h1
theorem src_revL {K : PySem.W.Frag} {ρ : List Addr} {H : Hp} {S : Sto} {x : DV} {xs : List DV} {a : Addr} (s : RS K ρ H S) (r : RV K ρ H x (.ref a)) (e : seqOf S x = some xs) (n : ∀ ys, x ≠ .tup ys) :
    Src K ρ H xs.reverse (guardOf S x) (Itv K a xs.length) (fun H => ∃ vs, SqL K H a vs ∧ vs.length = xs.length) (fun i H x H' => H' = H ∧ ∀ vs, SqL K H a vs → vs[xs.length - 1 - i]? = some x) where
  walk := by
    rw [List.length_reverse]
    exact ⟨fun i H hi ⟨vs, h, hl⟩ => ⟨hi, vs, vs[xs.length - 1 - i]'(by omega), h, by simp [show xs.length - 1 - i < vs.length by omega]⟩, fun H ⟨vs, h, hl⟩ => Nat.le_refl _, fun _ _ _ _ _ _ y => y⟩
  go := fun ρ1 H1 S1 ex s1 hh => by
    obtain ⟨r1, e1⟩ := seq_stay r e hh ex
    obtain ⟨a', vs, h1, h2, h3⟩ := r1.seqL s1 e1 n
    cases h1
    exact ⟨vs, h2, h3.length.symm⟩
  yl := fun ρ1 H1 S1 ex s1 hh i v H2 hi y => by
    obtain ⟨r1, e1⟩ := seq_stay r e hh ex
    obtain ⟨a', vs, h1, h2, h3⟩ := r1.seqL s1 e1 n
    cases h1
    obtain ⟨rfl, y⟩ := y
    obtain ⟨d, h4, h5⟩ := h3.getV (y vs h2)
    rw [List.length_reverse] at hi
    exact ⟨d, by rw [List.getElem?_reverse hi]; exact h4, h5, .refl, s1⟩
theorem src_revT {K : PySem.W.Frag} {ρ : List Addr} {H : Hp} {xs : List DV} {a : Addr} {vs : List V} (h : SqT K H a vs) (r : RVs K ρ H xs vs) :
    Src K ρ H xs.reverse [] (ItvT K a vs.length) (fun H => SqT K H a vs) (fun i H x H' => H' = H ∧ vs[vs.length - 1 - i]? = some x) where
  walk := by
    rw [List.length_reverse, r.length]
    exact ⟨fun i H hi q => ⟨hi, vs, vs[vs.length - 1 - i]'(by omega), q, by simp [show vs.length - 1 - i < vs.length by omega]⟩, fun _ _ => Nat.le_refl _, fun _ _ _ _ _ q y => ⟨y.1, y.2 vs q⟩⟩
  go := fun ρ1 H1 S1 ex s1 hh => sqT_ext ex h
  yl := fun ρ1 H1 S1 ex s1 hh i v H2 hi y => by
    obtain ⟨rfl, y⟩ := y
    obtain ⟨d, h4, h5⟩ := (r.mono ex).getV y
    rw [List.length_reverse] at hi
    exact ⟨d, by rw [List.getElem?_reverse hi, r.length]; exact h4, h5, .refl, s1⟩
theorem s_revL {p : Pos} (hm : X.mg "reversed" = none) (ha : IE X rx W a ma) (hg : Gl X "reversed" := by rfl) (hs : starEach [a] X.env = (false, eval a X.env) :: starEach [] X.env := by rfl) : II X rx W tg (.Call (.Name "reversed" p) [a] [] pos) (sRevL ma) := by
  refine pi_imp (pi_revA hg hm ha hs) fun σ H R ⟨ρ, l, S, hl, hs, h⟩ => ?_
  refine bindI hl hs h fun ρ1 H1 x S1 v e1 s1 l1 r1 h1 => ?_
  split at h1
  · rename_i xs ex
    by_cases ht : ∃ ys, x = .tup ys
    · obtain ⟨ys, rfl⟩ := ht
      simp only [seqOf, Option.some.injEq] at ex
      subst ex
      obtain ⟨p, vs, rfl, h3, h2⟩ := r1.tup
      exact ⟨p, vs, rfl, .inr ⟨h3, h1 ρ1 H1 _ _ _ e1 s1 (src_revT h3 h2)⟩⟩
    · have hn : ∀ ys, x ≠ .tup ys := fun ys z => ht ⟨ys, z⟩
      obtain ⟨p, vs, rfl, h3, h2⟩ := r1.seqL s1 ex hn
      refine ⟨p, vs, rfl, .inl ⟨h3, ?_⟩⟩
      have q := h1 ρ1 H1 _ _ _ e1 s1 (src_revL s1 r1 ex hn)
      rw [h2.length] at q
      exact q
  · exact False.elim h1
theorem src_range3 {K : PySem.W.Frag} {ρ : List Addr} {H : Hp} (lo c : Int) (n : Nat) : Src K ρ H ((List.range n).map fun (t : Nat) => DV.int (lo + (t : Int) * c)) [] (Itc lo c n) (fun _ => True) (YFn fun i => .int (lo + (i : Nat) * c)) where
  walk := by
    have w : Walk (Itc lo c n) n (fun _ => True) (YFn fun i => .int (lo + (i : Nat) * c)) := walk_rangeC
    have e : ((List.range n).map fun (t : Nat) => DV.int (lo + (t : Int) * c)).length = n := by simp
    rw [e]
    exact ⟨w.goes, w.stops, w.yields⟩
  go := fun _ _ _ _ _ _ => trivial
  yl := fun ρ1 H1 S1 ex s1 hh i v H2 hi y => by
    obtain ⟨rfl, rfl⟩ := y
    have hn : i < n := by simpa using hi
    exact ⟨.int (lo + (i : Int) * c), by simp [hn], by simp [RV], .refl, s1⟩
theorem s_range3 {c : Expr} {mc : ME} {p : Pos} (hm : X.mg "range" = none) (ha : IE X rx W a ma) (hb : IE X rx W b mb) (hc : IE X rx W c mc) (hg : Gl X "range" := by rfl) (hs : starEach [a, b, c] X.env = (false, eval a X.env) :: starEach [b, c] X.env := by rfl) (hs2 : starEach [b, c] X.env = (false, eval b X.env) :: starEach [c] X.env := by rfl) (hs3 : starEach [c] X.env = (false, eval c X.env) :: starEach [] X.env := by rfl)
    (hpl : (backTo pos (starEach [b, c] X.env)).any (·.1) = false := by rfl) : II X rx W tg (.Call (.Name "range" p) [a, b, c] [] pos) (sRange3 ma mb mc) := by
  refine pi_imp (pi_range3 hg hm (pa_cons ha (pa_cons hb (pa_cons hc pa_nil hs3) hs2) hs) hs hpl) fun σ H R ⟨ρ, l, S, hl, hs, h⟩ => ?_
  refine bindI hl hs h fun ρ1 H1 x S1 v e1 s1 l1 r1 h1 => ?_
  refine bindI l1 s1 h1 fun ρ2 H2 y S2 u e2 s2 l2 r2 h2 => ?_
  refine bindI l2 s2 h2 fun ρ3 H3 z S3 w e3 s3 l3 r3 h3 => ?_
  split at h3
  · rename_i i j k
    split at h3
    · rename_i hz
      exact ⟨i, j, k, _, by rw [r1.int, r2.int, r3.int], hz, h3 ρ3 H3 _ _ _ (e1.trans (e2.trans e3)) s3 (src_range3 i k _)⟩
    · exact False.elim h3
  · exact False.elim h3
end
end Y
/-! Chained comparisons of numbers; max of a list of numbers. -/
namespace Y
open PySem L2 PyProof.Rows
/-- a ≤ b ≤ c and the like: c only where a, b are so -/
def chE (f g : DV → DV → Option Bool) (a b c : ME) : ME := fun l S => (a l S).bind fun x S1 => (b l S1).bind fun y S2 => match f x y with
  | some true => (c l S2).bind fun z S3 => Out.of ((g y z).map .bl) S3
  | some false => .ok (.bl false) S2
  | none => .bad
def intsOf : List DV → Option (List Int)
  | [] => some []
  | .int i :: r => (intsOf r).map (i :: ·)
  | _ => none
def maxOf : Int → List Int → Int
  | m, [] => m
  | m, n :: r => maxOf (if n ≤ m then m else n) r
def maxV (S : Sto) (x : DV) : Option DV := match x with
  | .tup _ => none
  | x => match seqOf S x with
    | some xs => match intsOf xs with
      | some (n :: r) => some (.int (maxOf n r))
      | _ => none
    | none => none
/-- max(list) -/
def maxE : ME → ME := op1 maxV
theorem maxOf_ge : ∀ (r : List Int) (m : Int), m ≤ maxOf m r ∧ ∀ y ∈ r, y ≤ maxOf m r
  | [], m => ⟨Int.le_refl _, by simp⟩
  | n :: r, m => by
    obtain ⟨h1, h2⟩ := maxOf_ge r (if n ≤ m then m else n)
    refine ⟨?_, fun y hy => ?_⟩
    · show m ≤ maxOf _ r
      split at h1 <;> rename_i h <;> simp only [maxOf, h, if_true, if_false] <;> omega
    · show y ≤ maxOf _ r
      rcases List.mem_cons.mp hy with rfl | hy
      · split at h1 <;> rename_i h <;> simp only [h, if_true, if_false] <;> omega
      · exact h2 y hy
theorem maxOf_mem : ∀ (r : List Int) (m : Int), maxOf m r = m ∨ maxOf m r ∈ r
  | [], m => .inl rfl
  | n :: r, m => by
    rcases maxOf_mem r (if n ≤ m then m else n) with h | h
    · show maxOf _ r = m ∨ maxOf _ r ∈ n :: r
      rw [h]
      split
      · exact .inl rfl
      · exact .inr List.mem_cons_self
    · exact .inr (List.mem_cons_of_mem _ h)
theorem maxOf_is {m : Int} {n : Int} {r : List Int} (hm : m ∈ n :: r) (h : ∀ y ∈ n :: r, y ≤ m) : m = maxOf n r := by
  obtain ⟨h1, h2⟩ := maxOf_ge r n
  have hle : maxOf n r ≤ m := by
    rcases maxOf_mem r n with e | e
    · rw [e]; exact h n List.mem_cons_self
    · exact h _ (List.mem_cons_of_mem _ e)
  rcases List.mem_cons.mp hm with rfl | hm
  · omega
  · have := h2 m hm
    omega
theorem RVs.intsOf {K : PySem.W.Frag} {ρ : List Addr} {H : Hp} : ∀ {xs : List DV} {vs : List V} {ys : List Int}, RVs K ρ H xs vs → Y.intsOf xs = some ys → vs = ys.map V.int
  | [], vs, ys, h, e => by
    simp only [RVs] at h
    simp only [Y.intsOf, Option.some.injEq] at e
    subst h e
    rfl
  | .int s :: r, vs, ys, h, e => by
    simp only [RVs] at h
    obtain ⟨v, t, rfl, h1, h2⟩ := h
    simp only [Y.intsOf, Option.map_eq_some_iff] at e
    obtain ⟨zs, e1, rfl⟩ := e
    rw [h1.int, RVs.intsOf h2 e1]
    rfl
  | .non :: r, vs, ys, h, e => by simp [Y.intsOf] at e
  | .bl _ :: r, vs, ys, h, e => by simp [Y.intsOf] at e
  | .str _ :: r, vs, ys, h, e => by simp [Y.intsOf] at e
  | .tup _ :: r, vs, ys, h, e => by simp [Y.intsOf] at e
  | .lst _ :: r, vs, ys, h, e => by simp [Y.intsOf] at e
  | .rol _ :: r, vs, ys, h, e => by simp [Y.intsOf] at e
  | .dk _ :: r, vs, ys, h, e => by simp [Y.intsOf] at e
  | .fz _ :: r, vs, ys, h, e => by simp [Y.intsOf] at e
  | .exn _ _ :: r, vs, ys, h, e => by simp [Y.intsOf] at e
  | .ref _ :: r, vs, ys, h, e => by simp [Y.intsOf] at e
section
variable {X : Cx} {rx : Rx} {W : WX} {a b c : Expr} {ma mb mc : ME} {pos : Pos}
theorem v_max {p : Pos} (hc : X.calm = true) (hm : X.mg "max" = none) (ha : IE X rx W a ma) (hg : Gl X "max" := by rfl) (hs : starEach [a] X.env = (false, eval a X.env) :: starEach [] X.env := by rfl) (hpl : (backTo pos (starEach [] X.env)).any (·.1) = false := by rfl) :
    IE X rx W (.Call (.Name "max" p) [a] [] pos) (maxE ma) :=
  bi_rule (pe_callB (cr_max hc) hg hm (by decide +kernel) (v_cons ha v_nil hs) (by decide) (by decide) hs hpl) fun {ρ H S x d v Q} s r h q => by
    unfold maxV at h
    split at h
    · cases h
    · rename_i hnt
      split at h
      · rename_i xs ex
        split at h
        · rename_i n r' ei
          cases h
          obtain ⟨p, vs, rfl, h1, h2⟩ := r.seqL s ex (fun ys z => hnt ys z)
          obtain rfl := h2.intsOf ei
          refine ⟨p, n :: r', rfl, h1, by simp, fun m hm hle => ?_⟩
          rw [maxOf_is hm hle]
          exact q ρ H _ .refl s (by simp [RV])
        · cases h
      · cases h
/-- the reading of a chain -/
theorem chain_read {f g : DV → DV → Option Bool} {F G : Int → Int → Bool} {σ : L2.St} {H : Hp} {ρ : List Addr} {l : Lo} {S : Sto} {R : DV → Sto → Prop} {Q1 : VK} (hf : ∀ x y c, f x y = some c → ∃ i j, x = .int i ∧ y = .int j ∧ c = F i j) (hg : ∀ x y c, g x y = some c → ∃ i j, x = .int i ∧ y = .int j ∧ c = G i j)
    (hl : RL X.K ρ H l σ) (hs : RS X.K ρ H S) (h : Post X.K rx W ρ H (chE f g ma mb mc l S) R) (k : ∀ ρ1 H1 c S1, Ext ρ H ρ1 H1 → RS X.K ρ1 H1 S1 → R (.bl c) S1 → Q1 (.bl c) H1) :
    tChain (rI0 fun i j => .bl (F i j)) (rI0 fun i j => .bl (G i j)) (tI X.K rx W ma) (tI X.K rx W mb) (tI X.K rx W mc) σ H Q1 := by
  refine bindI hl hs h fun ρ1 H1 x S1 v e1 s1 l1 r1 h1 => ?_
  refine bindI l1 s1 h1 fun ρ2 H2 y S2 u e2 s2 l2 r2 h2 => ?_
  cases hc : f x y with
  | none => rw [hc] at h2; exact False.elim h2
  | some k1 =>
    rw [hc] at h2
    obtain ⟨i, j, rfl, rfl, rfl⟩ := hf x y k1 hc
    refine ⟨i, j, (r1.mono e2).int, r2.int, F i j, rfl, ?_⟩
    cases hF : F i j with
    | false =>
      rw [hF] at h2
      rw [if_neg (by decide)]
      exact k ρ2 H2 false S2 (e1.trans e2) s2 h2
    | true =>
      rw [hF] at h2
      rw [if_pos rfl]
      refine bindI l2 s2 h2 fun ρ3 H3 z S3 w e3 s3 l3 r3 h3 => ?_
      obtain ⟨d, hd, q⟩ := h3.of
      cases hgz : g (.int j) z with
      | none => rw [hgz] at hd; cases hd
      | some k2 =>
        rw [hgz] at hd
        cases hd
        obtain ⟨j', m, ej, rfl, rfl⟩ := hg _ _ _ hgz
        cases ej
        exact ⟨j, m, (r2.mono e3).int, r3.int, k ρ3 H3 _ S3 (e1.trans (e2.trans e3)) s3 q⟩
theorem v_chain {op op' : CmpOp} {f g : DV → DV → Option Bool} {F G : Int → Int → Bool} (ho : OpR X (compareOp op) (rI0 fun i j => .bl (F i j))) (ho' : OpR X (compareOp op') (rI0 fun i j => .bl (G i j))) (hf : ∀ x y c, f x y = some c → ∃ i j, x = .int i ∧ y = .int j ∧ c = F i j) (hg : ∀ x y c, g x y = some c → ∃ i j, x = .int i ∧ y = .int j ∧ c = G i j)
    (ha : IE X rx W a ma) (hb : IE X rx W b mb) (hc : IE X rx W c mc) (hm : lastMarks [op, op'] [b, c] = false := by with_unfolding_all rfl) : IE X rx W (.Compare a [op, op'] [b, c] pos) (chE f g ma mb mc) :=
  pe_imp (pe_chain ho ho' ha hb hc hm) fun σ H Q ⟨ρ, l, S, hl, hs, h⟩ => chain_read hf hg hl hs h fun ρ1 H1 c S1 e s q => q ρ1 H1 _ e s (by simp [RV])
theorem v_leLe (ha : IE X rx W a ma) (hb : IE X rx W b mb) (hc : IE X rx W c mc) (hm : lastMarks [.LtE, .LtE] [b, c] = false := by with_unfolding_all rfl) : IE X rx W (.Compare a [.LtE, .LtE] [b, c] pos) (chE leV leV ma mb mc) :=
  v_chain op_le op_le (fun _ _ _ => le_shape) (fun _ _ _ => le_shape) ha hb hc hm
theorem v_leLt (ha : IE X rx W a ma) (hb : IE X rx W b mb) (hc : IE X rx W c mc) (hm : lastMarks [.LtE, .Lt] [b, c] = false := by with_unfolding_all rfl) : IE X rx W (.Compare a [.LtE, .Lt] [b, c] pos) (chE leV ltV ma mb mc) :=
  v_chain op_le op_lt (fun _ _ _ => le_shape) (fun _ _ _ => lt_shape) ha hb hc hm
theorem v_tchain {op op' : CmpOp} {f g : DV → DV → Option Bool} {F G : Int → Int → Bool} (ho : OpR X (compareOp op) (rI0 fun i j => .bl (F i j))) (ho' : OpR X (compareOp op') (rI0 fun i j => .bl (G i j))) (hf : ∀ x y c, f x y = some c → ∃ i j, x = .int i ∧ y = .int j ∧ c = F i j) (hg : ∀ x y c, g x y = some c → ∃ i j, x = .int i ∧ y = .int j ∧ c = G i j)
    (ha : IE X rx W a ma) (hb : IE X rx W b mb) (hc : IE X rx W c mc) (hm : lastMarks [op, op'] [b, c] = false := by with_unfolding_all rfl) : IT X rx W (.Compare a [op, op'] [b, c] pos) (tst (chE f g ma mb mc)) :=
  pt_imp (pt_chain ho ho' ha hb hc hm) fun σ H Q ⟨ρ, l, S, hl, hs, h⟩ => chain_read hf hg hl hs (Post.bind h) fun ρ1 H1 c S1 e s q => ⟨c, rfl, q ρ1 H1 e s⟩
theorem v_tleLe (ha : IE X rx W a ma) (hb : IE X rx W b mb) (hc : IE X rx W c mc) (hm : lastMarks [.LtE, .LtE] [b, c] = false := by with_unfolding_all rfl) : IT X rx W (.Compare a [.LtE, .LtE] [b, c] pos) (tst (chE leV leV ma mb mc)) :=
  v_tchain op_le op_le (fun _ _ _ => le_shape) (fun _ _ _ => le_shape) ha hb hc hm
theorem v_tleLt (ha : IE X rx W a ma) (hb : IE X rx W b mb) (hc : IE X rx W c mc) (hm : lastMarks [.LtE, .Lt] [b, c] = false := by with_unfolding_all rfl) : IT X rx W (.Compare a [.LtE, .Lt] [b, c] pos) (tst (chE leV ltV ma mb mc)) :=
  v_tchain op_le op_lt (fun _ _ _ => le_shape) (fun _ _ _ => lt_shape) ha hb hc hm
end
end Y
/-! Walks over dicts; what is never reached. -/
namespace Y
open PySem L2 PyProof.Rows
/-- never reached -/
def crash : MS := fun _ _ => .bad
def crashE : ME := fun _ _ => .bad
theorem v_crash {X : Cx} {rx : Rx} {W : WX} {st : Stmt} : IS X rx W st crash := ⟨fun pins s σ H D I ⟨_, _, _, _, _, h⟩ => False.elim h⟩
theorem v_crashE {X : Cx} {rx : Rx} {W : WX} {e : Expr} : IE X rx W e crashE := ⟨fun pins s σ H D I ⟨_, _, _, _, _, h⟩ => False.elim h⟩
/-! ### a dict locked behind the reading of it -/
def NB (X : Cx) (d : Addr) : Prop := ∀ o' u', X.H_0 d ≠ some (.frz o' u')
def tLk (X : Cx) (t : TE) : TE := fun σ H Q => t σ H fun x H1 => Q x H1 ∨ ∃ d ws, H1 d = some (.dK ws) ∧ ∀ od, NB X d → Q x (upd H1 d (.frz od (.dK ws)))
def UnlQ (X : Cx) (P : Hp → Prop) (H : Hp) : Prop := P H ∨ ∃ d od ws, H d = some (.frz od (.dK ws)) ∧ NB X d ∧ P (upd H d (.dK ws))
def unlD (X : Cx) (D : Ends) : Ends := ⟨fun σ H => UnlQ X (D.nx σ) H, fun v H => UnlQ X (D.rt v) H, fun σ H => UnlQ X (D.bk σ) H, fun σ H => UnlQ X (D.ct σ) H⟩
def tUnl (X : Cx) (t : TS) : TS := fun D σ H => t (unlD X D) σ H
def tUnlE (X : Cx) (t : TE) : TE := fun σ H Q => t σ H fun x H1 => UnlQ X (Q x) H1
theorem pe_lk {X : Cx} {e : Expr} {t : TE} (h : PE X e t) : PE X e (tLk X t) := by
  refine ⟨fun pins s σ H Q I hw => ?_⟩
  refine thn (h.run pins s σ H _ I hw) fun v s1 ⟨x, H1, I1, r, q⟩ => ?_
  rcases q with q | ⟨d, ws, hd, q⟩
  · exact ⟨x, H1, I1, r, q⟩
  · obtain ⟨od, I2⟩ := I1.lock hd trivial
    exact ⟨x, _, I2, r, q od (I1.nofrz hd trivial)⟩
theorem unlQ_run {X : Cx} {pins : List (Addr × Obj)} {σ : L2.St} {H : Hp} {s : Shared} {P : Hp → Prop} (I : Inv X pins σ H s) (h : UnlQ X P H) : ∃ H', Inv X pins σ H' s ∧ P H' := by
  rcases h with h | ⟨d, od, ws, hd, nb, h⟩
  · exact ⟨H, I, h⟩
  · exact ⟨_, I.unlock hd nb, h⟩
theorem ps_unl {X : Cx} {st : Stmt} {t : TS} (h : PS X st t) : PS X st (tUnl X t) := by
  refine ⟨fun pins s σ H D I hw => ?_⟩
  refine thn (h.run pins s σ H _ I hw) fun f s1 q => ?_
  cases f with
  | next => obtain ⟨σ', H', I2, q⟩ := q; obtain ⟨H2, I3, q⟩ := unlQ_run I2 q; exact ⟨σ', _, I3, q⟩
  | brk => obtain ⟨σ', H', I2, q⟩ := q; obtain ⟨H2, I3, q⟩ := unlQ_run I2 q; exact ⟨σ', _, I3, q⟩
  | cont => obtain ⟨σ', H', I2, q⟩ := q; obtain ⟨H2, I3, q⟩ := unlQ_run I2 q; exact ⟨σ', _, I3, q⟩
  | ret v => obtain ⟨x, σ', H', I2, r, q⟩ := q; obtain ⟨H2, I3, q⟩ := unlQ_run I2 q; exact ⟨x, σ', _, I3, r, q⟩
theorem pe_unl {X : Cx} {e : Expr} {t : TE} (h : PE X e t) : PE X e (tUnlE X t) := by
  refine ⟨fun pins s σ H Q I hw => ?_⟩
  refine thn (h.run pins s σ H _ I hw) fun v s1 ⟨x, H1, I1, r, q⟩ => ?_
  obtain ⟨H2, I3, q⟩ := unlQ_run I1 q
  exact ⟨x, _, I3, r, q⟩
/-! ### locking and unlocking leaves the readings -/
def Lk (H H' : Hp) : Prop := ∀ b, H' b = H b ∨ ∃ ws od, (H b = some (.dK ws) ∧ H' b = some (.frz od (.dK ws))) ∨ (H b = some (.frz od (.dK ws)) ∧ H' b = some (.dK ws))
section
variable {K : PySem.W.Frag} {ρ ρ' : List Addr} {H H' : Hp}
theorem lk_lock {d : Addr} {ws : List (Key × V)} {od : Obj} (h : H d = some (.dK ws)) : Lk H (upd H d (.frz od (.dK ws))) := fun b => by
  by_cases e : b = d
  · subst e; exact .inr ⟨ws, od, .inl ⟨h, upd_same⟩⟩
  · exact .inl (upd_ne e)
theorem lk_unlock {d : Addr} {ws : List (Key × V)} {od : Obj} (h : H d = some (.frz od (.dK ws))) : Lk H (upd H d (.dK ws)) := fun b => by
  by_cases e : b = d
  · subst e; exact .inr ⟨ws, od, .inr ⟨h, upd_same⟩⟩
  · exact .inl (upd_ne e)
theorem Lk.keep (k : Lk H H') {b : Addr} {o : HO} (h : H b = some o) (n1 : ∀ ws, o ≠ .dK ws) (n2 : ∀ x ws, o ≠ .frz x (.dK ws)) : H' b = some o := by
  rcases k b with e | ⟨ws, od, ⟨e, _⟩ | ⟨e, _⟩⟩
  · rw [e]; exact h
  · rw [h] at e; cases e; exact absurd rfl (n1 ws)
  · rw [h] at e; cases e; exact absurd rfl (n2 od ws)
theorem Lk.rd (k : Lk H H') {b : Addr} {ws : List (Key × V)} (h : Rd H b (.dK ws)) : Rd H' b (.dK ws) := by
  rcases k b with e | ⟨ws', od, ⟨e, e'⟩ | ⟨e, e'⟩⟩
  · unfold Rd; rw [e]; exact h
  · rcases h with h | ⟨o, h⟩
    · rw [h] at e; cases e; exact .inr ⟨od, e'⟩
    · rw [h] at e; cases e
  · rcases h with h | ⟨o, h⟩
    · rw [h] at e; cases e
    · rw [h] at e; cases e; exact .inl e'
theorem Lk.sqT (k : Lk H H') {a : Addr} {vs : List V} (h : SqT K H a vs) : SqT K H' a vs := by
  rcases h with (h | ⟨o, h⟩) | h
  · exact .inl (.inl (k.keep h (fun _ z => by cases z) (fun _ _ z => by cases z)))
  · exact .inl (.inr ⟨o, k.keep h (fun _ z => by cases z) (fun _ _ z => by cases z)⟩)
  · exact .inr h
theorem Lk.rol (k : Lk H H') {a : Addr} {vs : List V} (h : RolAt K ρ H a vs) : RolAt K ρ H' a vs := by
  rcases h with ⟨o, h⟩ | ⟨n, h⟩ | h
  · exact .inl ⟨o, k.keep h (fun _ z => by cases z) (fun _ _ z => by cases z)⟩
  · exact .inr (.inl ⟨n, k.keep h (fun _ z => by cases z) (fun _ _ z => by cases z)⟩)
  · exact .inr (.inr h)
mutual
theorem RV.lk (k : Lk H H') : ∀ (d : DV) (v : V), RV K ρ H d v → RV K ρ H' d v
  | .non, v, h => by simp only [RV] at h ⊢; exact h
  | .bl b, v, h => by simp only [RV] at h ⊢; exact h
  | .int i, v, h => by simp only [RV] at h ⊢; exact h
  | .str s, v, h => by simp only [RV] at h ⊢; exact h
  | .ref k, v, h => by simp only [RV] at h ⊢; exact h
  | .tup xs, v, h => by
    simp only [RV] at h ⊢
    obtain ⟨a, vs, h1, h2, h3⟩ := h
    exact ⟨a, vs, h1, k.sqT h2, RVs.lk k xs vs h3⟩
  | .lst xs, v, h => by
    simp only [RV] at h ⊢
    obtain ⟨a, vs, h1, h2, h3, h4⟩ := h
    exact ⟨a, vs, h1, h2, k.keep h3 (fun _ z => by cases z) (fun _ _ z => by cases z), RVs.lk k xs vs h4⟩
  | .rol xs, v, h => by
    simp only [RV] at h ⊢
    obtain ⟨a, vs, h1, h2, h3⟩ := h
    exact ⟨a, vs, h1, k.rol h2, RVs.lk k xs vs h3⟩
  | .dk kvs, v, h => by
    simp only [RV] at h ⊢
    obtain ⟨a, ws, h1, h2, h3, h4⟩ := h
    exact ⟨a, ws, h1, h2, k.rd h3, RVK.lk k kvs ws h4⟩
  | .fz kvs, v, h => by
    simp only [RV] at h ⊢
    obtain ⟨a, ws, h1, h2, h3, h4⟩ := h
    exact ⟨a, ws, h1, h2, k.rd h3, RVK.lk k kvs ws h4⟩
  | .exn c x, v, h => by
    simp only [RV] at h ⊢
    obtain ⟨a, cls, od, h1, h2, h3, h4, h5⟩ := h
    refine ⟨a, cls, od, h1, h2, k.keep h3 (fun _ z => by cases z) (fun _ _ z => by cases z), h4, ?_⟩
    rcases h5 with h5 | ⟨dd, fs, u, q1, q2, q3, q4, q5⟩
    · exact .inl h5
    · exact .inr ⟨dd, fs, u, q1, q2, k.keep q3 (fun _ z => by cases z) (fun _ _ z => by cases z), q4, RV.lk k x u q5⟩
theorem RVs.lk (k : Lk H H') : ∀ (xs : List DV) (vs : List V), RVs K ρ H xs vs → RVs K ρ H' xs vs
  | [], vs, h => by simp only [RVs] at h ⊢; exact h
  | x :: xs, vs, h => by
    simp only [RVs] at h ⊢
    obtain ⟨v, r, h1, h2, h3⟩ := h
    exact ⟨v, r, h1, RV.lk k x v h2, RVs.lk k xs r h3⟩
theorem RVK.lk (k : Lk H H') : ∀ (xs : List (Key × DV)) (vs : List (Key × V)), RVK K ρ H xs vs → RVK K ρ H' xs vs
  | [], vs, h => by simp only [RVK] at h ⊢; exact h
  | (j, x) :: xs, vs, h => by
    simp only [RVK] at h ⊢
    obtain ⟨v, r, h1, h2, h3⟩ := h
    exact ⟨v, r, h1, RV.lk k x v h2, RVK.lk k xs r h3⟩
end
theorem RL.lk (k : Lk H H') {l : Lo} {σ : L2.St} (h : RL K ρ H l σ) : RL K ρ H' l σ := ⟨h.len, fun i d e => by
  obtain ⟨v, h1, h2⟩ := h.at_ i d e
  exact ⟨v, h1, RV.lk k d v h2⟩⟩
theorem RO.lk (k : Lk H H') {a : Addr} (e : H' a = H a) : ∀ {o : DV}, RO K ρ H a o → RO K ρ H' a o
  | .lst xs, ⟨vs, h1, h2, h3⟩ => ⟨vs, by rw [e]; exact h1, RVs.lk k _ _ h2, h3⟩
  | .dk xs, ⟨vs, h1, h2, h3⟩ => ⟨vs, by rw [e]; exact h1, RVK.lk k _ _ h2, h3⟩
  | .fz xs, ⟨vs, h1, h2, h3⟩ => ⟨vs, by rw [e]; exact h1, RVK.lk k _ _ h2, h3⟩
/-- nothing of the store is locked -/
theorem RS.lkOut {S : Sto} (s : RS K ρ H S) (k : Lk H H') (e : ∀ a ∈ ρ, H' a = H a) : RS K ρ H' S :=
  ⟨s.nd, s.len, fun j a o h1 h2 => (s.at_ j a o h1 h2).lk k (e a (List.mem_of_getElem? h1))⟩
theorem RS.lkAt {S : Sto} {d : Addr} {j : Nat} {o : DV} {u : HO} (s : RS K ρ H S) (k : Lk H (upd H d u)) (hj : ρ[j]? = some d) (hd : RO K ρ (upd H d u) d o) : RS K ρ (upd H d u) (S.set j o) := by
  refine ⟨s.nd, by simp [s.len], fun i a x h1 h2 => ?_⟩
  by_cases hi : i = j
  · subst hi
    rw [hj] at h1
    cases h1
    rw [List.getElem?_set_self (by rw [← s.len]; exact (List.getElem?_eq_some_iff.mp hj).1)] at h2
    cases h2
    exact hd
  · rw [List.getElem?_set_ne (Ne.symm hi)] at h2
    exact (s.at_ i a x h1 h2).lk k (upd_ne fun z => hi (nd_ix s.nd h1 (by rw [z]; exact hj)))
/-- behind the unlocking nothing is told but what was -/
theorem ext_locked {d : Addr} {ws : List (Key × V)} {od : Obj} (e : Ext ρ (upd H d (.frz od (.dK ws))) ρ' H') (h : H d = some (.dK ws)) : Ext ρ H ρ' (upd H' d (.dK ws)) := by
  refine ⟨e.pre, fun b o hb n => ?_, fun b xs hb => ?_, fun b o u hb => ?_, fun b m => ?_, fun b hb => ?_⟩
  · by_cases z : b = d
    · subst z; rw [h] at hb; cases hb; exact upd_same
    · rw [upd_ne z]; exact e.keep b o (by rw [upd_ne z]; exact hb) n
  · have z : b ≠ d := fun z => by rw [z, h] at hb; cases hb
    rw [upd_ne z]; exact e.tups b xs (by rw [upd_ne z]; exact hb)
  · have z : b ≠ d := fun z => by rw [z, h] at hb; cases hb
    rw [upd_ne z]; exact e.frzs b o u (by rw [upd_ne z]; exact hb)
  · rcases e.fresh b m with q | q
    · exact .inl q
    · refine .inr ?_
      by_cases z : b = d
      · subst z; rw [upd_same] at q; cases q
      · rw [upd_ne z] at q; exact q
  · by_cases z : b = d
    · subst z; rw [upd_same] at hb; cases hb
    · rw [upd_ne z] at hb
      have q := e.there b hb
      rw [upd_ne z] at q; exact q
theorem ext_lockRef {d : Addr} {ws : List (Key × V)} {od : Obj} (h : H d = some (.dK ws)) (m : d ∈ ρ) : Ext ρ H ρ (upd H d (.frz od (.dK ws))) := by
  refine ⟨⟨[], by simp⟩, fun b o hb n => ?_, fun b xs hb => ?_, fun b o u hb => ?_, fun b m => .inl m, fun b hb => ?_⟩
  · rw [upd_ne fun z => n (by rw [z]; exact m)]; exact hb
  · rw [upd_ne fun z => by rw [z, h] at hb; cases hb]; exact hb
  · rw [upd_ne fun z => by rw [z, h] at hb; cases hb]; exact hb
  · by_cases z : b = d
    · subst z; rw [upd_same] at hb; cases hb
    · rw [upd_ne z] at hb; exact hb
end
/-! ### the items -/
def dKeys (kvs : List (Key × DV)) : List DV := kvs.map fun p => keyD p.1
def dVals (kvs : List (Key × DV)) : List DV := kvs.map (·.2)
def dItems (kvs : List (Key × DV)) : List DV := kvs.map fun p => .tup [keyD p.1, p.2]
theorem rv_key {K : PySem.W.Frag} {ρ : List Addr} {H : Hp} (k : Key) : RV K ρ H (keyD k) (kV k) := by
  cases k <;> simp only [keyD, RV] <;> rfl
theorem RVK.at {K : PySem.W.Frag} {ρ : List Addr} {H : Hp} : ∀ {kvs : List (Key × DV)} {ws : List (Key × V)} {i : Nat} {k : Key} {v : V}, RVK K ρ H kvs ws → ws[i]? = some (k, v) → ∃ d, kvs[i]? = some (k, d) ∧ RV K ρ H d v
  | [], ws, i, k, v, h, e => by simp only [RVK] at h; subst h; simp at e
  | (j, x) :: r, ws, 0, k, v, h, e => by
    simp only [RVK] at h
    obtain ⟨u, t, rfl, h1, h2⟩ := h
    simp at e
    obtain ⟨rfl, rfl⟩ := e
    exact ⟨x, rfl, h1⟩
  | (j, x) :: r, ws, i + 1, k, v, h, e => by
    simp only [RVK] at h
    obtain ⟨u, t, rfl, h1, h2⟩ := h
    simp at e
    obtain ⟨d, h3, h4⟩ := RVK.at h2 e
    exact ⟨d, by simpa using h3, h4⟩
section
variable {K : PySem.W.Frag} {ρ : List Addr} {H : Hp} {d : Addr} {o : Obj} {ws : List (Key × V)} {kvs : List (Key × DV)}
theorem src_keys (hd : H d = some (.frz o (.dK ws))) (r : RVK K ρ H kvs ws) : Src K ρ H (dKeys kvs) [] (Itk d o ws) (fun H => H d = some (.frz o (.dK ws))) (fun i H x H' => H' = H ∧ ∃ k v, ws[i]? = some (k, v) ∧ x = kV k) where
  walk := by
    have e : (dKeys kvs).length = ws.length := by simp [dKeys, r.length]
    rw [e]
    exact ⟨fun i H hi q => ⟨q, hi⟩, fun H q => ⟨q, Nat.le_refl _⟩, fun _ _ _ _ _ _ y => y⟩
  go := fun ρ1 H1 S1 ex s1 hh => ex.frzs _ _ _ hd
  yl := fun ρ1 H1 S1 ex s1 hh i v H2 hi y => by
    obtain ⟨rfl, k, u, hk, rfl⟩ := y
    obtain ⟨x, h4, h5⟩ := (RVK.mono ex _ _ r).at hk
    exact ⟨keyD k, by simp [dKeys, h4], rv_key k, .refl, s1⟩
theorem src_vals (hd : H d = some (.frz o (.dK ws))) (r : RVK K ρ H kvs ws) : Src K ρ H (dVals kvs) [] (Itd d o ws) (fun H => H d = some (.frz o (.dK ws))) (fun i H x H' => H' = H ∧ ∃ k, ws[i]? = some (k, x)) where
  walk := by
    have e : (dVals kvs).length = ws.length := by simp [dVals, r.length]
    rw [e]
    exact ⟨fun i H hi q => ⟨q, hi⟩, fun H q => ⟨q, Nat.le_refl _⟩, fun _ _ _ _ _ _ y => y⟩
  go := fun ρ1 H1 S1 ex s1 hh => ex.frzs _ _ _ hd
  yl := fun ρ1 H1 S1 ex s1 hh i v H2 hi y => by
    obtain ⟨rfl, k, hk⟩ := y
    obtain ⟨x, h4, h5⟩ := (RVK.mono ex _ _ r).at hk
    exact ⟨x, by simp [dVals, h4], h5, .refl, s1⟩
theorem src_items (hd : H d = some (.frz o (.dK ws))) (r : RVK K ρ H kvs ws) : Src K ρ H (dItems kvs) [] (Iti d o ws) (fun H => H d = some (.frz o (.dK ws))) (fun i H x H' => ∃ T k v, ws[i]? = some (k, v) ∧ x = .ref T ∧ H T = none ∧ H' = upd H T (.tup [kV k, v])) where
  walk := by
    have e : (dItems kvs).length = ws.length := by simp [dItems, r.length]
    rw [e]
    exact ⟨fun i H hi q => ⟨q, hi⟩, fun H q => ⟨q, Nat.le_refl _⟩, fun _ _ _ _ _ _ y => y⟩
  go := fun ρ1 H1 S1 ex s1 hh => ex.frzs _ _ _ hd
  yl := fun ρ1 H1 S1 ex s1 hh i v H2 hi y => by
    obtain ⟨T, k, u, hk, rfl, hT, rfl⟩ := y
    obtain ⟨x, h4, h5⟩ := (RVK.mono ex _ _ r).at hk
    exact ⟨.tup [keyD k, x], by simp [dItems, h4], rv_pair hT (rv_key k) h5, ext_new hT, s1.new hT⟩
end
/-- a walk over a locked dict -/
structure DW (K : PySem.W.Frag) (f : List (Key × DV) → List DV) (It : Addr → Obj → List (Key × V) → L2.It) (Y : List (Key × V) → Nat → Hp → V → Hp → Prop) : Prop where
  src : ∀ {ρ H d o ws kvs}, H d = some (.frz o (.dK ws)) → RVK K ρ H kvs ws → Src K ρ H (f kvs) [] (It d o ws) (fun H => H d = some (.frz o (.dK ws))) (Y ws)
theorem dw_keys {K : PySem.W.Frag} : DW K dKeys Itk (fun ws i H x H' => H' = H ∧ ∃ k v, ws[i]? = some (k, v) ∧ x = kV k) := ⟨fun a b => src_keys a b⟩
theorem dw_vals {K : PySem.W.Frag} : DW K dVals Itd (fun ws i H x H' => H' = H ∧ ∃ k, ws[i]? = some (k, x)) := ⟨fun a b => src_vals a b⟩
theorem dw_items {K : PySem.W.Frag} : DW K dItems Iti (fun ws i H x H' => ∃ T k v, ws[i]? = some (k, v) ∧ x = .ref T ∧ H T = none ∧ H' = upd H T (.tup [kV k, v])) := ⟨fun a b => src_items a b⟩
def noExc {α : Type} : Out α → Out α
  | .exc _ _ _ _ => .bad
  | o => o
/-- for .. in d, d.values(), d.items() -/
noncomputable def forD (t : Tg) (f : List (Key × DV) → List DV) (a : ME) (b : MS) : MS := fun l S => (a l S).bind fun x S1 => match x with
  | .ref k => match S1[k]? with
    | some (.dk kvs) => (loop t b [] (f kvs) l (S1.set k (.fz kvs))).bind fun fl S2 => .ok fl (S2.set k (.dk kvs))
    | some (.fz kvs) => loop t b [] (f kvs) l S1
    | _ => .bad
  | .dk kvs => noExc (loop t b [] (f kvs) l S1)
  | .fz kvs => noExc (loop t b [] (f kvs) l S1)
  | _ => .bad
/-- the reading of a walked dict -/
def iDw (It : Addr → Obj → List (Key × V) → L2.It) (td : TE) : TI := fun σ H R => td σ H fun x H1 => ∃ d o ws, x = .ref d ∧ H1 d = some (.frz o (.dK ws)) ∧ R (It d o ws) H1
def Mono (t : TE) : Prop := ∀ σ H Q Q', t σ H Q → (∀ x H, Q x H → Q' x H) → t σ H Q'
theorem mono_tI {K : PySem.W.Frag} {rx : Rx} {W : WX} {m : ME} : Mono (tI K rx W m) := fun σ H Q Q' ⟨ρ, l, S, hl, hs, h⟩ k => ⟨ρ, l, S, hl, hs, h.imp fun d S' q ρ' H' v e s r => k _ _ (q ρ' H' v e s r)⟩
theorem mono_lk {X : Cx} {t : TE} (h : Mono t) : Mono (tLk X t) := fun σ H Q Q' q k => h σ H _ _ q fun x H1 z => z.elim (fun z => .inl (k _ _ z)) fun ⟨d, ws, hd, z⟩ => .inr ⟨d, ws, hd, fun od nb => k _ _ (z od nb)⟩
section
variable {X : Cx} {tg e : Expr} {td : TE} {apos cpos : Pos}
theorem pi_dkeys (he : PE X e td) (hm : Mono td) : PI X tg e (iDw Itk td) := pi_imp (pi_keys he) fun σ H R h => hm _ _ _ _ h fun x H1 ⟨d, o, ws, ex, hd, q⟩ => ⟨d, o, ex, .inl ⟨ws, hd, q⟩⟩
theorem pi_dkeysM (he : PE X e td) (hm : Mono td) (hbase : attributeBase e "keys" X.env (eval e X.env) = eval e X.env := by rfl) (hline : (apos.endLine == cpos.line) = true := by rfl) : PI X tg (.Call (.Attribute e "keys" apos) [] [] cpos) (iDw Itk td) := pi_imp (pi_keysM he hbase hline) fun σ H R h => h
theorem pi_dvals (he : PE X e td) (hm : Mono td) (hbase : attributeBase e "values" X.env (eval e X.env) = eval e X.env := by rfl) (hline : (apos.endLine == cpos.line) = true := by rfl) : PI X tg (.Call (.Attribute e "values" apos) [] [] cpos) (iDw Itd td) := pi_imp (pi_values he hbase hline) fun σ H R h => h
theorem pi_ditems {elts : List Expr} {kk : Nat} {tpos : Pos} (he : PE X e td) (hm : Mono td) (hbase : attributeBase e "items" X.env (eval e X.env) = eval e X.env := by rfl) (hline : (apos.endLine == cpos.line) = true := by rfl) : PI X (.Tuple elts kk tpos) (.Call (.Attribute e "items" apos) [] [] cpos) (iDw Iti td) := pi_imp (pi_items he hbase hline) fun σ H R h => h
end
section
variable {X : Cx} {rx : Rx} {W : WX} {a b e tg : Expr} {ma mb me : ME} {pos : Pos}
def LoopW (J : It) (g : TG) (tb : TS) (D : Ends) (σ : L2.St) (H1 : Hp) : Prop := ∃ W : Nat → Nat → L2.St → Hp → Prop, (∃ m, W 0 m σ H1) ∧ ∀ i m σ H, W i m σ H →
  (J.stop i H ∧ D.nx σ H) ∨ (J.go i H ∧ ∃ N : L2.St → Hp → Prop, (∀ σ' H', N σ' H' → ∃ m', m' < m ∧ W (i + 1) m' σ' H') ∧ ∀ x H', J.yld i H x H' → g x σ H' fun σ2 H2 => tb { D with nx := N, ct := N, bk := D.nx } σ2 H2)
/-- the loop, from its start on -/
theorem for_go {K : PySem.W.Frag} {g : TG} {t : Tg} {m : MS} {J : It} {G : Hp → Prop} {Y : Nat → Hp → V → Hp → Prop} {xs : List DV} {gs : List (Nat × DV)} {ρ1 : List Addr} {H1 : Hp} {l : Lo} {S1 : Sto} {σ : L2.St} {D : Ends} (ht : TgOk K g t) (src : Src K ρ1 H1 xs gs J G Y) (hl : RL K ρ1 H1 l σ) (s1 : RS K ρ1 H1 S1)
    (h1 : Post K rx W ρ1 H1 (loop t m gs xs l S1) (QS K ρ1 H1 D)) :
    LoopW J g (tS K rx W m) D σ H1 := by
  refine for_it src.walk (fun i σ2 H2 => ∃ ρ2 l2 S2, Ext ρ1 H1 ρ2 H2 ∧ RL K ρ2 H2 l2 σ2 ∧ RS K ρ2 H2 S2 ∧ Post K rx W ρ2 H2 (loop t m gs (xs.drop i) l2 S2) (QS K ρ2 H2 D))
    ⟨ρ1, l, S1, .refl, hl, s1, h1⟩ ?_ ?_ ?_
  · rintro i σ2 H2 _ ⟨ρ2, l2, S2, e2, hl2, s2, h2⟩
    exact src.go ρ2 H2 S2 e2 s2 (loop_held h2)
  · rintro i x σ2 H2 H3 hi ⟨ρ2, l2, S2, e2, hl2, s2, h2⟩ y
    obtain ⟨d, hd, r3, e3, s3⟩ := src.yl ρ2 H2 S2 e2 s2 (loop_held h2) i x H3 hi y
    have hdr : xs.drop i = d :: xs.drop (i + 1) := by
      obtain ⟨hlt, he⟩ := List.getElem?_eq_some_iff.mp hd
      rw [List.drop_eq_getElem_cons hlt, he]
    rw [hdr] at h2
    unfold loop at h2
    split at h2
    · split at h2
      · rename_i l3 hl3
        refine ht ρ2 H3 l2 σ2 d x l3 _ (hl2.mono e3) r3 hl3 fun σ3 hσ3 => ?_
        refine ⟨ρ2, l3, S2, hσ3, s3, (h2.shift e3).bind.imp fun f S4 h4 => ?_⟩
        exact flow_turn e3 (fun ρ' H' σ' l e s r q => ⟨ρ', l, S4, e2.trans (e3.trans e), r, s, q⟩) h4
      · exact False.elim h2
    · exact False.elim h2
  · rintro σ2 H2 ⟨ρ2, l2, S2, e2, hl2, s2, h2⟩
    rw [List.drop_length] at h2
    unfold loop at h2
    split at h2
    · exact h2 ρ2 H2 σ2 .refl s2 hl2
    · exact False.elim h2
theorem post_noExc {α : Type} {K : PySem.W.Frag} {rx : Rx} {W : WX} {ρ ρ' : List Addr} {H H' : Hp} {o : Out α} {R R' : α → Sto → Prop} (h : Post K rx W ρ H (noExc o) R) (k : ∀ a S, R a S → R' a S) : Post K rx W ρ' H' o R' := by
  cases o with
  | ok a S => exact k a S h
  | exc _ _ _ _ => exact False.elim h
  | bad => exact False.elim h
/-- back in the whole's own words -/
theorem qs_unl {X : Cx} {ρ0 ρ1 : List Addr} {H0 H1 : Hp} {d : Addr} {od : Obj} {ws : List (Key × V)} {D : Ends} {f : Fl} {S : Sto} {S' : Sto} (e0 : Ext ρ0 H0 ρ1 H1) (hd : H1 d = some (.dK ws)) (nb : NB X d)
    (hS : ∀ ρ' H', Ext ρ1 H1 ρ' (upd H' d (.dK ws)) → H' d = some (.frz od (.dK ws)) → RS X.K ρ' H' S → RS X.K ρ' (upd H' d (.dK ws)) S') (h : QS X.K ρ0 H0 D f S') : QS X.K ρ1 (upd H1 d (.frz od (.dK ws))) (unlD X D) f S := by
  have key : ∀ ρ' H', Ext ρ1 (upd H1 d (.frz od (.dK ws))) ρ' H' → RS X.K ρ' H' S → H' d = some (.frz od (.dK ws)) ∧ Ext ρ0 H0 ρ' (upd H' d (.dK ws)) ∧ RS X.K ρ' (upd H' d (.dK ws)) S' ∧ Lk H' (upd H' d (.dK ws)) := fun ρ' H' e s => by
    have hf := e.frzs d od _ upd_same
    have e' := ext_locked e hd
    exact ⟨hf, e0.trans e', hS ρ' H' e' hf s, lk_unlock hf⟩
  cases f with
  | nx l => exact fun ρ' H' σ' e s r => let ⟨k1, k2, k3, k4⟩ := key ρ' H' e s; .inr ⟨d, od, ws, k1, nb, h ρ' _ σ' k2 k3 (r.lk k4)⟩
  | bk l => exact fun ρ' H' σ' e s r => let ⟨k1, k2, k3, k4⟩ := key ρ' H' e s; .inr ⟨d, od, ws, k1, nb, h ρ' _ σ' k2 k3 (r.lk k4)⟩
  | ct l => exact fun ρ' H' σ' e s r => let ⟨k1, k2, k3, k4⟩ := key ρ' H' e s; .inr ⟨d, od, ws, k1, nb, h ρ' _ σ' k2 k3 (r.lk k4)⟩
  | rt d => exact fun ρ' H' v e s r => let ⟨k1, k2, k3, k4⟩ := key ρ' H' e s; .inr ⟨_, od, ws, k1, nb, h ρ' _ v k2 k3 (RV.lk k4 _ _ r)⟩
theorem qs_now {X : Cx} {ρ : List Addr} {H : Hp} {D : Ends} {f : Fl} {S : Sto} (h : QS X.K ρ H D f S) : QS X.K ρ H (unlD X D) f S := by
  cases f with
  | nx l => exact fun ρ' H' σ' e s r => .inl (h ρ' H' σ' e s r)
  | bk l => exact fun ρ' H' σ' e s r => .inl (h ρ' H' σ' e s r)
  | ct l => exact fun ρ' H' σ' e s r => .inl (h ρ' H' σ' e s r)
  | rt d => exact fun ρ' H' v e s r => .inl (h ρ' H' v e s r)
theorem v_forD {t : Tg} {f : List (Key × DV) → List DV} {It : Addr → Obj → List (Key × V) → L2.It} {Yl : List (Key × V) → Nat → Hp → V → Hp → Prop} {m : MS} {it : Expr} {body : List Stmt} (w : DW X.K f It Yl) (hp : PassesOwn (model X.prog X.w) X.A X.env X.xe) (hc : X.calm = true) (hi : PI X tg it (iDw It (tLk X (tI X.K rx W ma)))) (hg : IG X tg t) (hb : ISs X rx W body m)
    (hf : ∀ x, foldedSetIterable it X.env x = pure x := by intro _; rfl) : IS X rx W (.For tg it body [] pos) (forD t f ma m) := by
  obtain ⟨g, hpg, ht⟩ := hg.ex
  refine ps_imp (ps_unl (ps_for hp hc hi hpg hb hf)) fun D σ H ⟨ρ, l, S, hl, hs, h⟩ => ?_
  show tI X.K rx W ma σ H _
  refine bindI hl hs h fun ρ1 H1 x S1 v e1 s1 l1 r1 h1 => ?_
  have val : ∀ kvs a ws, v = .ref a → a ∉ ρ1 → Rd H1 a (.dK ws) → RVK X.K ρ1 H1 kvs ws → Post X.K rx W ρ1 H1 (noExc (loop t m [] (f kvs) l S1)) (QS X.K ρ H D) →
      (∃ d o ws, v = .ref d ∧ H1 d = some (.frz o (.dK ws)) ∧ LoopW (It d o ws) g (tS X.K rx W m) (unlD X D) σ H1) ∨ ∃ d ws, H1 d = some (.dK ws) ∧ ∀ od, NB X d → ∃ d' o ws', v = .ref d' ∧ upd H1 d (.frz od (.dK ws)) d' = some (.frz o (.dK ws')) ∧ LoopW (It d' o ws') g (tS X.K rx W m) (unlD X D) σ (upd H1 d (.frz od (.dK ws))) := fun kvs a ws ev na rd rk h2 => by
    rcases rd with rd | ⟨o, rd⟩
    · refine .inr ⟨a, ws, rd, fun od nb => ⟨a, od, ws, ev, upd_same, ?_⟩⟩
      have k := lk_lock (od := od) rd
      have sL : RS X.K ρ1 (upd H1 a (.frz od (.dK ws))) S1 := s1.lkOut k fun b hb => upd_ne fun z => na (by rw [← z]; exact hb)
      exact for_go ht (w.src upd_same (RVK.lk k _ _ rk)) (l1.lk k) sL (post_noExc h2 fun fl S2 q => qs_unl e1 rd nb (fun ρ' H' e' hf' s' => s'.lkOut (lk_unlock hf') fun b hb => upd_ne fun z => (ext_notin e' rd na) (by rw [← z]; exact hb)) q)
    · exact .inl ⟨a, o, ws, ev, rd, for_go ht (w.src rd rk) l1 s1 (post_noExc h2 fun fl S2 q => qs_now (q.back e1))⟩
  cases x with
  | ref k =>
    obtain ⟨a, ha, rfl⟩ := r1.ref
    dsimp only at h1
    split at h1
    · rename_i kvs hk
      obtain ⟨ws, h3, h4, h5⟩ := s1.at_ k a _ ha hk
      refine .inr ⟨a, ws, h3, fun od nb => ⟨a, od, ws, rfl, upd_same, ?_⟩⟩
      have kk := lk_lock (od := od) h3
      have eL := ext_lockRef (od := od) h3 (List.mem_of_getElem? ha)
      have sL : RS X.K ρ1 (upd H1 a (.frz od (.dK ws))) (S1.set k (.fz kvs)) := s1.lkAt kk ha ⟨ws, ⟨od, upd_same⟩, RVK.lk kk _ _ h4, h5⟩
      refine for_go ht (w.src upd_same (RVK.lk kk _ _ h4)) (l1.lk kk) sL ((h1.bind.shift eL).imp fun fl S2 q => ?_)
      refine qs_unl e1 h3 nb (fun ρ' H' e' hf' s' => ?_) q
      have ha' : ρ'[k]? = some a := by
        obtain ⟨t', rfl⟩ := e'.pre
        rw [List.getElem?_append_left (List.getElem?_eq_some_iff.mp ha).1]; exact ha
      exact s'.lkAt (lk_unlock hf') ha' ⟨ws, upd_same, RVK.mono e' _ _ h4, h5⟩
    · rename_i kvs hk
      obtain ⟨ws, ⟨o, h3⟩, h4, h5⟩ := s1.at_ k a _ ha hk
      exact .inl ⟨a, o, ws, rfl, h3, for_go ht (w.src h3 h4) l1 s1 (h1.imp fun fl S2 q => qs_now (q.back e1))⟩
    · exact False.elim h1
  | dk kvs =>
    simp only [RV] at r1
    obtain ⟨a, ws, ev, na, rd, rk⟩ := r1
    exact val kvs a ws ev na rd rk h1
  | fz kvs =>
    simp only [RV] at r1
    obtain ⟨a, ws, ev, na, rd, rk⟩ := r1
    exact val kvs a ws ev na rd rk h1
  | _ => exact False.elim h1
/-! ### comprehensions -/
def src0 (xs : List DV) : MI := fun _ S => .ok (xs, []) S
noncomputable def compD (own : List Nat) (t : Tg) (f : List (Key × DV) → List DV) (c : MT) (e : ME) (a : ME) : ME := fun l S => (a l S).bind fun x S1 => match x with
  | .ref k => match S1[k]? with
    | some (.dk kvs) => (comp own t (src0 (f kvs)) c e l (S1.set k (.fz kvs))).bind fun y S2 => .ok y (S2.set k (.dk kvs))
    | some (.fz kvs) => comp own t (src0 (f kvs)) c e l S1
    | _ => .bad
  | .dk kvs => comp own t (src0 (f kvs)) c e l S1
  | .fz kvs => comp own t (src0 (f kvs)) c e l S1
  | _ => .bad
def CompW (J : It) (g : TG) (tt : TT) (te : TE) (own : List Nat) (σ : L2.St) (Q : VK) (H1 : Hp) : Prop := ∀ D, H1 D = none → ∃ W : Nat → Nat → Hp → Prop, (∃ m, W 0 m (upd H1 D (.lst []))) ∧ ∀ i m H, W i m H →
      (J.stop i H ∧ Q (.ref D) H) ∨ (J.go i H ∧ ∃ Nx : Hp → Prop, (∀ H', Nx H' → ∃ m', m' < m ∧ W (i + 1) m' H') ∧ ∀ x H', J.yld i H x H' → g x (wipe σ own) H' fun σ2 H2 => wipe σ2 own = wipe σ own ∧ tt σ2 H2 fun b H3 =>
        if b = true then te σ2 H3 fun y H4 => ∃ acc, H4 D = some (.lst acc) ∧ acc.length < sizeLine ∧ Nx (upd H4 D (.lst (acc ++ [y]))) else Nx H3)
theorem comp_go {t : Tg} {g : TG} {c : MT} {own : List Nat} {σ : L2.St} {l : Lo} {ρ1 : List Addr} {H1 : Hp} {S1 : Sto} {xs : List DV} {Q : VK} {K : PySem.W.Frag} {J : It} {G : Hp → Prop} {Y : Nat → Hp → V → Hp → Prop} (ht : TgOk K g t) (gw : ∀ (x : V) (H0 : Hp) (Q : L2.St → Hp → Prop), g x (wipe σ own) H0 Q → g x (wipe σ own) H0 fun σ2 H2 => wipe σ2 own = wipe σ own ∧ Q σ2 H2)
    (hl : RL K ρ1 H1 l σ) (s1 : RS K ρ1 H1 S1) (src : Src K ρ1 H1 xs [] J G Y) (h1 : Post K rx W ρ1 H1 (comp own t (src0 xs) c me l S1) (QE K ρ1 H1 Q)) : CompW J g (tT K rx W0 c) (tI K rx W0 me) own σ Q H1 := by
  intro D hD
  refine comp_core (p := (xs, [])) ht gw hl s1 src hD ?_
  have h1 : Post K rx W ρ1 H1 (match compL t c me [] (wipeL l own) S1.length xs (S1 ++ [.lst []]) with
    | .ok _ S2 => if S2.length = S1.length + 1 then (match S2[S1.length]? with
      | some (.lst ys) => .ok (.lst ys) (S2.take S1.length)
      | _ => .bad) else .bad
    | _ => .bad) (QE K ρ1 H1 Q) := h1
  dsimp only
  cases ec : compL t c me [] (wipeL l own) S1.length xs (S1 ++ [.lst []]) with
  | bad => rw [ec] at h1; exact h1
  | exc _ _ _ _ => rw [ec] at h1; exact False.elim h1
  | ok u S2 =>
    rw [ec] at h1
    intro ρ2 H2 e2 s2
    dsimp only at h1
    split at h1
    · rename_i hn
      split at h1
      · rename_i ys hy
        have hp := e2.pre
        obtain ⟨tl, rfl⟩ := hp
        have hl2 := s2.len
        have : tl = [] := List.eq_nil_of_length_eq_zero (by simp only [List.length_append, List.length_singleton, hn, s1.len] at hl2; omega)
        subst this
        rw [List.append_nil] at s2 e2
        have e12 : Ext ρ1 H1 (ρ1 ++ [D]) H2 := (ext_push hD).trans e2
        have hS : S2 = S2.take S1.length ++ [.lst ys] := by
          obtain ⟨hlt, he⟩ := List.getElem?_eq_some_iff.mp hy
          have q := List.take_append_drop S1.length S2
          rw [List.drop_eq_getElem_cons hlt, he, List.drop_eq_nil_of_le (by omega)] at q
          exact q.symm
        rw [hS] at s2
        have z := RVs.snoc_ext s2
        exact h1 ρ1 H2 _ e12.init z.1 z.2
      · exact False.elim h1
    · exact False.elim h1
/-- no exception comes out of it -/
theorem comp_noExc {K : PySem.W.Frag} {t : Tg} {c : MT} {own : List Nat} {l : Lo} {ρ ρ' : List Addr} {H H' : Hp} {S1 : Sto} {xs : List DV} {R R' : DV → Sto → Prop} (h : Post K rx W ρ H (comp own t (src0 xs) c me l S1) R) (k : ∀ a S, R a S → R' a S) : Post K rx W ρ' H' (comp own t (src0 xs) c me l S1) R' := by
  cases e : comp own t (src0 xs) c me l S1 with
  | ok a S => rw [e] at h; exact k a S h
  | bad => rw [e] at h; exact h
  | exc c' d l' S' =>
    exfalso
    unfold comp src0 at e
    simp only [Out.bind] at e
    split at e
    · split at e
      · split at e <;> cases e
      · cases e
    · cases e
theorem qe_unl {X : Cx} {ρ0 ρ1 : List Addr} {H0 H1 : Hp} {d : Addr} {od : Obj} {ws : List (Key × V)} {Q : VK} {x : DV} {S : Sto} {S' : Sto} (e0 : Ext ρ0 H0 ρ1 H1) (hd : H1 d = some (.dK ws)) (nb : NB X d)
    (hS : ∀ ρ' H', Ext ρ1 H1 ρ' (upd H' d (.dK ws)) → H' d = some (.frz od (.dK ws)) → RS X.K ρ' H' S → RS X.K ρ' (upd H' d (.dK ws)) S') (h : QE X.K ρ0 H0 Q x S') : QE X.K ρ1 (upd H1 d (.frz od (.dK ws))) (fun v H => UnlQ X (Q v) H) x S := fun ρ' H' v e s r => by
  have hf := e.frzs d od _ upd_same
  have e' := ext_locked e hd
  exact .inr ⟨d, od, ws, hf, nb, h ρ' _ v (e0.trans e') (hS ρ' H' e' hf s) (RV.lk (lk_unlock hf) _ _ r)⟩
theorem v_compD {t : Tg} {g : TG} {c : MT} {f : List (Key × DV) → List DV} {It : Addr → Obj → List (Key × V) → L2.It} {Yl : List (Key × V) → Nat → Hp → V → Hp → Prop} {it : Expr} {ifs : List Expr} {scope : Scope} {own : List (Str × Nat)} (w : DW X.K f It Yl) (hc : X.calm = true) (hN : X.N.Nodup) (hi : PI X tg it (iDw It (tLk X (tI X.K rx W ma)))) (ok : blkC X.N X.env.scope scope own = true) (hgo : IGo X (own.map (·.2)) tg g t)
    (hg : ∀ (s : Shared) (H : Hp) (C : Addr) (cl : List (Str × Addr)) (fp : List Addr), PG (X.blk s H scope (compEnvC scope cl C X.env) fp) tg g) (ht : ∀ (s : Shared) (H : Hp) (C : Addr) (cl : List (Str × Addr)) (fp : List Addr), ITs (X.blk s H scope (compEnvC scope cl C X.env) fp) rx ifs c)
    (he : ∀ (s : Shared) (H : Hp) (C : Addr) (cl : List (Str × Addr)) (fp : List Addr), IE (X.blk s H scope (compEnvC scope cl C X.env) fp) rx W0 e me) (hs : ∀ x, foldedSetIterable it X.env x = pure x := by intro _; rfl) :
    IE X rx W (.ListComp e [⟨tg, it, ifs, 0⟩] scope pos) (compD (own.map (·.2)) t f c me ma) := by
  refine pe_imp (pe_unl (pe_lc (tt := tT X.K rx W0 c) (te := tI X.K rx W0 me) hc hN hi (blkOk_by ok) hg ht he hs)) fun σ H Q ⟨ρ, l, S, hl, hs, h⟩ => ?_
  show tI X.K rx W ma σ H _
  refine bindI hl hs h fun ρ1 H1 x S1 v e1 s1 l1 r1 h1 => ?_
  have ht' := hgo.ok
  have gw := fun x => hgo.own σ x
  have val : ∀ kvs a ws, v = .ref a → a ∉ ρ1 → Rd H1 a (.dK ws) → RVK X.K ρ1 H1 kvs ws → Post X.K rx W ρ1 H1 (comp (own.map (·.2)) t (src0 (f kvs)) c me l S1) (QE X.K ρ H Q) →
      (∃ d o ws, v = .ref d ∧ H1 d = some (.frz o (.dK ws)) ∧ CompW (It d o ws) g (tT X.K rx W0 c) (tI X.K rx W0 me) (own.map (·.2)) σ (fun v H => UnlQ X (Q v) H) H1) ∨ ∃ d ws, H1 d = some (.dK ws) ∧ ∀ od, NB X d → ∃ d' o ws', v = .ref d' ∧ upd H1 d (.frz od (.dK ws)) d' = some (.frz o (.dK ws')) ∧ CompW (It d' o ws') g (tT X.K rx W0 c) (tI X.K rx W0 me) (own.map (·.2)) σ (fun v H => UnlQ X (Q v) H) (upd H1 d (.frz od (.dK ws))) := fun kvs a ws ev na rd rk h2 => by
    rcases rd with rd | ⟨o, rd⟩
    · refine .inr ⟨a, ws, rd, fun od nb => ⟨a, od, ws, ev, upd_same, ?_⟩⟩
      have k := lk_lock (od := od) rd
      have sL : RS X.K ρ1 (upd H1 a (.frz od (.dK ws))) S1 := s1.lkOut k fun b hb => upd_ne fun z => na (by rw [← z]; exact hb)
      exact comp_go (rx := rx) (W := W) ht' gw (l1.lk k) sL (w.src upd_same (RVK.lk k _ _ rk)) (comp_noExc h2 fun fl S2 q => qe_unl e1 rd nb (fun ρ' H' e' hf' s' => s'.lkOut (lk_unlock hf') fun b hb => upd_ne fun z => (ext_notin e' rd na) (by rw [← z]; exact hb)) q)
    · exact .inl ⟨a, o, ws, ev, rd, comp_go (rx := rx) (W := W) ht' gw l1 s1 (w.src rd rk) (h2.imp fun fl S2 q ρ' H' v e s r => .inl (q ρ' H' v (e1.trans e) s r))⟩
  cases x with
  | ref k =>
    obtain ⟨a, ha, rfl⟩ := r1.ref
    dsimp only at h1
    split at h1
    · rename_i kvs hk
      obtain ⟨ws, h3, h4, h5⟩ := s1.at_ k a _ ha hk
      refine .inr ⟨a, ws, h3, fun od nb => ⟨a, od, ws, rfl, upd_same, ?_⟩⟩
      have kk := lk_lock (od := od) h3
      have eL := ext_lockRef (od := od) h3 (List.mem_of_getElem? ha)
      have sL : RS X.K ρ1 (upd H1 a (.frz od (.dK ws))) (S1.set k (.fz kvs)) := s1.lkAt kk ha ⟨ws, ⟨od, upd_same⟩, RVK.lk kk _ _ h4, h5⟩
      refine comp_go (Q := fun v H => UnlQ X (Q v) H) (rx := rx) (W := W) ht' gw (l1.lk kk) sL (w.src upd_same (RVK.lk kk _ _ h4)) ((h1.bind.shift eL).imp fun fl S2 q => ?_)
      refine qe_unl e1 h3 nb (fun ρ' H' e' hf' s' => ?_) q
      have ha' : ρ'[k]? = some a := by
        obtain ⟨t', rfl⟩ := e'.pre
        rw [List.getElem?_append_left (List.getElem?_eq_some_iff.mp ha).1]; exact ha
      exact s'.lkAt (lk_unlock hf') ha' ⟨ws, upd_same, RVK.mono e' _ _ h4, h5⟩
    · rename_i kvs hk
      obtain ⟨ws, ⟨o, h3⟩, h4, h5⟩ := s1.at_ k a _ ha hk
      exact .inl ⟨a, o, ws, rfl, h3, comp_go (Q := fun v H => UnlQ X (Q v) H) (rx := rx) (W := W) ht' gw l1 s1 (w.src h3 h4) (h1.imp fun fl S2 q ρ' H' v e s r => .inl (q ρ' H' v (e1.trans e) s r))⟩
    · exact False.elim h1
  | dk kvs =>
    simp only [RV] at r1
    obtain ⟨a, ws, ev, na, rd, rk⟩ := r1
    exact val kvs a ws ev na rd rk h1
  | fz kvs =>
    simp only [RV] at r1
    obtain ⟨a, ws, ev, na, rd, rk⟩ := r1
    exact val kvs a ws ev na rd rk h1
  | _ => exact False.elim h1
end
end Y
/-! x += e; tuples repeated; more of dicts; is True. -/
namespace Y
open PySem L2 PyProof.Rows
/-- x += e, x -= e: numbers -/
def augA (i : Nat) (f : Int → Int → Int) (e : ME) : MS := fun l S => match l[i]? with
  | some (some (.int a)) => (e l S).bind fun y S1 => (match y with
    | .int b => .ok (.nx (l.set i (some (.int (f a b))))) S1
    | _ => .bad)
  | _ => .bad
def repV (S : Sto) (x y : DV) : Option DV := match x, y with
  | .tup xs, .int k => if xs ≠ [] ∧ 2 ≤ k ∧ k ≤ 1000 ∧ xs.length ≤ 1000 then some (.tup (List.replicate k.toNat xs).flatten) else none
  | _, _ => none
/-- a tuple, so often -/
def rep : ME → ME → ME := op2 repV
/-- d.get(k) -/
def getE1 (a k : ME) : ME := fun l S => (a l S).bind fun u S1 => if (dkOf S1 u).isSome = true then (k l S1).bind fun j S3 => (match dkOf S3 u, keyOf j with
  | some kvs, some j => .ok ((getK kvs j).getD .non) S3
  | _, _ => .bad) else .bad
/-- d.setdefault(k, x) -/
def setdE (a k x : ME) : ME := fun l S => (a l S).bind fun u S1 => if (dkOf S1 u).isSome = true then (k l S1).bind fun j S2 => (x l S2).bind fun z S3 => (match u, keyOf j with
  | .ref i, some j => match S3[i]? with
    | some (.dk kvs) => if kvs.length < LIM ∧ noRef z = true then (match getK kvs j with
      | some d => .ok d S3
      | none => .ok z (S3.set i (.dk (putD kvs j z)))) else .bad
    | _ => .bad
  | _, _ => .bad) else .bad
def listXV (S : Sto) (x : DV) : Option DV := match dkOf S x with
  | some kvs => some (.lst (dKeys kvs))
  | none => listV S x
/-- list(x), x a dict too -/
def listX : ME → ME := op1 listXV
def isBV (x y : DV) : Option Bool := match x, y with
  | .bl a, .bl b => some (decide (a = b))
  | _, _ => none
def isB : ME → ME → ME := op2 fun _ x y => (isBV x y).map .bl
section
variable {X : Cx} {rx : Rx} {W : WX} {a b e i : Expr} {ma mb me mi : ME} {pos : Pos}
theorem aug_rule (i : Nat) {x : Str} {pos' : Pos} {op : Operator} {f : Int → Int → Int} (ho : PIp X op (ipI f)) (hN : X.N.Nodup) (he : IE X rx W e me) (hi : X.N[i]? = some x := by rfl) (hx : Loc X.env.scope x := by first | exact Or.inl rfl | exact Or.inr rfl)
    (hf : X.fn x = true ∨ X.env.scope.names.lookup x = some .local := by first | exact .inl rfl | exact .inr rfl) : IS X rx W (.AugAssign (.Name x pos') op e pos) (augA i f me) := by
  refine ps_imp (ps_aug hN hi hx he ho hf) fun D σ H ⟨ρ, l, S, hl, hs, h⟩ => ?_
  unfold augA at h
  split at h
  · rename_i n hn
    obtain ⟨v, h1, h2⟩ := hl.at_ i _ hn
    refine ⟨v, h1, ?_⟩
    refine bindI hl hs h fun ρ1 H1 y S1 u e1 s1 l1 r1 h1 => ?_
    split at h1
    · rename_i m
      rw [h2.int, r1.int]
      exact ⟨n, m, rfl, rfl, h1 ρ1 H1 _ e1 s1 (l1.set i (by simp [RV]))⟩
    · exact False.elim h1
  · exact False.elim h
theorem v_augAdd (i : Nat) {x : Str} {pos' : Pos} (hN : X.N.Nodup) (he : IE X rx W e me) (hi : X.N[i]? = some x := by rfl) (hx : Loc X.env.scope x := by first | exact Or.inl rfl | exact Or.inr rfl)
    (hf : X.fn x = true ∨ X.env.scope.names.lookup x = some .local := by first | exact .inl rfl | exact .inr rfl) : IS X rx W (.AugAssign (.Name x pos') .Add e pos) (augA i (fun a b => a + b) me) := aug_rule i ip_add hN he hi hx hf
theorem v_augSub (i : Nat) {x : Str} {pos' : Pos} (hN : X.N.Nodup) (he : IE X rx W e me) (hi : X.N[i]? = some x := by rfl) (hx : Loc X.env.scope x := by first | exact Or.inl rfl | exact Or.inr rfl)
    (hf : X.fn x = true ∨ X.env.scope.names.lookup x = some .local := by first | exact .inl rfl | exact .inr rfl) : IS X rx W (.AugAssign (.Name x pos') .Sub e pos) (augA i (fun a b => a - b) me) := aug_rule i ip_sub hN he hi hx hf
theorem RVs.rep {K : PySem.W.Frag} {ρ : List Addr} {H : Hp} {xs : List DV} {vs : List V} (r : RVs K ρ H xs vs) : ∀ n : Nat, RVs K ρ H (List.replicate n xs).flatten (List.replicate n vs).flatten
  | 0 => by simp [RVs]
  | n + 1 => by
    rw [List.replicate_succ, List.replicate_succ, List.flatten_cons, List.flatten_cons]
    exact r.append (RVs.rep r n)
theorem v_rep (ha : IE X rx W a ma) (hb : IE X rx W b mb) : IE X rx W (.BinOp a .Mult b pos) (rep ma mb) := by
  refine v_op op_repT (fun {ρ H S x y d v u Q} s rx' ry e q => ?_) ha hb
  unfold repV at e
  split at e
  · rename_i xs k
    split at e
    · rename_i hz
      cases e
      obtain ⟨p, vs, rfl, h1, h2⟩ := rx'.tup
      have hl := h2.length
      refine ⟨p, k, vs, rfl, ry.int, h1, fun z => hz.1 (List.eq_nil_of_length_eq_zero (by rw [hl, z]; rfl)), hz.2.1, hz.2.2.1, by rw [← hl]; exact hz.2.2.2, fun t ht => ?_⟩
      exact q ρ _ _ (ext_new ht) (s.new ht) (rv_newT ht (h2.rep k.toNat))
    · cases e
  · cases e
theorem v_getE1 {apos cpos : Pos} {ky : Expr} {mk : ME} (hu : X.A.units + 1 < cLine) (ha : IE X rx W a ma) (hk : IE X rx W ky mk) (hbase : attributeBase a "get" X.env (eval a X.env) = eval a X.env := by rfl)
    (hfew : ((backTo cpos (starEach [ky] X.env)).all (fun x => !x.1) && (backToKw cpos (keywordEach [] X.env)).all (fun x => x.1.isSome)
      && decide (([ky] : List Expr).length + ([] : List Keyword).length + (if ([] : List Keyword).isEmpty then 0 else 1) < 30)) = true := by rfl)
    (hline : (apos.endLine == cpos.line) = true := by rfl) (ht : backTo cpos (starEach [ky] X.env) = [(false, eval ky X.env)] := by rfl) : IE X rx W (.Call (.Attribute a "get" apos) [ky] [] cpos) (getE1 ma mk) := by
  refine pe_imp (pe_dget1 hu ha hk ⟨hbase, hfew, hline, ht⟩) fun σ H Q ⟨ρ, l, S, hl, hs, h⟩ => ?_
  refine bindI hl hs h fun ρ1 H1 u S1 v e1 s1 l1 r1 h1 => ?_
  split at h1
  · rename_i hd
    obtain ⟨kvs, ed⟩ := Option.isSome_iff_exists.mp hd
    obtain ⟨p, ws, rfl, hp, _⟩ := r1.dkOf s1 ed
    refine ⟨p, rfl, .inl ⟨ws, hp⟩, ?_⟩
    refine bindI l1 s1 h1 fun ρ2 H2 j S2 w e2 s2 l2 r2 h2 => ?_
    split at h2
    · rename_i kvs' j' ed' ej
      obtain ⟨p', o, e', _, g, hg⟩ := dget_of s2 (r1.mono e2) r2 ed' ej
      cases e'
      refine ⟨o, g, h2 ρ2 H2 _ (e1.trans e2) s2 ?_⟩
      cases eg : getK kvs' j' with
      | none =>
        rw [eg] at hg
        rw [hg]
        simp [RV]
      | some d =>
        rw [eg] at hg
        obtain ⟨w', rfl, rw'⟩ := hg
        exact rw'
    · exact False.elim h2
  · exact False.elim h1
theorem v_setdE {apos cpos : Pos} {ky x : Expr} {mk mx : ME} (ha : IE X rx W a ma) (hk : IE X rx W ky mk) (hx : IE X rx W x mx) (hbase : attributeBase a "setdefault" X.env (eval a X.env) = eval a X.env := by rfl)
    (hfew : ((backTo cpos (starEach [ky, x] X.env)).all (fun x => !x.1) && (backToKw cpos (keywordEach [] X.env)).all (fun x => x.1.isSome)
      && decide (([ky, x] : List Expr).length + ([] : List Keyword).length + (if ([] : List Keyword).isEmpty then 0 else 1) < 30)) = true := by rfl)
    (hline : (apos.endLine == cpos.line) = true := by rfl) (ht : backTo cpos (starEach [ky, x] X.env) = [(false, eval ky X.env), (false, eval x X.env)] := by rfl) : IE X rx W (.Call (.Attribute a "setdefault" apos) [ky, x] [] cpos) (setdE ma mk mx) := by
  refine pe_imp (pe_dsetd ha hk hx ⟨hbase, hfew, hline, ht⟩) fun σ H Q ⟨ρ, l, S, hl, hs, h⟩ => ?_
  refine bindI hl hs h fun ρ1 H1 u S1 v e1 s1 l1 r1 h1 => ?_
  split at h1
  · rename_i hd
    obtain ⟨kvs, ed⟩ := Option.isSome_iff_exists.mp hd
    obtain ⟨p, ws, rfl, hp, _⟩ := r1.dkOf s1 ed
    refine ⟨p, rfl, .inl ⟨ws, hp⟩, ?_⟩
    refine bindI l1 s1 h1 fun ρ2 H2 j S2 w e2 s2 l2 r2 h2 => ?_
    refine bindI l2 s2 h2 fun ρ3 H3 z S3 y e3 s3 l3 r3 h3 => ?_
    split at h3
    · rename_i k j' ej
      split at h3
      · rename_i kvs' hk'
        split at h3
        · rename_i hn
          obtain ⟨p', hp', e'⟩ := ((r1.mono e2).mono e3).ref
          cases e'
          obtain ⟨ws', h4, h5, h6⟩ := s3.at_ k p _ hp' hk'
          have g := h5.get j'
          refine ⟨ws', j', h4, keyOf_v ej (r2.mono e3), by rw [← h5.length, ← LIM_eq]; exact hn.1, fun w' hw' => ?_, fun hw' => ?_⟩
          · cases eg : getK kvs' j' with
            | none => rw [eg] at g; rw [g] at hw'; cases hw'
            | some d =>
              rw [eg] at g h3
              obtain ⟨w2, hw2, rw2⟩ := g
              rw [hw2] at hw'
              cases hw'
              exact h3 ρ3 H3 _ (e1.trans (e2.trans e3)) s3 rw2
          · cases eg : getK kvs' j' with
            | some d =>
              rw [eg] at g
              obtain ⟨w2, hw2, rw2⟩ := g
              rw [hw2] at hw'
              cases hw'
            | none =>
              rw [eg] at h3
              have ew : Ext ρ3 H3 ρ3 (upd H3 p (.dK (putK ws' j' y))) := ext_write s3 (List.mem_of_getElem? hp') (Live.d h4)
              exact h3 ρ3 _ _ (e1.trans (e2.trans (e3.trans ew))) (s3.write (d := .dk (putD kvs' j' z)) hp' (Live.d h4) ⟨_, upd_same, RVK.mono ew _ _ (h5.put j' r3), noRefK_put h6 hn.2⟩) (RV.mono ew _ _ r3)
        · exact False.elim h3
      · exact False.elim h3
    · exact False.elim h3
  · exact False.elim h1
theorem rvs_keys {K : PySem.W.Frag} {ρ : List Addr} {H : Hp} : ∀ {kvs : List (Key × DV)} {ws : List (Key × V)}, RVK K ρ H kvs ws → RVs K ρ H (dKeys kvs) (ws.map fun kv => kV kv.1)
  | [], ws, h => by simp only [RVK] at h; subst h; simp [dKeys, RVs]
  | (k, x) :: r, ws, h => by
    simp only [RVK] at h
    obtain ⟨v, t, rfl, h1, h2⟩ := h
    exact RVs.cons (rv_key k) (rvs_keys h2)
theorem v_listX {p : Pos} (hc : X.calm = true) (hm : X.mg "list" = none) (ha : IE X rx W a ma) (hg : Gl X "list" := by rfl) (hs : starEach [a] X.env = (false, eval a X.env) :: starEach [] X.env := by rfl) (hpl : (backTo pos (starEach [] X.env)).any (·.1) = false := by rfl) :
    IE X rx W (.Call (.Name "list" p) [a] [] pos) (listX ma) := by
  have h0 := v_list (p := p) (rx := rx) (W := W) hm ha hg hs hpl
  refine pe_imp (pe_or2 h0 (bi_rule (f := fun S x => (dkOf S x).map fun kvs => .lst (dKeys kvs)) (pe_callTy (call_listD hc) hg hm (by decide +kernel) (v_cons ha v_nil hs) (by decide) (by decide) hs hpl) fun {ρ H S x d v Q} s r h q => by
    cases ed : dkOf S x with
    | none => rw [ed] at h; cases h
    | some kvs =>
      rw [ed] at h
      cases h
      obtain ⟨p, ws, rfl, h1, h2⟩ := r.dkOf s ed
      exact ⟨p, ws, rfl, h1, fun t ht => q ρ _ _ (ext_new ht) (s.new ht) (rv_newL s ht (rvs_keys h2))⟩)) fun σ H Q ⟨ρ, l, S, hl, hs', h⟩ => ?_
  cases ea : ma l S with
  | bad => exact .inl ⟨ρ, l, S, hl, hs', by have : listX ma l S = listE ma l S := (by show (ma l S).bind _ = (ma l S).bind _; rw [ea]; rfl); rw [← this]; exact h⟩
  | exc c x l' S' => exact .inl ⟨ρ, l, S, hl, hs', by have : listX ma l S = listE ma l S := (by show (ma l S).bind _ = (ma l S).bind _; rw [ea]; rfl); rw [← this]; exact h⟩
  | ok x S1 =>
    cases ed : dkOf S1 x with
    | none =>
      refine .inl ⟨ρ, l, S, hl, hs', ?_⟩
      have : listX ma l S = listE ma l S := by
        show (ma l S).bind _ = (ma l S).bind _
        rw [ea]
        show Out.of (listXV S1 x) S1 = Out.of (listV S1 x) S1
        unfold listXV
        rw [ed]
        all_goals rfl
      rw [← this]; exact h
    | some kvs =>
      refine .inr ⟨ρ, l, S, hl, hs', ?_⟩
      have : listX ma l S = op1 (fun S x => (dkOf S x).map fun kvs => .lst (dKeys kvs)) ma l S := by
        show (ma l S).bind _ = (ma l S).bind _
        rw [ea]
        show Out.of (listXV S1 x) S1 = Out.of ((dkOf S1 x).map fun kvs => DV.lst (dKeys kvs)) S1
        unfold listXV
        rw [ed]
        all_goals rfl
      rw [← this]; exact h
theorem isB_shape {S : Sto} {x y : DV} {c : Bool} (h : isBV x y = some c) : ∃ a b, x = .bl a ∧ y = .bl b ∧ c = decide (a = b) := by
  unfold isBV at h
  split at h
  · cases h; exact ⟨_, _, rfl, rfl, rfl⟩
  · cases h
theorem v_isB (ha : IE X rx W a ma) (hb : IE X rx W b mb) (hm : behindInMarks .Is b = false := by rfl) : IE X rx W (.Compare a [.Is] [b] pos) (isB ma mb) :=
  v_cmp (f := fun _ => isBV) (g := fun c => c) op_is_bl hm (fun {ρ H S x y c v u Q} s r1 r2 h q => by
    obtain ⟨p, q', rfl, rfl, rfl⟩ := isB_shape (S := S) h
    exact ⟨p, q', r1.bl, r2.bl, q⟩) ha hb
theorem v_tisB (ha : IE X rx W a ma) (hb : IE X rx W b mb) (hm : behindInMarks .Is b = false := by rfl) : IT X rx W (.Compare a [.Is] [b] pos) (tst (isB ma mb)) :=
  v_tcmp (f := fun _ => isBV) (g := fun c => c) op_is_bl hm (fun {ρ H S x y c v u Q} s r1 r2 h q => by
    obtain ⟨p, q', rfl, rfl, rfl⟩ := isB_shape (S := S) h
    exact ⟨p, q', r1.bl, r2.bl, q⟩) ha hb
end
end Y
/-! len, sorted of dicts and lists; clear; min, max of two; str(int). -/
namespace Y
open PySem L2 PyProof.Rows
section
variable {X : Cx} {rx : Rx} {W : WX} {a b e i : Expr} {ma mb me mi : ME} {pos : Pos}
/-- an operation on a dict, or on another thing -/
def dkOr (g : List (Key × DV) → Option DV) (f : Sto → DV → Option DV) (S : Sto) (x : DV) : Option DV := match dkOf S x with
  | some kvs => g kvs
  | none => f S x
theorem v_dkOr {g : List (Key × DV) → Option DV} {f : Sto → DV → Option DV} (h0 : IE X rx W e (op1 f ma)) (h1 : IE X rx W e (op1 (fun S x => match dkOf S x with | some kvs => g kvs | none => none) ma)) : IE X rx W e (op1 (dkOr g f) ma) := by
  refine pe_imp (pe_or2 h0 h1) fun σ H Q ⟨ρ, l, S, hl, hs', h⟩ => ?_
  cases ea : ma l S with
  | bad => exact .inl ⟨ρ, l, S, hl, hs', by have : op1 (dkOr g f) ma l S = op1 f ma l S := (by show (ma l S).bind _ = (ma l S).bind _; rw [ea]; rfl); rw [← this]; exact h⟩
  | exc c x l' S' => exact .inl ⟨ρ, l, S, hl, hs', by have : op1 (dkOr g f) ma l S = op1 f ma l S := (by show (ma l S).bind _ = (ma l S).bind _; rw [ea]; rfl); rw [← this]; exact h⟩
  | ok x S1 =>
    cases ed : dkOf S1 x with
    | none =>
      refine .inl ⟨ρ, l, S, hl, hs', ?_⟩
      have : op1 (dkOr g f) ma l S = op1 f ma l S := by
        show (ma l S).bind _ = (ma l S).bind _
        rw [ea]
        show Out.of (dkOr g f S1 x) S1 = Out.of (f S1 x) S1
        unfold dkOr
        rw [ed]
        all_goals rfl
      rw [← this]; exact h
    | some kvs =>
      refine .inr ⟨ρ, l, S, hl, hs', ?_⟩
      have : op1 (dkOr g f) ma l S = op1 (fun S x => match dkOf S x with | some kvs => g kvs | none => none) ma l S := by
        show (ma l S).bind _ = (ma l S).bind _
        rw [ea]
        show Out.of (dkOr g f S1 x) S1 = Out.of (match dkOf S1 x with | some kvs => g kvs | none => none) S1
        unfold dkOr
        rw [ed]
        all_goals rfl
      rw [← this]; exact h
def lenX : ME → ME := op1 (dkOr (fun kvs => some (.int kvs.length)) lenV)
theorem v_lenX {p : Pos} (hm : X.mg "len" = none) (ha : IE X rx W a ma) (hg : Gl X "len" := by rfl) (hs : starEach [a] X.env = (false, eval a X.env) :: starEach [] X.env := by rfl) (hpl : (backTo pos (starEach [] X.env)).any (·.1) = false := by rfl) :
    IE X rx W (.Call (.Name "len" p) [a] [] pos) (lenX ma) :=
  v_dkOr (v_len (p := p) hm ha hg hs hpl) (bi_rule (pe_callB (r := fun xs H Q => ∃ a kvs, xs = [V.ref a] ∧ Rd H a (.dK kvs) ∧ Q (.int kvs.length) H) (fun pins s σ H xs us Q I r ⟨a, kvs, ex, ha, q⟩ => by
    subst ex
    obtain ⟨u, rfl, ru⟩ := vals1 r
    cases ru
    exact d_len I ha fun t s' I' => ⟨.int kvs.length, H, I', ⟨t, rfl⟩, q⟩) hg hm PySem.boot_len (v_cons ha v_nil hs) (by decide) (by decide) hs hpl) fun {ρ H S x d v Q} s r h q => by
    split at h
    · rename_i kvs ed
      cases h
      obtain ⟨p, ws, rfl, h1, h2⟩ := r.dkOf s ed
      exact ⟨p, ws, rfl, h1, by rw [← h2.length]; exact q ρ H _ .refl s (by simp [RV])⟩
    · cases h)
def sortLV (S : Sto) (x : DV) : Option DV := match lstOf S x with
  | some xs => match strsOf xs with
    | some ks => if ks.length < 64 then some (.lst ((sortS ks).map .str)) else none
    | none => none
  | none => none
/-- sorted(x): a dict's keys, a list; texts -/
def sortX : ME → ME := op1 (dkOr (fun kvs => match strs? kvs with
    | some ks => if ks.length < 64 then some (.lst ((sortS ks).map .str)) else none
    | none => none) sortLV)
theorem v_sortX {p : Pos} (hc : X.calm = true) (hm : X.mg "sorted" = none) (ha : IE X rx W a ma) (hg : Gl X "sorted" := by rfl) (hs : starEach [a] X.env = (false, eval a X.env) :: starEach [] X.env := by rfl) (hpl : (backTo pos (starEach [] X.env)).any (·.1) = false := by rfl) :
    IE X rx W (.Call (.Name "sorted" p) [a] [] pos) (sortX ma) :=
  v_dkOr (bi_rule (pe_callB cr_sortedS hg hm (by decide +kernel) (v_cons ha v_nil hs) (by decide) (by decide) hs hpl) fun {ρ H S x d v Q} s r h q => by
    unfold sortLV at h
    split at h
    · rename_i xs ex
      split at h
      · rename_i ks ek
        split at h
        · rename_i hl
          cases h
          obtain ⟨p, vs, rfl, h1, h2⟩ := r.lstOf s ex
          obtain rfl := h2.strsOf ek
          refine ⟨p, ks, rfl, SqL.of h1, hl, fun ys t hp hy ht => ?_⟩
          rw [sortS_eq hp (sortedS_all hy)]
          exact q ρ _ _ (ext_new ht) (s.new ht) (rv_newL s ht (rvs_strs _))
        · cases h
      · cases h
    · cases h) (bi_rule (pe_callB (call_sortedD hc) hg hm (by decide +kernel) (v_cons ha v_nil hs) (by decide) (by decide) hs hpl) fun {ρ H S x d v Q} s r h q => by
    split at h
    · rename_i kvs ed
      split at h
      · rename_i ks es
        split at h
        · rename_i hl
          cases h
          obtain ⟨p, ws, rfl, h1, h2⟩ := r.dkOf s ed
          refine ⟨p, ws, ks, rfl, h1, h2.strs es, hl, fun ys t hp hy ht => ?_⟩
          rw [sortS_eq hp (sortedS_all hy)]
          exact q ρ _ _ (ext_new ht) (s.new ht) (rv_newL s ht (rvs_strs _))
        · cases h
      · cases h
    · cases h)
/-- d.clear() -/
def clrD (a : ME) : MS := fun l S => (a l S).bind fun x S1 => match x with
  | .ref k => match S1[k]? with
    | some (.dk _) => .ok (.nx l) (S1.set k (.dk []))
    | _ => .bad
  | _ => .bad
theorem v_clrD {apos cpos : Pos} (ha : IE X rx W a ma) (hbase : attributeBase a "clear" X.env (eval a X.env) = eval a X.env := by rfl) (hline : (apos.endLine == cpos.line) = true := by rfl) (hsw : swapsWith (.Call (.Attribute a "clear" apos) [] [] cpos) none pos.line X.env = pure false := by rfl) :
    IS X rx W (.Expr (.Call (.Attribute a "clear" apos) [] [] cpos) pos) (clrD ma) := by
  refine ps_imp (ps_expr (pe_dclear ha hbase hline) hsw) fun D σ H ⟨ρ, l, S, hl, hs, h⟩ => ?_
  refine bindI hl hs h fun ρ1 H1 x S1 v e1 s1 l1 r1 h1 => ?_
  split at h1
  · rename_i k
    split at h1
    · rename_i kvs hk
      obtain ⟨p, hp, rfl⟩ := r1.ref
      obtain ⟨ws, h3, h4, h5⟩ := s1.at_ k p _ hp hk
      have ew : Ext ρ1 H1 ρ1 (upd H1 p (.dK [])) := ext_write s1 (List.mem_of_getElem? hp) (Live.d h3)
      exact ⟨.inr (.inr (.inl ⟨rfl, .inl ⟨ws, h3⟩⟩)), p, ws, rfl, rfl, h3, h1 ρ1 _ σ (e1.trans ew) (s1.write (d := .dk []) hp (Live.d h3) ⟨[], upd_same, by simp [RVK], rfl⟩) (l1.mono ew)⟩
    · exact False.elim h1
  · exact False.elim h1
/-- xs.clear() -/
def clrL (a : ME) : MS := fun l S => (a l S).bind fun x S1 => match x with
  | .ref k => match S1[k]? with
    | some (.lst _) => .ok (.nx l) (S1.set k (.lst []))
    | _ => .bad
  | _ => .bad
theorem v_clrL {apos cpos : Pos} (ha : IE X rx W a ma) (hbase : attributeBase a "clear" X.env (eval a X.env) = eval a X.env := by rfl) (hline : (apos.endLine == cpos.line) = true := by rfl) (hsw : swapsWith (.Call (.Attribute a "clear" apos) [] [] cpos) none pos.line X.env = pure false := by rfl) :
    IS X rx W (.Expr (.Call (.Attribute a "clear" apos) [] [] cpos) pos) (clrL ma) := by
  refine ps_imp (ps_expr (pe_bm0 PySem.F.plainAttrs_list PySem.F.slot_list_clear PySem.F.type_list_clear mt_clear ha hbase hline) hsw) fun D σ H ⟨ρ, l, S, hl, hs, h⟩ => ?_
  refine bindI hl hs h fun ρ1 H1 x S1 v e1 s1 l1 r1 h1 => ?_
  split at h1
  · rename_i k
    split at h1
    · rename_i xs hk
      obtain ⟨p, hp, rfl⟩ := r1.ref
      obtain ⟨vs, h3, h4, h5⟩ := s1.at_ k p _ hp hk
      have ew : Ext ρ1 H1 ρ1 (upd H1 p (.lst [])) := ext_write s1 (List.mem_of_getElem? hp) (Live.l h3)
      exact ⟨.inl ⟨rfl, _, SqL.of h3⟩, p, vs, rfl, rfl, h3, h1 ρ1 _ σ (e1.trans ew) (s1.write (d := .lst []) hp (Live.l h3) ⟨[], upd_same, by simp [RVs], rfl⟩) (l1.mono ew)⟩
    · exact False.elim h1
  · exact False.elim h1
end
end Y
/-! Texts walked sign by sign, and list(text). -/
namespace Y
open PySem L2 RZ PyProof.Rows
/-- the signs of a text, as texts -/
def signsD (z : Str) : List DV := z.cps.toList.map fun c => .str ⟨#[c]⟩
def sStr (a : ME) : MI := fun l S => (a l S).bind fun x S1 => match x with
  | .str z => .ok (signsD z, []) S1
  | _ => .bad
def listSV : DV → Option DV
  | .str z => if z.length ≤ LIM then some (.lst (signsD z)) else none
  | _ => none
def listS : ME → ME := op1 fun _ => listSV
theorem signs_len (z : Str) : (signsD z).length = z.cps.size := by simp [signsD]
theorem src_str {K : PySem.W.Frag} {ρ : List Addr} {H : Hp} (z : Str) : Src K ρ H (signsD z) [] (Its z) (fun _ => True) (fun i H v H' => H' = H ∧ ∃ c, z.cps[i]? = some c ∧ v = .str ⟨#[c]⟩) where
  walk := by
    have w := walk_str (z := z)
    rw [signs_len]
    exact w
  go := fun _ _ _ _ _ _ => trivial
  yl := fun ρ1 H1 S1 ex s1 hh i v H2 hi y => by
    obtain ⟨rfl, c, hc, rfl⟩ := y
    exact ⟨.str ⟨#[c]⟩, by simp [signsD, hc], by simp [RV], .refl, s1⟩
section
variable {X : Cx} {rx : Rx} {W : WX} {a tg : Expr} {ma : ME} {pos : Pos}
theorem s_str (ha : IE X rx W a ma) : II X rx W tg a (sStr ma) := by
  refine pi_imp (pi_str ha) fun σ H R ⟨ρ, l, S, hl, hs, h⟩ => ?_
  refine bindI hl hs h fun ρ1 H1 x S1 v e1 s1 l1 r1 h1 => ?_
  split at h1
  · rename_i z
    exact ⟨z, r1.str, h1 ρ1 H1 _ _ _ e1 s1 (src_str z)⟩
  · exact False.elim h1
theorem call_listS (hc : X.calm = true) : CallR X (.type "list") (fun xs H Q => ∃ z : Str, xs = [.str z] ∧ z.cps.size ≤ sizeLine ∧ ∀ q, H q = none → Q (.ref q) (upd H q (.lst (z.cps.toList.map fun c => V.str ⟨#[c]⟩)))) := by
  intro pins s σ H xs us Q I r h
  obtain ⟨z, e, hz, q⟩ := h
  subst e
  obtain ⟨u, eu, rx⟩ := vals1 r
  subst eu
  obtain ⟨t, rfl⟩ : ∃ t, u = Value.str z t := rx
  refine call_list_str (I.ok.hd hc) z t (fun h' tk acc' c' hkeep hS hacc => ?_) hz
  refine ⟨.ref s.heap.objs.size, upd H s.heap.objs.size (.lst (z.cps.toList.map fun c => V.str ⟨#[c]⟩)), I.laid hkeep (Nat.le_refl _) (show ObjOk X.prog X.w _ _ _ (.lst (z.cps.toList.map fun c => V.str ⟨#[c]⟩)) from ⟨?_, acc'.toList, c', ?_, ?_⟩), rfl, q _ (I.hok.fresh (Nat.le_refl _))⟩
  · rw [List.length_map, Array.length_toList]; exact hz
  · have el : acc'.toList.length = acc'.size := by simp
    refine vals_of_at (by rw [List.length_map, el, hacc.1, Array.length_toList]) fun j x w h1 h2 => ?_
    obtain ⟨c, t, hcx, e⟩ := hacc.2 j w (by rw [← Array.getElem?_toList]; exact h2)
    rw [List.getElem?_map, Array.getElem?_toList, hcx] at h1
    cases h1
    exact ⟨t, e⟩
  · rw [Array.toArray_toList]; exact hS
theorem v_listS {p : Pos} (hc : X.calm = true) (hm : X.mg "list" = none) (ha : IE X rx W a ma) (hg : Gl X "list" := by rfl) (hs : starEach [a] X.env = (false, eval a X.env) :: starEach [] X.env := by rfl) (hpl : (backTo pos (starEach [] X.env)).any (·.1) = false := by rfl) :
    IE X rx W (.Call (.Name "list" p) [a] [] pos) (listS ma) :=
  bi_rule (pe_callTy (call_listS hc) hg hm (by decide +kernel) (v_cons ha v_nil hs) (by decide) (by decide) hs hpl) fun {ρ H S x d v Q} s r h q => by
    unfold listSV at h
    split at h
    · rename_i z
      split at h
      · rename_i hz
        cases h
        refine ⟨z, by rw [r.str], by rw [← LIM_eq]; exact hz, fun t ht => q ρ _ _ (ext_new ht) (s.new ht) (rv_newL s ht ?_)⟩
        have : ∀ cs : List Nat, RVs X.K ρ H (cs.map fun c => DV.str ⟨#[c]⟩) (cs.map fun c => V.str ⟨#[c]⟩) := fun cs => by
          induction cs with
          | nil => simp [RVs]
          | cons c cs ih => exact RVs.cons (by simp [RV]) ih
        exact this _
      · cases h
    · cases h
end
end Y
/-! tuple(reversed(a tuple)). -/
namespace RT
open PySem PySem.Spec PyProof.Rows RT
theorem nolen_rt : typeLookup (.type "reversed") "__len__" = pure none := by rw [typeLookup_type, builtinLookup_eq_fast]; kernel_rfl
theorem slot_rt_hint : Slot "reversed" "__length_hint__" "reversed.__length_hint__" :=
  .of (owner := "reversed") (n := "__length_hint__") (by rw [typeLookup_type, builtinLookup_eq_fast]; kernel_rfl) (by decide +kernel) (by decide +kernel) (by decide +kernel)
    (by first | exact .inl (by decide +kernel) | exact .inr (by decide +kernel)) (by rw [isSubtype_type]; kernel_rfl)
theorem entry_rt_hint : entryFor table "reversed.__length_hint__" = some Builtin.«reversed.__length_hint__» := entryFor_of_tree (by kernel_rfl)
theorem args_rt_hint (a : Value) : argsOk "reversed.__length_hint__" ⟨[a], []⟩ := by
  unfold argsOk; rw [signature?_of (id := "reversed.__length_hint__") (n := ['_', '_', 't', 'n', 'i', 'h', '_', 'h', 't', 'g', 'n', 'e', 'l', '_', '_']) (o := ['d', 'e', 's', 'r', 'e', 'v', 'e', 'r']) (by kernel_rfl) owner_rt]; kernel_rfl
section
variable {prog : Program} {w : World} {A : Around} {E : Value → Shared → Prop} {s : Shared}
theorem call_hint_rt {it t : Addr} {items : Array Value} {Q : Value → Shared → Prop} (hit : IsRt s.heap it t ((items.size : Int) - 1))
    (hlen : ∀ (A : Around) (E : Value → Shared → Prop) (Q : Value → Shared → Prop), Q (.int items.size (s.toks + 1)) { s with toks := s.toks + 1 + 1 } → wpAny (model prog w) A (call (.builtin "len") [.ref t]) Q E s)
    (hQ : ∀ k tk, s.toks ≤ tk → Q (.int items.size k) { s with toks := tk }) : wpAny (model prog w) A (call (.builtin "reversed.__length_hint__") [.ref it]) Q E s := by
  obtain ⟨o, ho, hc, hd⟩ := id hit
  refine wpAny_call_entry slot_rt_hint hit.typeIs entry_rt_hint ?_ (args_rt_hint _)
  unfold Builtin.«reversed.__length_hint__»
  refine wpAny_bind (wpAny_of_eq (a := Value.ref it) rfl ?_)
  try dsimp only
  refine wpAny_bind (wpAny_field ho hd (x := .ref t) rfl ?_)
  rw [if_neg (show ¬ ((Value.ref t == Value.none) = true) from Bool.false_ne_true)]
  refine wpAny_bind (hlen _ _ _ ?_)
  refine wpAny_bind (wpAny_of_eq (a := some ((items.size : Nat) : Int)) rfl ?_)
  try dsimp only
  refine wpAny_bind (wpAny_field (s := { s with toks := s.toks + 1 + 1 }) ho hd (x := rawInt ((items.size : Int) - 1)) rfl ?_)
  show wpAny _ _ (if (items.size : Int) < (items.size : Int) - 1 + 1 then _ else _) _ _ _
  rw [if_neg (by omega)]
  show wpAny _ _ (mkInt ((items.size : Int) - 1 + 1) >>= fun v => ret v) _ _ _
  have e : (items.size : Int) - 1 + 1 = (items.size : Int) := by omega
  rw [e]
  exact wpAny_bind (wpAny_mkInt (wpAny_pure ⟨_, rfl, hQ _ _ (by show s.toks ≤ s.toks + 1 + 1 + 1; omega)⟩))
theorem walks_rt (hh : A.handled = none) (I t : Addr) (hne : t ≠ I) (items : Array Value) (hn : items.size ≤ sizeLine) :
    Walks prog w A I [I, t] [I] items.size (fun i v => items[items.size - 1 - i]? = some v) (fun i h => i ≤ items.size ∧ IsRt h I t ((items.size : Int) - 1 - (i : Int)) ∧ IsTup h t items) where
  sub := fun b hb => by simp at hb; simp [hb]
  frame := fun _ _ _ x hk => ⟨x.1, x.2.1.at fun o e => hk I (by simp) o e, let ⟨o, ho, r⟩ := x.2.2; ⟨o, hk t (by simp) o ho, r⟩⟩
  item := fun i s Q E hi x hQ => by
    have e : (items.size : Int) - 1 - (i : Int) = ((items.size - 1 - i : Nat) : Int) := by omega
    have hit := x.2.1
    rw [e] at hit
    have hx : items[items.size - 1 - i]? = some (items[items.size - 1 - i]'(by omega)) := Array.getElem?_eq_getElem (by omega)
    refine next_rt_item hit x.2.2 hx hn fun h' hit' hs' => ?_
    have e2 : ((items.size - 1 - i : Nat) : Int) - 1 = (items.size : Int) - 1 - ((i + 1 : Nat) : Int) := by omega
    rw [e2] at hit'
    exact hQ _ h' _ hx ⟨hi, hit', let ⟨o, ho, r⟩ := x.2.2; ⟨o, (hs'.2 t hne).trans ho, r⟩⟩ fun b o hb eo => hs'.extBut b o (fun h => hb (by simp [h])) eo
  done := fun s Q E x hQ => by
    have e : (items.size : Int) - 1 - (items.size : Int) = -1 := by omega
    have hit := x.2.1
    rw [e] at hit
    exact next_rt_end hh hit fun h' he' => hQ h' s.toks fun b o hb eo => he' b o (fun h => hb (by simp [h])) eo
  self := fun _ _ _ _ x hQ => iter_rt x.2.1 hQ
theorem collect_rt {it t : Addr} {items : Array Value} {Q : List Value → Shared → Prop} (hh : A.handled = none) (hit : IsRt s.heap it t ((items.size : Int) - 1)) (ht : IsTup s.heap t items) (hne : t ≠ it) (hn : items.size ≤ sizeLine)
    (hlen : ∀ (s : Shared), IsTup s.heap t items → ∀ (A : Around) (E : Value → Shared → Prop) (Q : Value → Shared → Prop), Q (.int items.size (s.toks + 1)) { s with toks := s.toks + 1 + 1 } → wpAny (model prog w) A (call (.builtin "len") [.ref t]) Q E s)
    (hQ : ∀ (h' : Heap) (tk : Nat) (acc : Array Value), (∀ b o, b ≠ it → s.heap.get? b = some o → h'.get? b = some o) → ItemsOf (fun i v => items[items.size - 1 - i]? = some v) acc items.size → Q acc.toList { s with heap := h', toks := tk }) :
    wpAny (model prog w) A (collect (.ref it)) Q E s := by
  have W := (walks_rt (prog := prog) (w := w) (A := A.in1) hh it t hne items hn).toS
  obtain ⟨oi, hoi, _⟩ := id hit
  obtain ⟨ol, hol, _⟩ := id ht
  have hSi : s.heap.objs.size ≠ it := Nat.ne_of_gt (Heap.lt_size hoi)
  have hSl : s.heap.objs.size ≠ t := Nat.ne_of_gt (Heap.lt_size hol)
  have hSf : s.heap.objs.size ∉ [it, t] := by simp only [List.mem_cons, List.not_mem_nil, or_false, not_or]; exact ⟨hSi, hSl⟩
  unfold collect
  refine wpAny_bind (wpAny_runValue (codeAny_builtin F.entry_proto_collect ?_))
  rw [Around.under_plainId F.plain_proto_collect _]
  show wpAny _ A.in1 (newList [] >>= fun l' => again (.builtin "list.__iadd__" ⟨[l', .ref it], []⟩)) _ _ s
  refine wpAny_bind (wpAny_newObj_type ?_)
  refine wpAny_pure ⟨plainId_quiet F.plain_list_iadd _, codeAny_builtin F.entry_list_iadd ?_⟩
  rw [Around.under_plainId F.plain_list_iadd _]
  have hS₁ : (s.heap.push { cls := .type "list", data := .seq ([] : List Value).toArray }).get? s.heap.objs.size = some { cls := .type "list", data := .seq ([] : List Value).toArray } := Heap.get?_push_size _ rfl
  have hit1 : IsRt (s.heap.push { cls := .type "list", data := .seq ([] : List Value).toArray }) it t ((items.size : Int) - 1) := hit.at fun o e => Heap.get?_push_of_some _ e
  have ht1 : IsTup (s.heap.push { cls := .type "list", data := .seq ([] : List Value).toArray }) t items := let ⟨o, ho, r⟩ := ht; ⟨o, Heap.get?_push_of_some _ ho, r⟩
  have hT : ({ s with heap := s.heap.push { cls := .type "list", data := .seq ([] : List Value).toArray } } : Shared).TypeIs (.ref it) "reversed" := IsRt.typeIs (s := { s with heap := s.heap.push { cls := .type "list", data := .seq ([] : List Value).toArray } }) hit1
  have h1 : Builtin.List.listSameRef (.ref s.heap.objs.size) (.ref it) = false := by simp [Builtin.List.listSameRef, hSi]
  show wpAny _ A.in1 (Builtin.List.listExtendWith (.ref s.heap.objs.size) (.ref it) (.ref s.heap.objs.size)) _ _ _
  unfold Builtin.List.listExtendWith
  refine wpAny_bind (wpAny_typeOf hT ?_)
  rw [if_neg (by rw [h1]; decide)]
  refine wpAny_bind (iter_rt (s := { s with heap := s.heap.push { cls := .type "list", data := .seq ([] : List Value).toArray } }) hit1 ?_)
  refine wpAny_bind (wpAny_holding ?_)
  unfold Builtin.List.listLengthHint
  refine wpAny_bind (wpAny_specialOf hT nolen_rt ?_)
  show wpAny _ A.in1 (specialOf (Value.ref it) (Str.ofString "__length_hint__") >>= _) _ _ _
  refine wpAny_bind (wpAny_specialOf hT slot_rt_hint.lookup ?_)
  generalize hid : ("reversed.__length_hint__" : String) = id0
  wp_delta
  rw [show splitId id0 = some ("reversed", "__length_hint__") from by subst hid; decide +kernel]
  subst hid
  refine wpAny_bind (wpAny_isInstance (b := true) hT (by rw [isSubtype_type]; kernel_rfl) ?_)
  rw [if_neg (show ¬ ((!true) = true) by decide)]
  rw [if_neg]
  rotate_left
  · decide +kernel
  show wpAny _ A.in1 (rule "list.length-hint.hint" >>= _) _ _ _
  refine wpAny_bind (wpAny_rule ?_)
  refine wpAny_bind (wpAny_of_eq (slot_rt_hint.bind _) ?_)
  try dsimp only
  refine wpAny_bind (wpAny_attempt (call_hint_rt (s := { s with heap := s.heap.push { cls := .type "list", data := .seq ([] : List Value).toArray } }) hit1 (hlen _ ht1) fun k tk htk => ?_))
  have ea : asInt? (.int (items.size : Int) k) = pure (some (items.size : Int)) := rfl
  have fits : Builtin.List.listFitsIndex (items.size : Int) = true := by
    have := sizeLine_eq
    unfold Builtin.List.listFitsIndex
    rw [Bool.and_eq_true, decide_eq_true_iff, decide_eq_true_iff]
    omega
  have hneg : ¬ (items.size : Int) < 0 := by omega
  have long : Builtin.List.listTooLong (items.size : Int).toNat = false := by
    unfold Builtin.List.listTooLong
    rw [Int.toNat_natCast]
    exact decide_eq_false (by omega)
  simp only [ea, pure_bind, fits, Bool.not_true, Bool.false_eq_true, if_false, hneg, long]
  refine wpAny_pure ?_
  have e0 : ((items.size : Nat) : Int) - 1 - ((0 : Nat) : Int) = (items.size : Int) - 1 := by omega
  by_cases hz : items.size = 0
  · rw [if_neg]
    rotate_left
    · rw [hz]; decide +kernel
    refine wpAny_pure ⟨plainId_quiet F.plain_extend_loop _, codeAny_extend_loopS W hn _ hSf _ items.size 0 _ _ _ rfl (Nat.zero_le _) ⟨Nat.zero_le _, by rw [e0]; exact hit1, ht1⟩ hS₁ (ItemsOf.nil _) fun s' acc' c' hm hS' hacc => ?_⟩
    show wpAny _ A (load s.heap.objs.size >>= _) _ _ s'
    refine wpAny_bind (wpAny_load hS' ?_)
    refine wpAny_pure ?_
    rw [Moved.eq_with hm]
    refine hQ s'.heap s'.toks acc' (fun b o hb e => hm.heap b o (fun hmem => ?_) (Heap.get?_push_of_some _ e)) hacc
    rcases List.mem_cons.mp hmem with e' | hmem
    · exact absurd (Heap.lt_size e) (by rw [e']; exact Nat.lt_irrefl _)
    · exact hb (List.mem_singleton.mp hmem)
  · rw [if_pos]
    rotate_left
    · have : ((items.size : Int) != 0) = true := by rw [bne_iff_ne]; omega
      rw [this]; rfl
    show wpAny _ A.in1 (rule "list.extend.makes-room" >>= fun _ => Builtin.List.listTouch (.ref s.heap.objs.size) >>= fun _ =>
      again (.builtin "list.extend.loop" ⟨[.ref s.heap.objs.size, .ref it, .ref s.heap.objs.size], []⟩)) _ _ _
    refine wpAny_bind (wpAny_rule ?_)
    refine wpAny_bind ?_
    show wpAny _ A.in1 (updateSeq s.heap.objs.size (·.push .none) >>= fun _ => updateSeq s.heap.objs.size (·.pop)) _ _ _
    clear fits hneg long ea
    refine wpAny_bind (wpAny_updateSeq hS₁ rfl ?_ (Nat.zero_le _) (by show 1 ≤ sizeLine + 1; omega))
    have hS₂ := Heap.get?_update_self (Obj.mapSeq (·.push Value.none)) hS₁ rfl
    refine wpAny_updateSeq hS₂ rfl ?_ (by show 1 ≤ sizeLine; rw [sizeLine_eq]; omega) (Nat.zero_le _)
    have hS₃ := Heap.get?_update_self (Obj.mapSeq (·.pop)) hS₂ rfl
    have oth : ∀ b o, b ≠ s.heap.objs.size → (s.heap.push { cls := .type "list", data := .seq ([] : List Value).toArray }).get? b = some o →
        (((s.heap.push { cls := .type "list", data := .seq ([] : List Value).toArray }).update s.heap.objs.size (Obj.mapSeq (·.push Value.none))).update s.heap.objs.size (Obj.mapSeq (·.pop))).get? b = some o :=
      fun b o hb e => (Heap.get?_update_other _ _ (Ne.symm hb)).trans ((Heap.get?_update_other _ _ (Ne.symm hb)).trans e)
    refine wpAny_pure ⟨plainId_quiet F.plain_extend_loop _, codeAny_extend_loopS W hn _ hSf _ items.size 0 _ _ _ rfl (Nat.zero_le _)
      ⟨Nat.zero_le _, by rw [e0]; exact hit1.at fun o e => oth it o (Ne.symm hSi) e, let ⟨o, ho, r⟩ := ht1; ⟨o, oth t o (Ne.symm hSl) ho, r⟩⟩ hS₃ (ItemsOf.nil _) fun s' acc' c' hm hS' hacc => ?_⟩
    show wpAny _ A (load s.heap.objs.size >>= _) _ _ s'
    refine wpAny_bind (wpAny_load hS' ?_)
    refine wpAny_pure ?_
    rw [Moved.eq_with hm]
    refine hQ s'.heap s'.toks acc' (fun b o hb e => hm.heap b o (fun hmem => ?_) (oth b o (fun h => ?_) (Heap.get?_push_of_some _ e))) hacc
    · rcases List.mem_cons.mp hmem with e' | hmem
      · exact absurd (Heap.lt_size e) (by rw [e']; exact Nat.lt_irrefl _)
      · exact hb (List.mem_singleton.mp hmem)
    · exact absurd (Heap.lt_size e) (by rw [h]; exact Nat.lt_irrefl _)
theorem code_tuple_new_rt {it t : Addr} {items : Array Value} {Q₁ : Value → Shared → Prop} (hh : A.handled = none) (hit : IsRt s.heap it t ((items.size : Int) - 1)) (ht : IsTup s.heap t items) (hne : t ≠ it) (hn : items.size ≤ sizeLine)
    (hlen : ∀ (s : Shared), IsTup s.heap t items → ∀ (A : Around) (E : Value → Shared → Prop) (Q : Value → Shared → Prop), Q (.int items.size (s.toks + 1)) { s with toks := s.toks + 1 + 1 } → wpAny (model prog w) A (call (.builtin "len") [.ref t]) Q E s)
    (h : ∀ (h' : Heap) (tk : Nat) (acc : Array Value), (∀ b o, b ≠ it → s.heap.get? b = some o → h'.get? b = some o) → ItemsOf (fun i v => items[items.size - 1 - i]? = some v) acc items.size →
      Q₁ (.ref h'.objs.size) { s with heap := h'.push { cls := .type "tuple", data := .seq acc }, toks := tk }) :
    codeAny (model prog w) A (.call (.builtin "tuple.__new__") ⟨[.type "tuple", .ref it], []⟩) (wants Q₁ E) s := by
  refine codeAny_of_tree ?_
  show wpAny _ A.in1 (do checkBuiltinCall "tuple.__new__" ⟨[.type "tuple", .ref it], []⟩; again (.builtin "tuple.__new__" ⟨[.type "tuple", .ref it], []⟩)) _ _ s
  refine wpAny_bind (wpAny_of_eq (F.newCall_tuple_1 _) (wpAny_pure ⟨plainId_quiet F.plain_tuple_new _, codeAny_builtin F.entry_tuple_new ?_⟩))
  rw [Around.under_plainId F.plain_tuple_new _]
  have hsub := sub_tuple_self
  have hinit := init_tuple_lookup
  have hmh := madeHere_tuple
  have hTI : s.TypeIs (.ref it) "reversed" := hit.typeIs
  have hh1 : A.in1.handled = none := hh
  wp_walk using wpAny_typeOf hTI, collect_rt (A := A.in1) hh1 hit ht hne hn hlen
  intro h' tk acc hk hacc
  show wpAny _ _ (Builtin.Tuple.tupleExact acc.toList.toArray >>= fun v => ret v) _ _ _
  unfold Builtin.Tuple.tupleExact
  refine wpAny_bind (wpAny_newObj_type ?_ (by show acc.toList.toArray.size ≤ sizeLine; simp only [Array.toArray_toList]; rw [hacc.1]; exact hn))
  refine wpAny_pure ?_
  have e : acc.toList.toArray = acc := by simp
  rw [e]
  exact h h' tk acc hk hacc
theorem call_tuple_rt {it t : Addr} {items : Array Value} {Q : Value → Shared → Prop} (hh : A.handled = none) (hit : IsRt s.heap it t ((items.size : Int) - 1)) (ht : IsTup s.heap t items) (hne : t ≠ it) (hn : items.size ≤ sizeLine)
    (hlen : ∀ (s : Shared), IsTup s.heap t items → ∀ (A : Around) (E : Value → Shared → Prop) (Q : Value → Shared → Prop), Q (.int items.size (s.toks + 1)) { s with toks := s.toks + 1 + 1 } → wpAny (model prog w) A (call (.builtin "len") [.ref t]) Q E s)
    (hQ : ∀ (h' : Heap) (tk : Nat) (acc : Array Value), (∀ b o, b ≠ it → s.heap.get? b = some o → h'.get? b = some o) → ItemsOf (fun i v => items[items.size - 1 - i]? = some v) acc items.size →
      Q (.ref h'.objs.size) { s with heap := h'.push { cls := .type "tuple", data := .seq acc }, toks := tk }) :
    wpAny (model prog w) A (call (.type "tuple") [.ref it]) Q E s := by
  refine callType_codes (Q₁ := fun obj s₁ => s₁.TypeIs obj "tuple" ∧ Q obj s₁) F.called_tuple (F.typeCall_tuple_1 _) F.entry_object_init
    (code_tuple_new_rt (A := A.in1) hh hit ht hne hn hlen fun h' tk acc hk hacc => ⟨⟨_, Heap.get?_push_size _ rfl, rfl⟩, hQ h' tk acc hk hacc⟩) fun obj s₁ h₁ => ?_
  exact ⟨h₁.1, F.args_object_init_2 obj _, object_init_meets F.called_tuple.init.lookup F.called_tuple.made (by decide) prog w A.in1 _ s₁ ⟨h₁.1, rfl, h₁.2⟩⟩
end
end RT
namespace RT
open PySem L2 PySem.Spec PyProof.Rows
/-- tuple(reversed(x)), x a tuple: a new tuple -/
def tTupRt (K : PySem.W.Frag) (te : TE) : TE := fun σ H Q => te σ H fun v H1 => ∃ (a : Addr) (xs : List V), v = .ref a ∧ SqT K H1 a xs ∧ ∀ q, H1 q = none → Q (.ref q) (upd H1 q (.tup xs.reverse))
theorem pe_tupRt {X : Cx} {e : Expr} {te : TE} {p p2 pos pos2 : Pos} (hc : X.calm = true) (hg : Gl X "tuple") (hm : X.mg "tuple" = none) (hg2 : Gl X "reversed") (hm2 : X.mg "reversed" = none) (he : PE X e te)
    (hs : starEach [e] X.env = (false, eval e X.env) :: starEach [] X.env := by rfl)
    (hs2 : starEach [.Call (.Name "reversed" p2) [e] [] pos2] X.env = (false, eval (.Call (.Name "reversed" p2) [e] [] pos2) X.env) :: starEach [] X.env := by rfl) :
    PE X (.Call (.Name "tuple" p) [.Call (.Name "reversed" p2) [e] [] pos2] [] pos) (tTupRt X.K te) := by
  refine ⟨fun pins s σ H Q I h => ?_⟩
  refine Call_ (ld_blt I hg hm boot_tuple (PyProof.Rows.callWith_type1 (args_cons (Call_ (ld_blt I hg2 hm2 PyProof.Rows.boot_reversed (PyProof.Rows.callWith_type1 (args_cons (thn (he.run pins s σ H _ I h) fun u s1 ⟨v, H1, I1, r1, q1⟩ => args_nil ?_) hs) hs rfl))) hs2) hs2 rfl))
  obtain ⟨a, xs, ev, hq, q⟩ := q1
  subst ev
  obtain rfl : u = Value.ref a := r1
  obtain ⟨its, rv, p', hz⟩ := I1.tuple hq
  have hl := rv.length
  have hn63 := line63
  refine call_reversed_tup p' (fun A E Q k => len_tuple p' (by simp only [List.size_toArray] <;> omega) k) (args_nil ?_)
  have k0 : ∀ b o, s1.heap.get? b = some o → (s1.heap.push (rtObj a ((its.toArray.size : Int) - 1))).get? b = some o := fun b o e => Heap.get?_push_of_some _ e
  have I2 : Inv X pins σ H1 { s1 with heap := s1.heap.push (rtObj a ((its.toArray.size : Int) - 1)), toks := s1.toks + 1 + 1 } := I1.kept (t' := s1.toks + 1 + 1) k0
  obtain ⟨f0, f1, f2, f3, f4, f5⟩ := I1.fpOk (H' := H1) (b := s1.heap.objs.size) (Nat.le_refl _) (I1.hok.fresh (Nat.le_refl _))
  obtain ⟨ol, hol, hrest⟩ := id p'
  have hne : a ≠ s1.heap.objs.size := Nat.ne_of_lt (Heap.lt_size hol)
  have hn : its.toArray.size ≤ sizeLine := by rw [List.size_toArray, ← rv.length]; exact hz
  refine call_tuple_rt (s := { s1 with heap := s1.heap.push (rtObj a ((its.toArray.size : Int) - 1)), toks := s1.toks + 1 + 1 }) (I1.ok.hd hc) ⟨_, Heap.get?_push_size _ rfl, rfl, rfl⟩ ⟨ol, k0 _ _ hol, hrest⟩ hne hn (fun s ht A E Q k => len_tuple ht (by simp only [List.size_toArray] <;> omega) k) fun h' tk acc hk hi => ?_
  have I3 : Inv X pins σ H1 { s1 with heap := h', toks := tk } := I2.turned (t' := tk) (fun b o hb e => hk b o hb e) f0 f1 f3 f4 f5
  refine ⟨.ref h'.objs.size, upd H1 h'.objs.size (.tup xs.reverse), I3.laid (t' := tk) (fun c o e => Heap.get?_push_of_some _ e) (Nat.le_refl _) (show ObjOk X.prog X.w _ _ _ (.tup xs.reverse) from ⟨by rw [List.length_reverse]; exact hz, acc.toList, vals_rev rv hi, ?_⟩), rfl, q _ (I3.hok.fresh (Nat.le_refl _))⟩
  rw [Array.toArray_toList]
  exact IsTup.new _ _
end RT
namespace Y
open PySem L2 RZ PyProof.Rows
/-- tuple(reversed(x)), x a tuple -/
def revTV : DV → Option DV
  | .tup xs => some (.tup xs.reverse)
  | _ => none
def revTE : ME → ME := op1 fun _ => revTV
theorem RVs.rev {K : PySem.W.Frag} {ρ : List Addr} {H : Hp} : ∀ {xs : List DV} {vs : List V}, RVs K ρ H xs vs → RVs K ρ H xs.reverse vs.reverse
  | [], vs, h => by simp only [RVs] at h; subst h; simp [RVs]
  | x :: xs, vs, h => by
    simp only [RVs] at h
    obtain ⟨v, r, rfl, h1, h2⟩ := h
    rw [List.reverse_cons, List.reverse_cons]
    exact (RVs.rev h2).append (rvs1 h1)
theorem v_revT {X : Cx} {rx : Rx} {W : WX} {a : Expr} {ma : ME} {pos p p2 pos2 : Pos} (hc : X.calm = true) (hm : X.mg "tuple" = none) (hm2 : X.mg "reversed" = none) (ha : IE X rx W a ma) (hg : Gl X "tuple" := by rfl) (hg2 : Gl X "reversed" := by rfl)
    (hs : starEach [a] X.env = (false, eval a X.env) :: starEach [] X.env := by rfl)
    (hs2 : starEach [.Call (.Name "reversed" p2) [a] [] pos2] X.env = (false, eval (.Call (.Name "reversed" p2) [a] [] pos2) X.env) :: starEach [] X.env := by rfl) :
    IE X rx W (.Call (.Name "tuple" p) [.Call (.Name "reversed" p2) [a] [] pos2] [] pos) (revTE ma) := by
  refine pe_imp (RT.pe_tupRt hc hg hm hg2 hm2 ha hs hs2) fun σ H Q ⟨ρ, l, S, hl, hs, h⟩ => ?_
  refine bindI hl hs h fun ρ1 H1 x S1 v e1 s1 l1 r1 h1 => ?_
  unfold revTV at h1
  cases x with
  | tup xs =>
    obtain ⟨q, vs, rfl, h2, h3⟩ := r1.tup
    exact ⟨q, vs, rfl, h2, fun t ht => h1 ρ1 _ _ (e1.trans (ext_new ht)) (s1.new ht) (rv_newT ht h3.rev)⟩
  | _ => exact False.elim h1
end Y
/-! tuple * 1, tuple * 0. -/
namespace L2
open PySem PySem.Spec PyProof.Rows
theorem tuple_mul1 (l : Addr) (items : Array Value) (n : Nat) (dd : Option Addr) (sl : Array (Option Value)) (u : Tok) :
    Meets (Builtin.«tuple.__mul__» ⟨[.ref l, .int 1 u], []⟩) (fun _ R s => s.heap.get? l = some { cls := .type "tuple", dict := dd, data := .seq items n, slots := sl } ∧
      R (.ok (.ret (Value.ref l))) s) :=
  .of_wp fun prog w A R s h => by
    obtain ⟨hp, g, d, tk, os⟩ := s
    obtain ⟨hl, h⟩ := h
    have f1 := AutoSeq1.idx_int
    wp_walk using wpAny_loadPart' hl
    exact ⟨_, rfl, h⟩
theorem tuple_mul0 (l : Addr) (items : Array Value) (n : Nat) (dd : Option Addr) (sl : Array (Option Value)) (u : Tok) (c1 : (items.isEmpty || (0 : Int) == 1) = false) :
    Meets (Builtin.«tuple.__mul__» ⟨[.ref l, .int 0 u], []⟩) (fun _ R s => s.heap.get? l = some { cls := .type "tuple", dict := dd, data := .seq items n, slots := sl } ∧
      R (.ok (.ret (Value.ref s.heap.objs.size))) { s with heap := s.heap.push { cls := Value.type "tuple", data := Data.seq #[] }, toks := s.toks }) :=
  .of_wp fun prog w A R s h => by
    obtain ⟨hp, g, d, tk, os⟩ := s
    obtain ⟨hl, h⟩ := h
    have f1 := AutoSeq1.idx_int
    wp_walk using wpAny_loadPart' hl
    repeat (first
      | (refine wpAny_ite_false (decide_eq_false (by rw [c1]; exact Bool.false_ne_true)) ?_; wp_walk using wpAny_loadPart' hl))
    exact ⟨_, rfl, h⟩
/-- a tuple once, or not at all -/
def rRepT1 (K : PySem.W.Frag) : R2 := fun x y H Q => ∃ l k xs, x = .ref l ∧ y = .int k ∧ SqT K H l xs ∧ xs ≠ [] ∧ ((k = 1 ∧ Q (.ref l) H) ∨ (k = 0 ∧ ∀ p, H p = none → Q (.ref p) (upd H p (.tup []))))
theorem op_repT1 {X : Cx} : OpR X (binaryOp .Mult) (rRepT1 X.K) := by
  intro pins s σ H x y v u Q I rx ry h
  obtain ⟨l, k, xs, rfl, rfl, hT, hne, h⟩ := h
  cases rx
  obtain ⟨t, rfl⟩ := ry
  obtain ⟨its, r, ⟨⟨cls, dd, data, sl⟩, ho, hc, n, hd⟩, hs⟩ := I.tuple hT
  simp only at hc hd
  subst hc hd
  have hle : its.length = xs.length := r.length.symm
  have hn : its ≠ [] := fun e => hne (by
    rw [e] at hle
    exact List.eq_nil_of_length_eq_zero hle.symm)
  have hi : its.toArray.isEmpty = false := by
    cases its with
    | nil => exact absurd rfl hn
    | cons a b => rfl
  rcases h with ⟨rfl, q⟩ | ⟨rfl, q⟩
  · refine wpAny_binaryOp_repeat_ref (T := "tuple") (U := "int") (by decide) ⟨_, ho, rfl⟩ (fun s' => typeIs_int s' 1 t) noFill_tuple_mul F.fills_int_mul F.slot_int_rmul repeat_tuple F.slot_int_index.lookup
      (call_meets F.slot_int_rmul (typeIs_int s 1 t) F.entry_int_rmul (F.args_int_rmul_2 _ _) (int_rmul_tuple 1 t l its.toArray n dd sl)
        ⟨ho, rfl, ⟨_, ho, rfl⟩, call_meets F.slot_tuple_mul ⟨_, ho, rfl⟩ F.entry_tuple_mul (F.args_tuple_mul_2 _ _) (tuple_mul1 l its.toArray n dd sl t) ⟨ho, ?_⟩⟩)
    exact ⟨.ref l, H, I, rfl, q⟩
  · refine wpAny_binaryOp_repeat_ref (T := "tuple") (U := "int") (by decide) ⟨_, ho, rfl⟩ (fun s' => typeIs_int s' 0 t) noFill_tuple_mul F.fills_int_mul F.slot_int_rmul repeat_tuple F.slot_int_index.lookup
      (call_meets F.slot_int_rmul (typeIs_int s 0 t) F.entry_int_rmul (F.args_int_rmul_2 _ _) (int_rmul_tuple 0 t l its.toArray n dd sl)
        ⟨ho, rfl, ⟨_, ho, rfl⟩, call_meets F.slot_tuple_mul ⟨_, ho, rfl⟩ F.entry_tuple_mul (F.args_tuple_mul_2 _ _) (tuple_mul0 l its.toArray n dd sl t (by rw [hi]; rfl)) ⟨ho, ?_⟩⟩)
    refine ⟨.ref s.heap.objs.size, _, I.laid (t' := s.toks) (o := .tup []) (fun b ob q => Heap.get?_push_of_some _ q) (Nat.le_refl _) ?_, rfl, q _ (I.hok.fresh (Nat.le_refl _))⟩
    exact ⟨by simp, [], .nil, IsTup.new _ _⟩
end L2
namespace Y
open PySem L2 RZ PyProof.Rows
def repV1 (S : Sto) (x y : DV) : Option DV := match x, y with
  | .tup xs, .int k => if xs ≠ [] ∧ k = 1 then some (.tup xs) else if xs ≠ [] ∧ k = 0 then some (.tup []) else repV S x y
  | _, _ => none
/-- a tuple, so often, once or never -/
def rep1 : ME → ME → ME := op2 repV1
theorem v_rep1 {X : Cx} {rx : Rx} {W : WX} {a b : Expr} {ma mb : ME} {pos : Pos} (ha : IE X rx W a ma) (hb : IE X rx W b mb) : IE X rx W (.BinOp a .Mult b pos) (rep1 ma mb) := by
  refine v_op (op_repT.or op_repT1) (fun {ρ H S x y d v u Q} s rx' ry e q => ?_) ha hb
  unfold repV1 at e
  split at e
  · rename_i xs k
    split at e
    · rename_i hz
      cases e
      obtain ⟨p, vs, rfl, h1, h2⟩ := rx'.tup
      have hl := h2.length
      exact .inr ⟨p, k, vs, rfl, ry.int, h1, fun z => hz.1 (List.eq_nil_of_length_eq_zero (by rw [hl, z]; rfl)), .inl ⟨hz.2, q ρ H _ .refl s (by simp only [RV]; exact ⟨p, vs, rfl, h1, h2⟩)⟩⟩
    · split at e
      · rename_i hz
        cases e
        obtain ⟨p, vs, rfl, h1, h2⟩ := rx'.tup
        have hl := h2.length
        exact .inr ⟨p, k, vs, rfl, ry.int, h1, fun z => hz.1 (List.eq_nil_of_length_eq_zero (by rw [hl, z]; rfl)), .inr ⟨hz.2, fun t ht => q ρ _ _ (ext_new ht) (s.new ht) (rv_newT ht (by simp [RVs]))⟩⟩
      · unfold repV at e
        dsimp only at e
        split at e
        · rename_i hz
          cases e
          obtain ⟨p, vs, rfl, h1, h2⟩ := rx'.tup
          have hl := h2.length
          refine .inl ⟨p, k, vs, rfl, ry.int, h1, fun z => hz.1 (List.eq_nil_of_length_eq_zero (by rw [hl, z]; rfl)), hz.2.1, hz.2.2.1, by rw [← hl]; exact hz.2.2.2, fun t ht => ?_⟩
          exact q ρ _ _ (ext_new ht) (s.new ht) (rv_newT ht (h2.rep k.toNat))
        · cases e
  · cases e
end Y
/-! Defs that tell a tuple whose first is a list of their own, which the caller changes. -/
namespace Y
open PySem L2 RZ PyProof.Rows
def leaveT (m : Nat) (d : DV) (S : Sto) : Out (DV × Bool) := match d with
  | .tup (.ref k :: ys) => if k < m then .bad else match S[k]? with
    | some (.lst xs) => if noRefGes m ys = true then .ok (.tup (.lst xs :: ys), true) (S.take m) else .bad
    | _ => .bad
  | _ => .bad
def fnT (n : Nat) (b : MS) : Ora := fun args S => match b (args.map some ++ List.replicate (n - args.length) none) S with
  | .ok (.rt d) S1 => leaveT S.length d S1
  | .exc c d _ S1 => if noRef d = true then .exc c d [] (S1.take S.length) else .bad
  | _ => .bad
/-- a call whose told tuple's list becomes an object of the store -/
def callT (f : Ora) (a : MA) : ME := fun l S => (a l S).bind fun xs S1 => match f xs S1 with
  | .ok (.tup (.lst zs :: ys), true) S2 => .ok (.tup (.ref S2.length :: ys)) (S2 ++ [.lst zs])
  | .exc c d _ S2 => .exc c d l S2
  | _ => .bad
def FnPostT (K : PySem.W.Frag) (rx : Rx) (ρ : List Addr) (H : Hp) (Q : VK) (E : XK) : Out (DV × Bool) → Prop
  | .ok (.tup (.lst zs :: ys), true) S' => ∀ H' p v, Ext ρ H (ρ ++ [p]) H' → RS K (ρ ++ [p]) H' (S' ++ [.lst zs]) → RV K (ρ ++ [p]) H' (.tup (.ref S'.length :: ys)) v → Q v H'
  | .exc c x _ S' => ∀ H' cls od, Ext ρ H ρ H' → RS K ρ H' S' → RX K ρ H' rx c x cls od → E cls od H'
  | _ => False
def spT (K : PySem.W.Frag) (rx : Rx) (n : Nat) (f : Ora) : Sp := fun vs H Q E => ∃ ρ args S, vs.length = n ∧ RVs K ρ H args vs ∧ RS K ρ H S ∧ FnPostT K rx ρ H Q E (f args S)
structure FnAtT (P : Program) (w : World) (K : PySem.W.Frag) (mg : Str → Option Value) (base : Heap) (rx : Rx) (k : Nat) (x : Str) (ps : List Str) (f : Ora) : Prop where
  ex : ∃ (g : Addr) (fd : FuncData), mg x = some (.ref g) ∧ PySem.W.keepIn K (.ref g) = true ∧ Binds K fd ps [] ∧ FnOk P w K mg base (L2.CX P w) k g fd ps (spT K rx ps.length f)
section
variable {X : Cx} {rx : Rx} {W : WX} {a b : Expr} {ma mb : ME} {pos : Pos}
theorem v_callT {e : Expr} {es : List Expr} {ms : MA} {x : Str} {p : Pos} {k : Nat} {ps : List Str} {f : Ora} (F : FnAtT X.prog X.w X.K X.mg X.base rx k x ps f) (hr : Room k X.A) (tk : Takes X W) (ha : IA X rx W (e :: es) ms) (hn : ∀ l S xs S', ms l S = .ok xs S' → xs.length = ps.length)
    (hg : Gl X x := by rfl) (hdb : (x == ("__debug__" : Str)) = false := by decide) (he : starEach (e :: es) X.env = (false, eval e X.env) :: starEach es X.env := by rfl) (hpl : (backTo pos (starEach es X.env)).any (·.1) = false := by rfl) :
    IE X rx W (.Call (.Name x p) (e :: es) [] pos) (callT f ms) := by
  obtain ⟨g, fd, hm, hk, hb, ok⟩ := F.ex
  refine pe_imp (pe_callS (E := WE W) ok hr hg hm hk hb (fun σ => passAt tk σ) ha hdb he hpl) fun σ H Q ⟨ρ, l, S, hl, hs, h⟩ => ?_
  have h' : Post X.K rx W ρ H ((ms l S).bind _) (QE X.K ρ H Q) := h
  cases em : ms l S with
  | bad => rw [em] at h'; exact False.elim h'
  | exc c x l' S' => rw [em] at h'; exact ⟨ρ, l, S, hl, hs, by rw [em]; exact h'⟩
  | ok xs S1 =>
    rw [em] at h'
    refine ⟨ρ, l, S, hl, hs, ?_⟩
    rw [em]
    intro ρ1 H1 vs e1 s1 r1
    refine ⟨ρ1, xs, S1, by rw [← r1.length]; exact hn l S xs S1 em, r1, s1, ?_⟩
    simp only [Out.bind] at h'
    generalize f xs S1 = o at h'
    unfold FnPostT
    split
    · rename_i zs ys S2
      exact fun H' p v e2 s2 r2 => h' (ρ1 ++ [p]) H' v (e1.trans e2) s2 r2
    · rename_i c x l' S2
      intro H' cls od e2 s2 q
      exact h' ρ1 H' σ cls od (e1.trans e2) s2 ((hl.mono e1).mono e2) q
    · rename_i h1 h2
      split at h'
      · rename_i zs ys S2
        exact absurd rfl (h1 _ _ _)
      · rename_i c x l' S2
        exact absurd rfl (h2 _ _ _ _)
      · exact h'
end
section
variable {P : Program} {w : World} {K : PySem.W.Frag} {mg : Str → Option Value} {base : Heap} {rx : Rx}
theorem fn_coreT {N ps : List Str} {n : Nat} {b : MS} {vs : List V} {H : Hp} {Q : VK} {E : XK} (hn : n = N.length) (h : spT K rx ps.length (fnT n b) vs H Q E) :
    tS K rx (fun cls d _ H => E cls d H) b { nx := fun _ H' => Q .non H', rt := Q } (L2.start N vs) H := by
  obtain ⟨ρ, args, S0, hlen, r, hs, h⟩ := h
  refine ⟨ρ, _, S0, rl_start r hn, hs, ?_⟩
  unfold fnT at h
  cases eb : b (args.map some ++ List.replicate (n - args.length) none) S0 with
  | bad => rw [eb] at h; exact False.elim h
  | exc c y l S1 =>
    rw [eb] at h
    dsimp only at h
    intro ρ' H' σ' cls od e s1 _ q
    by_cases hy : noRef y = true
    · rw [if_pos hy] at h
      refine h H' cls od e.cut ?_ (q.cut fun a m => by obtain ⟨t, et⟩ := e.pre; rw [et]; exact List.mem_append_left _ m)
      obtain ⟨t, rfl⟩ := e.pre
      have z := s1.take ρ.length
      rw [List.take_left, hs.len] at z
      exact z
    · rw [if_neg hy] at h
      exact False.elim h
  | ok fl S1 =>
    rw [eb] at h
    cases fl with
    | bk l => exact False.elim h
    | ct l => exact False.elim h
    | nx l => exact False.elim h
    | rt d =>
      intro ρ' H' v e s1 rv
      dsimp only at h
      unfold leaveT at h
      split at h
      · rename_i k ys
        split at h
        · exact False.elim h
        · rename_i hk
          split at h
          · rename_i zs ek
            split at h
            · rename_i hy
              obtain ⟨t, rfl⟩ := e.pre
              simp only [RV, RVs] at rv
              obtain ⟨b', us, rfl, hT, u, r', hus, ⟨a, ha, hu⟩, hr'⟩ := rv
              subst hus
              have hu' : u = .ref a := hu
              subst hu'
              have hge : ρ.length ≤ k := by rw [hs.len]; omega
              have hna : a ∉ ρ := fun m => by
                obtain ⟨j, hj⟩ := List.mem_iff_getElem?.mp m
                have hjl := (List.getElem?_eq_some_iff.mp hj).1
                have := nd_ix s1.nd (show (ρ ++ t)[j]? = some a by rw [List.getElem?_append_left hjl]; exact hj) ha
                omega
              have hfr : H a = none := (e.fresh a (List.mem_of_getElem? ha)).resolve_left hna
              have z := s1.sel hge ha ek
              rw [List.take_left, hs.len] at z
              have hl1 : (S1.take S0.length).length = S0.length := by
                have := s1.len
                rw [List.length_append, hs.len] at this
                rw [List.length_take]
                omega
              refine h H' a _ (e.cut1 ha hfr) z ?_
              simp only [RV, RVs]
              refine ⟨b', .ref a :: r', rfl, hT, .ref a, r', rfl, ⟨a, ?_, rfl⟩, ?_⟩
              · rw [hl1, ← hs.len, List.getElem?_append_right (Nat.le_refl _), Nat.sub_self]
                rfl
              · refine RVs.sub (m := S0.length) (fun x hx => ?_) (fun i x hi hx => ?_) ys r' hy hr'
                · rcases List.mem_append.mp hx with hx | hx
                  · exact List.mem_append_left _ hx
                  · rw [List.mem_singleton] at hx; rw [hx]; exact List.mem_of_getElem? ha
                · rw [List.getElem?_append_left (by rw [hs.len]; exact hi)] at hx ⊢
                  exact hx
            · exact False.elim h
          · exact False.elim h
      · exact False.elim h
theorem fn_okT {x qual : Str} {st : Stmt} {f : Addr} {fd : FuncData} {N ps : List Str} {k n : Nat} {b : MS} (F : Fun K x qual st f fd) (S : FnScope N ps (defScope st)) (hn : n = N.length)
    (hb : ∀ (cdv : Value) (A : Around) (outer : List Env) (s : Shared) (H : Hp) (E : XK), Room k (A.deeper (envOfC qual (defScope st) s.heap.objs.size f cdv)) →
      ISs (cxOf (L2.CX P w) P w K mg base N qual (defScope st) f cdv A outer s H E) rx (fun cls d _ H => E cls d H) (defBody st) b) : FnOk P w K mg base (L2.CX P w) (k + 1) f fd ps (spT K rx ps.length (fnT n b)) := by
  refine F.okX S (fun vs H Q E h => ?_) fun cdv A outer s H vs Q E hr h => ⟨_, hb cdv A outer s H E hr, fn_coreT hn h⟩
  obtain ⟨_, _, _, h, _⟩ := h
  exact h
theorem fn_noneT {f : Addr} {fd : FuncData} {ps : List Str} {k : Nat} {g : Ora} (h : ∀ args S, g args S = .bad) : FnOk P w K mg base (L2.CX P w) k f fd ps (spT K rx ps.length g) := by
  have no : ∀ vs H Q E, ¬ spT K rx ps.length g vs H Q E := fun vs H Q E ⟨ρ, args, S, _, _, _, q⟩ => by
    rw [h] at q
    exact q
  exact ⟨fun vs H Q E h => absurd h (no vs H Q E), fun A outer s H args us vs Q E _ _ _ _ h => absurd h (no vs H Q E)⟩
end
/-! ### the same, with defaults -/
noncomputable def callDT (f : Ora) (ds : List DV) (a : MA) : ME := fun l S => (a l S).bind fun xs S1 => match f (xs ++ ds) S1 with
  | .ok (.tup (.lst zs :: ys), true) S2 => .ok (.tup (.ref S2.length :: ys)) (S2 ++ [.lst zs])
  | .exc c d _ S2 => .exc c d l S2
  | _ => .bad
structure FnAtDT (P : Program) (w : World) (K : PySem.W.Frag) (mg : Str → Option Value) (base : Heap) (rx : Rx) (k : Nat) (x : Str) (ps : List Str) (ds : List DV) (f : Ora) : Prop where
  ex : ∃ (g : Addr) (fd : FuncData) (dvs : List V) (dus : List Value), mg x = some (.ref g) ∧ PySem.W.keepIn K (.ref g) = true ∧ Binds K fd ps dus ∧ Vals dvs dus ∧ (∀ ρ H, RVs K ρ H ds dvs) ∧ FnOk P w K mg base (L2.CX P w) k g fd ps (spT K rx ps.length f)
section
variable {X : Cx} {rx : Rx} {W : WX} {pos : Pos}
theorem v_callDT {e : Expr} {es : List Expr} {ms : MA} {x : Str} {p : Pos} {k : Nat} {ps : List Str} {ds : List DV} {f : Ora} (F : FnAtDT X.prog X.w X.K X.mg X.base rx k x ps ds f) (hr : Room k X.A) (tk : Takes X W) (ha : IA X rx W (e :: es) ms) (hn : ∀ l S xs S', ms l S = .ok xs S' → xs.length + ds.length = ps.length)
    (hg : Gl X x := by rfl) (hdb : (x == ("__debug__" : Str)) = false := by decide) (he : starEach (e :: es) X.env = (false, eval e X.env) :: starEach es X.env := by rfl) (hpl : (backTo pos (starEach es X.env)).any (·.1) = false := by rfl) :
    IE X rx W (.Call (.Name x p) (e :: es) [] pos) (callDT f ds ms) := by
  obtain ⟨g, fd, dvs, dus, hm, hk, hb, hv, hrv, ok⟩ := F.ex
  refine pe_imp (pe_callSD (E := WE W) ok hr hg hm hk hb hv (fun σ => passAt tk σ) ha hdb he hpl) fun σ H Q ⟨ρ, l, S, hl, hs, h⟩ => ?_
  have h' : Post X.K rx W ρ H ((ms l S).bind _) (QE X.K ρ H Q) := h
  cases em : ms l S with
  | bad => rw [em] at h'; exact False.elim h'
  | exc c x l' S' => rw [em] at h'; exact ⟨ρ, l, S, hl, hs, by rw [em]; exact h'⟩
  | ok xs S1 =>
    rw [em] at h'
    refine ⟨ρ, l, S, hl, hs, ?_⟩
    rw [em]
    intro ρ1 H1 vs e1 s1 r1
    have rr := r1.append (hrv ρ1 H1)
    refine ⟨ρ1, xs ++ ds, S1, by rw [← rr.length, List.length_append]; exact hn l S xs S1 em, rr, s1, ?_⟩
    simp only [Out.bind] at h'
    generalize f (xs ++ ds) S1 = o at h'
    unfold FnPostT
    split
    · rename_i zs ys S2
      exact fun H' p v e2 s2 r2 => h' (ρ1 ++ [p]) H' v (e1.trans e2) s2 r2
    · rename_i c x l' S2
      intro H' cls od e2 s2 q
      exact h' ρ1 H' σ cls od (e1.trans e2) s2 ((hl.mono e1).mono e2) q
    · rename_i h1 h2
      split at h'
      · rename_i zs ys S2
        exact absurd rfl (h1 _ _ _)
      · rename_i c x l' S2
        exact absurd rfl (h2 _ _ _ _)
      · exact h'
end
theorem fn_okDT {P : Program} {w : World} {K : PySem.W.Frag} {mg : Str → Option Value} {base : Heap} {rx : Rx} {x qual : Str} {params : Arguments} {body : List Stmt} {scope : Scope} {dvs : List V} {f : Addr} {fd : FuncData} {N ps : List Str} {k n : Nat} {b : MS}
    (F : FunD K x qual params body scope dvs [] f fd) (S : FnScope N ps scope) (hn : n = N.length)
    (hb : ∀ (cdv : Value) (A : Around) (outer : List Env) (s : Shared) (H : Hp) (E : XK), Room k (A.deeper (envOfC qual scope s.heap.objs.size f cdv)) →
      ISs (cxOf (L2.CX P w) P w K mg base N qual scope f cdv A outer s H E) rx (fun cls d _ H => E cls d H) body b) : FnOk P w K mg base (L2.CX P w) (k + 1) f fd ps (spT K rx ps.length (fnT n b)) := by
  refine F.ok S (fun vs H Q E h => ?_) fun cdv A outer s H vs Q E hr h => ⟨_, hb cdv A outer s H E hr, fn_coreT hn h⟩
  obtain ⟨_, _, _, h, _⟩ := h
  exact h
end Y
/-! == and != of two lists that hold dicts. -/
namespace Y
open PySem L2 RZ PyProof.Rows
open PySem.SeqAt (EqIn) 
section
open PySem.SeqAt AutoSeq1 MeetsSeq MeetsSeq2 MeetsSeq3 SeqRoads2
theorem y_ne_loop {prog : Program} {w : World} (p q : Addr) (xs ys : Array Value) (nx ny : Nat) (dx dy : Option Addr) (sx sy : Array (Option Value)) (hz : xs.size = ys.size) (e : Nat → Bool) (m : Nat) :
    ∀ i : Nat, xs.size - i = m → MeetsIn prog w (Builtin.«list.__eq__.loop» ⟨[.ref p, .ref q, rawInt i, rawInt 3], []⟩)
      (fun A R s => s.heap.get? p = some ⟨.type "list", dx, .seq xs nx, sx⟩ ∧ s.heap.get? q = some ⟨.type "list", dy, .seq ys ny, sy⟩ ∧
        (∀ j (h1 : j < xs.size) (h2 : j < ys.size), EqIn prog w A.in1 s xs[j] ys[j] (e j)) ∧ R (.ok (.ret (.bool (!((List.range xs.size).drop i).all e)))) s) := by
  induction m with
  | zero =>
    intro i hk A R s hh
    obtain ⟨hp, g, d, tk, os⟩ := s
    obtain ⟨hx, hy, he, hh⟩ := hh
    wp_walk using wpAny_loadPart' hx, wpAny_loadPart' hy
    have g1 : xs[((i : Nat) : Int).toNat]? = none := by simp; omega
    have g2 : ys[((i : Nat) : Int).toNat]? = none := by simp; omega
    have gd : (List.range xs.size).drop i = [] := by simp; omega
    rw [gd] at hh
    rw [g1, g2]
    wp_walk using wpAny_loadPart' hx, wpAny_loadPart' hy
    show R (.ok (.ret (.bool (xs.size != ys.size)))) _
    rw [hz]
    simpa using hh
  | succ m ih =>
    intro i hk A R s hh
    obtain ⟨hp, g, d, tk, os⟩ := s
    obtain ⟨hx, hy, he, hh⟩ := hh
    wp_walk using wpAny_loadPart' hx, wpAny_loadPart' hy
    have lx : i < xs.size := by omega
    have ly : i < ys.size := by omega
    have g1 : xs[((i : Nat) : Int).toNat]? = some xs[i] := by simp [lx]
    have g2 : ys[((i : Nat) : Int).toNat]? = some ys[i] := by simp [ly]
    have gd : (List.range xs.size).drop i = i :: (List.range xs.size).drop (i + 1) := by simp [List.drop_eq_getElem_cons, lx]
    have gc : ((i : Int) + 1) = ((i + 1 : Nat) : Int) := by push_cast; rfl
    rw [gd, List.all_cons] at hh
    rw [g1, g2]
    refine wpAny_bind (he i lx ly _ _ ?_)
    cases hb : e i with
    | true =>
      rw [hb] at hh
      wp_walk
      rw [gc]
      refine ⟨plainId_quiet plain_eq_loop _, codeAny_builtin entry_eq_loop ?_⟩
      rw [Around.under_plainId plain_eq_loop _]
      exact ih (i + 1) (by omega) A R _ ⟨hx, hy, he, by simpa using hh⟩
    | false =>
      rw [hb] at hh
      wp_walk using wpAny_loadPart' hx, wpAny_loadPart' hy
      rw [g1, g2]
      wp_walk
      simpa using hh
theorem y_list_ne {prog : Program} {w : World} (p q : Addr) (xs ys : Array Value) (nx ny : Nat) (dx dy : Option Addr) (sx sy : Array (Option Value)) (hz : xs.size = ys.size) (e : Nat → Bool) :
    MeetsIn prog w (Builtin.«list.__ne__» ⟨[.ref p, .ref q], []⟩)
      (fun A R s => s.heap.get? p = some ⟨.type "list", dx, .seq xs nx, sx⟩ ∧ s.heap.get? q = some ⟨.type "list", dy, .seq ys ny, sy⟩ ∧
        (∀ j (h1 : j < xs.size) (h2 : j < ys.size), EqIn prog w A.in1 s xs[j] ys[j] (e j)) ∧ R (.ok (.ret (.bool (!(List.range xs.size).all e)))) s) := by
  intro A R s hh
  obtain ⟨hp, g, d, tk, os⟩ := s
  obtain ⟨hx, hy, he, hh⟩ := hh
  have z3 := AutoSeq1.sub_list_list
  have zn : ¬ (xs.size != ys.size) = true := by simp [hz]
  wp_walk using wpAny_loadPart' hx, wpAny_loadPart' hy
  refine ⟨plainId_quiet plain_eq_loop _, codeAny_builtin entry_eq_loop ?_⟩
  rw [Around.under_plainId plain_eq_loop _]
  exact y_ne_loop p q xs ys nx ny dx dy sx sy hz e _ 0 rfl A R _ ⟨hx, hy, he, by simpa using hh⟩
theorem y_ne_lists {prog : Program} {w : World} {A : Around} {s : Shared} {E : Value → Shared → Prop} {p q : Addr} {xs ys : Array Value} {e : Nat → Bool} {Q : Value → Shared → Prop} (hx : s.heap.IsList p xs) (hy : s.heap.IsList q ys) (hz : xs.size = ys.size) (hu : A.units < cLine)
    (he : ∀ j (h1 : j < xs.size) (h2 : j < ys.size), EqIn prog w A.in1 s xs[j] ys[j] (e j)) (h : Q (.bool (!(List.range xs.size).all e)) s) : wpAny (model prog w) A (richCompare .NotEq (.ref p) (.ref q)) Q E s := by
  obtain ⟨⟨c1, d1, b1, s1⟩, o1, e1, n1, f1⟩ := id hx
  obtain ⟨⟨c2, d2, b2, s2⟩, o2, e2, n2, f2⟩ := id hy
  simp only at e1 f1 e2 f2
  subst e1 f1 e2 f2
  exact wpAny_richCompare_same_room (T := "list") (op := .NotEq) ⟨_, o1, rfl⟩ ⟨_, o2, rfl⟩ F.slot_list_ne (call_meetsIn F.slot_list_ne ⟨_, o1, rfl⟩ F.entry_list_ne (F.args_list_ne_2 _ _) (y_list_ne p q xs ys n1 n2 d1 d2 s1 s2 hz e)
    ⟨o1, o2, he, show Value.bool (!(List.range xs.size).all e) ≠ Value.notImplemented ∧ _ from ⟨(fun x => nomatch x), h⟩⟩) hu
end
/-- two dicts at two places: what == of them tells -/
def EqDD (K : PySem.W.Frag) (H : Hp) (v u : V) (c : Bool) : Prop := ∃ a b ks ls r, a ≠ b ∧ v = .ref a ∧ u = .ref b ∧ Rd H a (.dK ks) ∧ Rd H b (.dK ls) ∧ (ks.length = ls.length → HitsV K H ls ks r) ∧ c = (decide (ks.length = ls.length) && r)
section
variable {X : Cx} {pins : List (Addr × Obj)} {σ : L2.St} {H : Hp} {s : Shared}
theorem eqDD_run {A : Around} (I : Inv X pins σ H s) (hu : A.in1.units + 64 < cLine) {v u : V} {c : Bool} {y z : Value} (h : EqDD X.K H v u c) (ry : RelV v y) (rz : RelV u z) : EqIn X.prog X.w A s y z c := by
  obtain ⟨a, b, ks, ls, r, hne, rfl, rfl, ea, eb, hh, rfl⟩ := h
  obtain rfl : y = Value.ref a := ry
  obtain rfl : z = Value.ref b := rz
  obtain ⟨_, ya, va, ra, da⟩ := dk_rd I.hok ea
  obtain ⟨_, yb, vb, rb, db⟩ := dk_rd I.hok eb
  have e1 : (va.length == vb.length) = decide (ks.length = ls.length) := by rw [← ra.length, ← rb.length, Bool.eq_iff_iff]; simp
  have hu0 : A.units < cLine := by
    have : A.in1.units = A.units + 1 := rfl
    omega
  refine EqIn.of_refs hne fun E Q q => ?_
  exact PySem.W.keq_eq (knd := mixKind X.prog X.w) (r := r) ya yb da db hu0 (fun el => hitsV_run I hu rb ra (hh (by rw [ra.length, rb.length]; exact el))) (by rw [e1]; exact q)
end
def rEqLD (K : PySem.W.Frag) (neg : Bool) : R2 := fun x y H Q => ∃ (a b : Addr) (xs ys : List V) (cs : List Bool), x = .ref a ∧ y = .ref b ∧ H a = some (.lst xs) ∧ H b = some (.lst ys) ∧ xs.length = ys.length ∧ cs.length = xs.length ∧
  (∀ (i : Nat) (v u : V) (c : Bool), xs[i]? = some v → ys[i]? = some u → cs[i]? = some c → EqDD K H v u c) ∧ Q (.bl (if neg then !(cs.all id) else cs.all id)) H
theorem range_all (cs : List Bool) : (List.range cs.length).all (fun j => cs.getD j false) = cs.all id := by
  rw [Bool.eq_iff_iff, List.all_eq_true, List.all_eq_true]
  constructor
  · intro h x m
    obtain ⟨i, hi, rfl⟩ := List.getElem_of_mem m
    have := h i (List.mem_range.mpr hi)
    simpa [hi] using this
  · intro h i m
    have hi := List.mem_range.mp m
    have := h cs[i] (List.getElem_mem hi)
    simpa [hi] using this
section
variable {X : Cx}
theorem eqLD_items {pins : List (Addr × Obj)} {σ : L2.St} {H : Hp} {s : Shared} {A : Around} (I : Inv X pins σ H s) (hu : A.in1.units + 64 < cLine) {xs ys : List V} {us ws : List Value} {cs : List Bool} (rx : Vals xs us) (ry : Vals ys ws) (hc : cs.length = xs.length)
    (h : ∀ (i : Nat) (v u : V) (c : Bool), xs[i]? = some v → ys[i]? = some u → cs[i]? = some c → EqDD X.K H v u c) (j : Nat) (h1 : j < us.toArray.size) (h2 : j < ws.toArray.size) : EqIn X.prog X.w A s us.toArray[j] ws.toArray[j] (cs.getD j false) := by
  have l1 := rx.length
  have l2 := ry.length
  have j1 : j < us.length := by simpa using h1
  have j2 : j < ws.length := by simpa using h2
  have jx : j < xs.length := by omega
  have jy : j < ys.length := by omega
  have jc : j < cs.length := by omega
  obtain ⟨y, hy, ry1⟩ := rx.get (List.getElem?_eq_getElem jx)
  obtain ⟨z, hz, rz1⟩ := ry.get (List.getElem?_eq_getElem jy)
  have ey : us.toArray[j] = y := by
    rw [List.getElem?_eq_getElem j1] at hy
    simpa using hy
  have ez : ws.toArray[j] = z := by
    rw [List.getElem?_eq_getElem j2] at hz
    simpa using hz
  rw [ey, ez, List.getD_eq_getElem?_getD, List.getElem?_eq_getElem jc]
  exact eqDD_run I hu (h j _ _ _ (List.getElem?_eq_getElem jx) (List.getElem?_eq_getElem jy) (List.getElem?_eq_getElem jc)) ry1 rz1
theorem op_eqLD (hu : X.A.units + 66 < cLine) : OpR X (compareOp .Eq) (rEqLD X.K false) := by
  intro pins s σ H x y v u Q I rx ry h
  obtain ⟨a, b, xs, ys, cs, rfl, rfl, ea, eb, hl, hc, hh, q⟩ := h
  obtain rfl : v = Value.ref a := rx
  obtain rfl : u = Value.ref b := ry
  obtain ⟨us, r1, p1, _⟩ := I.list (SqL.of ea)
  obtain ⟨ws, r2, p2, _⟩ := I.list (SqL.of eb)
  have z : us.toArray.size = ws.toArray.size := by simp; rw [← r1.length, ← r2.length]; exact hl
  refine PySem.SeqAt.rcIn_lists (e := fun j => cs.getD j false) p1.isList p2.isList z (by omega) (eqLD_items I (by show X.A.units + 1 + 1 + 64 < cLine; omega) r1 r2 hc hh) (fin_bl I q ?_)
  have e : us.toArray.size = cs.length := by simp; rw [← r1.length, hc]
  rw [e, range_all]
  rfl
theorem op_neLD (hu : X.A.units + 66 < cLine) : OpR X (compareOp .NotEq) (rEqLD X.K true) := by
  intro pins s σ H x y v u Q I rx ry h
  obtain ⟨a, b, xs, ys, cs, rfl, rfl, ea, eb, hl, hc, hh, q⟩ := h
  obtain rfl : v = Value.ref a := rx
  obtain rfl : u = Value.ref b := ry
  obtain ⟨us, r1, p1, _⟩ := I.list (SqL.of ea)
  obtain ⟨ws, r2, p2, _⟩ := I.list (SqL.of eb)
  have z : us.toArray.size = ws.toArray.size := by simp; rw [← r1.length, ← r2.length]; exact hl
  refine y_ne_lists (e := fun j => cs.getD j false) p1.isList p2.isList z (by omega) (eqLD_items I (by show X.A.units + 1 + 1 + 64 < cLine; omega) r1 r2 hc hh) (fin_bl I q ?_)
  have e : us.toArray.size = cs.length := by simp; rw [← r1.length, hc]
  rw [e, range_all]
  rfl
end
/-- two lists of dicts, item by item -/
noncomputable def allLD (S : Sto) : List DV → List DV → Option Bool
  | [], [] => some true
  | .ref i :: xs, .ref j :: ys => if i = j then none else match eqKV S (.ref i) (.ref j), allLD S xs ys with
    | some a, some b => some (a && b)
    | _, _ => none
  | _, _ => none
noncomputable def eqLDV (S : Sto) (x y : DV) : Option Bool := match lstOf S x, lstOf S y with
  | some xs, some ys => allLD S xs ys
  | _, _ => none
noncomputable def eqLD : ME → ME → ME := op2 fun S x y => (eqLDV S x y).map .bl
noncomputable def neLD : ME → ME → ME := op2 fun S x y => (eqLDV S x y).map fun b => .bl !b
section
variable {K : PySem.W.Frag} {ρ : List Addr} {H : Hp} {S : Sto}
theorem eqKV_DD (s : RS K ρ H S) {i j : Nat} {c : Bool} {v u : V} (hn : i ≠ j) (r1 : RV K ρ H (.ref i) v) (r2 : RV K ρ H (.ref j) u) (h : eqKV S (.ref i) (.ref j) = some c) : EqDD K H v u c := by
  unfold eqKV at h
  split at h
  · rename_i ks ls e1 e2
    have p1 := r1
    have p2 := r2
    simp only [RV] at p1 p2
    obtain ⟨a', ha', rfl⟩ := p1
    obtain ⟨b', hb', rfl⟩ := p2
    obtain ⟨a, ws, ea, h1, h2⟩ := r1.dkOf s e1
    obtain ⟨b, zs, eb, h3, h4⟩ := r2.dkOf s e2
    cases ea
    cases eb
    have l1 := h2.length
    have l2 := h4.length
    have hne : a' ≠ b' := fun z => hn (nd_ix s.nd ha' (by rw [z]; exact hb'))
    split at h
    · rename_i hl
      refine ⟨_, _, ws, zs, c, hne, rfl, rfl, h1, h3, fun _ => allK_ok h4 h2 h, ?_⟩
      rw [decide_eq_true (by rw [← l1, ← l2]; exact hl), Bool.true_and]
    · rename_i hl
      cases h
      refine ⟨_, _, ws, zs, false, hne, rfl, rfl, h1, h3, fun e => absurd (by rw [l1, l2]; exact e) hl, ?_⟩
      rw [Bool.and_false]
  · cases h
theorem allLD_ok (s : RS K ρ H S) : ∀ {xs ys : List DV} {vs us : List V} {c : Bool}, RVs K ρ H xs vs → RVs K ρ H ys us → allLD S xs ys = some c →
    ∃ cs : List Bool, vs.length = us.length ∧ cs.length = vs.length ∧ c = cs.all id ∧ ∀ (i : Nat) (v u : V) (c : Bool), vs[i]? = some v → us[i]? = some u → cs[i]? = some c → EqDD K H v u c
  | xs, ys, vs, us, c, r1, r2, h => by
    unfold allLD at h
    split at h
    · cases h
      simp only [RVs] at r1 r2
      subst r1 r2
      exact ⟨[], rfl, rfl, rfl, fun i v u c z => by simp at z⟩
    · rename_i i xs' j ys'
      split at h
      · cases h
      · rename_i hn
        split at h
        · rename_i p q ep eq
          cases h
          simp only [RVs] at r1 r2
          obtain ⟨v, r, rfl, h1, h2⟩ := r1
          obtain ⟨u, t, rfl, h3, h4⟩ := r2
          obtain ⟨cs, k1, k2, k3, k4⟩ := allLD_ok s h2 h4 eq
          refine ⟨p :: cs, by simp [k1], by simp [k2], by simp [k3], fun m v' u' c' z1 z2 z3 => ?_⟩
          cases m with
          | zero =>
            simp at z1 z2 z3
            subst z1 z2 z3
            exact eqKV_DD s hn h1 h3 ep
          | succ m =>
            simp at z1 z2 z3
            exact k4 m v' u' c' z1 z2 z3
        · cases h
    · cases h
theorem eqLD_sem (neg : Bool) {x y : DV} {c : Bool} {v u : V} {Q : VK} (s : RS K ρ H S) (r1 : RV K ρ H x v) (r2 : RV K ρ H y u) (h : eqLDV S x y = some c) (q : Q (.bl (if neg then !c else c)) H) : rEqLD K neg v u H Q := by
  unfold eqLDV at h
  split at h
  · rename_i xs ys e1 e2
    obtain ⟨a, vs, rfl, h1, h2⟩ := r1.lstOf s e1
    obtain ⟨b, us, rfl, h3, h4⟩ := r2.lstOf s e2
    obtain ⟨cs, k1, k2, k3, k4⟩ := allLD_ok s h2 h4 h
    exact ⟨a, b, vs, us, cs, rfl, rfl, h1, h3, k1, k2, k4, by rw [← k3]; exact q⟩
  · cases h
end
section
variable {X : Cx} {rx : Rx} {W : WX} {a b : Expr} {ma mb : ME} {pos : Pos}
theorem v_eqLD (hu : X.A.units + 66 < cLine) (ha : IE X rx W a ma) (hb : IE X rx W b mb) : IE X rx W (.Compare a [.Eq] [b] pos) (eqLD ma mb) :=
  v_cmp (f := eqLDV) (g := fun c => c) (op_eqLD hu) (nomark _) (fun {ρ H S x y c v u Q} s r1 r2 h q => eqLD_sem false s r1 r2 h q) ha hb
theorem v_teqLD (hu : X.A.units + 66 < cLine) (ha : IE X rx W a ma) (hb : IE X rx W b mb) : IT X rx W (.Compare a [.Eq] [b] pos) (tst (eqLD ma mb)) :=
  v_tcmp (f := eqLDV) (g := fun c => c) (op_eqLD hu) (nomark _) (fun {ρ H S x y c v u Q} s r1 r2 h q => eqLD_sem false s r1 r2 h q) ha hb
theorem v_neLD (hu : X.A.units + 66 < cLine) (ha : IE X rx W a ma) (hb : IE X rx W b mb) : IE X rx W (.Compare a [.NotEq] [b] pos) (neLD ma mb) :=
  v_cmp (f := eqLDV) (g := fun c => !c) (op_neLD hu) (nomark _) (fun {ρ H S x y c v u Q} s r1 r2 h q => eqLD_sem true s r1 r2 h q) ha hb
theorem v_tneLD (hu : X.A.units + 66 < cLine) (ha : IE X rx W a ma) (hb : IE X rx W b mb) : IT X rx W (.Compare a [.NotEq] [b] pos) (tst (neLD ma mb)) :=
  v_tcmp (f := eqLDV) (g := fun c => !c) (op_neLD hu) (nomark _) (fun {ρ H S x y c v u Q} s r1 r2 h q => eqLD_sem true s r1 r2 h q) ha hb
end
end Y
/-! Exceptions: a caught one is tracked while its suite runs, and read as a value .exn. -/
namespace Y
open PySem L2 PySem.Spec RZ PyProof.Rows
section
variable {X : Cx} {pins : List (Addr × Obj)} {σ : L2.St} {H : Hp} {s : Shared}
theorem exY_ok {P : Program} {w : World} {H : Hp} {h : Heap} {p : Addr} {cls : Value} {od : Option Addr} {oe : Obj} {vs : Array Value} (e : h.get? p = some oe) (z : Zc cls od oe) (d : oe.data = .fields vs) : ObjOk P w H h p (ExY cls od p) :=
  ⟨⟨oe, vs, e, z, d⟩, ⟨oe, e⟩, fun _ _ ⟨o, v, q, r⟩ k => ⟨o, v, k o q, r⟩⟩
/-- an exception that is there already is tracked from now on -/
theorem adoptY (I : Inv X pins σ H s) {p : Addr} {oe : Obj} {vs : Array Value} {cls : Value} {od : Option Addr} (he : s.heap.get? p = some oe) (hz : Zc cls od oe) (hd : oe.data = .fields vs) (hn : H p = none) (h0 : X.s_0.heap.get? p = none) (hL : p ≠ X.env.locals) (hp : ∀ q ∈ X.pn ++ pins, q.1 ≠ p) :
    Inv X pins σ (upd H p (ExY cls od p)) s := by
  have n0 : ∀ b o, X.s_0.heap.get? b = some o → b ≠ p := fun b o e z => by rw [z, h0] at e; cases e
  have nH : ∀ b o, H b = some o → b ≠ p := fun b o e z => by rw [z, hn] at e; cases e
  refine ⟨I.ok, I.os, I.bare, ⟨I.base.keep, I.base.slot, fun b o e n hx => ?_, I.base.there, fun b xs e => ?_, fun b o u e => ?_, fun b ps e => ?_⟩, I.loc, I.cell, ?_, fun x c e => ?_, fun q m => ?_, fun b u e => ?_, I.len⟩
  · rw [upd_ne (n0 b o e)]
    exact I.base.free b o e n hx
  · have q := I.base.tups b xs e
    rw [upd_ne (nH _ _ q)]
    exact q
  · have q := I.base.frzs b o u e
    rw [upd_ne (nH _ _ q)]
    exact q
  · obtain ⟨m, q⟩ := I.base.tbls b ps e
    exact ⟨m, by rw [upd_ne (nH _ _ q)]; exact q⟩
  · rw [upd_ne (Ne.symm hL)]
    exact I.free
  · have z : c ≠ p := fun z => by
      obtain ⟨v, o, ho, hc⟩ := I.cell x c e
      rw [z, he] at ho
      cases ho
      rw [hd] at hc
      cases hc
    rw [upd_ne z]
    exact I.freeC x c e
  · obtain ⟨q1, q2, q3, q4, q5⟩ := I.pin q m
    exact ⟨q1, by rw [upd_ne (hp q m)]; exact q2, q3, q4, q5⟩
  · by_cases hb : b = p
    · subst hb
      rw [upd_same] at e
      cases e
      exact exY_ok he hz hd
    · rw [upd_ne hb] at e
      exact (I.hok b u e).stay (fun _ _ _ q => q) (fun c q => by rw [upd_ne (nH _ _ q)]; exact q) fun c xs q => by rw [upd_ne (nH _ _ q)]; exact q
/-- into a suite: the pins as they are -/
theorem intoS (I : Inv X pins σ H s) (p : Addr) : Inv (X.suite p (X.pn ++ pins)) [] σ H s :=
  ⟨I.ok.suite _ _, I.os, I.bare, I.base, I.loc, I.cell, I.free, I.freeC, fun q m => I.pin q (by rw [List.append_nil] at m; exact m), I.hok, I.len⟩
theorem outS {p : Addr} {pn : List (Addr × Obj)} (I : Inv (X.suite p (X.pn ++ pins)) pn σ H s) (ok : X.Ok) : Inv X pins σ H s :=
  ⟨ok, I.os, I.bare, I.base, I.loc, I.cell, I.free, I.freeC, fun q m => I.pin q (List.mem_append_left _ m), I.hok, I.len⟩
end
/-! ### the rule of try -/
abbrev TSx := Addr → Value → Option Addr → TS
def endsY (D : Ends) : Option Nat → Ends
  | none => D
  | some i => { nx := fun σ' H' => D.nx (σ'.set i none) H', rt := D.rt, bk := fun σ' H' => D.bk (σ'.set i none) H', ct := fun σ' H' => D.ct (σ'.set i none) H' }
def slotY (σ : L2.St) (p : Addr) : Option Nat → L2.St
  | none => σ
  | some i => σ.set i (some (.ref p))
def wYs (K : PySem.W.Frag) (Wout : WX) (D : Ends) : List (Value × Option Nat × TSx) → WX
  | [] => Wout
  | (cv, oi, ts) :: r => fun cls od σ H => ∃ b, PySem.W.exmOne K cls cv = some b ∧ (b = true → ∀ p, H p = none → ts p cls od (endsY D oi) (slotY σ p oi) (upd H p (ExY cls od p))) ∧ (b = false → wYs K Wout D r cls od σ H)
inductive YHs (X : Cx) : List ExceptHandler → List (Value × Option Nat × TSx) → Prop
  | nil : YHs X [] []
  | bare {x : Str} {cv : Value} {ts : TSx} {b₀ : Stmt} {suite : List Stmt} {np pos' : Pos} {hds : List ExceptHandler} {l : List (Value × Option Nat × TSx)} (hc : Names X x cv) (hsu : ∀ (p : Addr) (cls : Value) (od : Option Addr) (pn : List (Addr × Obj)), PSs (X.suite p pn) (b₀ :: suite) (ts p cls od)) (r : YHs X hds l) :
      YHs X (.ExceptHandler (some (.Name x np)) none (b₀ :: suite) pos' :: hds) ((cv, none, ts) :: l)
  | as_ {x n : Str} {i : Nat} {cv : Value} {ts : TSx} {b₀ : Stmt} {suite : List Stmt} {np pos' : Pos} {hds : List ExceptHandler} {l : List (Value × Option Nat × TSx)} (hN : X.N.Nodup) (hi : X.N[i]? = some n) (hln : X.env.kindOf n = some .local) (hc : Names X x cv)
      (hsu : ∀ (p : Addr) (cls : Value) (od : Option Addr) (pn : List (Addr × Obj)), PSs (X.suite p pn) (b₀ :: suite) (ts p cls od)) (r : YHs X hds l) :
      YHs X (.ExceptHandler (some (.Name x np)) (some n) (b₀ :: suite) pos' :: hds) ((cv, some i, ts) :: l)
section
variable {X : Cx} {body orelse : List Stmt} {h₀ : ExceptHandler} {hds : List ExceptHandler} {l : List (Value × Option Nat × TSx)} {pos : Pos} {tb : WX → TS} {u : TS} {Wout : WX}
theorem ps_tryY (ho : PSs X orelse u) (hxe : X.ex = []) (hst : X.stack = X.env :: X.outer) (hfe : X.env.frame = some X.env.locals) (tk : Takes X Wout)
    (hb : ∀ (W : WX) (pn : List (Addr × Obj)) (xe : Value → Shared → Prop), Takes (X.tr pn xe) W → PassesOwn (model X.prog X.w) X.A X.env xe → PSs (X.tr pn xe) body (tb W))
    (hh : YHs X (h₀ :: hds) l) : PS X (.Try body (h₀ :: hds) orelse [] pos) (fun D σ H => tb (wYs X.K Wout D l) { D with nx := u D } σ H) := by
  refine ⟨fun pins s σ H D I h => ?_⟩
  have okX := I.ok
  have frX : X.A.frames = some (X.env :: X.outer) := by rw [okX.frames, hst]
  refine wpAny_Try_except ?_
  refine wpAny_mono ((hb (wYs X.K Wout D l) (X.pn ++ pins) (fun e t₁ => wpAny (model X.prog X.w) X.A (noteFrame e X.env) (fun _ t₂ => wpAny (model X.prog X.w) X.A (setFlight e none) (fun _ t₃ => wpAny (model X.prog X.w) X.A (handleBy e X.env (h₀ :: hds)) (SP X pins D) X.xe t₃) X.xe t₂) X.xe t₁)
    (fun v t xx => ?_) PassesOwn.looking).run [] s σ H { D with nx := u D } (I.toTry _) h) (fun f t hsp => ?_) (fun _ _ z => z)
  · obtain ⟨p, B, sI, pins', σ', H', cls, od, rfl, J', nB, upT, skyT, nA, eos, agb, w⟩ := xx
    have J : Inv X pins σ' H' sI := J'.ofTry okX
    have skyX : Sky B (X.env :: X.outer) p (Zc cls od) X.env.locals t.heap := by rw [← hst]; exact skyT
    show wpAny (model X.prog X.w) X.A (noteFrame (.ref p) X.env) _ _ _
    refine Sky.land Zc.steady frX hfe skyX fun g3 fly3 up3 => ?_
    have J3 : Inv X pins σ' H' { t with heap := g3 } := J.landed nB fly3.1 (upT.trans up3) eos agb
    obtain ⟨o3, v3, e3, z3, d3⟩ := fly3.there
    have nFr : p ∉ frs (X.env :: X.outer) := fun m => by
      obtain ⟨_, o', e', nf⟩ := fly3.2.2.1.mem m
      rw [e3] at e'
      cases e'
      exact nf _ d3
    have nLo : p ≠ X.env.locals := fun z => nFr (List.mem_filterMap.mpr ⟨X.env, List.mem_cons_self, by rw [hfe, z]⟩)
    have nFs : p ∉ X.fs := fun m => by
      obtain ⟨e, me, q⟩ := List.mem_filterMap.mp m
      exact nFr (List.mem_filterMap.mpr ⟨e, List.mem_cons_of_mem _ me, q⟩)
    have nI : sI.heap.get? p = none := by
      cases q : sI.heap.get? p with
      | none => rfl
      | some o =>
        have z := nB p o q (by rw [hst]; exact nFr)
        have zB : B.get? p = none := fly3.2.1
        rw [zB] at z
        cases z
    have hex : p ∉ X.ex := by rw [hxe]; exact fun z => nomatch z
    have n0 : X.s_0.heap.get? p = none := by
      cases q : X.s_0.heap.get? p with
      | none => rfl
      | some o =>
        obtain ⟨o', z⟩ := J.base.there p o q hex
        rw [nI] at z
        cases z
    have nPi : ∀ q ∈ X.pn ++ pins, q.1 ≠ p := fun q m z => by
      have := (J.pin q m).1
      rw [z, nI] at this
      cases this
    have S3 := J3.suite e3 d3 nA nLo nFs
    have seen : ∀ {ks : List ExceptHandler} {k : List (Value × Option Nat × TSx)}, YHs X ks k → wYs X.K Wout D k cls od σ' H' → wpAny (model X.prog X.w) X.A (handleBy (.ref p) X.env ks) (SP X pins D) X.xe { t with heap := g3 } := by
      intro ks k hk
      have LT : PySem.W.Looks (model X.prog X.w) g3 (typeOf (.ref p)) cls := fun A Q E s kk q => wpAny_typeOf_ref (kk _ _ e3) (by rw [z3.1]; exact q)
      have asks : ∀ {x : Str} {cv : Value} {np : Pos} {Q : Value → Shared → Prop} {E : Value → Shared → Prop}, Names X x cv → Q cv { t with heap := g3 } → wpAny (model X.prog X.w) (X.A.mark (some (.ref p))) (eval (.Name x np) X.env) Q E { t with heap := g3 } := fun {x cv np Q E} hc q => by
        obtain ⟨c1, c2, c3 | ⟨c3, c4, c5⟩⟩ := hc
        · exact ld_glob (X := X.suite p ((p, o3) :: (X.pn ++ pins))) S3 c1 c3 q c2
        · exact ld_blt (X := X.suite p ((p, o3) :: (X.pn ++ pins))) S3 c1 c3 c4 q c5 c2
      induction hk with
      | nil =>
        intro w
        refine wpAny_handleBy_nil ?_
        obtain ⟨_, _, _, o5, v5, T, oT, ts', e5, z5, d5, f5, r5⟩ := id fly3
        unfold PySem.passOn
        refine wpAny_bind (wpAny_field e5 d5 f5 ?_)
        rw [if_neg (show ¬ ((Value.ref T == Value.none) = true) by simp)]
        have fin : wpAny (model X.prog X.w) X.A (setFlight (.ref p) X.env.frame) (fun _ t4 => wpAny (model X.prog X.w) X.A (throw (.ref p) : Sem Flow) (SP X pins D) X.xe t4) X.xe { t with heap := g3 } := by
          rw [hfe]
          refine HandSPX.setFlight_upZ fly3 fun g4 held4 up4 => wpAny_throw (tk _ _ ?_)
          exact ⟨p, B, sI, pins, σ', H', cls, od, rfl, J, nB, (upT.trans up3).trans up4, .inr (.inr (by rw [hst]; exact held4)), nA, eos, agb, w⟩
        first
          | exact wpAny_bind (wpAny_pure (wpAny_bind fin))
          | exact wpAny_bind fin
      | @bare x cv ts b₀ suite np pos' hds2 l2 hc hsu r ih =>
        intro w
        obtain ⟨b, hb1, yes, no⟩ := w
        refine wpAny_handleBy_cons (codeAny_handlers_test ?_) (by intro q; cases q)
        have LM := PySem.W.exm_one (M := model X.prog X.w) (J3.kIn) LT hb1
        refine asks hc (LM.here ?_)
        cases b with
        | true =>
          refine codeAny_handlers_suite ?_
          refine HandSPX.lands_againZ fly3 fun g4 fly4 up4 => ?_
          have J4 : Inv X pins σ' H' { t with heap := g4 } := J.landed nB fly4.1 ((upT.trans up3).trans up4) eos agb
          obtain ⟨o4, v4, e4, z4, d4⟩ := fly4.there
          have S4 := intoS (adoptY J4 e4 z4 d4 nA n0 nLo nPi) p
          refine wpAny_mono ((hsu p cls od (X.pn ++ pins)).run [] _ _ _ _ S4 (yes rfl p nA)) (fun f s6 hsp => ?_) (fun _ _ z => False.elim z)
          cases f with
          | next =>
            obtain ⟨σ6, H6, S6, q6⟩ := hsp
            exact ⟨_, _, outS S6 okX, q6⟩
          | brk =>
            obtain ⟨σ6, H6, S6, q6⟩ := hsp
            exact ⟨_, _, outS S6 okX, q6⟩
          | cont =>
            obtain ⟨σ6, H6, S6, q6⟩ := hsp
            exact ⟨_, _, outS S6 okX, q6⟩
          | ret v =>
            obtain ⟨v6, σ6, H6, S6, r6, q6⟩ := hsp
            exact ⟨_, _, _, outS S6 okX, r6, q6⟩
        | false =>
          show wpAny _ X.A (handleBy (.ref p) X.env hds2) _ _ _
          exact ih (no rfl)
      | @as_ x n i cv ts b₀ suite np pos' hds2 l2 hN hi hln hc hsu r ih =>
        intro w
        obtain ⟨b, hb1, yes, no⟩ := w
        refine wpAny_handleBy_cons (codeAny_handlers_test ?_) (by intro q; cases q)
        have LM := PySem.W.exm_one (M := model X.prog X.w) (J3.kIn) LT hb1
        refine asks hc (LM.here ?_)
        cases b with
        | true =>
          refine codeAny_handlers_suite_as ?_
          refine HandSPX.lands_againZ fly3 fun g4 fly4 up4 => ?_
          have J4 : Inv X pins σ' H' { t with heap := g4 } := J.landed nB fly4.1 ((upT.trans up3).trans up4) eos agb
          obtain ⟨o4, v4, e4, z4, d4⟩ := fly4.there
          have S4 := intoS (adoptY J4 e4 z4 d4 nA n0 nLo nPi) p
          refine store_ok (X := X.suite p (X.pn ++ pins)) (v := .ref p) S4 hN hi (.inl hln) rfl (fun s5 S5 => ?_) (.inr hln)
          refine wpAny_mono ((hsu p cls od (X.pn ++ pins)).run [] s5 _ _ _ S5 (yes rfl p nA)) (fun f s6 hsp => ?_) (fun _ _ z => False.elim z)
          have goes : ∀ {σ6 : L2.St} {H6 : Hp} {Q : Shared → Prop}, Inv (X.suite p (X.pn ++ pins)) [] σ6 H6 s6 → (∀ s7, Inv X pins (σ6.set i none) H6 s7 → Q s7) → wpAny (model X.prog X.w) X.A (do bindName X.env n .none; unbindBehindTheSuite X.env n pos') (fun _ s7 => Q s7) X.xe s6 := fun {σ6 H6 Q} S6 hq => gone_ok (outS S6 okX) hN hi hln hq
          cases f with
          | next =>
            obtain ⟨σ6, H6, S6, q6⟩ := hsp
            exact goes S6 fun s7 J7 => ⟨_, _, J7, q6⟩
          | brk =>
            obtain ⟨σ6, H6, S6, q6⟩ := hsp
            exact goes S6 fun s7 J7 => ⟨_, _, J7, q6⟩
          | cont =>
            obtain ⟨σ6, H6, S6, q6⟩ := hsp
            exact goes S6 fun s7 J7 => ⟨_, _, J7, q6⟩
          | ret v =>
            obtain ⟨v6, σ6, H6, S6, r6, q6⟩ := hsp
            exact goes S6 fun s7 J7 => ⟨_, _, _, J7, r6, q6⟩
        | false =>
          show wpAny _ X.A (handleBy (.ref p) X.env hds2) _ _ _
          exact ih (no rfl)
    exact seen hh w
  · cases f with
    | next =>
      obtain ⟨σ', H', J', q⟩ := hsp
      exact ho.run pins t σ' H' D (J'.ofTry okX) q
    | brk =>
      obtain ⟨σ', H', J', q⟩ := hsp
      exact ⟨σ', H', J'.ofTry okX, q⟩
    | cont =>
      obtain ⟨σ', H', J', q⟩ := hsp
      exact ⟨σ', H', J'.ofTry okX, q⟩
    | ret v =>
      obtain ⟨v', σ', H', J', r, q⟩ := hsp
      exact ⟨v', σ', H', J'.ofTry okX, r, q⟩
end
/-! ### the combinators -/
/-- class c stands under class t (20: ValueError) -/
def excSub (c t : Nat) : Bool := c == t || (t == 0 && decide (c ≤ 11)) || (t == 20 && decide (c ≤ 11))
def raiseC (c : Nat) : MS := fun l S => .exc c .non l S
def noX : Out Fl → Out Fl
  | .exc _ _ _ _ => .bad
  | o => o
def flZ (i : Nat) : Fl → Fl
  | .nx l => .nx (l.set i none)
  | .bk l => .bk (l.set i none)
  | .ct l => .ct (l.set i none)
  | f => f
def flY (oi : Option Nat) (o : Out Fl) : Out Fl := match oi with
  | none => o
  | some i => o.bind fun f S => .ok (flZ i f) S
def slotL (l : Lo) (c : Nat) (x : DV) : Option Nat → Lo
  | none => l
  | some i => l.set i (some (.exn c x))
def hands (c : Nat) (x : DV) : List (Nat × Option Nat × MS) → MS
  | [] => fun l S => .exc c x l S
  | (t, oi, m) :: r => fun l S => if excSub c t = true then flY oi (noX (m (slotL l c x oi) S)) else hands c x r l S
/-- try: b / except ..: .. / else: els; cs the classes of the text -/
def tryS (cs : List Nat) (b : MS) (hs : List (Nat × Option Nat × MS)) (els : MS) : MS := fun l S => match b l S with
  | .ok (.nx l1) S1 => els l1 S1
  | .ok f S1 => .ok f S1
  | .exc c x l1 S1 => if c ∈ cs ∧ noRef x = true then hands c x hs l1 S1 else .bad
  | .bad => .bad
def isXV (cs : List Nat) (t : Nat) : DV → Option DV
  | .exn c _ => if c ∈ cs then some (.bl (excSub c t)) else none
  | _ => none
/-- isinstance(e, T) of a caught exception -/
def isX (cs : List Nat) (t : Nat) : ME → ME := op1 fun _ => isXV cs t
def isXsV (cs ts : List Nat) : DV → Option DV
  | .exn c _ => if c ∈ cs then some (.bl (ts.any (excSub c))) else none
  | _ => none
/-- isinstance(e, (T, ..)) -/
def isXs (cs ts : List Nat) : ME → ME := op1 fun _ => isXsV cs ts
def fldV : DV → Option DV
  | .exn _ .non => none
  | .exn _ x => some x
  | _ => none
/-- e.f, f the field of its class -/
def fldE : ME → ME := op1 fun _ => fldV

/-! ### what the text's top tells of the classes -/
structure ExcK (K : PySem.W.Frag) (C : Addr) : Prop where
  hc : (PySem.W.clsIn K C).isSome = true
  ga : PySem.W.findIn K (.ref C) "__getattribute__" = some (some (.builtin "BaseException.__getattribute__"))
  gg : PySem.W.findIn K (.ref C) "__getattr__" = some none
  hb : PySem.W.subIn K (.ref C) (.type "BaseException") = some true
  ha : PySem.W.findIn K (.ref C) "__class__" = some (some (.builtin "object.__class__"))
  hn : PySem.W.specialIn K (.builtin "object.__class__") "__get__" = some (some (.builtin "getset_descriptor.__get__"))
  ht : PySem.W.takesIn K (.builtin "object.__class__") = some true
  hm : PySem.W.mroIn K C (.type "object") = some true
/-- class t is there, and what it tells of the classes cs -/
structure XIs (K : PySem.W.Frag) (mg : Str → Option Value) (cs : List Nat) (t : Nat) : Prop where
  ex : ∃ (v : V) (u : Value), ClsV v u ∧ RelV v u ∧ (mg (XNm t) = some u ∨ (mg (XNm t) = none ∧ bootBuiltins (XNm t) = some u)) ∧ ∀ c ∈ cs, ∀ C, XCls K c (.ref C) → ExcK K C ∧ PySem.W.kitOne K (.ref C) u = some (excSub c t) ∧ PySem.W.exmOne K (.ref C) u = some (excSub c t)
/-- class c's exceptions are made by a text -/
structure XRz (K : PySem.W.Frag) (mg : Str → Option Value) (rx : Rx) (c : Nat) : Prop where
  ex : ∃ C : Addr, mg (XNm c) = some (.ref C) ∧ PySem.W.keepIn K (.ref C) = true ∧ PySem.W.excIn K C [.type "ValueError", .type "Exception", .type "BaseException", .type "object"] "ValueError.__new__" = true ∧ PySem.W.subIn K (.ref C) (.type "BaseException") = some true ∧ PySem.W.typeIn K (.ref C) = some (.type "type") ∧ rx c (.ref C)
theorem xcls_eq {K : PySem.W.Frag} {c : Nat} {C D : Addr} (g : PySem.W.nsIn K mainGlobals (XNm c) = some (some (.ref D))) (h : XCls K c (.ref C)) : C = D := by
  obtain ⟨C', e, h⟩ := h
  cases e
  rw [g] at h
  cases h
  rfl
section
variable {X : Cx} {rx : Rx} {W : WX} {a e : Expr} {ma : ME} {pos : Pos}
theorem v_raise {c : Nat} {x m : Str} {j : Nat} {p p2 pos' : Pos} (F : XRz X.K X.mg rx c) (tk : Takes X W) (hx : x = XNm c := by rfl) (hc : X.calm = true := by rfl) (hg : Gl X x := by rfl) (hdb : (x == ("__debug__" : Str)) = false := by decide) :
    IS X rx W (.Raise (some (.Call (.Name x p) [.Constant (.str m) j p2] [] pos)) none pos') (raiseC c) := by
  obtain ⟨C, h1, h2, h3, h4, h5, h6⟩ := F.ex
  subst hx
  refine ps_imp (ps_raise hc tk (pmk_own PySem.F.excBase_ValueError h3 h1 h2 (raises_own h4 h5) hg hdb)) fun D σ H ⟨ρ, l, S, hl, hs, h⟩ => ?_
  exact h ρ H σ (.ref C) none .refl hs hl ⟨h6, by simp only [noRef], .inl ⟨rfl, rfl⟩⟩
theorem pe_cls {cs : List Nat} {t : Nat} {x : Str} {p : Pos} {v : V} {u : Value} (h : X.mg (XNm t) = some u ∨ (X.mg (XNm t) = none ∧ bootBuiltins (XNm t) = some u)) (r : RelV v u) (hx : x = XNm t) (hg : Gl X x) (hn : x ≠ "__name__") (hd : (x == ("__debug__" : Str)) = false) : PE X (.Name x p) (tC v) := by
  subst hx
  rcases h with h | ⟨h1, h2⟩
  · exact pe_glob hg h r hd
  · exact pe_bltn hg h1 h2 r hn hd
/-- the class of a tracked exception, and what isinstance asks of it -/
theorem kit_Y {pins : List (Addr × Obj)} {σ : L2.St} {H : Hp} {s : Shared} (I : Inv X pins σ H s) {p C : Addr} {od : Option Addr} (h : H p = some (ExY (.ref C) od p)) (hod : ∀ d, od = some d → ∃ fs, H d = some (.xd fs)) (k : ExcK X.K C) :
    ∃ (ox : Obj) (oo : Option Obj), PySem.W.InstAt s.heap p ox C oo := by
  obtain ⟨⟨oe, vs, he, hz, hd⟩, _, _⟩ := I.hok p _ h
  have no : PySem.W.notCls oe = true := by unfold PySem.W.notCls; rw [hd] <;> rfl
  cases od with
  | none => exact ⟨oe, none, he, hz.1, no, by rw [hz.2]; trivial⟩
  | some d =>
    obtain ⟨fs, hf⟩ := hod d rfl
    have hx : ObjOk X.prog X.w H s.heap d (.xd fs) := I.hok d _ hf
    obtain ⟨mA, hns, hr⟩ := hx
    obtain ⟨o, ho, hl⟩ := lookIn_ns hns
    exact ⟨oe, some o, he, hz.1, no, by rw [hz.2]; exact ho⟩
def rIsY (K : PySem.W.Frag) : List V → Hp → VK → Prop := fun xs H Q => ∃ (p C : Addr) (od : Option Addr) (v : V) (u : Value) (b : Bool), xs = [.ref p, v] ∧ H p = some (ExY (.ref C) od p) ∧ (∀ d, od = some d → ∃ fs, H d = some (.xd fs)) ∧ ExcK K C ∧ ClsV v u ∧ PySem.W.kitOne K (.ref C) u = some b ∧ Q (.bl b) H
theorem call_isY : CallR X (.builtin "isinstance") (rIsY X.K) := by
  intro pins s σ H xs us Q I r h
  obtain ⟨p, C, od, v, u, b, rfl, hp, hod, k, hv, e, q⟩ := h
  cases r with
  | cons r1 rr =>
    cases rr with
    | cons r2 rr =>
      cases rr
      cases r1
      cases hv.eq r2
      obtain ⟨ox, oo, J⟩ := kit_Y I hp hod k
      exact PySem.W.kia_one (PySem.W.kitx_exc k.hc k.ga k.gg k.hb k.ha k.hn k.ht k.hm) I.kIn J e (fun z => nomatch z) fun tk => ⟨.bl b, H, I.tok tk, rfl, q⟩
def rIsYT (K : PySem.W.Frag) : List V → Hp → VK → Prop := fun xs H Q => ∃ (p C : Addr) (od : Option Addr) (tp : Addr) (vs : List V) (us : List Value) (b : Bool), xs = [.ref p, .ref tp] ∧ H tp = some (.tup vs) ∧ H p = some (ExY (.ref C) od p) ∧ (∀ d, od = some d → ∃ fs, H d = some (.xd fs)) ∧ ExcK K C ∧ Paired ClsV vs us ∧ PySem.W.kitAny K (.ref C) us = some b ∧ Q (.bl b) H
theorem call_isYT : CallR X (.builtin "isinstance") (rIsYT X.K) := by
  intro pins s σ H xs us Q I r h
  obtain ⟨p, C, od, tp, vs, ws, b, rfl, hT, hp, hod, k, hv, e, q⟩ := h
  cases r with
  | cons r1 rr =>
    cases rr with
    | cons r2 rr =>
      cases rr
      cases r1
      cases r2
      obtain ⟨ox, oo, J⟩ := kit_Y I hp hod k
      obtain ⟨_, its, rv, o, h1, h2, n, h3⟩ := (show ObjOk X.prog X.w H s.heap tp (.tup vs) from I.hok tp _ hT)
      have e3 := ClsV.all hv rv
      subst e3
      obtain ⟨oc, odd, dt, sl⟩ := o
      simp only at h2 h3
      subst h2 h3
      exact PySem.W.kia_tup (PySem.W.kitx_exc k.hc k.ga k.gg k.hb k.ha k.hn k.ht k.hm) I.kIn J h1 e (fun z => nomatch z) fun tk => ⟨.bl b, H, I.tok tk, rfl, q⟩
/-- what a caught one is -/
theorem RV.exn {K : PySem.W.Frag} {ρ : List Addr} {H : Hp} {c : Nat} {x : DV} {v : V} (h : RV K ρ H (.exn c x) v) : ∃ (p C : Addr) (od : Option Addr), v = .ref p ∧ H p = some (ExY (.ref C) od p) ∧ XCls K c (.ref C) ∧ (∀ d, od = some d → ∃ fs, H d = some (.xd fs)) ∧ (x ≠ .non → ∃ dd fs u, od = some dd ∧ H dd = some (.xd fs) ∧ fs.lookup (XFl c) = some u ∧ RV K ρ H x u) := by
  simp only [RV] at h
  obtain ⟨p, cls, od, rfl, _, h3, h4, h5⟩ := h
  obtain ⟨C, rfl, h4'⟩ := id h4
  refine ⟨p, C, od, rfl, h3, h4, fun d e => ?_, fun hx => ?_⟩
  · rcases h5 with ⟨_, h5⟩ | ⟨dd, fs, u, q1, _, q3, _⟩
    · rw [h5] at e; cases e
    · rw [q1] at e; cases e; exact ⟨fs, q3⟩
  · rcases h5 with ⟨h5, _⟩ | ⟨dd, fs, u, q1, _, q3, q4, q5⟩
    · exact absurd h5 hx
    · exact ⟨dd, fs, u, q1, q3, q4, q5⟩
theorem v_isX {cs : List Nat} {t : Nat} {x : Str} {p p2 : Pos} (F : XIs X.K X.mg cs t) (hm : X.mg "isinstance" = none) (ha : IE X rx W a ma) (hx : x = XNm t := by rfl) (hg : Gl X "isinstance" := by rfl) (hgc : Gl X x := by rfl) (hn : x ≠ "__name__" := by decide) (hd : (x == ("__debug__" : Str)) = false := by decide)
    (hs : starEach [a, .Name x p2] X.env = (false, eval a X.env) :: starEach [.Name x p2] X.env := by rfl) (hs2 : starEach [.Name x p2] X.env = (false, eval (.Name x p2) X.env) :: starEach [] X.env := by rfl) (hpl : (backTo pos (starEach [.Name x p2] X.env)).any (·.1) = false := by rfl) :
    IE X rx W (.Call (.Name "isinstance" p) [a, .Name x p2] [] pos) (isX cs t ma) := by
  obtain ⟨v, u, h1, h2, h3, h4⟩ := F.ex
  refine pe_imp (pe_callB call_isY hg hm (by decide +kernel) (pa_cons ha (pa_cons (pe_cls (cs := cs) h3 h2 hx hgc hn hd) pa_nil hs2) hs) (by decide) (by decide) hs hpl) fun σ H Q ⟨ρ, l, S, hl, hsS, h⟩ => ?_
  refine bindI hl hsS h fun ρ1 H1 y S1 w e1 s1 l1 r1 q1 => ?_
  obtain ⟨d, hd', q⟩ := q1.of
  dsimp only at hd'
  unfold isXV at hd'
  split at hd'
  · rename_i c x'
    split at hd'
    · rename_i hcs
      cases hd'
      obtain ⟨pp, C, od, rfl, g1, g2, g3, _⟩ := r1.exn
      obtain ⟨k1, k2, _⟩ := h4 c hcs C g2
      exact ⟨pp, C, od, v, u, _, rfl, g1, g3, k1, h1, k2, q ρ1 H1 _ e1 s1 (by simp [RV])⟩
    · cases hd'
  · cases hd'
/-- written classes -/
structure PAC (X : Cx) (cs : List Nat) (es : List Expr) (ts : List Nat) : Prop where
  ex : ∃ (vs : List V) (us : List Value), Paired ClsV vs us ∧ vs.length = ts.length ∧ PA X es (fun _ H Q => Q vs H) ∧ ∀ c ∈ cs, ∀ C, XCls X.K c (.ref C) → PySem.W.kitAny X.K (.ref C) us = some (ts.any (excSub c))
theorem pac_nil {cs : List Nat} : PAC X cs [] [] := ⟨[], [], .nil, rfl, pa_imp pa_nil fun σ H Q h => h, fun c _ C _ => rfl⟩
theorem pac_cons {cs ts : List Nat} {t : Nat} {x : Str} {p : Pos} {es : List Expr} (F : XIs X.K X.mg cs t) (r : PAC X cs es ts) (hx : x = XNm t := by rfl) (hg : Gl X x := by rfl) (hn : x ≠ "__name__" := by decide) (hd : (x == ("__debug__" : Str)) = false := by decide)
    (hs : starEach (.Name x p :: es) X.env = (false, eval (.Name x p) X.env) :: starEach es X.env := by rfl) : PAC X cs (.Name x p :: es) (t :: ts) := by
  obtain ⟨v, u, h1, h2, h3, h4⟩ := F.ex
  obtain ⟨vs, us, k1, k2, k3, k4⟩ := r.ex
  refine ⟨v :: vs, u :: us, .cons h1 k1, by simp [k2], pa_imp (pa_cons (pe_cls (cs := cs) h3 h2 hx hg hn hd) k3 hs) fun σ H Q h => h, fun c m C q => ?_⟩
  obtain ⟨_, g2, _⟩ := h4 c m C q
  have g := k4 c m C q
  show (match PySem.W.kitOne X.K (.ref C) u with | some true => some true | some false => PySem.W.kitAny X.K (.ref C) us | none => none) = _
  rw [g2, List.any_cons]
  cases excSub c t with
  | true => rfl
  | false => simpa using g
theorem v_isXs {cs ts : List Nat} {es : List Expr} {p tpos : Pos} {k : Nat} (K0 : ∀ c ∈ cs, ∀ C, XCls X.K c (.ref C) → ExcK X.K C) (F : PAC X cs es ts) (hm : X.mg "isinstance" = none) (ha : IE X rx W a ma) (hl : decide (ts.length ≤ 20) = true := by decide) (hg : Gl X "isinstance" := by rfl)
    (hs : starEach [a, .Tuple es k tpos] X.env = (false, eval a X.env) :: starEach [.Tuple es k tpos] X.env := by rfl) (hs2 : starEach [.Tuple es k tpos] X.env = (false, eval (.Tuple es k tpos) X.env) :: starEach [] X.env := by rfl) (hpl : (backTo pos (starEach [.Tuple es k tpos] X.env)).any (·.1) = false := by rfl) :
    IE X rx W (.Call (.Name "isinstance" p) [a, .Tuple es k tpos] [] pos) (isXs cs ts ma) := by
  obtain ⟨vs, us, k1, k2, k3, k4⟩ := F.ex
  have hl' : ts.length ≤ 20 := of_decide_eq_true hl
  refine pe_imp (pe_callB call_isYT hg hm (by decide +kernel) (pa_cons ha (pa_cons (pe_tup k3) pa_nil hs2) hs) (by decide) (by decide) hs hpl) fun σ H Q ⟨ρ, l, S, hl, hsS, h⟩ => ?_
  refine bindI hl hsS h fun ρ1 H1 y S1 w e1 s1 l1 r1 q1 => ?_
  obtain ⟨d, hd', q⟩ := q1.of
  dsimp only at hd'
  unfold isXsV at hd'
  split at hd'
  · rename_i c x'
    split at hd'
    · rename_i hcs
      cases hd'
      obtain ⟨pp, C, od, rfl, g1, g2, g3, _⟩ := r1.exn
      have hne : H1 pp ≠ none := by rw [g1]; exact fun z => nomatch z
      refine ⟨by rw [k2, sizeLine_eq]; omega, fun tp htp => ?_⟩
      have nt : pp ≠ tp := fun z => hne (by rw [z]; exact htp)
      refine ⟨pp, C, od, tp, vs, us, _, rfl, upd_same, by rw [upd_ne nt]; exact g1, fun d e => ?_, K0 c hcs C g2, k1, k4 c hcs C g2, ?_⟩
      · obtain ⟨fs, hf⟩ := g3 d e
        exact ⟨fs, by rw [upd_ne (ne_of_none hf htp)]; exact hf⟩
      · exact q ρ1 _ _ (e1.trans (ext_new htp)) (s1.new htp) (by simp [RV])
    · cases hd'
  · cases hd'
/-! ### try -/
inductive YH (X : Cx) (rx : Rx) (cs : List Nat) : List ExceptHandler → List (Nat × Option Nat × MS) → Prop
  | nil : YH X rx cs [] []
  | bare {x : Str} {t : Nat} {m : MS} {b₀ : Stmt} {suite : List Stmt} {np pos' : Pos} {hds : List ExceptHandler} {l : List (Nat × Option Nat × MS)} (F : XIs X.K X.mg cs t) (hx : x = XNm t) (hg : Gl X x) (hn : x ≠ "__name__") (hd : (x == ("__debug__" : Str)) = false)
      (hsu : ∀ (p : Addr) (pn : List (Addr × Obj)), ISs (X.suite p pn) rx (fun _ _ _ _ => False) (b₀ :: suite) m) (r : YH X rx cs hds l) : YH X rx cs (.ExceptHandler (some (.Name x np)) none (b₀ :: suite) pos' :: hds) ((t, none, m) :: l)
  | as_ {x n : Str} {i t : Nat} {m : MS} {b₀ : Stmt} {suite : List Stmt} {np pos' : Pos} {hds : List ExceptHandler} {l : List (Nat × Option Nat × MS)} (hN : X.N.Nodup) (hi : X.N[i]? = some n) (hln : X.env.kindOf n = some .local) (F : XIs X.K X.mg cs t) (hx : x = XNm t) (hg : Gl X x) (hn : x ≠ "__name__") (hd : (x == ("__debug__" : Str)) = false)
      (hsu : ∀ (p : Addr) (pn : List (Addr × Obj)), ISs (X.suite p pn) rx (fun _ _ _ _ => False) (b₀ :: suite) m) (r : YH X rx cs hds l) : YH X rx cs (.ExceptHandler (some (.Name x np)) (some n) (b₀ :: suite) pos' :: hds) ((t, some i, m) :: l)
theorem names_of {t : Nat} {x : Str} {u : Value} (h : X.mg (XNm t) = some u ∨ (X.mg (XNm t) = none ∧ bootBuiltins (XNm t) = some u)) (hx : x = XNm t) (hg : Gl X x) (hn : x ≠ "__name__") (hd : (x == ("__debug__" : Str)) = false) : Names X x u := by
  subst hx
  exact ⟨hg, hd, h.imp id fun ⟨a, b⟩ => ⟨a, b, hn⟩⟩
theorem suite_ok {K : PySem.W.Frag} {ρ : List Addr} {H : Hp} {D : Ends} {c : Nat} {x : DV} {cls : Value} {od : Option Addr} {σ : L2.St} {l : Lo} {S : Sto} {m : MS} {p : Addr} (oi : Option Nat) (hl : RL K ρ H l σ) (hs : RS K ρ H S) (hx : noRef x = true) (hc : XCls K c cls)
    (hq : (x = .non ∧ od = none) ∨ ∃ (dd : Addr) (fs : List (Str × V)) (u : V), od = some dd ∧ dd ∉ ρ ∧ H dd = some (.xd fs) ∧ fs.lookup (XFl c) = some u ∧ RV K ρ H x u) (hp : H p = none)
    (h : Post K rx W ρ H (flY oi (noX (m (slotL l c x oi) S))) (QS K ρ H D)) : tS K rx (fun _ _ _ _ => False) m (endsY D oi) (slotY σ p oi) (upd H p (ExY cls od p)) := by
  have ex : Ext ρ H ρ (upd H p (ExY cls od p)) := ext_new hp
  have hv : RV K ρ (upd H p (ExY cls od p)) (.exn c x) (.ref p) := by
    simp only [RV]
    refine ⟨p, cls, od, rfl, notin_of hs hp, upd_same, hc, ?_⟩
    rcases hq with hq | ⟨dd, fs, u, q1, q2, q3, q4, q5⟩
    · exact .inl hq
    · exact .inr ⟨dd, fs, u, q1, q2, by rw [upd_ne (ne_of_none q3 hp)]; exact q3, q4, q5.mono ex⟩
  refine ⟨ρ, slotL l c x oi, S, ?_, hs.new hp, ?_⟩
  · cases oi with
    | none => exact hl.mono ex
    | some i => exact (hl.mono ex).set i hv
  · cases em : m (slotL l c x oi) S with
    | bad => rw [em] at h; cases oi <;> exact False.elim h
    | exc c' x' l' S' => rw [em] at h; cases oi <;> exact False.elim h
    | ok f S' =>
      rw [em] at h
      cases oi with
      | none => exact QS.back ex (show QS K ρ H D f S' from h)
      | some i =>
        have h' : QS K ρ H D (flZ i f) S' := h
        cases f with
        | nx l' => exact fun ρ' H' σ' e' s' r' => h' ρ' H' _ (ex.trans e') s' (r'.forget i)
        | bk l' => exact fun ρ' H' σ' e' s' r' => h' ρ' H' _ (ex.trans e') s' (r'.forget i)
        | ct l' => exact fun ρ' H' σ' e' s' r' => h' ρ' H' _ (ex.trans e') s' (r'.forget i)
        | rt d => exact fun ρ' H' v e' => h' ρ' H' v (ex.trans e')
theorem yh_ok {cs : List Nat} (hrx : ∀ c cls, rx c cls → XCls X.K c cls) {hds : List ExceptHandler} {hl : List (Nat × Option Nat × MS)} (h : YH X rx cs hds hl) : ∃ l' : List (Value × Option Nat × TSx), YHs X hds l' ∧
    ∀ (D : Ends) (c : Nat) (x : DV) (cls : Value) (od : Option Addr) (ρ : List Addr) (H : Hp) (σ : L2.St) (l : Lo) (S : Sto), c ∈ cs → RL X.K ρ H l σ → RS X.K ρ H S → RX X.K ρ H rx c x cls od → Post X.K rx W ρ H (hands c x hl l S) (QS X.K ρ H D) → wYs X.K W D l' cls od σ H := by
  induction h with
  | nil => exact ⟨[], .nil, fun D c x cls od ρ H σ l S hc hl hs hx h => h ρ H σ cls od .refl hs hl hx⟩
  | @bare x t m b₀ suite np pos' hds l F hx hg hn hd hsu r ih =>
    obtain ⟨l', h1, h2⟩ := ih
    obtain ⟨v, u, f1, f2, f3, f4⟩ := F.ex
    refine ⟨(u, none, fun _ _ _ => tS X.K rx (fun _ _ _ _ => False) m) :: l', .bare (names_of f3 hx hg hn hd) (fun p cls od pn => hsu p pn) h1, fun D c y cls od ρ H σ l S hc hl hs hX h => ?_⟩
    obtain ⟨x1, x2, x3⟩ := hX
    have hc' := hrx c cls x1
    obtain ⟨C, rfl, _⟩ := id hc'
    obtain ⟨_, _, g3⟩ := f4 c hc C hc'
    refine ⟨excSub c t, g3, fun e p hp => ?_, fun e => h2 D c y _ od ρ H σ l S hc hl hs ⟨x1, x2, x3⟩ ?_⟩
    · unfold hands at h
      rw [if_pos e] at h
      exact suite_ok none hl hs x2 hc' x3 hp h
    · unfold hands at h
      rw [if_neg (by rw [e]; decide)] at h
      exact h
  | @as_ x n i t m b₀ suite np pos' hds l hN hi hln F hx hg hn hd hsu r ih =>
    obtain ⟨l', h1, h2⟩ := ih
    obtain ⟨v, u, f1, f2, f3, f4⟩ := F.ex
    refine ⟨(u, some i, fun _ _ _ => tS X.K rx (fun _ _ _ _ => False) m) :: l', .as_ hN hi hln (names_of f3 hx hg hn hd) (fun p cls od pn => hsu p pn) h1, fun D c y cls od ρ H σ l S hc hl hs hX h => ?_⟩
    obtain ⟨x1, x2, x3⟩ := hX
    have hc' := hrx c cls x1
    obtain ⟨C, rfl, _⟩ := id hc'
    obtain ⟨_, _, g3⟩ := f4 c hc C hc'
    refine ⟨excSub c t, g3, fun e p hp => ?_, fun e => h2 D c y _ od ρ H σ l S hc hl hs ⟨x1, x2, x3⟩ ?_⟩
    · unfold hands at h
      rw [if_pos e] at h
      exact suite_ok (some i) hl hs x2 hc' x3 hp h
    · unfold hands at h
      rw [if_neg (by rw [e]; decide)] at h
      exact h
theorem v_try {cs : List Nat} {body orelse : List Stmt} {h₀ : ExceptHandler} {hds : List ExceptHandler} {mb me : MS} {hl : List (Nat × Option Nat × MS)} (hrx : ∀ c cls, rx c cls → XCls X.K c cls) (tk : Takes X W)
    (hb : ∀ (W : WX) (pn : List (Addr × Obj)) (xe : Value → Shared → Prop), Takes (X.tr pn xe) W → ISs (X.tr pn xe) rx W body mb) (hh : YH X rx cs (h₀ :: hds) hl) (ho : ISs X rx W orelse me)
    (hxe : X.ex = [] := by rfl) (hst : X.stack = X.env :: X.outer := by rfl) (hfe : X.env.frame = some X.env.locals := by rfl) : IS X rx W (.Try body (h₀ :: hds) orelse [] pos) (tryS cs mb hl me) := by
  obtain ⟨l', h1, h2⟩ := yh_ok (W := W) hrx hh
  refine ps_imp (ps_tryY (tb := fun W' => tS X.K rx W' mb) ho hxe hst hfe tk (fun W' pn xe t _ => hb W' pn xe t) h1) fun D σ H ⟨ρ, l, S, hlS, hs, h⟩ => ?_
  refine ⟨ρ, l, S, hlS, hs, ?_⟩
  unfold tryS at h
  cases e : mb l S with
  | bad => rw [e] at h; exact h
  | exc c x l1 S1 =>
    rw [e] at h
    dsimp only at h
    split at h
    · rename_i hc
      intro ρ' H' σ' cls od e' s' r' q
      exact h2 D c x cls od ρ' H' σ' l1 S1 hc.1 r' s' q ((Post.shift e' h).imp fun f T k => k.back e')
    · exact False.elim h
  | ok f S1 =>
    rw [e] at h
    cases f with
    | nx l1 => exact fun ρ' H' σ' e' s' r' => back_S e' r' s' (Post.shift e' h)
    | bk l1 => exact h
    | ct l1 => exact h
    | rt d => exact h
end
/-- the room in a suite -/
structure SuU (A : Around) : Prop where
  units : A.units + 64 < cLine
  u1 : A.units + 1 < cLine
  u66 : A.units + 66 < cLine
theorem suiteU {k : Nat} {A : Around} (r : Room k A) (v : Option Value) : SuU (A.mark v) := by
  have := r.un
  constructor <;> rw [Around.mark_units] <;> omega
/-! ### the facts, by the text's top -/
theorem y_kit {K : PySem.W.Frag} {C D : Addr} {b : Bool} (h0 : PySem.W.subIn K (.ref C) (.ref C) = some true) (h1 : PySem.W.isClsIn K D = true) (h2 : PySem.W.typeIn K (.ref D) = some (.type "type")) (h3 : PySem.W.subIn K (.ref C) (.ref D) = some b) : PySem.W.kitOne K (.ref C) (.ref D) = some b := by
  have h1' : (PySem.W.clsIn K D).isSome = true := h1
  unfold PySem.W.kitOne
  split
  · rename_i e
    have e' : C = D := Value.ref.inj (beq_iff_eq.mp e)
    subst e'
    rw [h0] at h3
    exact h3
  · show (if ((PySem.W.clsIn K D).isSome && PySem.W.typeIn K (.ref D) == some (.type "type")) = true then PySem.W.subIn K (.ref C) (.ref D) else none) = some b
    rw [if_pos (by rw [h1', h2]; rfl)]
    exact h3
theorem y_exm {K : PySem.W.Frag} {C D : Addr} {b : Bool} (hB : PySem.W.subIn K (.ref D) (.type "BaseException") = some true) (h1 : PySem.W.isClsIn K D = true) (h2 : PySem.W.typeIn K (.ref D) = some (.type "type")) (h3 : PySem.W.subIn K (.ref C) (.ref D) = some b) : PySem.W.exmOne K (.ref C) (.ref D) = some b := by
  have h1' : (PySem.W.clsIn K D).isSome = true := h1
  unfold PySem.W.exmOne
  rw [if_pos (by rw [hB]; rfl)]
  show (if ((PySem.W.clsIn K D).isSome && PySem.W.typeIn K (.ref D) == some (.type "type")) = true then PySem.W.subIn K (.ref C) (.ref D) else none) = some b
  rw [if_pos (by rw [h1', h2]; rfl)]
  exact h3
theorem y_kitV {K : PySem.W.Frag} {C : Addr} {b : Bool} (h3 : PySem.W.subIn K (.ref C) (.type "ValueError") = some b) : PySem.W.kitOne K (.ref C) (.type "ValueError") = some b := by
  unfold PySem.W.kitOne
  rw [if_neg (by simp)]
  show (if PySem.W.kitMeta "ValueError" = true then PySem.W.subIn K (.ref C) (.type "ValueError") else none) = some b
  rw [if_pos (by decide +kernel)]
  exact h3
theorem y_exmV {K : PySem.W.Frag} {C : Addr} {b : Bool} (h3 : PySem.W.subIn K (.ref C) (.type "ValueError") = some b) : PySem.W.exmOne K (.ref C) (.type "ValueError") = some b := by
  have h : PySem.W.subIn K (.type "ValueError") (.type "BaseException") = some true := by
    show (fastBuiltinMro "ValueError").map _ = some true
    decide +kernel
  unfold PySem.W.exmOne
  rw [if_pos (by rw [h]; rfl)]
  show (if PySem.W.kitMeta "ValueError" = true then PySem.W.subIn K (.ref C) (.type "ValueError") else none) = some b
  rw [if_pos (by decide +kernel)]
  exact h3
end Y
/-! More constructs: xs[a:b:k], xs.index(x), d.pop(k), max and min of two, str(int), list(d.values()). -/
namespace Y
open PySem L2 RZ PyProof.Rows
/-! ### xs[lo:hi:st] of a list -/
def pickL {α : Type} (xs : List α) (lo hi st : Option Int) : List α := (sliceRange (sliceBounds lo hi st xs.length).1 (sliceBounds lo hi st xs.length).2.1 (sliceBounds lo hi st xs.length).2.2).filterMap (xs[·]?)
def lstSeq (S : Sto) : DV → Option (List DV)
  | .tup _ => none
  | x => seqOf S x
def slStV (S : Sto) (x : DV) (lo hi st : Option Int) : Option DV := match lstSeq S x with
  | some xs => if st ≠ some 0 ∧ (pickL xs lo hi st).length ≤ LIM then some (.lst (pickL xs lo hi st)) else none
  | none => none
def sliceSt (a : ME) (lo hi st : Option ME) : ME := fun l S => (a l S).bind fun x S1 => (part lo l S1).bind fun p S2 => (part hi l S2).bind fun q S3 => (part st l S3).bind fun r S4 => Out.of (slStV S4 x p q r) S4
theorem slicePick_L (its : List Value) (lo hi st : Option Int) : PySem.slicePick its.toArray lo hi st = (pickL its lo hi st).toArray := by
  unfold PySem.slicePick pickL
  rw [List.size_toArray]
  congr 2
  funext i
  simp
section
variable {X : Cx} {rx : Rx} {W : WX} {a b e : Expr} {ma mb me : ME} {pos : Pos}
def tSlSt (K : PySem.W.Frag) (te : TE) (tl th ts : TO) : TE := fun σ H Q => te σ H fun x H1 => tl σ H1 fun lo H2 => th σ H2 fun hi H3 => ts σ H3 fun st H4 => ∃ a xs, x = .ref a ∧ SqL K H4 a xs ∧ st ≠ some 0 ∧ (pickL xs lo hi st).length ≤ sizeLine ∧ ∀ p, H4 p = none → Q (.ref p) (upd H4 p (.lst (pickL xs lo hi st)))
theorem vals_pick {xs : List V} {us : List Value} (r : Vals xs us) (lo hi st : Option Int) : Vals (pickL xs lo hi st) (pickL us lo hi st) := by
  unfold pickL
  rw [r.length]
  generalize sliceRange _ _ _ = ix
  induction ix with
  | nil => exact .nil
  | cons i ix ih =>
    cases e : xs[i]? with
    | none =>
      have e2 : us[i]? = none := by
        rw [List.getElem?_eq_none_iff] at e ⊢
        rw [← r.length]; exact e
      rw [List.filterMap_cons_none e, List.filterMap_cons_none e2]
      exact ih
    | some v =>
      obtain ⟨u, e2, ru⟩ := r.get e
      rw [List.filterMap_cons_some e, List.filterMap_cons_some e2]
      exact .cons ru ih
theorem pe_slSt {lo hi : Option Expr} {st : Expr} {te : TE} {tl th ts : TO} {p2 : Pos} (he : PE X e te) (h1 : PO X lo tl) (h2 : PO X hi th) (h3 : PO X (some st) ts) : PE X (.Subscript e (.Slice lo hi (some st) p2) pos) (tSlSt X.K te tl th ts) := by
  refine ⟨fun pins s σ H Q I h => ?_⟩
  refine Subscript_ (thn (he.run pins s σ H _ I h) fun v s1 ⟨x, H1, I1, r1, q1⟩ => ?_)
  refine wpAny_Slice (thn (h1.run pins s1 σ H1 _ I1 q1) fun vl s2 ⟨l, H2, I2, pl, q2⟩ => thn (h2.run pins s2 σ H2 _ I2 q2) fun vu s3 ⟨u, H3, I3, pu, q3⟩ => thn (h3.run pins s3 σ H3 _ I3 q3) fun vs s4 ⟨o, H4, I4, ps, q4⟩ => ?_)
  obtain ⟨p, xs, ex, hx, h0, hl, q⟩ := q4
  subst ex
  cases r1
  have I5 : Inv X pins σ H4 { s4 with heap := s4.heap.push { cls := .type "slice", data := .fields #[vl, vu, vs] } } := I4.kept (t' := s4.toks) fun b ob z => Heap.get?_push_of_some _ z
  obtain ⟨its, r, ht, hz⟩ := I5.list hx
  have hlen := r.length
  show wpAny (model X.prog X.w) X.A (subscriptTail e (.Slice lo hi (some st) p2) (.ref p) (.ref s4.heap.objs.size)) (EP X pins σ Q) X.xe _
  refine tail_any (ops := [.ref p, .ref s4.heap.objs.size]) ht.isList.typeIs (PySem.slot_list_getitem.lookup) ?_ (by with_unfolding_all rfl)
  refine wpAny_getItem_list_slice ht.isList (Heap.IsSliceOf.new _ vl vu vs) pl pu ps h0 ?_ (by rw [List.size_toArray]; omega)
  rw [slicePick_L]
  have rp := vals_pick r l u o
  refine ⟨.ref _, _, I5.laid (t' := s4.toks) (o := .lst (pickL xs l u o)) (fun b ob z => Heap.get?_push_of_some _ z) (Nat.le_refl _) ?_, rfl, q _ (I5.hok.fresh (Nat.le_refl _))⟩
  exact ⟨hl, _, 0, rp, Heap.get?_push_size _ rfl⟩
theorem RVs.pick {K : PySem.W.Frag} {ρ : List Addr} {H : Hp} {xs : List DV} {vs : List V} (r : RVs K ρ H xs vs) (lo hi st : Option Int) : RVs K ρ H (pickL xs lo hi st) (pickL vs lo hi st) := by
  unfold pickL
  rw [r.length]
  generalize sliceRange _ _ _ = ix
  induction ix with
  | nil => simp [RVs]
  | cons i ix ih =>
    cases e : xs[i]? with
    | none =>
      have e2 : vs[i]? = none := by
        rw [List.getElem?_eq_none_iff] at e ⊢
        rw [← r.length]; exact e
      rw [List.filterMap_cons_none e, List.filterMap_cons_none e2]
      exact ih
    | some v =>
      obtain ⟨u, e2, ru⟩ := r.get e
      rw [List.filterMap_cons_some e, List.filterMap_cons_some e2]
      exact .cons ru ih
theorem RV.lstSeq {K : PySem.W.Frag} {ρ : List Addr} {H : Hp} {S : Sto} (s : RS K ρ H S) {x : DV} {xs : List DV} {v : V} (h : RV K ρ H x v) (e : Y.lstSeq S x = some xs) : ∃ a vs, v = .ref a ∧ SqL K H a vs ∧ RVs K ρ H xs vs := by
  unfold Y.lstSeq at e
  split at e
  · cases e
  · rename_i hn
    exact h.seqL s e fun ys z => hn ys z
theorem v_sliceSt {lo hi : Option Expr} {st : Expr} {ml mh ms : Option ME} {p2 : Pos} (ha : IE X rx W a ma) (h1 : IP X rx W lo ml) (h2 : IP X rx W hi mh) (h3 : IP X rx W (some st) ms) : IE X rx W (.Subscript a (.Slice lo hi (some st) p2) pos) (sliceSt ma ml mh ms) := by
  refine pe_imp (pe_slSt ha h1 h2 h3) fun σ H Q ⟨ρ, l, S, hl, hs, h⟩ => ?_
  refine bindI hl hs h fun ρ1 H1 x S1 v e1 s1 l1 r1 h1 => ?_
  refine ⟨ρ1, l, S1, l1, s1, h1.bind.imp fun p S2 h2 ρ2 H2 e2 s2 => ?_⟩
  refine ⟨ρ2, l, S2, l1.mono e2, s2, (h2.shift e2).bind.imp fun p' S3 h3 ρ3 H3 e3 s3 => ?_⟩
  refine ⟨ρ3, l, S3, (l1.mono e2).mono e3, s3, (h3.shift e3).bind.imp fun p'' S4 h4 ρ4 H4 e4 s4 => ?_⟩
  obtain ⟨d, hd, q⟩ := h4.of
  unfold slStV at hd
  split at hd
  · rename_i xs ex
    split at hd
    · rename_i hz
      cases hd
      obtain ⟨pp, vs, rfl, k1, k2⟩ := (((r1.mono e2).mono e3).mono e4).lstSeq s4 ex
      have kp := k2.pick p p' p''
      refine ⟨pp, vs, rfl, k1, hz.1, by rw [← LIM_eq, ← kp.length]; exact hz.2, fun t ht => ?_⟩
      exact q ρ4 _ _ (e1.trans (e2.trans (e3.trans (e4.trans (ext_new ht))))) (s4.new ht) (rv_newL s4 ht kp)
    · cases hd
  · cases hd
/-! ### xs.index(x) -/
noncomputable def idxOfD (y : DV) : List DV → Option Nat
  | [] => none
  | z :: zs => if eqB z y = true then some 0 else (idxOfD y zs).map (· + 1)
noncomputable def indexV (S : Sto) (x y : DV) : Option DV := match lstSeq S x with
  | some xs => if flatD y = true ∧ xs.all flatD = true then (idxOfD y xs).map fun i => .int (i : Nat) else none
  | none => none
noncomputable def indexE (a e : ME) : ME := fun l S => (a l S).bind fun x S1 => if (lstSeq S1 x).isSome = true then (e l S1).bind fun y S2 => Out.of (indexV S2 x y) S2 else .bad
theorem idx_at {K : PySem.W.Frag} {ρ : List Addr} {H : Hp} {y : DV} {u : V} (hy : flatD y = true) (ry : RV K ρ H y u) : ∀ {xs : List DV} {vs : List V} {i : Nat}, xs.all flatD = true → RVs K ρ H xs vs → idxOfD y xs = some i → ∃ z, vs[i]? = some z ∧ L2.eqV z u = true ∧ ∀ (m : Nat) (z' : V), m < i → vs[m]? = some z' → L2.eqV z' u = false
  | [], vs, i, _, _, e => by simp [idxOfD] at e
  | x :: xs, vs, i, hf, r, e => by
    simp only [RVs] at r
    obtain ⟨v, t, rfl, r1, r2⟩ := r
    simp only [List.all_cons, Bool.and_eq_true] at hf
    unfold idxOfD at e
    have ev := flat_eqV hf.1 hy r1 ry
    split at e
    · rename_i h
      cases e
      exact ⟨v, rfl, by rw [ev]; exact h, fun m z' hm => absurd hm (Nat.not_lt_zero _)⟩
    · rename_i h
      cases e2 : idxOfD y xs with
      | none => rw [e2] at e; cases e
      | some j =>
        rw [e2] at e
        cases e
        obtain ⟨z, h1, h2, h3⟩ := idx_at hy ry hf.2 r2 e2
        refine ⟨z, by simpa using h1, h2, fun m z' hm hz => ?_⟩
        cases m with
        | zero =>
          simp at hz
          subst hz
          rw [ev]
          simpa using h
        | succ m => exact h3 m z' (Nat.lt_of_succ_lt_succ hm) (by simpa using hz)
theorem v_index {apos cpos : Pos} (ha : IE X rx W a ma) (he : IE X rx W e me) (hbase : attributeBase a "index" X.env (eval a X.env) = eval a X.env := by rfl)
    (hfew : ((backTo cpos (starEach [e] X.env)).all (fun x => !x.1) && (backToKw cpos (keywordEach [] X.env)).all (fun x => x.1.isSome)
      && decide (([e]).length + ([] : List Keyword).length + (if ([] : List Keyword).isEmpty then 0 else 1) < 30)) = true := by rfl)
    (hline : (apos.endLine == cpos.line) = true := by rfl) (hs : starEach [e] X.env = (false, eval e X.env) :: starEach [] X.env := by rfl) (hplain : (backTo cpos (starEach [] X.env)).any (·.1) = false := by rfl) :
    IE X rx W (.Call (.Attribute a "index" apos) [e] [] cpos) (indexE ma me) := by
  refine pe_imp (pe_bm PySem.F.plainAttrs_list PySem.F.slot_list_index PySem.F.type_list_index mt_index ha (pa_cons he pa_nil hs) hbase hfew hline hs hplain) fun σ H Q ⟨ρ, l, S, hl, hs, h⟩ => ?_
  refine bindI hl hs h fun ρ1 H1 x S1 v e1 s1 l1 r1 h1 => ?_
  split at h1
  · rename_i hx
    obtain ⟨xs0, ex0⟩ := Option.isSome_iff_exists.mp hx
    obtain ⟨p0, vs0, rfl, k0, _⟩ := r1.lstSeq s1 ex0
    refine ⟨.inl ⟨rfl, vs0, k0⟩, bindI l1 s1 h1 fun ρ2 H2 y S2 u e2 s2 l2 r2 h2 => ?_⟩
    obtain ⟨d, hd, q⟩ := h2.of
    unfold indexV at hd
    split at hd
    · rename_i xs ex
      split at hd
      · rename_i hf
        cases ei : idxOfD y xs with
        | none => rw [ei] at hd; cases hd
        | some i =>
          rw [ei] at hd
          cases hd
          obtain ⟨p, vs, ep, k1, k2⟩ := (r1.mono e2).lstSeq s2 ex
          cases ep
          obtain ⟨z, g1, g2, g3⟩ := idx_at hf.1 r2 hf.2 k2 ei
          exact ⟨p0, vs, u, i, z, rfl, rfl, k1, flat_ok hf.1 r2, flats_ok hf.2 k2, g1, g2, g3, q ρ2 H2 _ (e1.trans e2) s2 (by simp [RV])⟩
      · cases hd
    · cases hd
  · exact False.elim h1
/-! ### d.pop(k) -/
def dropD (kvs : List (Key × DV)) (k : Key) : List (Key × DV) := kvs.filter fun kv => decide (kv.1 ≠ k)
def popK (a k : ME) : ME := fun l S => (a l S).bind fun x S1 => if (dkOf S1 x).isSome = true then (k l S1).bind fun j S2 => (match x, keyOf j with
  | .ref i, some j => match S2[i]? with
    | some (.dk kvs) => match getK kvs j with
      | some d => .ok d (S2.set i (.dk (dropD kvs j)))
      | none => .bad
    | _ => .bad
  | _, _ => .bad) else .bad
theorem RVK.dropD {K : PySem.W.Frag} {ρ : List Addr} {H : Hp} (j : Key) : ∀ {kvs : List (Key × DV)} {ws : List (Key × V)}, RVK K ρ H kvs ws → RVK K ρ H (Y.dropD kvs j) (dropK ws j)
  | [], ws, h => by simp only [RVK] at h; subst h; simp [Y.dropD, dropK, RVK]
  | (k, x) :: r, ws, h => by
    simp only [RVK] at h
    obtain ⟨v, t, rfl, h1, h2⟩ := h
    have ih := RVK.dropD j h2
    unfold Y.dropD dropK at ih ⊢
    by_cases e : k = j
    · simpa [e] using ih
    · rw [List.filter_cons_of_pos (by simpa using e), List.filter_cons_of_pos (by simpa using e)]
      simp only [RVK]
      exact ⟨v, _, rfl, h1, ih⟩
theorem noRefK_drop {j : Key} : ∀ {kvs : List (Key × DV)}, noRefK kvs = true → noRefK (dropD kvs j) = true
  | [], _ => rfl
  | (k, x) :: r, h => by
    simp only [noRefK, Bool.and_eq_true] at h
    have ih := noRefK_drop (j := j) h.2
    unfold dropD at ih ⊢
    by_cases e : k = j
    · simpa [e] using ih
    · rw [List.filter_cons_of_pos (by simpa using e)]
      simp only [noRefK, Bool.and_eq_true]
      exact ⟨h.1, ih⟩
theorem v_popK {apos cpos : Pos} {ky : Expr} {mk : ME} (ha : IE X rx W a ma) (hk : IE X rx W ky mk) (hbase : attributeBase a "pop" X.env (eval a X.env) = eval a X.env := by rfl)
    (hfew : ((backTo cpos (starEach [ky] X.env)).all (fun x => !x.1) && (backToKw cpos (keywordEach [] X.env)).all (fun x => x.1.isSome)
      && decide (([ky] : List Expr).length + ([] : List Keyword).length + (if ([] : List Keyword).isEmpty then 0 else 1) < 30)) = true := by rfl)
    (hline : (apos.endLine == cpos.line) = true := by rfl) (ht : backTo cpos (starEach [ky] X.env) = [(false, eval ky X.env)] := by rfl) : IE X rx W (.Call (.Attribute a "pop" apos) [ky] [] cpos) (popK ma mk) := by
  refine pe_imp (pe_dpop1 ha hk ⟨hbase, hfew, hline, ht⟩) fun σ H Q ⟨ρ, l, S, hl, hs, h⟩ => ?_
  refine bindI hl hs h fun ρ1 H1 x S1 v e1 s1 l1 r1 h1 => ?_
  split at h1
  · rename_i hd
    obtain ⟨kvs0, ed⟩ := Option.isSome_iff_exists.mp hd
    obtain ⟨p0, ws0, rfl, hp0, _⟩ := r1.dkOf s1 ed
    refine ⟨p0, rfl, .inl ⟨ws0, hp0⟩, ?_⟩
    refine bindI l1 s1 h1 fun ρ2 H2 j S2 w e2 s2 l2 r2 h2 => ?_
    split at h2
    · rename_i i j' ej
      split at h2
      · rename_i kvs hk
        split at h2
        · rename_i d eg
          obtain ⟨p, hp, ep⟩ := (r1.mono e2).ref
          cases ep
          obtain ⟨ws, h4, h5, h6⟩ := s2.at_ i p0 _ hp hk
          have g := h5.get j'
          rw [eg] at g
          obtain ⟨w', hw', rw'⟩ := g
          have ew : Ext ρ2 H2 ρ2 (upd H2 p0 (.dK (dropK ws j'))) := ext_write s2 (List.mem_of_getElem? hp) (Live.d h4)
          exact ⟨ws, j', w', h4, keyOf_v ej r2, hw', h2 ρ2 _ _ (e1.trans (e2.trans ew)) (s2.write (d := .dk (dropD kvs j')) hp (Live.d h4) ⟨_, upd_same, RVK.mono ew _ _ (h5.dropD j'), noRefK_drop h6⟩) (RV.mono ew _ _ rw')⟩
        · exact False.elim h2
      · exact False.elim h2
    · exact False.elim h2
  · exact False.elim h1
/-! ### builtins of two -/
theorem bi_rule2 {r : List V → Hp → VK → Prop} {e : Expr} {f : Sto → DV → DV → Option DV} (h : PE X e (tCB r (tA X.K rx W (aCons ma (aCons mb aNil)))))
    (hf : ∀ {ρ : List Addr} {H : Hp} {S : Sto} {x y d : DV} {v u : V} {Q : VK}, RS X.K ρ H S → RV X.K ρ H x v → RV X.K ρ H y u → f S x y = some d → QE X.K ρ H Q d S → r [v, u] H Q) : IE X rx W e (op2 f ma mb) := by
  refine pe_imp h fun σ H Q ⟨ρ, l, S, hl, hs, h⟩ => ?_
  refine ⟨ρ, l, S, hl, hs, ?_⟩
  show Post X.K rx W ρ H ((ma l S).bind fun x S1 => ((mb l S1).bind fun y S2 => .ok [y] S2).bind fun xs S2 => .ok (x :: xs) S2) _
  have h' : Post X.K rx W ρ H ((ma l S).bind fun x S1 => (mb l S1).bind fun y S2 => Out.of (f S2 x y) S2) (QE X.K ρ H Q) := h
  cases e : ma l S with
  | exc c x l' S1 => rw [e] at h'; exact h'
  | bad => rw [e] at h'; exact h'
  | ok x S1 =>
    rw [e] at h'
    simp only [Out.bind_ok] at h' ⊢
    cases e2 : mb l S1 with
    | exc c x l' S1 => rw [e2] at h'; exact h'
    | bad => rw [e2] at h'; exact h'
    | ok y S2 =>
      rw [e2] at h'
      obtain ⟨d, hd, q⟩ := Post.of h'
      intro ρ1 H1 vs e1 s1 r1
      simp only [RVs] at r1
      obtain ⟨v, t, rfl, r2, u, t', rfl, r3, rfl⟩ := r1
      exact hf s1 r2 r3 hd fun ρ' H' w e s r => q ρ' H' w (e1.trans e) s r
def max2V : DV → DV → Option DV
  | .int i, .int j => some (.int (if j > i then j else i))
  | _, _ => none
def min2V : DV → DV → Option DV
  | .int i, .int j => some (.int (if j < i then j else i))
  | _, _ => none
def max2 : ME → ME → ME := op2 fun _ => max2V
def min2 : ME → ME → ME := op2 fun _ => min2V
theorem v_max2 {p : Pos} (hc : X.calm = true) (hm : X.mg "max" = none) (ha : IE X rx W a ma) (hb : IE X rx W b mb) (hg : Gl X "max" := by rfl) (hs : starEach [a, b] X.env = (false, eval a X.env) :: starEach [b] X.env := by rfl) (hs2 : starEach [b] X.env = (false, eval b X.env) :: starEach [] X.env := by rfl) (hpl : (backTo pos (starEach [b] X.env)).any (·.1) = false := by rfl) :
    IE X rx W (.Call (.Name "max" p) [a, b] [] pos) (max2 ma mb) :=
  bi_rule2 (pe_callB (call_max2 hc) hg hm (by decide +kernel) (v_cons ha (v_cons hb v_nil hs2) hs) (by decide) (by decide) hs hpl) fun {ρ H S x y d v u Q} s r1 r2 h q => by
    unfold max2V at h
    split at h
    · cases h
      rw [r1.int, r2.int]
      exact ⟨_, _, rfl, q ρ H _ .refl s (by simp [RV])⟩
    · cases h
theorem v_min2 {p : Pos} (hc : X.calm = true) (hm : X.mg "min" = none) (ha : IE X rx W a ma) (hb : IE X rx W b mb) (hg : Gl X "min" := by rfl) (hs : starEach [a, b] X.env = (false, eval a X.env) :: starEach [b] X.env := by rfl) (hs2 : starEach [b] X.env = (false, eval b X.env) :: starEach [] X.env := by rfl) (hpl : (backTo pos (starEach [b] X.env)).any (·.1) = false := by rfl) :
    IE X rx W (.Call (.Name "min" p) [a, b] [] pos) (min2 ma mb) :=
  bi_rule2 (pe_callB (call_min2 hc) hg hm (by decide +kernel) (v_cons ha (v_cons hb v_nil hs2) hs) (by decide) (by decide) hs hpl) fun {ρ H S x y d v u Q} s r1 r2 h q => by
    unfold min2V at h
    split at h
    · cases h
      rw [r1.int, r2.int]
      exact ⟨_, _, rfl, q ρ H _ .refl s (by simp [RV])⟩
    · cases h
/-- str(int) -/
def strIV : DV → Option DV
  | .int i => if i.natAbs.log2 < 1920 then some (.str (toString i)) else none
  | _ => none
def strI : ME → ME := op1 fun _ => strIV
theorem v_strI {p : Pos} (hm : X.mg "str" = none) (ha : IE X rx W a ma) (hg : Gl X "str" := by rfl) (hs : starEach [a] X.env = (false, eval a X.env) :: starEach [] X.env := by rfl) (hpl : (backTo pos (starEach [] X.env)).any (·.1) = false := by rfl) :
    IE X rx W (.Call (.Name "str" p) [a] [] pos) (strI ma) :=
  bi_rule (pe_callTy call_str_int hg hm (by decide +kernel) (v_cons ha v_nil hs) (by decide) (by decide) hs hpl) fun {ρ H S x d v Q} s r h q => by
    unfold strIV at h
    split at h
    · split at h
      · rename_i hz
        cases h
        rw [r.int]
        exact ⟨_, rfl, hz, q ρ H _ .refl s (by simp [RV])⟩
      · cases h
    · cases h
/-! ### list(d.values()) -/
def tListVals (td : TE) : TE := fun σ H Q => td σ H fun x H1 => ∃ (a : Addr) (kvs : List (Key × V)), x = .ref a ∧ Rd H1 a (.dK kvs) ∧ ∀ t, H1 t = none → Q (.ref t) (upd H1 t (.lst (kvs.map (·.2))))
theorem vals_vals {acc : List Value} : ∀ {kvs : List (Key × V)} {vs : List (Key × Value)}, KV kvs vs → acc.length = vs.length → (∀ (j : Nat) (v : Value), acc[j]? = some v → ∃ k : Key, vs[j]? = some (k, v)) → Vals (kvs.map (·.2)) acc := by
  intro kvs vs rel
  unfold KV at rel
  induction rel generalizing acc with
  | nil => intro hl _; rw [List.eq_nil_of_length_eq_zero hl]; exact .nil
  | @cons p q ps qs h t ih =>
    intro hl hj
    cases acc with
    | nil => simp at hl
    | cons a acc =>
      obtain ⟨k, hk⟩ := hj 0 a rfl
      simp at hk
      obtain ⟨h1, h2⟩ := h
      refine .cons ?_ (ih (by simpa using hl) fun j v e => ?_)
      · rw [hk] at h2; exact h2
      · obtain ⟨k', hk'⟩ := hj (j + 1) v (by simpa using e)
        exact ⟨k', by simpa using hk'⟩
theorem pe_listVals {td : TE} {p apos cpos : Pos} (hc : X.calm = true) (hg : Gl X "list") (hm : X.mg "list" = none) (he : PE X e td) (hbase : attributeBase e "values" X.env (eval e X.env) = eval e X.env := by rfl) (hline : (apos.endLine == cpos.line) = true := by rfl)
    (na : starEach [(.Call (.Attribute e "values" apos) [] [] cpos : Expr)] X.env = (false, eval (.Call (.Attribute e "values" apos) [] [] cpos) X.env) :: starEach [] X.env := by rfl) :
    PE X (.Call (.Name "list" p) [.Call (.Attribute e "values" apos) [] [] cpos] [] pos) (tListVals td) := by
  refine ⟨fun pins s σ H Q I h => ?_⟩
  refine Call_ (ld_blt I hg hm (show bootBuiltins "list" = some (.type "list") by decide +kernel) ?_)
  refine PyProof.Rows.callWith_type1 (PyProof.Rows.args_cons ?_ na) na rfl
  refine wpAny_Call_method (T := "dict") (id := "dict.values") hbase rfl hline F.plainAttrs_dict F.slot_dict_values F.type_dict_values (thn (he.run pins s σ H _ I h) fun u s1 ⟨x, H1, I1, r1, d, kvs, ex, hd, q⟩ => ?_)
  subst ex
  obtain rfl : u = Value.ref d := r1
  obtain ⟨z, lo, vs, rel, dd⟩ := dk_rd I1.hok hd
  obtain ⟨ep, hat⟩ := dd.dictAt
  refine ⟨dd.typeIs, dd.mapOf.noDict, ?_⟩
  have I2 : Inv X pins σ H1 { s1 with heap := s1.heap.push { cls := .type "dict_values", data := .fields #[.ref d] } } := I1.kept (t' := s1.toks) fun b ob q => Heap.get?_push_of_some _ q
  have fin : wpAny (model X.prog X.w) X.A (spliced (backTo pos (starEach [] X.env))) (fun vs s₂ => wpAny (model X.prog X.w) X.A (PySem.call (.type "list") (Value.ref s1.heap.objs.size :: vs)) (EP X pins σ Q) X.xe s₂) X.xe { s1 with heap := s1.heap.push { cls := .type "dict_values", data := .fields #[.ref d] } } := by
    refine PyProof.Rows.args_nil ?_
    refine PySem.W.kdl_call (PySem.W.kdl_values (knd := mixKind X.prog X.w) (kvs := vs) (ep := ep)) (I1.ok.hd hc) ⟨⟨_, Heap.get?_push_size _ rfl, rfl, rfl⟩, hat.push _⟩ (by rw [← rel.length]; exact z) fun h' tk acc c' hk hD hacc => ?_
    have hv : Vals (kvs.map (·.2)) acc.toList := vals_vals rel (by rw [Array.length_toList]; exact hacc.1) fun j v e => hacc.2 j v (by rw [← Array.getElem?_toList]; exact e)
    refine ⟨.ref _, upd H1 _ (.lst (kvs.map (·.2))), I2.laid (t' := tk) hk (Nat.le_refl _)
      (show ObjOk X.prog X.w _ _ _ (.lst (kvs.map (·.2))) from ⟨by rw [List.length_map]; exact z, acc.toList, c', hv, by rw [Array.toArray_toList]; exact hD⟩), rfl, q _ (I2.hok.fresh (Nat.le_refl _))⟩
  show wpAny _ _ (callWith cpos (.builtin "dict.values") [.ref d] [] []) _ X.xe s1
  exact method_meetsIn F.slot_dict_values F.entry_dict_values rfl (PySem.evalArgs_none ⟨rfl, dd.typeIs, F.args_dict_values_1 _, _, meets_dict_values (mixKind X.prog X.w) d lo, ⟨vs, dd⟩, fin⟩)
def dVals2 (kvs : List (Key × DV)) : List DV := kvs.map (·.2)
/-- list(d.values()) -/
def listVals (a : ME) : ME := op1 (fun S x => (dkOf S x).map fun kvs => .lst (dVals2 kvs)) a
theorem RVK.vals {K : PySem.W.Frag} {ρ : List Addr} {H : Hp} : ∀ {kvs : List (Key × DV)} {ws : List (Key × V)}, RVK K ρ H kvs ws → RVs K ρ H (dVals2 kvs) (ws.map (·.2))
  | [], ws, h => by simp only [RVK] at h; subst h; simp [dVals2, RVs]
  | (k, x) :: r, ws, h => by
    simp only [RVK] at h
    obtain ⟨v, t, rfl, h1, h2⟩ := h
    exact RVs.cons h1 (RVK.vals h2)
theorem v_listVals {p apos cpos : Pos} (hc : X.calm = true) (hm : X.mg "list" = none) (ha : IE X rx W a ma) (hg : Gl X "list" := by rfl) (hbase : attributeBase a "values" X.env (eval a X.env) = eval a X.env := by rfl) (hline : (apos.endLine == cpos.line) = true := by rfl)
    (na : starEach [(.Call (.Attribute a "values" apos) [] [] cpos : Expr)] X.env = (false, eval (.Call (.Attribute a "values" apos) [] [] cpos) X.env) :: starEach [] X.env := by rfl) :
    IE X rx W (.Call (.Name "list" p) [.Call (.Attribute a "values" apos) [] [] cpos] [] pos) (listVals ma) := by
  refine pe_imp (pe_listVals hc hg hm ha hbase hline na) fun σ H Q ⟨ρ, l, S, hl, hs, h⟩ => ?_
  refine bindI hl hs h fun ρ1 H1 x S1 v e1 s1 l1 r1 h1 => ?_
  obtain ⟨d, hd, q⟩ := h1.of
  dsimp only at hd
  cases ed : dkOf S1 x with
  | none => rw [ed] at hd; cases hd
  | some kvs =>
    rw [ed] at hd
    cases hd
    obtain ⟨pp, ws, rfl, h2, h3⟩ := r1.dkOf s1 ed
    exact ⟨pp, ws, rfl, h2, fun t ht => q ρ1 _ _ (e1.trans (ext_new ht)) (s1.new ht) (rv_newL s1 ht h3.vals)⟩
/-- a call, with defaults, whose new list or dict becomes an object of the store -/
def callDR (f : Ora) (ds : List DV) (a : MA) : ME := callR (fun xs S => f (xs ++ ds) S) a
theorem v_callDR {es : List Expr} {ms : MA} {x : Str} {p : Pos} {k : Nat} {ps : List Str} {ds : List DV} {f : Ora} (F : FnAtD X.prog X.w X.K X.mg X.base rx k x ps ds f) (hr : Room k X.A) (tk : Takes X W) (ha : IA X rx W (e :: es) ms) (hn : ∀ l S xs S', ms l S = .ok xs S' → xs.length + ds.length = ps.length)
    (hg : Gl X x := by rfl) (hdb : (x == ("__debug__" : Str)) = false := by decide) (he : starEach (e :: es) X.env = (false, eval e X.env) :: starEach es X.env := by rfl) (hpl : (backTo pos (starEach es X.env)).any (·.1) = false := by rfl) :
    IE X rx W (.Call (.Name x p) (e :: es) [] pos) (callDR f ds ms) := by
  obtain ⟨g, fd, dvs, dus, hm, hk, hb, hv, hrv, ok⟩ := F.ex
  refine pe_imp (pe_callSD (E := WE W) ok hr hg hm hk hb hv (fun σ => passAt tk σ) ha hdb he hpl) fun σ H Q ⟨ρ, l, S, hl, hs, h⟩ => ?_
  have h' : Post X.K rx W ρ H ((ms l S).bind _) (QE X.K ρ H Q) := h
  cases em : ms l S with
  | bad => rw [em] at h'; exact False.elim h'
  | exc c x l' S' => rw [em] at h'; exact ⟨ρ, l, S, hl, hs, by rw [em]; exact h'⟩
  | ok xs S1 =>
    rw [em] at h'
    refine ⟨ρ, l, S, hl, hs, ?_⟩
    rw [em]
    intro ρ1 H1 vs e1 s1 r1
    have rr := r1.append (hrv ρ1 H1)
    refine ⟨ρ1, xs ++ ds, S1, by rw [← rr.length, List.length_append]; exact hn l S xs S1 em, rr, s1, ?_⟩
    simp only [Out.bind] at h'
    cases ef : f (xs ++ ds) S1 with
    | bad => rw [ef] at h'; exact h'
    | exc c x l' S2 =>
      rw [ef] at h'
      intro H' cls od e2 s2 q
      exact h' ρ1 H' σ cls od (e1.trans e2) s2 ((hl.mono e1).mono e2) q
    | ok dw S2 =>
      obtain ⟨d, w⟩ := dw
      rw [ef] at h'
      cases w with
      | false => exact False.elim h'
      | true =>
        dsimp only at h'
        split at h'
        · refine fun H' p e2 s2 => h' (ρ1 ++ [p]) H' _ (e1.trans e2) s2 ?_
          simp only [RV]
          have hl2 : ρ1.length = S2.length := by
            have := s2.len
            simp at this
            exact this
          exact ⟨p, by rw [← hl2, List.getElem?_append_right (Nat.le_refl _), Nat.sub_self]; rfl, rfl⟩
        · exact False.elim h'
end
end Y
/-! d.update(e), e a dict as a value. -/
namespace Y
open PySem L2 RZ PyProof.Rows
section
variable {X : Cx} {rx : Rx} {W : WX} {a e : Expr} {ma me : ME} {pos : Pos} {pins : List (Addr × Obj)} {σ : L2.St} {H : Hp} {s : Shared} {A : Around} {E : Value → Shared → Prop}
theorem mergeK_le (kvs more : List (Key × V)) : (mergeK kvs more).length ≤ kvs.length + more.length := by
  induction more generalizing kvs with
  | nil => simp [mergeK]
  | cons q r ih =>
    have h1 := ih (putK kvs q.1 q.2)
    have h2 : (putK kvs q.1 q.2).length ≤ kvs.length + 1 := by unfold putK; split <;> simp
    show (mergeK (putK kvs q.1 q.2) r).length ≤ _
    simp only [List.length_cons]
    omega
/-- d.update(e) -/
theorem d_update {d b : Addr} {kvs more : List (Key × V)} {Q : Value → Shared → Prop} (I : Inv X pins σ H s) (e : H d = some (.dK kvs)) (e2 : Rd H b (.dK more)) (hne : d ≠ b) (hl : kvs.length + more.length ≤ sizeLine)
    (h : ∀ s', Inv X pins σ (upd H d (.dK (mergeK kvs more))) s' → Q .none s') : wpAny (model X.prog X.w) A (PySem.call (.builtin "dict.update") [.ref d, .ref b]) Q E s := by
  obtain ⟨z, hd, vs, rel, dd⟩ := dk_of I.hok e
  obtain ⟨z2, hd2, vs2, rel2, dd2⟩ := dk_rd I.hok e2
  refine call_meetsIn PySem.F.slot_dict_update dd.typeIs PySem.F.entry_dict_update (PySem.F.args_dict_update_2 _ _) (meets_dict_update (mixKind X.prog X.w) d b hne hd2)
    ⟨vs, vs2, dd, dd2, by rw [← rel.length, ← rel2.length]; exact hl, fun h' dd' _ hs => h _ ?_⟩
  have he : ∃ q, h'.get? d = some q := let ⟨q, _, _, hq, _⟩ := dd'; ⟨q, hq⟩
  exact d_write I (by rw [e]; exact True.intro) hs he (dk_new (Nat.le_trans (mergeK_le kvs more) hl) hd (KV.merge rel2 rel) dd')
def tDUpd (td ty : TE) : TE := fun σ H Q => td σ H fun x H1 => ∃ a, x = .ref a ∧ IsD H1 a ∧ ty σ H1 fun y H2 => ∃ b kvs more, H2 a = some (.dK kvs) ∧ y = .ref b ∧ Rd H2 b (.dK more) ∧ a ≠ b ∧ kvs.length + more.length ≤ sizeLine ∧ Q .non (upd H2 a (.dK (mergeK kvs more)))
theorem pe_dupd {o f : Expr} {apos cpos : Pos} {td ty : TE} (ho : PE X o td) (he : PE X f ty) (m : M1 X o "update" apos f cpos) : PE X (.Call (.Attribute o "update" apos) [f] [] cpos) (tDUpd td ty) := by
  refine ⟨fun pins s σ H Q I h => ?_⟩
  refine wpAny_Call_method m.base m.few m.line PySem.F.plainAttrs_dict PySem.F.slot_dict_update PySem.F.type_dict_update (thn (ho.run pins s σ H _ I h) fun u s1 ⟨x, H1, I1, rx, a, ex, d, q1⟩ => ?_)
  subst ex
  obtain rfl : u = Value.ref a := rx
  obtain ⟨t1, t2, _⟩ := isD_at I1 d
  refine ⟨t1, t2, ?_⟩
  rw [m.trees]
  refine Calls.callWith_builtin rfl (Calls.evalArgs_plain (Calls.spliced_cons (thn (he.run pins s1 σ H1 _ I1 q1) fun iv s2 ⟨y, H2, I2, ry, b, kvs, more, ea, ey, eb, hne, hl, q2⟩ => Calls.spliced_nil ?_)))
  subst ey
  obtain rfl : iv = Value.ref b := ry
  exact d_update I2 ea eb hne hl fun s3 I3 => ⟨.non, _, I3, rfl, q2⟩
def updD (a e : ME) : ME := fun l S => (a l S).bind fun x S1 => if (dkOf S1 x).isSome = true then (e l S1).bind fun y S2 => (match x, y with
  | .ref i, .dk more => match S2[i]? with
    | some (.dk kvs) => if kvs.length + more.length ≤ LIM ∧ noRefK more = true then .ok .non (S2.set i (.dk (mergeD kvs more))) else .bad
    | _ => .bad
  | _, _ => .bad) else .bad
theorem v_updD {apos cpos : Pos} {ky : Expr} {mk : ME} (ha : IE X rx W a ma) (hk : IE X rx W ky mk) (hbase : attributeBase a "update" X.env (eval a X.env) = eval a X.env := by rfl)
    (hfew : ((backTo cpos (starEach [ky] X.env)).all (fun x => !x.1) && (backToKw cpos (keywordEach [] X.env)).all (fun x => x.1.isSome)
      && decide (([ky] : List Expr).length + ([] : List Keyword).length + (if ([] : List Keyword).isEmpty then 0 else 1) < 30)) = true := by rfl)
    (hline : (apos.endLine == cpos.line) = true := by rfl) (ht : backTo cpos (starEach [ky] X.env) = [(false, eval ky X.env)] := by rfl) : IE X rx W (.Call (.Attribute a "update" apos) [ky] [] cpos) (updD ma mk) := by
  refine pe_imp (pe_dupd ha hk ⟨hbase, hfew, hline, ht⟩) fun σ H Q ⟨ρ, l, S, hl, hs, h⟩ => ?_
  refine bindI hl hs h fun ρ1 H1 x S1 v e1 s1 l1 r1 h1 => ?_
  split at h1
  · rename_i hd
    obtain ⟨kvs0, ed⟩ := Option.isSome_iff_exists.mp hd
    obtain ⟨p0, ws0, rfl, hp0, _⟩ := r1.dkOf s1 ed
    refine ⟨p0, rfl, .inl ⟨ws0, hp0⟩, ?_⟩
    refine bindI l1 s1 h1 fun ρ2 H2 j S2 w e2 s2 l2 r2 h2 => ?_
    split at h2
    · rename_i i more
      split at h2
      · rename_i kvs hk
        split at h2
        · rename_i hc
          obtain ⟨p, hp, ep⟩ := (r1.mono e2).ref
          cases ep
          obtain ⟨ws, h4, h5, h6⟩ := s2.at_ i p0 _ hp hk
          simp only [RV] at r2
          obtain ⟨b, zs, rfl, hb, h7, h8⟩ := r2
          have hne : p0 ≠ b := fun z => hb (by rw [← z]; exact List.mem_of_getElem? hp)
          have ew : Ext ρ2 H2 ρ2 (upd H2 p0 (.dK (mergeK ws zs))) := ext_write s2 (List.mem_of_getElem? hp) (Live.d h4)
          have hlen : ws.length + zs.length ≤ sizeLine := by rw [← h5.length, ← h8.length, sizeLine_eq]; exact hc.1
          exact ⟨b, ws, zs, h4, rfl, h7, hne, hlen, h2 ρ2 _ _ (e1.trans (e2.trans ew)) (s2.write (d := .dk (mergeD kvs more)) hp (Live.d h4) ⟨_, upd_same, RVK.mono ew _ _ (RVK.merge h8 h5), noRefK_merge hc.2 h6⟩) (by simp [RV])⟩
        · exact False.elim h2
      · exact False.elim h2
    · exact False.elim h2
  · exact False.elim h1
/-- a list and a list, a new object -/
def addR (a b : ME) : ME := fun l S => (a l S).bind fun x S1 => (b l S1).bind fun y S2 => match lstOf S2 x, lstOf S2 y with
  | some xs, some ys => if xs.length + ys.length ≤ LIM ∧ noRefs (xs ++ ys) = true then .ok (.ref S2.length) (S2 ++ [.lst (xs ++ ys)]) else .bad
  | _, _ => .bad
theorem v_addR {b : Expr} {mb : ME} (ha : IE X rx W a ma) (hb : IE X rx W b mb) : IE X rx W (.BinOp a .Add b pos) (addR ma mb) := by
  refine pe_imp (pe_op op_cat ha hb) fun σ H Q ⟨ρ, l, S, hl, hs, h⟩ => ?_
  refine bindI hl hs h fun ρ1 H1 x S1 v e1 s1 l1 r1 h1 => ?_
  refine bindI l1 s1 h1 fun ρ2 H2 y S2 u e2 s2 l2 r2 h2 => ?_
  split at h2
  · rename_i xs ys ex ey
    split at h2
    · rename_i hz
      obtain ⟨p, vs, rfl, k1, k2⟩ := (r1.mono e2).lstOf s2 ex
      obtain ⟨p', ws, rfl, k1', k2'⟩ := r2.lstOf s2 ey
      exact ⟨p, p', vs, ws, rfl, rfl, k1, k1', by rw [← LIM_eq, ← k2.length, ← k2'.length]; exact hz.1, fun t ht => h2 _ _ _ (e1.trans (e2.trans (ext_push ht))) (s2.push ht (ro_push ht (k2.append k2') hz.2)) (rv_last s2)⟩
    · exact False.elim h2
  · exact False.elim h2
/-! ### in, among nested plain data -/
def rInP (K : PySem.W.Frag) (neg : Bool) : R2 := fun x y H Q => ∃ (d : PyData) (ds : List PyData), Dp K H x d ∧ ((Dp K H y (.list ds) ∧ SeqAt.shaped (.list ds) = true) ∨ (Dp K H y (.tuple ds) ∧ SeqAt.shaped (.tuple ds) = true)) ∧ SeqAt.shaped d = true ∧ Q (.bl (if neg then !(ds.any fun z => PyData.eqv z d) else ds.any fun z => PyData.eqv z d)) H
theorem room_in_tup {d : PyData} {ds : List PyData} {A : Around} (h : SeqAt.shaped d = true) (hu : A.units + 65 < cLine) : A.units + 1 + min (PyData.depthAll ds) d.depth < cLine := room_in_shaped h hu
theorem op_inP (hu : X.A.units + 65 < cLine) : OpR X (compareOp .In) (rInP X.K false) := by
  intro pins s σ H x y v u Q I rx ry h
  obtain ⟨d, ds, hd, he, sd, q⟩ := h
  obtain ⟨as, r1⟩ := Dp.reads I d x v hd rx
  rcases he with ⟨he, se⟩ | ⟨he, se⟩
  · obtain ⟨bs, r2⟩ := Dp.reads I (.list ds) y u he ry
    exact SeqAt.in_list_reads r2 r1 (SeqAt.canLay_of_shaped se) (SeqAt.canLay_of_shaped sd) (room_in_shaped sd hu) ⟨.bl _, H, I, rfl, q⟩
  · obtain ⟨bs, r2⟩ := Dp.reads I (.tuple ds) y u he ry
    exact SeqAt.in_tuple_reads r2 r1 (SeqAt.canLay_of_shaped se) (SeqAt.canLay_of_shaped sd) (room_in_shaped sd hu) ⟨.bl _, H, I, rfl, q⟩
theorem op_notInP (hu : X.A.units + 65 < cLine) : OpR X (compareOp .NotIn) (rInP X.K true) := by
  intro pins s σ H x y v u Q I rx ry h
  obtain ⟨d, ds, hd, he, sd, q⟩ := h
  obtain ⟨as, r1⟩ := Dp.reads I d x v hd rx
  rcases he with ⟨he, se⟩ | ⟨he, se⟩
  · obtain ⟨bs, r2⟩ := Dp.reads I (.list ds) y u he ry
    exact SeqAt.notIn_list_reads r2 r1 (SeqAt.canLay_of_shaped se) (SeqAt.canLay_of_shaped sd) (room_in_shaped sd hu) ⟨.bl _, H, I, rfl, q⟩
  · obtain ⟨bs, r2⟩ := Dp.reads I (.tuple ds) y u he ry
    exact SeqAt.notIn_tuple_reads r2 r1 (SeqAt.canLay_of_shaped se) (SeqAt.canLay_of_shaped sd) (room_in_shaped sd hu) ⟨.bl _, H, I, rfl, q⟩
noncomputable def inPV (S : Sto) (x y : DV) : Option Bool := match rd S y with
  | .tup ys => if plain 60 (rd S x) = true ∧ plain 60 (.tup ys) = true then some (ys.any fun z => eqB z (rd S x)) else none
  | .lst ys => if plain 60 (rd S x) = true ∧ plain 60 (.lst ys) = true then some (ys.any fun z => eqB z (rd S x)) else none
  | _ => none
noncomputable def inPE : ME → ME → ME := op2 fun S x y => (inPV S x y).map fun c => .bl c
noncomputable def ninPE : ME → ME → ME := op2 fun S x y => (inPV S x y).map fun c => .bl !c
theorem any_plain {d : DV} (hd : plain 60 d = true) : ∀ {xs : List DV} {n : Nat}, plains n xs = true → ((toPys xs).any fun z => PyData.eqv z (toPy d)) = xs.any fun z => eqB z d
  | [], _, _ => rfl
  | x :: xs, n, h => by
    simp only [plains, Bool.and_eq_true] at h
    have e : PyData.eqv (toPy x) (toPy d) = eqB x d := by
      rw [Bool.eq_iff_iff, eqB_iff]
      exact plain_eqv n x 60 d h.1 hd
    simp only [toPys, List.any_cons, any_plain hd h.2, e]
theorem inP_sem (neg : Bool) {ρ : List Addr} {H : Hp} {S : Sto} {x y : DV} {c : Bool} {v u : V} {Q : VK} (s : RS X.K ρ H S) (r1 : RV X.K ρ H x v) (r2 : RV X.K ρ H y u) (h : inPV S x y = some c) (q : Q (.bl (if neg then !c else c)) H) : rInP X.K neg v u H Q := by
  unfold inPV at h
  split at h
  · rename_i ys ey
    split at h
    · rename_i hp
      cases h
      have h2 : plain 60 (rd S y) = true := by rw [ey]; exact hp.2
      have k := r2.dpR s h2
      have ks := plain_shaped h2
      rw [ey] at k ks
      simp only [toPy] at k ks
      have e := any_plain hp.1 (xs := ys) (n := 59) (by simpa [plain] using hp.2)
      exact ⟨_, _, r1.dpR s hp.1, .inr ⟨k, ks⟩, plain_shaped hp.1, by rw [e]; exact q⟩
    · cases h
  · rename_i ys ey
    split at h
    · rename_i hp
      cases h
      have h2 : plain 60 (rd S y) = true := by rw [ey]; exact hp.2
      have k := r2.dpR s h2
      have ks := plain_shaped h2
      rw [ey] at k ks
      simp only [toPy] at k ks
      have e := any_plain hp.1 (xs := ys) (n := 59) (by simpa [plain] using hp.2)
      exact ⟨_, _, r1.dpR s hp.1, .inl ⟨k, ks⟩, plain_shaped hp.1, by rw [e]; exact q⟩
    · cases h
  · cases h
variable {b : Expr} {mb : ME}
theorem v_inP (hu : X.A.units + 66 < cLine) (hm : behindInMarks .In b = false := by rfl) (ha : IE X rx W a ma) (hb : IE X rx W b mb) : IE X rx W (.Compare a [.In] [b] pos) (inPE ma mb) :=
  v_cmp (f := inPV) (g := fun c => c) (op_inP (by omega)) hm (inP_sem false) ha hb
theorem v_tinP (hu : X.A.units + 66 < cLine) (hm : behindInMarks .In b = false := by rfl) (ha : IE X rx W a ma) (hb : IE X rx W b mb) : IT X rx W (.Compare a [.In] [b] pos) (tst (inPE ma mb)) :=
  v_tcmp (f := inPV) (g := fun c => c) (op_inP (by omega)) hm (inP_sem false) ha hb
theorem v_ninP (hu : X.A.units + 66 < cLine) (hm : behindInMarks .NotIn b = false := by rfl) (ha : IE X rx W a ma) (hb : IE X rx W b mb) : IE X rx W (.Compare a [.NotIn] [b] pos) (ninPE ma mb) :=
  v_cmp (f := inPV) (g := fun c => !c) (op_notInP (by omega)) hm (inP_sem true) ha hb
theorem v_tninP (hu : X.A.units + 66 < cLine) (hm : behindInMarks .NotIn b = false := by rfl) (ha : IE X rx W a ma) (hb : IE X rx W b mb) : IT X rx W (.Compare a [.NotIn] [b] pos) (tst (ninPE ma mb)) :=
  v_tcmp (f := inPV) (g := fun c => !c) (op_notInP (by omega)) hm (inP_sem true) ha hb
end
end Y
/-! Defs called where an exception is handled: what they promise without a pin. -/
namespace Y
open PySem L2 PySem.Spec RZ PyProof.Rows
open L2H (RoomH roomH_of)
/-- what a def promises there -/
structure FnS (P : Program) (w : World) (K : PySem.W.Frag) (mg : Str → Option Value) (base : Heap) (CX : CXT) (k : Nat) (f : Addr) (fd : FuncData) (ps : List Str) (sp : Sp) : Prop where
  len : ∀ vs H Q E, sp vs H Q E → vs.length = ps.length
  run : ∀ (A : Around) (outer : List Env) (s : Shared) (H : Hp) (args : Args) (us : List Value) (vs : List V) (Q : VK) (E : XK), RoomH k A → Env0 P w K mg base A outer s H → BindsTo s fd args (ps.zip us) → Vals vs us → sp vs H Q E →
    codeAny (model P w) A (.call (.ref f) args) (CR CX outer P w H s Q E) s
/-- the context of such a def's body: nothing is raised there -/
def cxS (CX : CXT) (P : Program) (w : World) (K : PySem.W.Frag) (mg : Str → Option Value) (base : Heap) (N : List Str) (qual : Str) (scope : Scope) (f : Addr) (cd : Value) (A : Around) (outer : List Env) (s : Shared) (H : Hp) (E : XK) : Cx :=
  { cxOf CX P w K mg base N qual scope f cd A outer s H E with calm := false }
theorem inv_startS {CX : CXT} {P : Program} {w : World} {K : PySem.W.Frag} {mg : Str → Option Value} {base : Heap} {N ps : List Str} {qual : Str} {scope : Scope} {f : Addr} {cd : Value} {A : Around} {outer : List Env} {s s1 : Shared} {H : Hp} {E : XK} {us : List Value} {vs : List V}
    (S : FnScope N ps scope) (e0 : Env0 P w K mg base A outer s H) (hl : vs.length = ps.length) (r : Vals vs us)
    (x : InCallC s s.heap.objs.size (bindL (envOfC qual scope s.heap.objs.size f cd).kindOf (ps.zip us) fun _ => none) (cellsFrom (s.heap.objs.size + 1) scope.names []) (bindC (envOfC qual scope s.heap.objs.size f cd).kindOf (ps.zip us) fun _ => none) s1) :
    Inv (cxS CX P w K mg base N qual scope f cd A outer s H E) [] (L2.start N vs) H s1 := by
  have hpl : ps.length ≤ N.length := by have := congrArg List.length S.pre; rw [List.length_take] at this; omega
  obtain ⟨h1, tk, rfl, hk⟩ := x.done
  have none0 : ∀ b : Addr, b ∉ (cxS CX P w K mg base N qual scope f cd A outer s H E).ex := fun b z => absurd (show b ∈ ([] : List Addr) from z) (by simp)
  have okS : (cxS CX P w K mg base N qual scope f cd A outer s H E).Ok := by
    refine ⟨e0.mod, S.kind, rfl, rfl, Nat.le_refl _, fun y z c p q => ?_, fun y hy => ?_, fun y c _ h => ?_, (fun z => Bool.noConfusion (show false = true from z)), Around.frames_deeper e0.frames, .inr ⟨rfl, rfl⟩, fun b z => absurd z (none0 b), e0.bs, e0.bsz, fun b _ _ => none0 b, fun b z => absurd z (none0 b), e0.funs, e0.frf⟩
    · exact name_of_addr x.apart (PySem.mem_of_lookup p) (PySem.mem_of_lookup q)
    · rcases (show scope.names.lookup y = some .cell ∨ scope.names.lookup y = some .free from hy) with hy | hy
      · exact cell_has hy
      · exact absurd rfl (S.nofree _ (PySem.mem_of_lookup hy))
    · exact Nat.le_of_lt (x.above y c (PySem.mem_of_lookup h))
  have locS : ∀ (i : Nat) (y : Str) (v : V), N[i]? = some y → (L2.start N vs)[i]? = some (some v) → i < vs.length ∧ vs[i]? = some v := fun i y v p q => by
    unfold L2.start at q
    by_cases hi : i < vs.length
    · rw [List.getElem?_append_left (by simpa using hi), List.getElem?_map] at q
      refine ⟨hi, ?_⟩
      cases e : vs[i]? with
      | none => rw [e] at q; cases q
      | some a => rw [e] at q; cases q; rfl
    · rw [List.getElem?_append_right (by simpa using hi), List.getElem?_replicate] at q
      split at q <;> cases q
  refine ⟨okS, rfl, e0.bare, Un.kept hk, ⟨_, x.toInCall.ns, fun i y v p q r3 => ?_⟩, fun y c h => ⟨_, x.cell y c h⟩, e0.hok.fresh (Nat.le_refl _), fun y c h => ?_, fun q hq => absurd (show q ∈ ([] : List (Addr × Obj)) from hq) (by simp), e0.hok.kept hk, ?_⟩
  · obtain ⟨hi, hv⟩ := locS i y v p q
    obtain ⟨u, hu, rv⟩ := r.get hv
    have hp : ps[i]? = some y := by rw [← S.pre, List.getElem?_take_of_lt (by omega)]; exact p
    have ndP : ps.Nodup := by rw [← S.pre]; exact S.nd.sublist (List.take_sublist _ _)
    refine ⟨u, rv, ?_⟩
    rcases S.par y (List.mem_of_getElem? hp) with k | k
    · exact .inl ⟨k, bindL_get ndP hp hu k⟩
    · obtain ⟨c, e⟩ := cell_has (n := s.heap.objs.size + 1) k
      have z := x.cell y c e
      rw [bindC_get ndP hp hu (by show scope.names.lookup y ≠ _; rw [k]; decide)] at z
      exact .inr ⟨.inl k, c, e, z⟩
  · exact e0.hok.fresh (Nat.le_of_lt (x.above y c (PySem.mem_of_lookup h)))
  · show (L2.start N vs).length = N.length
    unfold L2.start
    rw [List.length_append, List.length_map, List.length_replicate]
    omega
theorem fn_ofS {CX : CXT} {P : Program} {w : World} {K : PySem.W.Frag} {mg : Str → Option Value} {base : Heap} {k : Nat} {f : Addr} {name qual : Str} {params : Arguments} {body : List Stmt} {scope : Scope} {dV kV doc pm cdv ct oc : Value} {an od : Option Addr}
    {osl : Array (Option Value)} {N ps : List Str} {sp : Sp} (lk : K.lookup f = some ⟨oc, od, .func (PySem.W.fnOf name qual params body scope dV kV doc pm an cdv ct), osl⟩) (hcd : PySem.W.codeIn K cdv qual = true) (S : FnScope N ps scope)
    (len : ∀ vs H Q E, sp vs H Q E → vs.length = ps.length)
    (hbody : ∀ (A : Around) (outer : List Env) (s : Shared) (H : Hp) (vs : List V) (Q : VK) (E : XK), RoomH k (A.deeper (envOfC qual scope s.heap.objs.size f cdv)) → sp vs H Q E →
      ∃ t, PSs (cxS CX P w K mg base N qual scope f cdv A outer s H E) body t ∧ t { nx := fun _ H' => Q .non H', rt := Q } (L2.start N vs) H) :
    FnS P w K mg base CX (k + 1) f (PySem.W.fnOf name qual params body scope dV kV doc pm an cdv ct) ps sp := by
  refine ⟨len, fun A outer s H args us vs Q E hr e0 hb r hsp => ?_⟩
  have KX : K.In s.heap := e0.mod.kin.keeps fun b o e => (e0.bs b o e).1
  have lim : s.heap.NoLimit := e0.mod.nolimit.keeps fun b o e => (e0.bs b o e).1
  have kinds : ∀ y ∈ ps.zip us, scope.names.lookup y.1 = some .local ∨ (scope.names.lookup y.1 = some .cell ∧ ((cellsFrom (s.heap.objs.size + 1) scope.names []).lookup y.1).isSome = true) := fun ⟨n, v⟩ hy =>
    (S.par n (List.of_mem_zip hy).1).elim .inl fun q => .inr ⟨q, PySem.W.cellsFrom_some _ _ _ (.inl q)⟩
  refine codeAny_call_function hr.depth (KX _ _ lk) rfl S.co S.gen rfl (PySem.W.codeRec_of KX hcd) (hb _ _ _ _ ?_)
  refine wpAny_newFunctionEnv_cells S.kind kinds fun env he s1 x => ?_
  subst he
  refine ⟨lim.keeps x.toInCall.keep, codeAny_func ?_⟩
  obtain ⟨t, ht, hq⟩ := hbody A outer s H vs Q E (hr.deeper _) hsp
  have I : Inv (cxS CX P w K mg base N qual scope f cdv A outer s H E) [] (L2.start N vs) H s1 := inv_startS S e0 (len _ _ _ _ hsp) r x
  refine wpAny_mono (ht.run [] s1 (L2.start N vs) H _ I hq) (fun fl s' hs => ?_) fun e s' hs => hs
  have last : ∀ {σ' : L2.St} {H' : Hp} {v : V} {u : Value}, Inv (cxS CX P w K mg base N qual scope f cdv A outer s H E) [] σ' H' s' → RelV v u → Q v H' → CE outer P w H s Q u s' :=
    fun {σ' H' v u} J rv q => ⟨v, H', J.os, J.bare, J.base, J.hok, rv, q⟩
  cases fl with
  | ret u => exact hs.elim fun v ⟨σ', H', J, rv, q⟩ => last J rv q
  | next => exact hs.elim fun σ' ⟨H', J, q⟩ => last (v := V.non) (u := Value.none) J rfl q
  | brk => exact hs.elim fun _ ⟨_, _, q⟩ => False.elim q
  | cont => exact hs.elim fun _ ⟨_, _, q⟩ => False.elim q
section
variable {X : Cx} {CX : CXT} {k : Nat} {f : Addr} {fd : FuncData} {ps : List Str} {sp : Sp} {E : L2.St → XK} {x : Str} {p pos : Pos} {e : Expr} {es : List Expr} {t : TA}
theorem run_fnY {pins : List (Addr × Obj)} {σ : L2.St} {H : Hp} {s : Shared} {Q : VK} {us : List Value} {vs : List V} (F : FnS X.prog X.w X.K X.mg X.base CX k f fd ps sp) (hr : RoomH k X.A) (hb : Binds X.K fd ps []) (hx : PassesAt CX X σ (E σ))
    (I : Inv X pins σ H s) (r : Vals vs us) (h : sp vs H Q (E σ)) : wpAny (model X.prog X.w) X.A (PySem.call (.ref f) us) (EP X pins σ Q) X.xe s := by
  have b := hb s us I.kIn (by rw [List.append_nil, ← r.length]; exact F.len _ _ _ _ h)
  rw [List.append_nil] at b
  refine wpAny_call (codeAny_mono (F.run X.A X.stack s H ⟨us, []⟩ us vs Q (E σ) hr I.env0 b r h) fun o s' hq => ?_)
  match o, hq with
  | .error er, hq => exact hx pins H s er s' I hq
  | .ok (.ret u), hq => exact I.after hq
  | .ok .next, hq => exact False.elim hq
  | .ok .brk, hq => exact False.elim hq
  | .ok .cont, hq => exact False.elim hq
theorem pe_callY (F : FnS X.prog X.w X.K X.mg X.base CX k f fd ps sp) (hr : RoomH k X.A) (hg : Gl X x) (hm : X.mg x = some (.ref f)) (hk : PySem.W.keepIn X.K (.ref f) = true) (hb : Binds X.K fd ps []) (hx : ∀ σ, PassesAt CX X σ (E σ))
    (ha : PA X (e :: es) t) (hdb : (x == ("__debug__" : Str)) = false := by decide) (he : starEach (e :: es) X.env = (false, eval e X.env) :: starEach es X.env := by rfl) (hpl : (backTo pos (starEach es X.env)).any (·.1) = false := by rfl) :
    PE X (.Call (.Name x p) (e :: es) [] pos) (tCallS sp E t) := by
  refine ⟨fun pins s σ H Q I h => wpAny_Call_Name_kw (ld_glob I hg hm ?_ hdb)⟩
  exact PySem.W.callWith_K (h₀ := X.base) I.ok.mod.kin hk (thn (ha.run pos pins s σ H _ I h) fun us s1 ⟨vs, H1, I1, r, q⟩ => ⟨I1.kIn, run_fnY F hr hb (hx σ) I1 r q⟩) he hpl
end
structure FnAtS (P : Program) (w : World) (K : PySem.W.Frag) (mg : Str → Option Value) (base : Heap) (rx : Rx) (k : Nat) (x : Str) (ps : List Str) (f : Ora) : Prop where
  ex : ∃ (g : Addr) (fd : FuncData), mg x = some (.ref g) ∧ PySem.W.keepIn K (.ref g) = true ∧ Binds K fd ps [] ∧ FnS P w K mg base (L2.CX P w) k g fd ps (spF K rx ps.length f)
section
variable {X : Cx} {rx : Rx} {W : WX} {pos : Pos}
/-- a def called where an exception is handled -/
theorem v_callS {e : Expr} {es : List Expr} {ms : MA} {x : Str} {p : Pos} {k : Nat} {ps : List Str} {f : Ora} (F : FnAtS X.prog X.w X.K X.mg X.base rx k x ps f) (hr : RoomH k X.A) (tk : Takes X W) (ha : IA X rx W (e :: es) ms) (hn : ∀ l S xs S', ms l S = .ok xs S' → xs.length = ps.length)
    (hg : Gl X x := by rfl) (hdb : (x == ("__debug__" : Str)) = false := by decide) (he : starEach (e :: es) X.env = (false, eval e X.env) :: starEach es X.env := by rfl) (hpl : (backTo pos (starEach es X.env)).any (·.1) = false := by rfl) :
    IE X rx W (.Call (.Name x p) (e :: es) [] pos) (call f ms) := by
  obtain ⟨g, fd, hm, hk, hb, ok⟩ := F.ex
  refine pe_imp (pe_callY (E := WE W) ok hr hg hm hk hb (fun σ => passAt tk σ) ha hdb he hpl) fun σ H Q ⟨ρ, l, S, hl, hs, h⟩ => ?_
  have h' : Post X.K rx W ρ H ((ms l S).bind _) (QE X.K ρ H Q) := h
  cases em : ms l S with
  | bad => rw [em] at h'; exact False.elim h'
  | exc c x l' S' => rw [em] at h'; exact ⟨ρ, l, S, hl, hs, by rw [em]; exact h'⟩
  | ok xs S1 =>
    rw [em] at h'
    refine ⟨ρ, l, S, hl, hs, ?_⟩
    rw [em]
    intro ρ1 H1 vs e1 s1 r1
    refine ⟨ρ1, xs, S1, by rw [← r1.length]; exact hn l S xs S1 em, r1, s1, ?_⟩
    simp only [Out.bind] at h'
    cases ef : f xs S1 with
    | bad => rw [ef] at h'; exact h'
    | exc c x l' S2 =>
      rw [ef] at h'
      intro H' cls od e2 s2 q
      exact h' ρ1 H' σ cls od (e1.trans e2) s2 ((hl.mono e1).mono e2) q
    | ok dw S2 =>
      obtain ⟨d, w⟩ := dw
      rw [ef] at h'
      cases w with
      | false => exact fun H' v e2 s2 r2 => h' ρ1 H' v (e1.trans e2) s2 r2
      | true => exact fun H' p e2 s2 => h' ρ1 H' _ (e1.trans e2.init) (RVs.snoc_ext s2).1 (RVs.snoc_ext s2).2
end
section
variable {P : Program} {w : World} {K : PySem.W.Frag} {mg : Str → Option Value} {base : Heap} {rx : Rx}
theorem fn_okS {x qual : Str} {st : Stmt} {f : Addr} {fd : FuncData} {N ps : List Str} {k n : Nat} {b : MS} (F : Fun K x qual st f fd) (S : FnScope N ps (defScope st)) (hn : n = N.length)
    (hb : ∀ (cdv : Value) (A : Around) (outer : List Env) (s : Shared) (H : Hp) (E : XK), RoomH k (A.deeper (envOfC qual (defScope st) s.heap.objs.size f cdv)) →
      ISs (cxS (L2.CX P w) P w K mg base N qual (defScope st) f cdv A outer s H E) rx (fun cls d _ H => E cls d H) (defBody st) b) : FnS P w K mg base (L2.CX P w) (k + 1) f fd ps (spF K rx ps.length (fn n b)) := by
  obtain ⟨oc, od, kV, doc, pm, an, cdv, ct, osl, rfl, lk, hcd⟩ := F.ex
  refine fn_ofS lk hcd S (fun vs H Q E h => ?_) fun A outer s H vs Q E hr h => ⟨_, hb cdv A outer s H E hr, fn_core hn h⟩
  obtain ⟨_, _, _, h, _⟩ := h
  exact h
theorem fn_noneS {f : Addr} {fd : FuncData} {ps : List Str} {k : Nat} {g : Ora} (h : ∀ args S, g args S = .bad) : FnS P w K mg base (L2.CX P w) k f fd ps (spF K rx ps.length g) := by
  have no : ∀ vs H Q E, ¬ spF K rx ps.length g vs H Q E := fun vs H Q E ⟨ρ, args, S, _, _, _, q⟩ => by
    rw [h] at q
    exact q
  exact ⟨fun vs H Q E h => absurd h (no vs H Q E), fun A outer s H args us vs Q E _ _ _ _ h => absurd h (no vs H Q E)⟩
end
/-- the room in a suite -/
theorem suiteH {k : Nat} {A : Around} (r : Room k A) (v : Option Value) : RoomH k (A.mark v) := ⟨by have := r.dp; exact this, by have := r.un; rw [Around.mark_units]; exact this⟩
/-! ### == over data that may hold truths -/
mutual
/-- data, n deep at most -/
def plainB : Nat → DV → Bool
  | _, .non => true
  | _, .bl _ => true
  | _, .int _ => true
  | _, .str s => PyData.strOk s
  | n + 1, .tup xs => plainBs n xs
  | n + 1, .lst xs => plainBs n xs
  | _, _ => false
def plainBs : Nat → List DV → Bool
  | _, [] => true
  | n, x :: xs => plainB n x && plainBs n xs
end
mutual
theorem plainB_lay : ∀ (n : Nat) (d : DV), plainB n d = true → (toPy d).canLay0 = true ∧ (toPy d).depth ≤ n
  | n, .non, _ => by simp [toPy, PyData.canLay0, PyData.depth]
  | n, .bl _, _ => by simp [toPy, PyData.canLay0, PyData.depth]
  | n, .int _, _ => by simp [toPy, PyData.canLay0, PyData.depth]
  | n, .str _, h => by simpa [toPy, PyData.canLay0, PyData.depth, plainB] using h
  | n + 1, .tup xs, h => by
    have q := plainBs_lay n xs (by simpa [plainB] using h)
    simp only [toPy, PyData.canLay0, PyData.depth]
    exact ⟨q.1, by omega⟩
  | n + 1, .lst xs, h => by
    have q := plainBs_lay n xs (by simpa [plainB] using h)
    simp only [toPy, PyData.canLay0, PyData.depth]
    exact ⟨q.1, by omega⟩
  | 0, .tup _, h => by simp [plainB] at h
  | 0, .lst _, h => by simp [plainB] at h
  | _, .rol _, h => by simp [plainB] at h
  | _, .dk _, h => by simp [plainB] at h
  | _, .fz _, h => by simp [plainB] at h
  | _, .ref _, h => by simp [plainB] at h
  | _, .exn _ _, h => by simp [plainB] at h
theorem plainBs_lay : ∀ (n : Nat) (xs : List DV), plainBs n xs = true → PyData.canLayAll0 (toPys xs) = true ∧ PyData.depthAll (toPys xs) ≤ n
  | n, [], _ => by simp [toPys, PyData.canLayAll0, PyData.depthAll]
  | n, x :: xs, h => by
    simp only [plainBs, Bool.and_eq_true] at h
    have q := plainB_lay n x h.1
    have q' := plainBs_lay n xs h.2
    simp only [toPys, PyData.canLayAll0, PyData.depthAll, Bool.and_eq_true]
    exact ⟨⟨q.1, q'.1⟩, Nat.max_le.mpr ⟨q.2, q'.2⟩⟩
end
theorem plainB_shaped {d : DV} (h : plainB 60 d = true) : SeqAt.shaped (toPy d) = true := by
  obtain ⟨h1, h2⟩ := plainB_lay 60 d h
  unfold SeqAt.shaped
  rw [h1, Bool.true_and]
  exact decide_eq_true (by omega)
section
variable {K : PySem.W.Frag} {ρ : List Addr} {H : Hp} {S : Sto}
mutual
theorem RV.dpB : ∀ (n : Nat) (d : DV) (v : V), plainB n d = true → RV K ρ H d v → Dp K H v (toPy d)
  | n, .non, v, _, r => by rw [r.non]; exact .non
  | n, .bl _, v, _, r => by rw [r.bl]; exact .bl _
  | n, .int _, v, _, r => by rw [r.int]; exact .int _
  | n, .str _, v, _, r => by rw [r.str]; exact .str _
  | n + 1, .tup xs, v, h, r => by
    obtain ⟨a, vs, rfl, h1, h2⟩ := r.tup
    simp only [toPy]
    exact .tup h1 (RVs.dpB n xs vs (by simpa [plainB] using h) h2)
  | n + 1, .lst xs, v, h, r => by
    simp only [RV] at r
    obtain ⟨a, vs, rfl, _, h1, h2⟩ := r
    simp only [toPy]
    exact .lst (SqL.of h1) (RVs.dpB n xs vs (by simpa [plainB] using h) h2)
  | 0, .tup _, _, h, _ => by simp [plainB] at h
  | 0, .lst _, _, h, _ => by simp [plainB] at h
  | _, .rol _, _, h, _ => by simp [plainB] at h
  | _, .dk _, _, h, _ => by simp [plainB] at h
  | _, .fz _, _, h, _ => by simp [plainB] at h
  | _, .ref _, _, h, _ => by simp [plainB] at h
  | _, .exn _ _, _, h, _ => by simp [plainB] at h
theorem RVs.dpB : ∀ (n : Nat) (xs : List DV) (vs : List V), plainBs n xs = true → RVs K ρ H xs vs → DpAll K H vs (toPys xs)
  | n, [], vs, _, r => by simp only [RVs] at r; rw [r]; exact .nil
  | n, x :: xs, vs, h, r => by
    simp only [RVs] at r
    obtain ⟨v, t, rfl, h2, h3⟩ := r
    simp only [plainBs, Bool.and_eq_true] at h
    exact .cons (RV.dpB n x v h.1 h2) (RVs.dpB n xs t h.2 h3)
end
theorem RV.dpRB (s : RS K ρ H S) {x : DV} {v : V} (h : plainB 60 (rd S x) = true) (r : RV K ρ H x v) : Dp K H v (toPy (rd S x)) := by
  cases x with
  | ref k =>
    simp only [RV] at r
    obtain ⟨a, h1, rfl⟩ := r
    simp only [rd] at h ⊢
    split at h
    · rename_i x hx
      have q := s.at_ k a x h1 hx
      cases x with
      | lst xs =>
        obtain ⟨vs, h3, h4, _⟩ := q
        simp only [toPy]
        exact .lst (SqL.of h3) (RVs.dpB 59 xs vs (by simpa [plainB] using h) h4)
      | dk _ => simp [plainB] at h
      | fz _ => simp [plainB] at h
      | _ => exact False.elim q
    · simp [plainB] at h
  | _ => exact RV.dpB 60 _ _ h r
end
def eqBV (S : Sto) (x y : DV) : Option Bool := if plainB 60 (rd S x) = true ∧ plainB 60 (rd S y) = true then some (PyData.eqv (toPy (rd S x)) (toPy (rd S y))) else none
def eqP : ME → ME → ME := op2 fun S x y => (eqBV S x y).map .bl
def neP : ME → ME → ME := op2 fun S x y => (eqBV S x y).map fun b => .bl !b
section
variable {X : Cx} {rx : Rx} {W : WX} {a b : Expr} {ma mb : ME} {pos : Pos}
theorem eqB_sem {ρ : List Addr} {H : Hp} {S : Sto} {x y : DV} {c : Bool} {v u : V} {Q : VK} (s : RS X.K ρ H S) (r1 : RV X.K ρ H x v) (r2 : RV X.K ρ H y u) (h : eqBV S x y = some c) (q : Q (.bl c) H) : rEq v u H Q ∨ rEqD X.K v u H Q := by
  unfold eqBV at h
  split at h
  · rename_i hp
    cases h
    exact .inr ⟨_, _, r1.dpRB s hp.1, r2.dpRB s hp.2, plainB_shaped hp.1, plainB_shaped hp.2, q⟩
  · cases h
theorem neB_sem {ρ : List Addr} {H : Hp} {S : Sto} {x y : DV} {c : Bool} {v u : V} {Q : VK} (s : RS X.K ρ H S) (r1 : RV X.K ρ H x v) (r2 : RV X.K ρ H y u) (h : eqBV S x y = some c) (q : Q (.bl !c) H) : rNe v u H Q ∨ rNeD X.K v u H Q := by
  unfold eqBV at h
  split at h
  · rename_i hp
    cases h
    exact .inr ⟨_, _, r1.dpRB s hp.1, r2.dpRB s hp.2, plainB_shaped hp.1, plainB_shaped hp.2, q⟩
  · cases h
theorem v_eqP (hu : X.A.units + 64 < cLine) (ha : IE X rx W a ma) (hb : IE X rx W b mb) : IE X rx W (.Compare a [.Eq] [b] pos) (eqP ma mb) :=
  v_cmp (f := eqBV) (g := fun c => c) (op_eq.or (op_eqD hu)) (nomark _) eqB_sem ha hb
theorem v_teqP (hu : X.A.units + 64 < cLine) (ha : IE X rx W a ma) (hb : IE X rx W b mb) : IT X rx W (.Compare a [.Eq] [b] pos) (tst (eqP ma mb)) :=
  v_tcmp (f := eqBV) (g := fun c => c) (op_eq.or (op_eqD hu)) (nomark _) eqB_sem ha hb
theorem v_neP (hu : X.A.units + 64 < cLine) (ha : IE X rx W a ma) (hb : IE X rx W b mb) : IE X rx W (.Compare a [.NotEq] [b] pos) (neP ma mb) :=
  v_cmp (f := eqBV) (g := fun c => !c) (op_ne.or (op_neD hu)) (nomark _) neB_sem ha hb
theorem v_tneP (hu : X.A.units + 64 < cLine) (ha : IE X rx W a ma) (hb : IE X rx W b mb) : IT X rx W (.Compare a [.NotEq] [b] pos) (tst (neP ma mb)) :=
  v_tcmp (f := eqBV) (g := fun c => !c) (op_ne.or (op_neD hu)) (nomark _) neB_sem ha hb
end
end Y
/-! Exceptions of classes with an own __init__: raised, and their field read. -/
namespace Y
open PySem L2 PySem.Spec RZ PyProof.Rows
/-! ### the classes' base -/
structure XBase (K : PySem.W.Frag) (mg : Str → Option Value) : Prop where
  ex : ∃ B : Addr, mg "RecastError" = some (.ref B) ∧ PySem.W.specialIn K (.ref B) "__getattribute__" = some (some (.builtin "type.__getattribute__")) ∧ PySem.W.readsIn K B (.type "type") = true ∧ PySem.W.findCls K (.ref B) (.type "type") "__init__" = some (.val (.builtin "ValueError.__init__"))
section
variable {X : Cx} {o e : Expr} {es : List Expr} {ta : TA} {p1 p2 pos : Pos}
theorem pe_oinitY {pl : Sem Bool} (XB : XBase X.K X.mg) (ha : PA X (e :: es) ta) (hg : Gl X "RecastError" := by rfl)
    (hc : eval (.Call (.Attribute (.Name "RecastError" p1) "__init__" p2) (e :: es) [] pos) X.env = (do
      let ov ← eval (.Name "RecastError" p1) X.env
      standAt p2.atName
      let (f, first) ← holding [ov] (getMethod ov "__init__" pl)
      callWith pos f first (backTo pos (starEach (e :: es) X.env)) (backToKw pos (keywordEach [] X.env))) := by rfl)
    (he : starEach (e :: es) X.env = (false, eval e X.env) :: starEach es X.env := by rfl) (hpl : (backTo pos (starEach es X.env)).any (·.1) = false := by rfl) :
    PE X (.Call (.Attribute (.Name "RecastError" p1) "__init__" p2) (e :: es) [] pos) (tVeI X.K ta) := by
  refine ⟨fun pins s σ H Q I h => ?_⟩
  obtain ⟨B, h1, h2, h3, h4⟩ := XB.ex
  refine PySem.W.methodCall_KW (ld_glob I hg h1 ?_ (by decide)) hc
  refine PySem.W.method_cls I.kIn h2 (PySem.W.cls_value I.kIn h3 h4 (by decide +kernel) ?_)
  show wpAny _ _ (callWith pos (Value.builtin "ValueError.__init__") [] (backTo pos (starEach (e :: es) X.env)) []) _ _ _
  refine PyProof.Rows.callWith_method1 (thn (ha.run pos pins _ σ H _ (I.tok _) h) fun us s1 ⟨vs, H1, I1, r1, a, C, ws, ev, hl, T, ea, q⟩ => ?_) he hpl
  subst ev
  cases r1 with
  | @cons _ u0 _ ur ra rw' =>
    obtain rfl : u0 = Value.ref a := ra
    refine oinit_ok T I1 ea ?_ fun s' J => ⟨.non, H1, J, rfl, q⟩
    have := Paired.length rw'
    rw [sizeLine_eq]
    omega
end
theorem refs_one (C : Addr) : PySem.HandSPX.refsVE [.ref C, .type "ValueError", .type "Exception", .type "BaseException", .type "object"] = true := by
  show PySem.HandSPX.refsVE [.type "ValueError", .type "Exception", .type "BaseException", .type "object"] = true
  decide +kernel
/-! ### __init__ -/
/-- what an own __init__ does: the field stands in the exception's dict -/
def spInit (C : Addr) (c : Nat) (txt : Bool) : Sp := fun vs H Q _ => ∃ (a : Addr) (v : V), vs = [.ref a, v] ∧ H a = some (exo a C none) ∧ (txt = true → ∃ s : Str, v = .str s ∧ s.length ≤ 1000) ∧ ∀ d, H d = none → d ≠ a → Q .non (upd (upd H d (exd d [(XFl c, v)])) a (exo a C (some d)))
/-- what the text's top tells of such a class -/
structure XIn (K : PySem.W.Frag) (mg : Str → Option Value) (c : Nat) (txt : Bool) : Prop where
  ex : ∃ (C fI : Addr) (fd : FuncData), mg (XNm c) = some (.ref C) ∧ XCls K c (.ref C) ∧ OexC K C ∧ PySem.W.findIn K (.ref C) "__init__" = some (some (.ref fI)) ∧ PySem.W.typeIn K (.ref fI) = some (.type "function") ∧ Binds K fd ["self", XFl c] [] ∧ ∀ P w base, FnOk P w K mg base (L2.CX P w) 1 fI fd ["self", XFl c] (spInit C c txt)
theorem init_rd {K : PySem.W.Frag} {C : Addr} {c : Nat} {m : Str} {vs : List V} {H : Hp} {Q : VK} {E : XK} {N : List Str} (T : OexC K C) (hno : PySem.W.findIn K (.ref C) (XFl c) = some none) (h : spInit C c false vs H Q E) :
    tSeq (tDrop (tVeI K (tCons (tVar 0) (tCons (tC (.str m)) tNil)))) (tOst K (XFl c) (tVar 0) (tVar 1)) { nx := fun _ H' => Q .non H', rt := Q } (L2.start N vs) H := by
  obtain ⟨a, v, rfl, ea, _, q⟩ := h
  have s0 : (L2.start N [V.ref a, v])[0]? = some (some (.ref a)) := by simp [L2.start]
  have s1 : (L2.start N [V.ref a, v])[1]? = some (some v) := by simp [L2.start]
  refine ⟨_, s0, a, C, [.str m], rfl, by simp, T, ea, _, s1, _, s0, a, C, rfl, T, hno, .inl ⟨ea, fun dx n ne => q dx n ne⟩⟩
/-- .. with the field's text behind a written one -/
theorem init_rdT {K : PySem.W.Frag} {C : Addr} {c : Nat} {m : Str} {vs : List V} {H : Hp} {Q : VK} {E : XK} {N : List Str} (T : OexC K C) (hno : PySem.W.findIn K (.ref C) (XFl c) = some none) (hm : m.length ≤ 1000) (h : spInit C c true vs H Q E) :
    tSeq (tDrop (tVeI K (tCons (tVar 0) (tCons (tOp (fun x y H Q => ∃ i j, x = .str i ∧ y = .str j ∧ i.length + j.length ≤ sizeLine ∧ Q (.str (i ++ j)) H) (tC (.str m)) (tVar 1)) tNil)))) (tOst K (XFl c) (tVar 0) (tVar 1)) { nx := fun _ H' => Q .non H', rt := Q } (L2.start N vs) H := by
  obtain ⟨a, v, rfl, ea, hv, q⟩ := h
  obtain ⟨z, rfl, hz⟩ := hv rfl
  have s0 : (L2.start N [V.ref a, V.str z])[0]? = some (some (.ref a)) := by simp [L2.start]
  have s1 : (L2.start N [V.ref a, V.str z])[1]? = some (some (.str z)) := by simp [L2.start]
  refine ⟨_, s0, _, s1, m, z, rfl, rfl, by rw [sizeLine_eq]; omega, a, C, [.str (m ++ z)], rfl, by simp, T, ea, _, s1, _, s0, a, C, rfl, T, hno, .inl ⟨ea, fun dx n ne => q dx n ne⟩⟩
/-! ### raise C(e) -/
def okF (txt : Bool) (x : DV) : Bool := if txt = true then (match x with | .str s => decide (s.length ≤ 1000) | _ => false) else true
def raiseF (c : Nat) (txt : Bool) (e : ME) : MS := fun l S => (e l S).bind fun x S1 => if noRef x = true ∧ okF txt x = true then .exc c x l S1 else .bad
section
variable {X : Cx} {rx : Rx} {W : WX} {a e : Expr} {ma me : ME} {pos : Pos}
theorem v_raiseF {c : Nat} {txt : Bool} {x : Str} {k : Nat} {p pos' : Pos} (F : XIn X.K X.mg c txt) (hrx : ∀ c cls, XCls X.K c cls → rx c cls) (hr : Room (k + 2) X.A) (tk : Takes X W) (he : IE X rx W e me) (hx : x = XNm c := by rfl) (hc : X.calm = true := by rfl) (hg : Gl X x := by rfl) (hdb : (x == ("__debug__" : Str)) = false := by decide)
    (hs : starEach [e] X.env = (false, eval e X.env) :: starEach [] X.env := by rfl) (hpl : (backTo pos (starEach [] X.env)).any (·.1) = false := by rfl) :
    IS X rx W (.Raise (some (.Call (.Name x p) [e] [] pos)) none pos') (raiseF c txt me) := by
  obtain ⟨C, fI, fd, h1, h2, T, iC, tI, hb, F1⟩ := F.ex
  subst hx
  refine ps_imp (ps_raise hc tk (pmk_oex (dvs := []) (ds := []) T iC tI (F1 X.prog X.w X.base) (hr.mono (by omega)) hb .nil passL hg h1 (v_cons he v_nil hs) hdb hs hpl)) fun D σ H ⟨ρ, l, S, hl, hsS, h⟩ => ?_
  have h' : Post X.K rx W ρ H ((me l S).bind _) (QS X.K ρ H D) := h
  refine ⟨ρ, l, S, hl, hsS, ?_⟩
  unfold aCons
  cases em : me l S with
  | bad => rw [em] at h'; exact False.elim h'
  | exc c' x' l' S' => rw [em] at h'; exact h'
  | ok x S1 =>
    rw [em] at h'
    simp only [Out.bind] at h' ⊢
    split at h'
    · rename_i hok
      intro ρ1 H1 vs e1 s1 r1
      simp only [RVs] at r1
      obtain ⟨v, t, rfl, rv, rfl⟩ := r1
      refine ⟨by simp, fun a ha => ⟨a, v, rfl, upd_same, fun ht => ?_, fun d hd hda => ⟨rfl, d, [(XFl c, v)], upd_same, by rw [upd_ne hda, upd_same], ?_, ?_⟩⟩⟩
      · have := hok.2
        unfold okF at this
        rw [if_pos ht] at this
        cases x with
        | str z => exact ⟨z, rv.str, of_decide_eq_true this⟩
        | _ => exact absurd this Bool.false_ne_true
      · rwa [upd_ne hda] at hd
      · have hd1 : H1 d = none := by rwa [upd_ne hda] at hd
        have eH : upd (del (upd (upd (upd H1 a (exo a C none)) d (exd d [(XFl c, v)])) a (exo a C (some d))) a) d (.xd [(XFl c, v)]) = upd H1 d (.xd [(XFl c, v)]) := by
          funext b
          by_cases hbd : b = d
          · subst hbd; rw [upd_same, upd_same]
          · rw [upd_ne hbd, upd_ne hbd]
            by_cases hba : b = a
            · subst hba; rw [del_same, ha]
            · rw [del_ne hba, upd_ne hba, upd_ne hbd, upd_ne hba]
        show W (.ref C) (some d) σ (upd (del _ a) d (.xd [(XFl c, v)]))
        rw [eH]
        have e2 : Ext ρ1 H1 ρ1 (upd H1 d (.xd [(XFl c, v)])) := ext_new hd1
        refine h' ρ1 _ σ (.ref C) (some d) (e1.trans e2) (s1.new hd1) ((hl.mono e1).mono e2) ⟨hrx _ _ h2, hok.1, .inr ⟨d, _, v, rfl, notin_of s1 hd1, upd_same, by simp [List.lookup], rv.mono e2⟩⟩
    · exact False.elim h'
/-! ### e.f -/
structure XFd (K : PySem.W.Frag) (cs : List Nat) (f : Str) : Prop where
  ex : ∀ c ∈ cs, XFl c = f ∧ ∀ C, XCls K c (.ref C) → ExcK K C ∧ PySem.W.hasDictIn K C = true ∧ PySem.W.findIn K (.ref C) f = some none
def fldVc (cs : List Nat) : DV → Option DV
  | .exn c x => if c ∈ cs ∧ isNon x = false then some x else none
  | _ => none
/-- e.f of a caught one, of a class that has the field -/
def fldC (cs : List Nat) : ME → ME := op1 fun _ => fldVc cs
theorem pe_fldY {n : Str} {te : TE} (he : PE X e te) (hb : attributeBase e n X.env (eval e X.env) = eval e X.env) : PE X (.Attribute e n pos) (fun σ H Q => te σ H fun x H1 => ∃ (p C : Addr) (dd : Addr) (fs : List (Str × V)) (v : V), x = .ref p ∧ H1 p = some (ExY (.ref C) (some dd) p) ∧ ExcK X.K C ∧ PySem.W.hasDictIn X.K C = true ∧ PySem.W.findIn X.K (.ref C) n = some none ∧ H1 dd = some (.xd fs) ∧ fs.lookup n = some v ∧ Q v H1) := by
  refine ⟨fun pins s σ H Q I h => ?_⟩
  refine attr_of hb (thn (he.run pins s σ H _ I h) fun u s1 hh => ?_)
  obtain ⟨x, H1, I1, rx, p, C, dd, fs, v, ex, ep, k, hd0, hno, ea, l, q⟩ := hh
  subst ex
  obtain rfl : u = Value.ref p := rx
  obtain ⟨⟨oe, vs, he', hz, hd⟩, _, _⟩ := I1.hok p _ ep
  have no : PySem.W.notCls oe = true := by unfold PySem.W.notCls; rw [hd] <;> rfl
  have hx : ObjOk X.prog X.w H1 s1.heap dd (.xd fs) := I1.hok dd _ ea
  obtain ⟨mA, hns, hr⟩ := hx
  obtain ⟨od, ho, hl⟩ := lookIn_ns hns
  obtain ⟨u, hu, ru⟩ := RelO.some_of (v := v) (o := mA n) (by rw [← l]; exact hr n)
  have J : PySem.W.InstAt s1.heap p oe C (some od) := ⟨he', hz.1, no, by rw [hz.2]; exact ho⟩
  exact HandSPX.exc_get I1.kIn J k.ga k.gg k.hb (PySem.W.findObj_own hd0 hno rfl (by rw [hl, hu])) (handed_of ru) ⟨v, H1, I1.tok _, ru, q⟩
theorem v_fld {cs : List Nat} {f : Str} (F : XFd X.K cs f) (ha : IE X rx W a ma) (hb : attributeBase a f X.env (eval a X.env) = eval a X.env := by rfl) : IE X rx W (.Attribute a f pos) (fldC cs ma) := by
  refine pe_imp (pe_fldY ha hb) fun σ H Q ⟨ρ, l, S, hl, hsS, h⟩ => ?_
  refine bindI hl hsS h fun ρ1 H1 y S1 w e1 s1 l1 r1 q1 => ?_
  obtain ⟨d, hd', q⟩ := q1.of
  dsimp only at hd'
  unfold fldVc at hd'
  split at hd'
  · rename_i c x'
    split at hd'
    · rename_i hcs
      cases hd'
      obtain ⟨pp, C, od, rfl, g1, g2, g3, g4⟩ := r1.exn
      obtain ⟨rfl, k⟩ := F.ex c hcs.1
      obtain ⟨k1, k2, k3⟩ := k C g2
      obtain ⟨dd, fs, u, rfl, g5, g6, g7⟩ := g4 (fun z => by rw [z] at hcs; exact absurd hcs.2 (by simp [isNon]))
      exact ⟨pp, C, dd, fs, u, rfl, g1, k1, k2, k3, g5, g6, q ρ1 H1 _ e1 s1 g7⟩
    · cases hd'
  · cases hd'
end
end Y
/-! len(set(xs)) of a list of texts. -/
namespace Y
open PySem L2 PySem.Spec RZ PyProof.Rows
def put1 (u : List Str) (x : Str) : List Str := if u.any (· == x) = true then u else u ++ [x]
/-- the unlike ones of some texts -/
def unlike (xs : List Str) : List Str := xs.foldl put1 []
theorem unlike_snoc (xs : List Str) (x : Str) : unlike (xs ++ [x]) = put1 (unlike xs) x := by simp [unlike]
theorem put1_any (u : List Str) (x k : Str) : (put1 u x).any (· == k) = (u.any (· == k) || decide (k = x)) := by
  have hd : (x == k) = decide (k = x) := by
    by_cases e : k = x
    · subst e; simp
    · have : (x == k) = false := beq_eq_false_iff_ne.mpr fun z => e z.symm
      simp [this, e]
  unfold put1
  split
  · rename_i h
    by_cases e : k = x
    · subst e; simp [h]
    · simp [e]
  · rw [List.any_append, ← hd]; simp
theorem unlike_anyA (k : Str) : ∀ (xs u : List Str), (xs.foldl put1 u).any (· == k) = (u.any (· == k) || xs.any (· == k))
  | [], u => by simp
  | x :: xs, u => by
    rw [List.foldl_cons, unlike_anyA k xs, put1_any, List.any_cons]
    have hd : (x == k) = decide (k = x) := by
      by_cases e : k = x
      · subst e; simp
      · have : (x == k) = false := beq_eq_false_iff_ne.mpr fun z => e z.symm
        simp [this, e]
    rw [hd, Bool.or_assoc]
theorem unlike_any (k : Str) (xs : List Str) : (unlike xs).any (· == k) = xs.any (· == k) := by
  have := unlike_anyA k xs []
  simpa [unlike] using this
theorem unlike_lenA : ∀ (xs u : List Str), (xs.foldl put1 u).length ≤ u.length + xs.length
  | [], u => by simp
  | x :: xs, u => by
    have h := unlike_lenA xs (put1 u x)
    have h2 : (put1 u x).length ≤ u.length + 1 := by unfold put1; split <;> simp
    rw [List.foldl_cons, List.length_cons]
    omega
theorem unlike_len (xs : List Str) : (unlike xs).length ≤ xs.length := by
  have := unlike_lenA xs []
  simpa [unlike] using this
section
variable {prog : Program} {w : World} {A : Around} {R : Result → Shared → Prop} {I : Addr} {fp wr : List Addr} {G : Array GenState → Array GenState → Prop} {n : Nat} {P : Nat → Value → Prop} {St : Nat → Shared → Prop}
/-- the set of the first i texts stands at S -/
abbrev SetAt (prog : Program) (w : World) (h : Heap) (S : Addr) (xs : List Str) : Prop := h.SetOf (PySem.strKind prog w) S (fun k => xs.any (· == k)) (unlike xs).length
theorem loop_texts (W : WalksS prog w A.in1 I fp wr G n P St) (S : Addr) (hfp : S ∉ fp) (xs : List Str) (hl : xs.length = n) (hn : n < 4000) (hv : ∀ i v, P i v → ∃ t, v = .str (xs.getD i Str.empty) t) (i : Nat) (s : Shared) (hi : i ≤ n) (st : St i s) (hS : SetAt prog w s.heap S (xs.take i))
    (hR : ∀ s', Moved (S :: wr) G s s' → SetAt prog w s'.heap S (xs.take n) → R (.ok (.ret .none)) s') : codeAny (model prog w) A (.builtin "set.update.loop" ⟨[.ref S, .ref I], []⟩) R s := by
  have swr : S ∉ wr := fun z => hfp (W.sub _ z)
  have sub1 : ∀ b ∈ wr, b ∈ S :: wr := fun b z => List.mem_cons_of_mem _ z
  refine codeAny_builtin PyProof.Rows.F.entry_set_update_loop ?_
  rw [Around.under_plainId PyProof.Rows.F.plain_set_update_loop _]
  show wpAny _ A.in1 (pyNext (.ref I) >>= _) _ _ s
  by_cases hlt : i < n
  · refine wpAny_bind (W.item i s _ _ hlt st fun v s1 pv st1 mv => ?_)
    obtain ⟨t, rfl⟩ := hv i v pv
    obtain ⟨x, hx⟩ : ∃ x, xs[i]? = some x := ⟨_, List.getElem?_eq_getElem (by omega)⟩
    have hgd : xs.getD i Str.empty = x := by rw [List.getD_eq_getElem?_getD, hx]; rfl
    rw [hgd]
    have S1 : SetAt prog w s1.heap S (xs.take i) := by
      obtain ⟨o, es, ep, tb, ho, more⟩ := hS
      exact ⟨o, es, ep, tb, mv.heap S _ swr ho, more⟩
    have few : (unlike (xs.take i)).length ≤ i := Nat.le_trans (unlike_len _) (by simp; omega)
    show wpAny _ A.in1 (holding [Value.str x t] (setAdd S (.str x t)) >>= _) _ _ s1
    refine wpAny_bind (wpAny_holding ?_)
    unfold setAdd
    refine wpAny_holding (wpAny_bind ((PySem.strKind prog w).pyHash (k := x) (strKind_is _ _ _ _) ?_))
    refine wpAny_setAddHashed_of (knd := PySem.strKind prog w) (s := { s1 with toks := s1.toks + 1 }) (strKind_is _ _ _ _) rfl S1 (by unfold scanBound; omega) fun h2 same S2 => ?_
    have hsn : xs.take (i + 1) = xs.take i ++ [x] := by rw [List.take_succ, hx]; rfl
    have S3 : SetAt prog w h2 S (xs.take (i + 1)) := by
      refine SetOf_congr S2 (fun k => ?_) ?_
      · rw [hsn, ← unlike_any k (xs.take i ++ [x]), unlike_snoc, put1_any, unlike_any]
      · rw [hsn, unlike_snoc]
        unfold put1
        rw [unlike_any]
        split <;> simp
    refine wpAny_pure ⟨plainId_quiet PyProof.Rows.F.plain_set_update_loop _, loop_texts W S hfp xs hl hn hv (i + 1) _ hlt (W.frame _ s1 _ _ st1 (Nat.le_succ _) fun b hb o e => ?_) S3 fun s3 mv3 S4 => ?_⟩
    · rw [same.2 b fun z : b = S => hfp (by rw [← z]; exact hb)]; exact e
    · refine hR s3 (Moved.trans W.gtrans ((mv.mono sub1).then_heap (Nat.le_succ _) fun b o hb e => ?_) mv3) S4
      rw [same.2 b fun z : b = S => hb (by rw [z]; exact List.mem_cons_self)]; exact e
  · obtain rfl : i = n := by omega
    refine wpAny_bind (W.done s _ _ st fun s1 mv => ?_)
    show wpAny _ A.in1 (PySem.ret Value.none) _ _ s1
    refine wpAny_pure (hR s1 (mv.mono sub1) ?_)
    obtain ⟨o, es, ep, tb, ho, more⟩ := hS
    exact ⟨o, es, ep, tb, mv.heap S _ swr ho, more⟩
termination_by n - i
end
section
variable {prog : Program} {w : World} {A : Around} {E : Value → Shared → Prop} {s : Shared}
/-- a fresh set -/
abbrev set0 (led : Bool) : Obj := { cls := .type "set", dict := none, data := .set #[] 0 (.fresh 0 0 led) }
/-- set(xs), xs a list of texts -/
theorem set_texts {l : Addr} {items : Array Value} {xs : List Str} {Q : Value → Shared → Prop} (hh : A.handled = none) (hl : s.heap.IsList l items) (hi : PyProof.Rows.StrsAre items.toList xs) (hn : xs.length < 4000)
    (h : ∀ (h' : Heap) (tk : Nat), SetAt prog w h' s.heap.objs.size xs → (∀ b o, b < s.heap.objs.size → s.heap.get? b = some o → h'.get? b = some o) → Q (.ref s.heap.objs.size) { s with heap := h', toks := tk }) :
    wpAny (model prog w) A (PySem.call (.type "set") [.ref l]) Q E s := by
  have CS0 := PySem.F.called_set
  obtain ⟨c, tl, hmro⟩ := CS0.mro
  have made := CS0.made
  have below := CS0.sub
  refine wpAny_call (codeAny_of_tree ?_)
  show wpAny _ _ (callAny (.type "set") _) _ _ _
  refine wpAny_pure ⟨Code.quiet_builtin _ (by decide +kernel), codeAny_builtin PySem.F.entry_type_call ?_⟩
  rw [Around.under_plain (weight_type_call_type "set" [.ref l] []) rfl]
  have k1 := CS0.notType
  have k2 := CS0.canCreate
  have k3 := PySem.F.typeCall_set_1 (.ref l)
  repeat (any_goals (first | assumption | wp_step))
  refine codeAny_mono (code_set_new_1 (.ref l) (E := E) (Q₁ := fun v t => ∃ led : Bool, v = .ref s.heap.objs.size ∧ t = { s with heap := s.heap.push (set0 led) }) fun led => ⟨led, rfl, rfl⟩) fun r t hr => ?_
  match r, hr with
  | .error e, hr => exact hr
  | .ok .next, hr => exact hr.elim
  | .ok .brk, hr => exact hr.elim
  | .ok .cont, hr => exact hr.elim
  | .ok (.ret v), hr =>
    obtain ⟨led, rfl, rfl⟩ := hr
    have got : (s.heap.push (set0 led)).get? s.heap.objs.size = some (set0 led) := Heap.get?_push_size _ rfl
    have isS : Shared.TypeIs { s with heap := s.heap.push (set0 led) } (.ref s.heap.objs.size) "set" := ⟨_, got, rfl⟩
    have look := CS0.init.lookup
    have bind := CS0.init.bind (.ref s.heap.objs.size)
    repeat (any_goals (first | assumption | wp_step))
    refine codeAny_mono (codeAny_call_builtin (R := wants (fun r t => r = .none ∧ ∃ h' tk, t = { s with heap := h', toks := tk } ∧ SetAt prog w h' s.heap.objs.size xs ∧ (∀ b o, b < s.heap.objs.size → s.heap.get? b = some o → h'.get? b = some o)) E) CS0.init.plain PySem.F.entry_set_init (check_set_init_1 isS ?_)) fun r2 t2 hr2 => ?_
    · have lt : l < s.heap.objs.size := by
        obtain ⟨o, e, _⟩ := hl
        exact Heap.lt_size e
      obtain ⟨oc, od, odt, os⟩ := hl.choose
      have hl2 : (s.heap.push (set0 led)).IsList l items := hl.push _
      obtain ⟨o, ho, hc, nl, hd⟩ := id hl2
      obtain ⟨o1, o2, o3, o4⟩ := o
      simp only at hc hd
      subst hc; subst hd
      have q1 := PySem.F.sub_list_set
      have q2 := PySem.F.sub_list_frozenset
      have q3 : (Value.type "list" == Value.type "dict") = false := by decide
      unfold Builtin.«set.__init__» noKeywords Builtin.Frozenset.updateFrom
      generalize hPI : pyIter = PI
      wp_walk
      subst hPI
      refine wpAny_pyIter_list hl2 ?_
      refine wpAny_bind (wpAny_runValue ?_)
      have h3 : A.in1.in1.in1.handled = none := by simp [hh]
      have z1 : l ≠ (s.heap.push (set0 led)).objs.size := by rw [Heap.size_push]; exact fun z => by rw [z] at lt; exact absurd lt (Nat.not_lt_of_le (Nat.le_succ _))
      have z2 : s.heap.objs.size ∉ [(s.heap.push (set0 led)).objs.size, l] := by
        rw [Heap.size_push]
        simp only [List.mem_cons, List.not_mem_nil, or_false, not_or]
        exact ⟨fun z => Nat.succ_ne_self _ z.symm, fun z => by rw [← z] at lt; exact absurd lt (Nat.lt_irrefl _)⟩
      have len : xs.length = items.size := by rw [← StrsAre.len_eq hi, Array.length_toList]
      have vals : ∀ (i : Nat) (v : Value), items[i]? = some v → ∃ t, v = .str (xs.getD i Str.empty) t := fun i v hv => SS.strs_at hi i v (by rw [Array.getElem?_toList]; exact hv)
      refine loop_texts ((Walks.list h3 _ l z1 items).toS) s.heap.objs.size z2 xs len (by omega) vals 0 _ (Nat.zero_le _) ⟨⟨_, Heap.get?_push_size _ rfl, rfl, rfl⟩, (hl2.push _)⟩ ?first fun s2 mv S2 => ?last
      case first =>
        exact PyProof.Rows.SetOf_congr ((PyProof.Rows.setObjOf_fresh (knd := PySem.strKind prog w) led).setOf (Heap.get?_push_of_some _ got) (by unfold scanBound; omega)) (fun _ => rfl) rfl
      case last =>
        obtain ⟨h', g', d', tk', os'⟩ := s2
        obtain rfl : g' = s.gens := mv.gens
        obtain rfl : d' = s.drawn := mv.drawn
        obtain rfl : os' = s.os := mv.os
        show wpAny _ _ _ _ _ _
        refine wpAny_pure ?_
        show wpAny _ _ (PySem.ret Value.none) _ _ _
        rw [← len, List.take_length] at S2
        refine wpAny_pure ⟨rfl, h', tk', rfl, S2, fun b o hb e => mv.heap b o ?_ (Heap.get?_push_of_some _ (Heap.get?_push_of_some _ e))⟩
        rw [Heap.size_push]
        simp only [List.mem_cons, List.not_mem_nil, or_false, not_or]
        exact ⟨fun z => by rw [z] at hb; exact absurd hb (Nat.lt_irrefl _), fun z => by rw [z] at hb; exact absurd hb (Nat.not_lt_of_le (Nat.le_succ _))⟩
    · match r2, hr2 with
      | .error e, hr2 => exact hr2
      | .ok (.ret r), hr2 =>
        obtain ⟨rfl, h', tk, rfl, S2, keep⟩ := hr2
        repeat (any_goals (first | assumption | wp_step))
        exact h _ _ S2 keep
      | .ok .next, hr2 => exact hr2.elim
      | .ok .brk, hr2 => exact hr2.elim
      | .ok .cont, hr2 => exact hr2.elim
end
section
variable {X : Cx} {rx : Rx} {W : WX} {a : Expr} {ma : ME}
/-- len(set(xs)) -/
def tLenTexts (K : PySem.W.Frag) (ta : TE) : TE := fun σ H Q => ta σ H fun x H1 => ∃ (l : Addr) (xs : List Str), x = .ref l ∧ SqL K H1 l (xs.map V.str) ∧ xs.length < 4000 ∧ Q (.int (unlike xs).length) H1
theorem pe_lenTexts {ta : TE} {p p2 q pos : Pos} (hc : X.calm = true) (hm : X.mg "len" = none) (hm2 : X.mg "set" = none) (ha : PE X a ta) (hg : Gl X "len" := by rfl) (hg2 : Gl X "set" := by rfl)
    (na : starEach [a] X.env = (false, eval a X.env) :: starEach [] X.env := by rfl) : PE X (.Call (.Name "len" p) [.Call (.Name "set" p2) [a] [] q] [] pos) (tLenTexts X.K ta) := by
  refine ⟨fun pins s σ H Q I h => Call_ (ld_blt I hg hm boot_len ?_)⟩
  refine PyProof.Rows.callWith_builtin1 (PyProof.Rows.args_cons (Call_ (ld_blt I hg2 hm2 boot_set ?_)) rfl) rfl rfl
  refine PyProof.Rows.callWith_type1 (PyProof.Rows.args_cons (thn (ha.run pins s σ H _ I h) fun v s1 ⟨x, H1, I1, r1, q1⟩ => PyProof.Rows.args_nil ?_) na) na rfl
  obtain ⟨l, xs, rfl, hq, hn, q1⟩ := q1
  cases r1
  obtain ⟨its, r, pl, hz⟩ := I1.list hq
  refine set_texts (I1.ok.hd hc) pl.isList (by simpa using strsAre_of r) hn fun h' tk hS hk => PyProof.Rows.args_nil ?_
  obtain ⟨o, es, ep, t, ho, hex, hd, _, _, _, hf, hsz⟩ := hS
  have I2 : Inv X pins σ H1 { s1 with heap := h', toks := tk } := I1.kept fun b o e => hk b o (Heap.lt_size e) e
  have few := unlike_len xs
  exact call_len_set ho hex hd hf (by rw [hsz]; omega) ⟨.int (unlike xs).length, H1, I2.tok _, ⟨_, by rw [hsz]⟩, q1⟩
def strsD : List DV → Option (List Str)
  | [] => some []
  | .str s :: xs => (strsD xs).map (s :: ·)
  | _ => none
theorem strsD_some : ∀ {xs : List DV} {ss : List Str}, strsD xs = some ss → xs = ss.map DV.str
  | [], ss, h => by cases h; rfl
  | x :: xs, ss, h => by
    cases x with
    | str s =>
      simp only [strsD] at h
      cases e : strsD xs with
      | none => rw [e] at h; cases h
      | some ts => rw [e] at h; cases h; rw [strsD_some e]; rfl
    | _ => simp [strsD] at h
def lenSetV (S : Sto) (x : DV) : Option DV := match lstOf S x with
  | some xs => match strsD xs with
    | some ss => if ss.length < 4000 then some (.int (unlike ss).length) else none
    | none => none
  | none => none
/-- len(set(xs)), xs a list of texts -/
def lenSet : ME → ME := op1 lenSetV
theorem RVs.strs {K : PySem.W.Frag} {ρ : List Addr} {H : Hp} : ∀ {ss : List Str} {vs : List V}, RVs K ρ H (ss.map DV.str) vs → vs = ss.map V.str
  | [], vs, h => by simpa [RVs] using h
  | s :: ss, vs, h => by
    simp only [List.map_cons, RVs] at h
    obtain ⟨v, r, rfl, h2, h3⟩ := h
    rw [h2.str, RVs.strs h3]
    rfl
theorem v_lenSet {p p2 q pos : Pos} (hm : X.mg "len" = none) (hm2 : X.mg "set" = none) (ha : IE X rx W a ma) (hc : X.calm = true := by rfl) (hg : Gl X "len" := by rfl) (hg2 : Gl X "set" := by rfl)
    (na : starEach [a] X.env = (false, eval a X.env) :: starEach [] X.env := by rfl) : IE X rx W (.Call (.Name "len" p) [.Call (.Name "set" p2) [a] [] q] [] pos) (lenSet ma) := by
  refine pe_imp (pe_lenTexts hc hm hm2 ha hg hg2 na) fun σ H Q ⟨ρ, l, S, hl, hsS, h⟩ => ?_
  refine bindI hl hsS h fun ρ1 H1 y S1 v e1 s1 l1 r1 q1 => ?_
  obtain ⟨d, hd', q⟩ := q1.of
  unfold lenSetV at hd'
  split at hd'
  · rename_i xs ex
    split at hd'
    · rename_i ss es
      split at hd'
      · rename_i hlt
        cases hd'
        obtain ⟨p, vs, rfl, h2, h3⟩ := r1.lstOf s1 ex
        rw [strsD_some es] at h3
        have := h3.strs
        subst this
        exact ⟨p, ss, rfl, SqL.of h2, hlt, q ρ1 H1 _ e1 s1 (by simp [RV])⟩
      · cases hd'
    · cases hd'
  · cases hd'
end
end Y
/-! A slice of a list as an object of the store; `is not True`. -/
namespace Y
open PySem L2 PySem.Spec RZ PyProof.Rows
def sliceR (a : ME) (lo hi : Option ME) : ME := fun l S => (a l S).bind fun x S1 => (part lo l S1).bind fun p S2 => (part hi l S2).bind fun q S3 => match lstOf S3 x with
  | some xs => if noRefs (cutD xs p q) = true then .ok (.ref S3.length) (S3 ++ [.lst (cutD xs p q)]) else .bad
  | none => .bad
@[simp] theorem sliceR_run (a : ME) (lo hi : Option ME) (l : Lo) (S : Sto) : sliceR a lo hi l S = (a l S).bind fun x S1 => (part lo l S1).bind fun p S2 => (part hi l S2).bind fun q S3 => match lstOf S3 x with
  | some xs => if noRefs (cutD xs p q) = true then .ok (.ref S3.length) (S3 ++ [.lst (cutD xs p q)]) else .bad
  | none => .bad := rfl
section
variable {X : Cx} {rx : Rx} {W : WX} {a : Expr} {ma : ME} {pos : Pos}
theorem v_sliceR {lo hi : Option Expr} {ml mh : Option ME} {p2 : Pos} (ha : IE X rx W a ma) (h1 : IP X rx W lo ml) (h2 : IP X rx W hi mh) : IE X rx W (.Subscript a (.Slice lo hi none p2) pos) (sliceR ma ml mh) := by
  refine pe_imp (pe_slice sl_list ha h1 h2) fun σ H Q ⟨ρ, l, S, hl, hs, h⟩ => ?_
  refine bindI hl hs h fun ρ1 H1 x S1 v e1 s1 l1 r1 h1 => ?_
  refine ⟨ρ1, l, S1, l1, s1, h1.bind.imp fun p S2 h2 ρ2 H2 e2 s2 => ?_⟩
  refine ⟨ρ2, l, S2, l1.mono e2, s2, (h2.shift e2).bind.imp fun p' S3 h3 ρ3 H3 e3 s3 => ?_⟩
  have h4 := h3.shift e3
  split at h4
  · rename_i xs ex
    split at h4
    · rename_i hn
      obtain ⟨q, vs, rfl, k1, k2⟩ := ((r1.mono e2).mono e3).lstOf s3 ex
      exact ⟨q, vs, rfl, SqL.of k1, fun t ht => h4 _ _ _ (e1.trans (e2.trans (e3.trans (ext_push ht)))) (s3.push ht (ro_push ht (k2.cut p p') hn)) (rv_last s3)⟩
    · exact False.elim h4
  · exact False.elim h4
/-! ### is not True -/
def isNB : ME → ME → ME := op2 fun _ x y => (isBV x y).map fun c => .bl !c
@[simp] theorem isNB_run (a b : ME) (l : Lo) (S : Sto) : isNB a b l S = (a l S).bind fun x S1 => (b l S1).bind fun y S2 => Out.of ((isBV x y).map fun c => .bl !c) S2 := rfl
theorem v_isNB {b : Expr} {mb : ME} (ha : IE X rx W a ma) (hb : IE X rx W b mb) (hm : behindInMarks .IsNot b = false := by rfl) : IE X rx W (.Compare a [.IsNot] [b] pos) (isNB ma mb) :=
  v_cmp (f := fun _ => isBV) (g := fun c => !c) op_isnot_bl hm (fun {ρ H S x y c v u Q} s r1 r2 h q => by
    obtain ⟨p, q', rfl, rfl, rfl⟩ := isB_shape (S := S) h
    exact ⟨p, q', r1.bl, r2.bl, q⟩) ha hb
theorem v_tisNB {b : Expr} {mb : ME} (ha : IE X rx W a ma) (hb : IE X rx W b mb) (hm : behindInMarks .IsNot b = false := by rfl) : IT X rx W (.Compare a [.IsNot] [b] pos) (tst (isNB ma mb)) :=
  v_tcmp (f := fun _ => isBV) (g := fun c => !c) op_isnot_bl hm (fun {ρ H S x y c v u Q} s r1 r2 h q => by
    obtain ⟨p, q', rfl, rfl, rfl⟩ := isB_shape (S := S) h
    exact ⟨p, q', r1.bl, r2.bl, q⟩) ha hb
end
end Y
/-! A list, so often. -/
namespace Y
open PySem L2 PySem.Spec RZ PyProof.Rows
def repLV (x y : DV) : Option DV := match x, y with
  | .lst xs, .int k => if 0 ≤ k ∧ k ≤ 1000 ∧ xs.length ≤ 1000 then some (.lst (List.replicate k.toNat xs).flatten) else none
  | _, _ => none
/-- a list times a number -/
def mulL : ME → ME → ME := op2 fun _ => repLV
@[simp] theorem mulL_run (a b : ME) (l : Lo) (S : Sto) : mulL a b l S = (a l S).bind fun x S1 => (b l S1).bind fun y S2 => Out.of (repLV x y) S2 := rfl
theorem v_mulL {X : Cx} {rx : Rx} {W : WX} {a b : Expr} {ma mb : ME} {pos : Pos} (ha : IE X rx W a ma) (hb : IE X rx W b mb) : IE X rx W (.BinOp a .Mult b pos) (mulL ma mb) := by
  refine v_op op_rep (fun {ρ H S x y d v u Q} s rx' ry e q => ?_) ha hb
  unfold repLV at e
  split at e
  · rename_i xs k
    split at e
    · rename_i hz
      cases e
      simp only [RV] at rx'
      obtain ⟨p, vs, rfl, _, h1, h2⟩ := rx'
      have hl := h2.length
      refine ⟨p, k, vs, rfl, ry.int, h1, by omega, by omega, ?_, fun t ht => q ρ _ _ (ext_new ht) (s.new ht) (rv_newL s ht (h2.rep k.toNat))⟩
      rw [sizeLine_eq, ← hl]
      exact Nat.le_trans (Nat.mul_le_mul hz.2.2 (show k.toNat ≤ 1000 by omega)) (by decide)
    · cases e
  · cases e
end Y
/-! xs.index(x) among nested plain data. -/
namespace Y
open PySem L2 PySem.Spec RZ PyProof.Rows
section
variable {X : Cx}
def rIndexP (K : PySem.W.Frag) : V → List V → Hp → VK → Prop := fun x xs H Q => ∃ (a : Addr) (y : V) (ds : List PyData) (d : PyData) (j : Nat) (z : PyData), x = V.ref a ∧ xs = [y] ∧ Dp K H (.ref a) (.list ds) ∧ SeqAt.shaped (.list ds) = true ∧ Dp K H y d ∧ SeqAt.shaped d = true ∧ ds[j]? = some z ∧ PyData.eqv z d = true ∧
  (∀ (m : Nat) (z' : PyData), m < j → ds[m]? = some z' → PyData.eqv z' d = false) ∧ Q (.int (j : Nat)) H
theorem mt_indexP (hu : X.A.units + 66 < cLine) : MtR X "list.index" (rIndexP X.K) := by
  intro pins s σ H x xs v us Q I rx rxs h
  obtain ⟨a, y, ds, d, j, z, rfl, rfl, hl, sl0, hy, sd, hz, hzj, hno, q⟩ := h
  cases rxs with
  | cons ry rt =>
    rename_i uy ut
    cases rt
    obtain ⟨bs, r2⟩ := Dp.reads I d y uy hy ry
    obtain ⟨as, r1⟩ := Dp.reads I (.list ds) (.ref a) v hl rx
    cases rx
    cases hl with
    | lst hs _ =>
    obtain ⟨its, rv, ⟨⟨cls, dd, data, sl⟩, n, ho, hc, hdn, hd⟩, hlen⟩ := I.list hs
    simp only at hc hd
    subst hc hd
    cases r1 with
    | list h1 h2 h3 h4 =>
    rw [ho] at h1
    cases h1
    simp only at h3
    cases h3
    have hxs := SeqAt.canLay_of_shaped sl0
    have hmap := SeqAt.readsAll_map ds _ _ hxs h4
    have hlen2 : its.length = ds.length := by rw [← hmap]; simp
    have hjd : j < ds.length := (List.getElem?_eq_some_iff.mp hz).1
    have hat : ∀ (m : Nat) (hm : m < its.toArray.size) (z : PyData), ds[m]? = some z → SeqAt.readOf s.heap its.toArray[m] = z := fun m hm z e => by
      rw [← hmap] at e
      simp only [List.getElem?_map, List.getElem?_toArray] at e
      have hm' : m < its.length := by simpa using hm
      rw [List.getElem?_eq_getElem hm'] at e
      simpa using e
    have hj : j < its.toArray.size := by simp; omega
    have hsl := sizeLine_eq
    have hvl := rv.length
    refine call_meets PySem.F.slot_list_index ⟨_, ho, rfl⟩ PySem.F.entry_list_index (PySem.F.args_list_index_2 _ _)
      (SeqAt.list_indexAt a its.toArray n dd sl uy (fun y => PyData.eqv (SeqAt.readOf s.heap y) d) j hj (by omega) ?_ ?_) ⟨ho, ?_, ?_⟩
    · show PyData.eqv (SeqAt.readOf s.heap its.toArray[j]) d = true
      rw [hat j hj z hz]
      exact hzj
    · intro m hm hmj
      have hmd : m < ds.length := by omega
      show PyData.eqv (SeqAt.readOf s.heap its.toArray[m]) d = false
      rw [hat m hm _ (List.getElem?_eq_getElem hmd)]
      exact hno m _ hmj (List.getElem?_eq_getElem hmd)
    · exact SeqAt.items_eqAt (A := X.A) h4 r2 hxs (SeqAt.canLay_of_shaped sd) (room_in_shaped sd (by omega))
    · exact ⟨.int (j : Nat), H, I.tok _, ⟨_, rfl⟩, q⟩
end
section
variable {X : Cx} {rx : Rx} {W : WX} {a e : Expr} {ma me : ME}
noncomputable def indexPV (S : Sto) (x y : DV) : Option DV := match rd S x with
  | .lst xs => if plain 60 (rd S y) = true ∧ plain 60 (.lst xs) = true then (idxOfD (rd S y) xs).map fun i => .int (i : Nat) else none
  | _ => none
noncomputable def indexPE (a e : ME) : ME := fun l S => (a l S).bind fun x S1 => if (lstSeq S1 x).isSome = true then (e l S1).bind fun y S2 => Out.of (indexPV S2 x y) S2 else .bad
theorem idx_plain {d : DV} (hd : plain 60 d = true) : ∀ {xs : List DV} {n i : Nat}, plains n xs = true → idxOfD d xs = some i → ∃ z, (toPys xs)[i]? = some z ∧ PyData.eqv z (toPy d) = true ∧ ∀ (m : Nat) (z' : PyData), m < i → (toPys xs)[m]? = some z' → PyData.eqv z' (toPy d) = false
  | [], _, _, _, e => by simp [idxOfD] at e
  | x :: xs, n, i, h, e => by
    simp only [plains, Bool.and_eq_true] at h
    have ev : PyData.eqv (toPy x) (toPy d) = eqB x d := by
      rw [Bool.eq_iff_iff, eqB_iff]
      exact plain_eqv n x 60 d h.1 hd
    unfold idxOfD at e
    split at e
    · rename_i hh
      cases e
      exact ⟨toPy x, by simp [toPys], by rw [ev]; exact hh, fun m z' hm => absurd hm (Nat.not_lt_zero _)⟩
    · rename_i hh
      cases e2 : idxOfD d xs with
      | none => rw [e2] at e; cases e
      | some j =>
        rw [e2] at e
        cases e
        obtain ⟨z, h1, h2, h3⟩ := idx_plain hd h.2 e2
        refine ⟨z, by simpa [toPys] using h1, h2, fun m z' hm hz => ?_⟩
        cases m with
        | zero =>
          simp [toPys] at hz
          subst hz
          rw [ev]
          simpa using hh
        | succ m => exact h3 m z' (Nat.lt_of_succ_lt_succ hm) (by simpa [toPys] using hz)
theorem v_indexP (hu : X.A.units + 66 < cLine) {apos cpos : Pos} (ha : IE X rx W a ma) (he : IE X rx W e me) (hbase : attributeBase a "index" X.env (eval a X.env) = eval a X.env := by rfl)
    (hfew : ((backTo cpos (starEach [e] X.env)).all (fun x => !x.1) && (backToKw cpos (keywordEach [] X.env)).all (fun x => x.1.isSome)
      && decide (([e]).length + ([] : List Keyword).length + (if ([] : List Keyword).isEmpty then 0 else 1) < 30)) = true := by rfl)
    (hline : (apos.endLine == cpos.line) = true := by rfl) (hs : starEach [e] X.env = (false, eval e X.env) :: starEach [] X.env := by rfl) (hplain : (backTo cpos (starEach [] X.env)).any (·.1) = false := by rfl) :
    IE X rx W (.Call (.Attribute a "index" apos) [e] [] cpos) (indexPE ma me) := by
  refine pe_imp (pe_bm PySem.F.plainAttrs_list PySem.F.slot_list_index PySem.F.type_list_index (mt_indexP (by omega)) ha (pa_cons he pa_nil hs) hbase hfew hline hs hplain) fun σ H Q ⟨ρ, l, S, hl, hs, h⟩ => ?_
  refine bindI hl hs h fun ρ1 H1 x S1 v e1 s1 l1 r1 h1 => ?_
  split at h1
  · rename_i hx
    obtain ⟨xs0, ex0⟩ := Option.isSome_iff_exists.mp hx
    obtain ⟨p0, vs0, rfl, k0, _⟩ := r1.lstSeq s1 ex0
    refine ⟨.inl ⟨rfl, vs0, k0⟩, bindI l1 s1 h1 fun ρ2 H2 y S2 u e2 s2 l2 r2 h2 => ?_⟩
    obtain ⟨d, hd, q⟩ := h2.of
    unfold indexPV at hd
    split at hd
    · rename_i xs ex
      split at hd
      · rename_i hf
        cases ei : idxOfD (rd S2 y) xs with
        | none => rw [ei] at hd; cases hd
        | some i =>
          rw [ei] at hd
          cases hd
          have hp2 : plain 60 (rd S2 x) = true := by rw [ex]; exact hf.2
          have k := (r1.mono e2).dpR s2 hp2
          have ks := plain_shaped hp2
          rw [ex] at k ks
          simp only [toPy] at k ks
          obtain ⟨z, g1, g2, g3⟩ := idx_plain hf.1 (xs := xs) (n := 59) (by simpa [plain] using hf.2) ei
          exact ⟨p0, u, _, _, i, z, rfl, rfl, k, ks, r2.dpR s2 hf.1, plain_shaped hf.1, g1, g2, g3, q ρ2 H2 _ (e1.trans e2) s2 (by simp [RV])⟩
      · cases hd
    · cases hd
  · exact False.elim h1
end
end Y
/-! x = [.. for .. in d], d a dict. -/
namespace Y
open PySem L2 RZ PyProof.Rows
section
variable {X : Cx} {rx : Rx} {W : WX} {ma me : ME} {tg e : Expr} {pos : Pos}
theorem compD_read {t : Tg} {g : TG} {c : MT} {f : List (Key × DV) → List DV} {It : Addr → Obj → List (Key × V) → L2.It} {Yl : List (Key × V) → Nat → Hp → V → Hp → Prop} {own : List (Str × Nat)} (w : DW X.K f It Yl) (hgo : IGo X (own.map (·.2)) tg g t) {σ : L2.St} {H : Hp} {Q : VK} :
    tI X.K rx W (compD (own.map (·.2)) t f c me ma) σ H Q → tLc (iDw It (tLk X (tI X.K rx W ma))) g (tT X.K rx W0 c) (tI X.K rx W0 me) (own.map (·.2)) σ H (fun x H1 => UnlQ X (Q x) H1) := fun ⟨ρ, l, S, hl, hs, h⟩ => by
  show tI X.K rx W ma σ H _
  refine bindI hl hs h fun ρ1 H1 x S1 v e1 s1 l1 r1 h1 => ?_
  have ht' := hgo.ok
  have gw := fun x => hgo.own σ x
  have val : ∀ kvs a ws, v = .ref a → a ∉ ρ1 → Rd H1 a (.dK ws) → RVK X.K ρ1 H1 kvs ws → Post X.K rx W ρ1 H1 (comp (own.map (·.2)) t (src0 (f kvs)) c me l S1) (QE X.K ρ H Q) →
      (∃ d o ws, v = .ref d ∧ H1 d = some (.frz o (.dK ws)) ∧ CompW (It d o ws) g (tT X.K rx W0 c) (tI X.K rx W0 me) (own.map (·.2)) σ (fun v H => UnlQ X (Q v) H) H1) ∨ ∃ d ws, H1 d = some (.dK ws) ∧ ∀ od, NB X d → ∃ d' o ws', v = .ref d' ∧ upd H1 d (.frz od (.dK ws)) d' = some (.frz o (.dK ws')) ∧ CompW (It d' o ws') g (tT X.K rx W0 c) (tI X.K rx W0 me) (own.map (·.2)) σ (fun v H => UnlQ X (Q v) H) (upd H1 d (.frz od (.dK ws))) := fun kvs a ws ev na rd rk h2 => by
    rcases rd with rd | ⟨o, rd⟩
    · refine .inr ⟨a, ws, rd, fun od nb => ⟨a, od, ws, ev, upd_same, ?_⟩⟩
      have k := lk_lock (od := od) rd
      have sL : RS X.K ρ1 (upd H1 a (.frz od (.dK ws))) S1 := s1.lkOut k fun b hb => upd_ne fun z => na (by rw [← z]; exact hb)
      exact comp_go (rx := rx) (W := W) ht' gw (l1.lk k) sL (w.src upd_same (RVK.lk k _ _ rk)) (comp_noExc h2 fun fl S2 q => qe_unl e1 rd nb (fun ρ' H' e' hf' s' => s'.lkOut (lk_unlock hf') fun b hb => upd_ne fun z => (ext_notin e' rd na) (by rw [← z]; exact hb)) q)
    · exact .inl ⟨a, o, ws, ev, rd, comp_go (rx := rx) (W := W) ht' gw l1 s1 (w.src rd rk) (h2.imp fun fl S2 q ρ' H' v e s r => .inl (q ρ' H' v (e1.trans e) s r))⟩
  cases x with
  | ref k =>
    obtain ⟨a, ha, rfl⟩ := r1.ref
    dsimp only at h1
    split at h1
    · rename_i kvs hk
      obtain ⟨ws, h3, h4, h5⟩ := s1.at_ k a _ ha hk
      refine .inr ⟨a, ws, h3, fun od nb => ⟨a, od, ws, rfl, upd_same, ?_⟩⟩
      have kk := lk_lock (od := od) h3
      have eL := ext_lockRef (od := od) h3 (List.mem_of_getElem? ha)
      have sL : RS X.K ρ1 (upd H1 a (.frz od (.dK ws))) (S1.set k (.fz kvs)) := s1.lkAt kk ha ⟨ws, ⟨od, upd_same⟩, RVK.lk kk _ _ h4, h5⟩
      refine comp_go (Q := fun v H => UnlQ X (Q v) H) (rx := rx) (W := W) ht' gw (l1.lk kk) sL (w.src upd_same (RVK.lk kk _ _ h4)) ((h1.bind.shift eL).imp fun fl S2 q => ?_)
      refine qe_unl e1 h3 nb (fun ρ' H' e' hf' s' => ?_) q
      have ha' : ρ'[k]? = some a := by
        obtain ⟨t', rfl⟩ := e'.pre
        rw [List.getElem?_append_left (List.getElem?_eq_some_iff.mp ha).1]; exact ha
      exact s'.lkAt (lk_unlock hf') ha' ⟨ws, upd_same, RVK.mono e' _ _ h4, h5⟩
    · rename_i kvs hk
      obtain ⟨ws, ⟨o, h3⟩, h4, h5⟩ := s1.at_ k a _ ha hk
      exact .inl ⟨a, o, ws, rfl, h3, comp_go (Q := fun v H => UnlQ X (Q v) H) (rx := rx) (W := W) ht' gw l1 s1 (w.src h3 h4) (h1.imp fun fl S2 q ρ' H' v e s r => .inl (q ρ' H' v (e1.trans e) s r))⟩
    · exact False.elim h1
  | dk kvs =>
    simp only [RV] at r1
    obtain ⟨a, ws, ev, na, rd, rk⟩ := r1
    exact val kvs a ws ev na rd rk h1
  | fz kvs =>
    simp only [RV] at r1
    obtain ⟨a, ws, ev, na, rd, rk⟩ := r1
    exact val kvs a ws ev na rd rk h1
  | _ => exact False.elim h1
theorem v_setLcD (i : Nat) {y : Str} {py spos : Pos} {t : Tg} {g : TG} {c : MT} {f : List (Key × DV) → List DV} {It : Addr → Obj → List (Key × V) → L2.It} {Yl : List (Key × V) → Nat → Hp → V → Hp → Prop} {it : Expr} {ifs : List Expr} {scope : Scope} {own : List (Str × Nat)} (w : DW X.K f It Yl) (hc : X.calm = true) (hN : X.N.Nodup) (hi : PI X tg it (iDw It (tLk X (tI X.K rx W ma)))) (ok : blkC X.N X.env.scope scope own = true) (hgo : IGo X (own.map (·.2)) tg g t)
    (hg : ∀ (s : Shared) (H : Hp) (C : Addr) (cl : List (Str × Addr)) (fp : List Addr), PG (X.blk s H scope (compEnvC scope cl C X.env) fp) tg g) (ht : ∀ (s : Shared) (H : Hp) (C : Addr) (cl : List (Str × Addr)) (fp : List Addr), ITs (X.blk s H scope (compEnvC scope cl C X.env) fp) rx ifs c)
    (he : ∀ (s : Shared) (H : Hp) (C : Addr) (cl : List (Str × Addr)) (fp : List Addr), IE (X.blk s H scope (compEnvC scope cl C X.env) fp) rx W0 e me)
    (hy : X.N[i]? = some y := by rfl) (hyl : X.env.scope.names.lookup y = some .local := by rfl) (hsw : swapsWith (.ListComp e [⟨tg, it, ifs, 0⟩] scope pos) (some (.Name y py)) spos.line X.env = pure true := by exact sw_true rfl rfl rfl (by decide +kernel))
    (hs : ∀ x, foldedSetIterable it X.env x = pure x := by intro _; rfl) :
    IS X rx W (.Assign [.Name y py] (.ListComp e [⟨tg, it, ifs, 0⟩] scope pos) spos) (asg (tN i) (compD (own.map (·.2)) t f c me ma)) :=
  ps_imp (ps_unl (ps_setLc hc hN hy hyl hsw hi (blkOk_by ok) hg ht he hs)) fun D σ H ⟨ρ, l, S, hl, hs, h⟩ =>
    compD_read (Q := fun x H1 => gName i x σ H1 D.nx) w hgo (bindI hl hs h fun ρ1 H1 x S1 v e1 s1 l1 r1 h1 => h1 ρ1 H1 _ e1 s1 (l1.set i r1))
end
end Y
/-! A dict that is written at the module's top: d[k], k in d, k not in d, for texts k; int(text). -/
namespace Y
open PySem L2 RZ PyProof.Rows
abbrev KVs := List (Str × DV)
def kget (kvs : KVs) (b : ME) : ME := fun l S => (b l S).bind fun y S1 => match y with
  | .str s => (match kvs.lookup s with
    | some d => .ok d S1
    | none => .bad)
  | _ => .bad
def kin (kvs : KVs) (a : ME) : ME := fun l S => (a l S).bind fun x S1 => match x with
  | .str s => .ok (.bl (kvs.lookup s).isSome) S1
  | _ => .bad
def knin (kvs : KVs) (a : ME) : ME := fun l S => (a l S).bind fun x S1 => match x with
  | .str s => .ok (.bl (!(kvs.lookup s).isSome)) S1
  | _ => .bad
/-- such a dict -/
def MgD (K : PySem.W.Frag) (w : World) (mg : Str → Option Value) (x : Str) (kvs : KVs) : Prop := ∃ (a : Addr) (es : Array DictEntry) (n : Nat), mg x = some (.ref a) ∧ KDict K w a es n ∧
  ∀ s, match kvs.lookup s with
    | some d => ∃ (u : Value) (v : V), PySem.W.nsIn K a s = some (some u) ∧ RelV v u ∧ ∀ ρ H, RV K ρ H d v
    | none => PySem.W.nsIn K a s = some none
section
variable {X : Cx} {rx : Rx} {W : WX} {a b : Expr} {ma mb : ME} {pos p : Pos} {x : Str} {kvs : KVs}
theorem v_kget (c : MgD X.K X.w X.mg x kvs) (hp : PlainIx b) (hb : IE X rx W b mb) (hg : Gl X x := by rfl) (hd : (x == ("__debug__" : Str)) = false := by decide) : IE X rx W (.Subscript (.Name x p) b pos) (kget kvs mb) := by
  obtain ⟨ad, es, n, h1, D, h3⟩ := c
  refine pe_imp (pe_ix ix_kdict (pe_glob (v := .ref ad) hg h1 rfl hd) hb hp) fun σ H Q ⟨ρ, l, S, hl, hs, h⟩ => ?_
  show tI X.K rx W mb σ H _
  refine bindI hl hs h fun ρ1 H1 y S1 v e1 s1 l1 r1 h1' => ?_
  split at h1'
  · rename_i s
    have h4 := h3 s
    split at h1'
    · rename_i d ed
      rw [ed] at h4
      obtain ⟨u, v', e, ru, rv⟩ := h4
      exact ⟨ad, s, v', rfl, r1.str, ⟨es, n, u, D.at_, D.lit, e, ru⟩, h1' _ _ _ e1 s1 (rv _ _)⟩
    · exact False.elim h1'
  · exact False.elim h1'
theorem kin_rule {op : CmpOp} {g : Bool → Bool} (c : MgD X.K X.w X.mg x kvs) (ho : ∀ (d : Addr) (es : Array DictEntry) (n : Nat), KDict X.K X.w d es n → OpR X (compareOp op) (fun x y H Q => ∃ (z : Str) (r : Option Value), x = .str z ∧ y = .ref d ∧ PySem.W.nsIn X.K d z = some r ∧ Q (.bl (g r.isSome)) H)) {m : ME}
    (em : m = fun l S => (ma l S).bind fun x S1 => match x with
      | .str s => .ok (.bl (g (kvs.lookup s).isSome)) S1
      | _ => .bad)
    (ha : IE X rx W a ma) (hm : behindInMarks op (.Name x p) = false) (hg : Gl X x) (hd : (x == ("__debug__" : Str)) = false) : IE X rx W (.Compare a [op] [.Name x p] pos) m ∧ IT X rx W (.Compare a [op] [.Name x p] pos) (tst m) := by
  subst em
  obtain ⟨ad, es, n, h1, D, h3⟩ := c
  have nd := pe_glob (X := X) (pos := p) (v := .ref ad) hg h1 rfl hd
  have key : ∀ s : Str, ∃ r : Option Value, PySem.W.nsIn X.K ad s = some r ∧ r.isSome = (kvs.lookup s).isSome := fun s => by
    have h4 := h3 s
    split at h4
    · rename_i d ed
      obtain ⟨u, v', e, _, _⟩ := h4
      exact ⟨some u, e, by rw [ed]; rfl⟩
    · rename_i ed
      exact ⟨none, h4, by rw [ed]; rfl⟩
  constructor
  · refine pe_imp (pe_cmpR (ho ad es n D) ha nd hm) fun σ H Q ⟨ρ, l, S, hl, hs, h⟩ => ?_
    refine bindI hl hs h fun ρ1 H1 y S1 v e1 s1 l1 r1 h1' => ?_
    split at h1'
    · rename_i s
      obtain ⟨r, e, er⟩ := key s
      refine ⟨s, r, r1.str, rfl, e, ?_⟩
      rw [er]
      exact h1' _ _ _ e1 s1 (by simp [RV])
    · exact False.elim h1'
  · refine pt_imp (pt_cmpR (ho ad es n D) ha nd hm) fun σ H Q ⟨ρ, l, S, hl, hs, h⟩ => ?_
    have h := Post.bind h
    refine bindI hl hs h fun ρ1 H1 y S1 v e1 s1 l1 r1 h1' => ?_
    split at h1'
    · rename_i s
      obtain ⟨r, e, er⟩ := key s
      refine ⟨s, r, r1.str, rfl, e, ?_⟩
      rw [er]
      exact ⟨_, rfl, h1' ρ1 H1 e1 s1⟩
    · exact False.elim h1'
theorem v_tkin (c : MgD X.K X.w X.mg x kvs) (ha : IE X rx W a ma) (hm : behindInMarks .In (.Name x p) = false := by rfl) (hg : Gl X x := by rfl) (hd : (x == ("__debug__" : Str)) = false := by decide) : IT X rx W (.Compare a [.In] [.Name x p] pos) (tst (kin kvs ma)) :=
  (kin_rule (g := fun c => c) c (fun d es n D => op_in_kd D) rfl ha hm hg hd).2
theorem v_tknin (c : MgD X.K X.w X.mg x kvs) (ha : IE X rx W a ma) (hm : behindInMarks .NotIn (.Name x p) = false := by rfl) (hg : Gl X x := by rfl) (hd : (x == ("__debug__" : Str)) = false := by decide) : IT X rx W (.Compare a [.NotIn] [.Name x p] pos) (tst (knin kvs ma)) :=
  (kin_rule (g := fun c => !c) c (fun d es n D => op_notIn_kd D) rfl ha hm hg hd).2
theorem v_kin (c : MgD X.K X.w X.mg x kvs) (ha : IE X rx W a ma) (hm : behindInMarks .In (.Name x p) = false := by rfl) (hg : Gl X x := by rfl) (hd : (x == ("__debug__" : Str)) = false := by decide) : IE X rx W (.Compare a [.In] [.Name x p] pos) (kin kvs ma) :=
  (kin_rule (g := fun c => c) c (fun d es n D => op_in_kd D) rfl ha hm hg hd).1
theorem v_knin (c : MgD X.K X.w X.mg x kvs) (ha : IE X rx W a ma) (hm : behindInMarks .NotIn (.Name x p) = false := by rfl) (hg : Gl X x := by rfl) (hd : (x == ("__debug__" : Str)) = false := by decide) : IE X rx W (.Compare a [.NotIn] [.Name x p] pos) (knin kvs ma) :=
  (kin_rule (g := fun c => !c) c (fun d es n D => op_notIn_kd D) rfl ha hm hg hd).1
end
/-- int(text) -/
def intTV : DV → Option DV
  | .str a => if a.length ≤ 640 then (PySem.intText? a).map .int else none
  | _ => none
def intT : ME → ME := op1 fun _ => intTV
section
variable {X : Cx} {rx : Rx} {W : WX} {a : Expr} {ma : ME} {pos p : Pos}
theorem v_intT (hm : X.mg "int" = none) (ha : IE X rx W a ma) (hg : Gl X "int" := by rfl) (hs : starEach [a] X.env = (false, eval a X.env) :: starEach [] X.env := by rfl) (hpl : (backTo pos (starEach [] X.env)).any (·.1) = false := by rfl) :
    IE X rx W (.Call (.Name "int" p) [a] [] pos) (intT ma) :=
  bi_rule (pe_callTy call_int_str hg hm (by decide +kernel) (v_cons ha v_nil hs) (by decide) (by decide) hs hpl) fun {ρ H S x d v Q} s r h q => by
    unfold intTV at h
    split at h
    · rename_i t
      split at h
      · rename_i hl
        obtain ⟨n, hn, rfl⟩ := Option.map_eq_some_iff.mp h
        exact ⟨t, n, congrArg (fun z => [z]) r.str, hn, hl, q ρ H _ .refl s (by simp [RV])⟩
      · cases h
    · cases h
end
/-- one entry of a written dict -/
abbrev KEnt := Str × Tok × Str × Tok
def entOf (P : Params) (e : KEnt) : DictEntry := ⟨PyData.keyHash P e.1, .str e.1 e.2.1, .str e.2.2.1 e.2.2.2⟩
theorem keysLit_ents (P : Params) : ∀ L : List KEnt, PySem.W.KeysLit P (L.map (entOf P))
  | [] => trivial
  | e :: r => ⟨⟨e.1, e.2.1, rfl, rfl⟩, keysLit_ents P r⟩
theorem ents_ref (P : Params) (L : List KEnt) : (L.map (entOf P)).any (·.refKey) = false := by
  induction L with
  | nil => rfl
  | cons e r ih => simp [entOf, DictEntry.refKey, ih]
theorem find_ents (P : Params) (s : Str) : ∀ L : List KEnt, match (L.map fun e => (e.1, DV.str e.2.2.1)).lookup s with
    | some d => ∃ v t, d = .str v ∧ ∃ e, (L.map (entOf P)).find? (·.key.isStr s) = some e ∧ e.val = .str v t
    | none => (L.map (entOf P)).find? (·.key.isStr s) = none
  | [] => rfl
  | e :: r => by
    have ih := find_ents P s r
    simp only [List.map_cons, List.lookup_cons, List.find?_cons]
    by_cases h : s = e.1
    · subst h
      have h1 : (entOf P e).key.isStr e.1 = true := by simp [entOf, Value.isStr]
      rw [h1]
      simp only [beq_self_eq_true]
      exact ⟨_, _, rfl, _, rfl, rfl⟩
    · have h1 : (entOf P e).key.isStr s = false := by
        simp only [entOf, Value.isStr]
        simpa [beq_eq_false_iff_ne] using Ne.symm h
      have h2 : (s == e.1) = false := by simpa [beq_eq_false_iff_ne] using h
      rw [h1, h2]
      exact ih
theorem mgd_of {K : PySem.W.Frag} {w : World} {mg : Str → Option Value} {x : Str} {a : Addr} {es : Array DictEntry} {n : Nat} (L : List KEnt) (hm : mg x = some (.ref a)) (hl : K.lookup a = some ⟨.type "dict", none, .dict es n, #[]⟩) (he : es.toList = L.map (entOf w.params)) (lo : (a == sysModules) = false) {kvs : KVs} (hk : kvs = L.map fun e => (e.1, DV.str e.2.2.1)) : MgD K w mg x kvs := by
  subst hk
  refine ⟨a, es, n, hm, ⟨hl, by rw [he]; exact keysLit_ents _ L, lo⟩, fun s => ?_⟩
  have h := find_ents w.params s L
  have hns : PySem.W.nsIn K a s = match es.toList.find? (·.key.isStr s) with
      | some e => some (some e.val)
      | none => if es.toList.any (·.refKey) then none else some none := by
    unfold PySem.W.nsIn
    rw [hl]
    rfl
  rw [he, ents_ref] at hns
  cases ed : (L.map fun e => (e.1, DV.str e.2.2.1)).lookup s with
  | some d =>
    rw [ed] at h
    obtain ⟨v, t, rfl, e, e1, e2⟩ := h
    rw [e1] at hns
    exact ⟨.str v t, .str v, by rw [hns]; show some (some e.val) = _; rw [e2], ⟨t, rfl⟩, fun ρ H => by simp [RV]⟩
  | none =>
    rw [ed] at h
    dsimp only at h
    rw [h] at hns
    exact hns
end Y
/-! Running the combinators by simp. -/
namespace Y
open PySem
section
variable {α β : Type} (l : Lo) (S : Sto) (a b e : ME) (x y d : DV) (xs ys : List DV) (c c' : MT) (m m' : MS)
@[simp] theorem bind_ok' (v : α) (f : α → Sto → Out β) : (Out.ok v S).bind f = f v S := rfl
@[simp] theorem bind_exc (k : Nat) (f : α → Sto → Out β) : (Out.exc k d l S : Out α).bind f = .exc k d l S := rfl
@[simp] theorem bind_bad (f : α → Sto → Out β) : (Out.bad : Out α).bind f = .bad := rfl
@[simp] theorem bind_ite (p : Prop) [Decidable p] (u v : Out α) (f : α → Sto → Out β) : (if p then u else v).bind f = if p then u.bind f else v.bind f := by split <;> rfl
@[simp] theorem of_some (v : α) : Out.of (some v) S = .ok v S := rfl
@[simp] theorem of_none : (Out.of none S : Out α) = .bad := rfl
@[simp] theorem of_ite (p : Prop) [Decidable p] (u v : Option α) : Out.of (if p then u else v) S = if p then Out.of u S else Out.of v S := by split <;> rfl
theorem str_inj_iff (s t : String) : Str.ofString s = Str.ofString t ↔ s = t := by
  constructor
  · intro h
    rw [Str.ofString_eq_toList, Str.ofString_eq_toList] at h
    have h2 : s.toList.map Char.toNat = t.toList.map Char.toNat := by
      have := congrArg (fun z : Str => z.cps.toList) h
      simpa using this
    have inj : ∀ (p q : List Char), p.map Char.toNat = q.map Char.toNat → p = q := by
      intro p
      induction p with
      | nil => intro q h; cases q with
        | nil => rfl
        | cons => simp at h
      | cons c p ih => intro q h; cases q with
        | nil => simp at h
        | cons c' q =>
          simp only [List.map_cons, List.cons.injEq] at h
          rw [Char.toNat_inj.mp h.1, ih q h.2]
    exact String.ext (inj _ _ h2)
  · intro h; rw [h]
@[simp] theorem str_eq (s t : String) : (Str.ofString s = Str.ofString t) = (s = t) := propext (str_inj_iff s t)
/-! ### operations -/
@[simp] theorem seqOf_tup : seqOf S (.tup xs) = some xs := rfl
@[simp] theorem seqOf_lst : seqOf S (.lst xs) = some xs := rfl
@[simp] theorem seqOf_rol : seqOf S (.rol xs) = some xs := rfl
@[simp] theorem seqOf_str (z : Str) : seqOf S (.str z) = none := rfl
@[simp] theorem seqOf_int (i : Int) : seqOf S (.int i) = none := rfl
@[simp] theorem seqOf_ref (k : Nat) : seqOf S (.ref k) = match S[k]? with
    | some (.lst xs) => some xs
    | _ => none := rfl
@[simp] theorem lstOf_lst : lstOf S (.lst xs) = some xs := rfl
@[simp] theorem lstOf_ref (k : Nat) : lstOf S (.ref k) = match S[k]? with
    | some (.lst xs) => some xs
    | _ => none := rfl
@[simp] theorem lstOf_tup : lstOf S (.tup xs) = none := rfl
@[simp] theorem addV_int (i j : Int) : addV S (.int i) (.int j) = some (.int (i + j)) := rfl
@[simp] theorem addV_str (s t : Str) : addV S (.str s) (.str t) = if s.length + t.length ≤ LIM then some (.str (s ++ t)) else none := rfl
@[simp] theorem addV_tup : addV S (.tup xs) (.tup ys) = if xs.length + ys.length ≤ LIM then some (.tup (xs ++ ys)) else none := rfl
@[simp] theorem addV_lst : addV S (.lst xs) (.lst ys) = if xs.length + ys.length ≤ LIM then some (.lst (xs ++ ys)) else none := rfl
@[simp] theorem subV_int (i j : Int) : subV (.int i) (.int j) = some (.int (i - j)) := rfl
theorem mulV_int (i j : Int) (h : MulOk i j) : mulV (.int i) (.int j) = some (.int (i * j)) := if_pos h
theorem mulOk_r (i : Int) {j : Int} (h : -(2 ^ 64) < j ∧ j < 2 ^ 64 := by decide) : MulOk i j := .inr (.inl h)
theorem mulOk_l {i : Int} (j : Int) (h : -(2 ^ 64) < i ∧ i < 2 ^ 64 := by decide) : MulOk i j := .inl h
@[simp] theorem modV_int (i j : Int) : modV (.int i) (.int j) = if 0 < j then some (.int (i % j)) else none := rfl
theorem divV_int (i j : Int) (h : DivOk j) : divV (.int i) (.int j) = some (.int (i / j)) := if_pos h
theorem divOk_lt {j : Int} (h0 : 0 < j) (h : j < 2 ^ 62) : DivOk j := ⟨h0, Nat.lt_trans (show j.natAbs < 2 ^ 62 by omega) (Nat.pow_lt_pow_right (by decide) (by decide))⟩
theorem powV_int (i j : Int) (h : PowOk i j) : powV (.int i) (.int j) = some (.int (i ^ j.toNat)) := if_pos h
@[simp] theorem negV_int (i : Int) : negV (.int i) = some (.int (-i)) := rfl
@[simp] theorem eqV_int (i j : Int) : eqV S (.int i) (.int j) = some (decide (i = j)) := by
  unfold eqV
  rw [if_pos (show scalD _ _ = true from rfl), eqB_int]
@[simp] theorem eqV_str (i j : Str) : eqV S (.str i) (.str j) = some (decide (i = j)) := by
  unfold eqV
  rw [if_pos (show scalD _ _ = true from rfl), eqB_str]
@[simp] theorem eqV_int_str (i : Int) (j : Str) : eqV S (.int i) (.str j) = some false := by
  unfold eqV
  rw [if_pos (show scalD _ _ = true from rfl)]
  exact congrArg some (by rw [Bool.eq_false_iff]; intro h; rw [eqB_iff] at h; cases h)
@[simp] theorem eqV_str_int (i : Int) (j : Str) : eqV S (.str j) (.int i) = some false := by
  unfold eqV
  rw [if_pos (show scalD _ _ = true from rfl)]
  exact congrArg some (by rw [Bool.eq_false_iff]; intro h; rw [eqB_iff] at h; cases h)
theorem eqV_plain (hs : scalD x y = false) (hx : plain 60 (rd S x) = true) (hy : plain 60 (rd S y) = true) : eqV S x y = some (eqB (rd S x) (rd S y)) := by
  unfold eqV
  rw [if_neg (by rw [hs]; decide), if_pos ⟨hx, hy⟩]
@[simp] theorem eqB_str' (i j : Str) : eqB (.str i) (.str j) = decide (i = j) := eqB_str
@[simp] theorem eqB_int' (i j : Int) : eqB (.int i) (.int j) = decide (i = j) := eqB_int
theorem inV_seq (h : seqOf S y = some ys) (hx : flatD x = true) (hy : ys.all flatD = true) : inV S x y = some (ys.any fun z => eqB z x) := by
  unfold inV
  rw [h]
  dsimp only
  rw [if_pos ⟨hx, hy⟩]
@[simp] theorem isNon_non : isNon .non = true := rfl
@[simp] theorem isNon_tup : isNon (.tup xs) = false := rfl
@[simp] theorem isNon_int (i : Int) : isNon (.int i) = false := rfl
@[simp] theorem isNon_str (i : Str) : isNon (.str i) = false := rfl
@[simp] theorem ltV_int (i j : Int) : ltV (.int i) (.int j) = some (decide (i < j)) := rfl
@[simp] theorem leV_int (i j : Int) : leV (.int i) (.int j) = some (decide (i ≤ j)) := rfl
@[simp] theorem lenV_tup : lenV S (.tup xs) = some (.int xs.length) := rfl
@[simp] theorem lenV_lst : lenV S (.lst xs) = some (.int xs.length) := rfl
@[simp] theorem lenV_rol : lenV S (.rol xs) = some (.int xs.length) := rfl
@[simp] theorem slV_tup (lo hi : Option Int) : slV S (.tup xs) lo hi = some (.tup (cutD xs lo hi)) := rfl
@[simp] theorem slV_lst (lo hi : Option Int) : slV S (.lst xs) lo hi = some (.lst (cutD xs lo hi)) := rfl
@[simp] theorem slV_rol (lo hi : Option Int) : slV S (.rol xs) lo hi = some (.lst (cutD xs lo hi)) := rfl
@[simp] theorem tupleV_tup : tupleV S (.tup xs) = some (.tup xs) := rfl
@[simp] theorem tupleV_lst : tupleV S (.lst xs) = some (.tup xs) := rfl
@[simp] theorem listV_tup : listV S (.tup xs) = some (.lst xs) := rfl
@[simp] theorem listV_lst : listV S (.lst xs) = some (.lst xs) := rfl
theorem ixV_seq (i : Int) (h : seqOf S x = some xs) : ixV S x (.int i) = L2.atI xs i := by
  unfold ixV
  dsimp only
  rw [h]
@[simp] theorem ixV_tup (i : Int) : ixV S (.tup xs) (.int i) = L2.atI xs i := rfl
@[simp] theorem ixV_lst (i : Int) : ixV S (.lst xs) (.int i) = L2.atI xs i := rfl
@[simp] theorem ixV_rol (i : Int) : ixV S (.rol xs) (.int i) = L2.atI xs i := rfl
/-! ### combinators -/
@[simp] theorem var_run (i : Nat) : var i l S = match l[i]? with
  | some (some d) => .ok d S
  | _ => .bad := rfl
@[simp] theorem cst_run : cst d l S = .ok d S := rfl
@[simp] theorem op1_run (f : Sto → DV → Option DV) : op1 f a l S = (a l S).bind fun x S1 => Out.of (f S1 x) S1 := rfl
@[simp] theorem op2_run (f : Sto → DV → DV → Option DV) : op2 f a b l S = (a l S).bind fun x S1 => (b l S1).bind fun y S2 => Out.of (f S2 x y) S2 := rfl
@[simp] theorem add_run : add a b l S = (a l S).bind fun x S1 => (b l S1).bind fun y S2 => Out.of (addV S2 x y) S2 := rfl
@[simp] theorem sub_run : sub a b l S = (a l S).bind fun x S1 => (b l S1).bind fun y S2 => Out.of (subV x y) S2 := rfl
@[simp] theorem mul_run : mul a b l S = (a l S).bind fun x S1 => (b l S1).bind fun y S2 => Out.of (mulV x y) S2 := rfl
@[simp] theorem mod_run : mod a b l S = (a l S).bind fun x S1 => (b l S1).bind fun y S2 => Out.of (modV x y) S2 := rfl
@[simp] theorem fdiv_run : fdiv a b l S = (a l S).bind fun x S1 => (b l S1).bind fun y S2 => Out.of (divV x y) S2 := rfl
@[simp] theorem pow_run : pow a b l S = (a l S).bind fun x S1 => (b l S1).bind fun y S2 => Out.of (powV x y) S2 := rfl
@[simp] theorem neg_run : neg a l S = (a l S).bind fun x S1 => Out.of (negV x) S1 := rfl
@[simp] theorem eqE_run : eqE a b l S = (a l S).bind fun x S1 => (b l S1).bind fun y S2 => Out.of ((eqV S2 x y).map .bl) S2 := rfl
@[simp] theorem neE_run : neE a b l S = (a l S).bind fun x S1 => (b l S1).bind fun y S2 => Out.of ((eqV S2 x y).map fun b => .bl !b) S2 := rfl
@[simp] theorem inE_run : inE a b l S = (a l S).bind fun x S1 => (b l S1).bind fun y S2 => Out.of ((inV S2 x y).map .bl) S2 := rfl
@[simp] theorem ninE_run : ninE a b l S = (a l S).bind fun x S1 => (b l S1).bind fun y S2 => Out.of ((inV S2 x y).map fun b => .bl !b) S2 := rfl
@[simp] theorem ltE_run : ltE a b l S = (a l S).bind fun x S1 => (b l S1).bind fun y S2 => Out.of ((ltV x y).map .bl) S2 := rfl
@[simp] theorem leE_run : leE a b l S = (a l S).bind fun x S1 => (b l S1).bind fun y S2 => Out.of ((leV x y).map .bl) S2 := rfl
@[simp] theorem gtE_run : gtE a b l S = (a l S).bind fun x S1 => (b l S1).bind fun y S2 => Out.of ((ltV y x).map .bl) S2 := rfl
@[simp] theorem geE_run : geE a b l S = (a l S).bind fun x S1 => (b l S1).bind fun y S2 => Out.of ((leV y x).map .bl) S2 := rfl
@[simp] theorem isN_run : isN a l S = (a l S).bind fun x S1 => .ok (.bl (isNon x)) S1 := rfl
@[simp] theorem notN_run : notN a l S = (a l S).bind fun x S1 => .ok (.bl !(isNon x)) S1 := rfl
@[simp] theorem ix_run : ix a b l S = (a l S).bind fun x S1 => (b l S1).bind fun y S2 => Out.of (ixV S2 x y) S2 := rfl
@[simp] theorem part_none : part none l S = .ok none S := rfl
@[simp] theorem part_some : part (some e) l S = (e l S).bind fun x S1 => match x with
    | .int i => .ok (some i) S1
    | _ => .bad := rfl
@[simp] theorem slice_run (lo hi : Option ME) : slice a lo hi l S = (a l S).bind fun x S1 => (part lo l S1).bind fun p S2 => (part hi l S2).bind fun q S3 => Out.of (slV S3 x p q) S3 := rfl
@[simp] theorem aNil_run : aNil l S = .ok [] S := rfl
@[simp] theorem aCons_run (r : MA) : aCons e r l S = (e l S).bind fun x S1 => (r l S1).bind fun xs S2 => .ok (x :: xs) S2 := rfl
@[simp] theorem tupE_run (r : MA) : tupE r l S = (r l S).bind fun xs S1 => if xs.length ≤ LIM then .ok (.tup xs) S1 else .bad := rfl
@[simp] theorem lstE_run (r : MA) : lstE r l S = (r l S).bind fun xs S1 => if xs.length ≤ LIM then .ok (.lst xs) S1 else .bad := rfl
@[simp] theorem lstR_run (r : MA) : lstR r l S = (r l S).bind fun xs S1 => if xs.length ≤ LIM ∧ noRefs xs = true then .ok (.ref S1.length) (S1 ++ [.lst xs]) else .bad := rfl
@[simp] theorem lenE_run : lenE a l S = (a l S).bind fun x S1 => Out.of (lenV S1 x) S1 := rfl
@[simp] theorem tupleE_run : tupleE a l S = (a l S).bind fun x S1 => Out.of (tupleV S1 x) S1 := rfl
@[simp] theorem listE_run : listE a l S = (a l S).bind fun x S1 => Out.of (listV S1 x) S1 := rfl
@[simp] theorem isiE_run (t : String) : isiE t a l S = (a l S).bind fun x S1 => Out.of ((tagOf S1 x).map fun u => .bl (isTag u t)) S1 := rfl
@[simp] theorem tst_run : tst a l S = (a l S).bind fun x S1 => match x with
  | .bl b => .ok b S1
  | _ => .bad := rfl
@[simp] theorem andT_run : andT c c' l S = (c l S).bind fun k S1 => if k = true then c' l S1 else .ok false S1 := rfl
@[simp] theorem orT_run : orT c c' l S = (c l S).bind fun k S1 => if k = true then .ok true S1 else c' l S1 := rfl
@[simp] theorem notT_run : notT c l S = (c l S).bind fun k S1 => .ok (!k) S1 := rfl
theorem andE_run : andE a b l S = (a l S).bind fun x S1 => match x with
  | .bl true => b l S1
  | .bl false => .ok (.bl false) S1
  | _ => .bad := rfl
theorem orE_run : orE a b l S = (a l S).bind fun x S1 => match x with
  | .bl false => b l S1
  | .bl true => .ok (.bl true) S1
  | _ => .bad := rfl
@[simp] theorem andE_run' : andE a b l S = (a l S).bind fun x S1 => match x with
  | .bl k => if k = true then b l S1 else .ok (.bl false) S1
  | _ => .bad := by
  rw [andE_run]
  congr 1
  funext x S1
  cases x <;> first | rfl | skip
  rename_i k; cases k <;> rfl
@[simp] theorem orE_run' : orE a b l S = (a l S).bind fun x S1 => match x with
  | .bl k => if k = true then .ok (.bl true) S1 else b l S1
  | _ => .bad := by
  rw [orE_run]
  congr 1
  funext x S1
  cases x <;> first | rfl | skip
  rename_i k; cases k <;> rfl
@[simp] theorem notE_run : notE a l S = (a l S).bind fun x S1 => match x with
  | .bl c => .ok (.bl !c) S1
  | _ => .bad := rfl
@[simp] theorem call_run (f : Ora) (r : MA) : call f r l S = (r l S).bind fun xs S1 => match f xs S1 with
  | .ok (d, _) S2 => .ok d S2
  | .exc c d _ S2 => .exc c d l S2
  | .bad => .bad := rfl
@[simp] theorem callR_run (f : Ora) (r : MA) : callR f r l S = (r l S).bind fun xs S1 => match f xs S1 with
  | .ok (d, true) S2 => if noRef d = true then .ok (.ref S2.length) (S2 ++ [d]) else .bad
  | .ok (_, false) _ => .bad
  | .exc c d _ S2 => .exc c d l S2
  | .bad => .bad := rfl
@[simp] theorem skip_run : skip l S = .ok (.nx l) S := rfl
@[simp] theorem seq_run : seq m m' l S = (m l S).bind fun f S1 => match f with
  | .nx l1 => m' l1 S1
  | f => .ok f S1 := rfl
@[simp] theorem asg_run (t : Tg) : asg t e l S = (e l S).bind fun x S1 => match t x l with
  | some l1 => .ok (.nx l1) S1
  | none => .bad := rfl
@[simp] theorem tN_run (i : Nat) : tN i d l = some (l.set i (some d)) := rfl
@[simp] theorem tU_run (is : List Nat) : tU is (.tup xs) l = if xs.length = is.length then some ((is.zip xs).foldl (fun l p => l.set p.1 (some p.2)) l) else none := rfl
@[simp] theorem ret_run : ret e l S = (e l S).bind fun x S1 => .ok (.rt x) S1 := rfl
@[simp] theorem retN_run : retN l S = .ok (.rt .non) S := rfl
@[simp] theorem ifS_run : ifS c m m' l S = (c l S).bind fun k S1 => if k = true then m l S1 else m' l S1 := rfl
@[simp] theorem drop_run : drop e l S = (e l S).bind fun _ S1 => .ok (.nx l) S1 := rfl
@[simp] theorem brk_run : brk l S = .ok (.bk l) S := rfl
@[simp] theorem cont_run : cont l S = .ok (.ct l) S := rfl
@[simp] theorem sSeq_run : sSeq a l S = (a l S).bind fun x S1 => match seqOf S1 x with
  | some xs => .ok (xs, guardOf S1 x) S1
  | none => .bad := rfl
@[simp] theorem guard_tup : guardOf S (.tup xs) = [] := rfl
@[simp] theorem guard_lst : guardOf S (.lst xs) = [] := rfl
@[simp] theorem guard_rol : guardOf S (.rol xs) = [] := rfl
@[simp] theorem held_nil : held S [] = true := rfl
theorem forS_run (t : Tg) (i : MI) : forS t i m l S = (i l S).bind fun p S1 => loop t m p.2 p.1 l S1 := rfl
@[simp] theorem fn_run (n : Nat) (args : List DV) : fn n m args S = match m (args.map some ++ List.replicate (n - args.length) none) S with
  | .ok (.rt d) S1 => leave S.length d S1
  | .ok (.nx _) S1 => leave S.length .non S1
  | .exc c d _ S1 => if noRef d = true then .exc c d [] (S1.take S.length) else .bad
  | _ => .bad := rfl
end
@[simp] theorem noRef_non : noRef .non = true := by simp only [noRef]
@[simp] theorem noRef_bl (b : Bool) : noRef (.bl b) = true := by simp only [noRef]
@[simp] theorem noRef_int (i : Int) : noRef (.int i) = true := by simp only [noRef]
@[simp] theorem noRef_str (s : Str) : noRef (.str s) = true := by simp only [noRef]
@[simp] theorem noRef_tup (xs : List DV) : noRef (.tup xs) = noRefs xs := by simp only [noRef]
@[simp] theorem noRef_lst (xs : List DV) : noRef (.lst xs) = noRefs xs := by simp only [noRef]
@[simp] theorem noRef_rol (xs : List DV) : noRef (.rol xs) = noRefs xs := by simp only [noRef]
@[simp] theorem noRefs_nil : noRefs [] = true := by simp only [noRefs]
@[simp] theorem noRefs_cons (x : DV) (xs : List DV) : noRefs (x :: xs) = (noRef x && noRefs xs) := by simp only [noRefs]
@[simp] theorem noRefs_append (xs ys : List DV) : noRefs (xs ++ ys) = (noRefs xs && noRefs ys) := by
  induction xs with
  | nil => simp
  | cons x xs ih => simp [ih, Bool.and_assoc]
@[simp] theorem LIM_def : LIM = 16777216 := rfl
@[simp] theorem get_app0 (S L : Sto) : (S ++ L)[S.length]? = L[0]? := by
  rw [List.getElem?_append_right (Nat.le_refl _), Nat.sub_self]
@[simp] theorem get_appk (S L : Sto) (k : Nat) : (S ++ L)[S.length + k]? = L[k]? := by
  rw [List.getElem?_append_right (by omega)]
  simp
@[simp] theorem set_app0 (S L : Sto) (y : DV) : (S ++ L).set S.length y = S ++ L.set 0 y := by
  rw [List.set_append_right _ _ (Nat.le_refl _), Nat.sub_self]
@[simp] theorem set_appk (S L : Sto) (k : Nat) (y : DV) : (S ++ L).set (S.length + k) y = S ++ L.set k y := by
  rw [List.set_append_right _ _ (by omega)]
  simp
@[simp] theorem app_run (l : Lo) (S : Sto) (a e : ME) : app a e l S = (a l S).bind fun x S1 => if (lstOf S1 x).isSome = true then (e l S1).bind fun y S2 => (match x with
  | .ref k => match S2[k]? with
    | some (.lst xs) => if xs.length < LIM ∧ noRef y = true then .ok (.nx l) (S2.set k (.lst (xs ++ [y]))) else .bad
    | _ => .bad
  | _ => .bad) else .bad := rfl
@[simp] theorem popE_run (l : Lo) (S : Sto) (a : ME) : popE a l S = (a l S).bind fun x S1 => match x with
  | .ref k => match S1[k]? with
    | some (.lst xs) => match xs[xs.length - 1]? with
      | some y => .ok y (S1.set k (.lst xs.dropLast))
      | none => .bad
    | _ => .bad
  | _ => .bad := rfl
@[simp] theorem setL_run (l : Lo) (S : Sto) (a i e : ME) : setL a i e l S = (e l S).bind fun y S0 => (a l S0).bind fun x S1 => (i l S1).bind fun j S2 => match x, j with
  | .ref k, .int j => match S2[k]? with
    | some (.lst xs) => match L2.ixN xs.length j with
      | some m => if noRef y = true then .ok (.nx l) (S2.set k (.lst (xs.set m y))) else .bad
      | none => .bad
    | _ => .bad
  | _, _ => .bad := rfl
@[simp] theorem sEnum_run (l : Lo) (S : Sto) (a : ME) : sEnum a l S = (a l S).bind fun x S1 => match seqOf S1 x with
  | some xs => .ok (enumD xs, guardOf S1 x) S1
  | none => .bad := rfl
@[simp] theorem sZip2_run (l : Lo) (S : Sto) (a b : ME) : sZip2 a b l S = (a l S).bind fun x S1 => (b l S1).bind fun y S2 => if sameKind x y = true then (match seqOf S2 x, seqOf S2 y with
  | some xs, some ys => .ok (zipD xs ys, guardOf S2 x ++ guardOf S2 y) S2
  | _, _ => .bad) else .bad := rfl
@[simp] theorem sameKind_tup (xs ys : List DV) : sameKind (.tup xs) (.tup ys) = true := rfl
@[simp] theorem sameKind_lst (xs ys : List DV) : sameKind (.lst xs) (.lst ys) = true := rfl
open Classical in
@[simp] theorem sRange1_run (l : Lo) (S : Sto) (a : ME) : sRange1 a l S = (a l S).bind fun x S1 => match x with
  | .int n => if RngOk n then .ok (rngD 0 n.toNat, []) S1 else .bad
  | _ => .bad := rfl
open Classical in
@[simp] theorem sRange2_run (l : Lo) (S : Sto) (a b : ME) : sRange2 a b l S = (a l S).bind fun x S1 => (b l S1).bind fun y S2 => match x, y with
  | .int i, .int j => if RngOk i ∧ RngOk j then .ok (rngD i (j - i).toNat, []) S2 else .bad
  | _, _ => .bad := rfl
open Classical in
@[simp] theorem sRev1_run (l : Lo) (S : Sto) (a : ME) : sRev1 a l S = (a l S).bind fun x S1 => match x with
  | .int n => if RngOk n then .ok ((rngD 0 n.toNat).reverse, []) S1 else .bad
  | _ => .bad := rfl
theorem rngOk {n : Int} (h : 0 ≤ n ∧ n ≤ 1000000000) : RngOk n := ⟨by omega, by omega⟩
theorem rngD_at (n : Nat) : rngD 0 n = (List.range' 0 n).map fun i => DV.int (i : Nat) := by
  unfold rngD
  rw [List.range_eq_range']
  simp
/-- numbered from k on -/
def enumAt (k : Nat) (xs : List DV) : List DV := (List.range' k xs.length).zipWith (fun (i : Nat) x => .tup [.int (i : Int), x]) xs
theorem enumD_at (xs : List DV) : enumD xs = enumAt 0 xs := by
  unfold enumD enumAt
  rw [List.range_eq_range']
@[simp] theorem enumAt_nil (k : Nat) : enumAt k [] = [] := rfl
@[simp] theorem enumAt_cons (k : Nat) (x : DV) (xs : List DV) : enumAt k (x :: xs) = .tup [.int (k : Int), x] :: enumAt (k + 1) xs := by
  unfold enumAt
  rw [List.length_cons, List.range'_succ]
  rfl
@[simp] theorem zipD_nil (ys : List DV) : zipD [] ys = [] := rfl
@[simp] theorem zipD_nil' (xs : List DV) : zipD xs [] = [] := by simp [zipD]
@[simp] theorem zipD_cons (x y : DV) (xs ys : List DV) : zipD (x :: xs) (y :: ys) = .tup [x, y] :: zipD xs ys := rfl
/-! ### loops -/
theorem loop_nil (t : Tg) (m : MS) (l : Lo) (S : Sto) : loop t m [] [] l S = .ok (.nx l) S := by
  unfold loop
  rfl
theorem loop_cons (t : Tg) (m : MS) (x : DV) (xs : List DV) (l : Lo) (S : Sto) : loop t m [] (x :: xs) l S = match t x l with
    | some l1 => (m l1 S).bind fun f S1 => match f with
      | .nx l2 => loop t m [] xs l2 S1
      | .ct l2 => loop t m [] xs l2 S1
      | .bk l2 => .ok (.nx l2) S1
      | .rt d => .ok (.rt d) S1
    | none => .bad := by
  rw [loop]
  rfl
/-- a loop whose turns are told -/
theorem loop_turns (t : Tg) (m : MS) (st : Nat → Lo) (So : Nat → Sto) : ∀ (xs : List DV) (k : Nat), (∀ i (d : DV), xs[i]? = some d → ∃ l1, t d (st (k + i)) = some l1 ∧ (m l1 (So (k + i)) = .ok (.nx (st (k + i + 1))) (So (k + i + 1)) ∨ m l1 (So (k + i)) = .ok (.ct (st (k + i + 1))) (So (k + i + 1)))) →
    loop t m [] xs (st k) (So k) = .ok (.nx (st (k + xs.length))) (So (k + xs.length))
  | [], k, _ => by rw [loop_nil]; rfl
  | x :: xs, k, h => by
    obtain ⟨l1, h1, h2⟩ := h 0 x rfl
    rw [loop_cons, Nat.add_zero] at *
    rw [h1]
    have ih := loop_turns t m st So xs (k + 1) fun i d e => by
      have := h (i + 1) d (by simpa using e)
      have e1 : k + (i + 1) = k + 1 + i := by omega
      rw [e1] at this
      exact this
    have e2 : k + 1 + xs.length = k + (x :: xs).length := by simp; omega
    rw [e2] at ih
    dsimp only
    rcases h2 with h2 | h2
    · rw [h2]; exact ih
    · rw [h2]; exact ih
/-! ### comprehensions -/
theorem compL_run (t : Tg) (c : MT) (e : ME) (l0 : Lo) (n : Nat) (p : DV → Bool) (f : DV → DV) : ∀ (xs : List DV) (S : Sto) (acc : List DV), (∀ x ∈ xs, ∃ l1, t x l0 = some l1 ∧ (∀ S', c l1 S' = .ok (p x) S') ∧ (p x = true → noRef (f x) = true ∧ ∀ S', e l1 S' = .ok (f x) S')) →
    S[n]? = some (.lst acc) → acc.length + xs.length ≤ 1000000 → compL t c e [] l0 n xs S = .ok () (S.set n (.lst (acc ++ (xs.filter p).map f)))
  | [], S, acc, _, hS, _ => by
    unfold compL
    rw [if_pos (show held S [] = true from rfl)]
    have : S.set n (.lst acc) = S := by
      refine List.ext_getElem? fun j => ?_
      by_cases hj : j = n
      · subst hj
        rw [List.getElem?_set_self (List.getElem?_eq_some_iff.mp hS).1, hS]
      · rw [List.getElem?_set_ne (Ne.symm hj)]
    simp [this]
  | x :: xs, S, acc, h, hS, hl => by
    obtain ⟨l1, h1, h2, h3⟩ := h x List.mem_cons_self
    simp only [List.length_cons] at hl
    unfold compL
    rw [if_pos (show held S [] = true from rfl), h1]
    simp only [h2, bind_ok']
    cases hp : p x with
    | false =>
      rw [if_neg (by decide)]
      rw [compL_run t c e l0 n p f xs S acc (fun y m => h y (List.mem_cons_of_mem _ m)) hS (by omega)]
      simp [hp]
    | true =>
      obtain ⟨h4, h5⟩ := h3 hp
      rw [if_pos rfl]
      simp only [h5, bind_ok', hS]
      rw [if_pos ⟨by simp only [LIM_def]; omega, h4⟩]
      have hn := (List.getElem?_eq_some_iff.mp hS).1
      rw [compL_run t c e l0 n p f xs _ (acc ++ [f x]) (fun y m => h y (List.mem_cons_of_mem _ m)) (List.getElem?_set_self hn) (by simp; omega)]
      simp [hp]
theorem comp_run (own : List Nat) (t : Tg) (i : MI) (c : MT) (e : ME) (l : Lo) (S S1 : Sto) (xs : List DV) (p : DV → Bool) (f : DV → DV) (hi : i l S = .ok (xs, []) S1) (hl : xs.length ≤ 1000000)
    (h : ∀ x ∈ xs, ∃ l1, t x (wipeL l own) = some l1 ∧ (∀ S', c l1 S' = .ok (p x) S') ∧ (p x = true → noRef (f x) = true ∧ ∀ S', e l1 S' = .ok (f x) S')) :
    comp own t i c e l S = .ok (.lst ((xs.filter p).map f)) S1 := by
  unfold comp
  rw [hi]
  simp only [bind_ok']
  have hc := compL_run t c e (wipeL l own) S1.length p f xs (S1 ++ [DV.lst []]) [] h (by simp) (by simpa using hl)
  rw [hc]
  simp
theorem compR_run (own : List Nat) (t : Tg) (i : MI) (c : MT) (e : ME) (l : Lo) (S S1 : Sto) (xs : List DV) (p : DV → Bool) (f : DV → DV) (hi : i l S = .ok (xs, []) S1) (hl : xs.length ≤ 1000000)
    (h : ∀ x ∈ xs, ∃ l1, t x (wipeL l own) = some l1 ∧ (∀ S', c l1 S' = .ok (p x) S') ∧ (p x = true → noRef (f x) = true ∧ ∀ S', e l1 S' = .ok (f x) S')) :
    compR own t i c e l S = .ok (.ref S1.length) (S1 ++ [.lst ((xs.filter p).map f)]) := by
  unfold compR
  rw [hi]
  simp only [bind_ok']
  have hc := compL_run t c e (wipeL l own) S1.length p f xs (S1 ++ [DV.lst []]) [] h (by simp) (by simpa using hl)
  rw [hc]
  simp
/-- each element by itself, of some kind -/
theorem comp_each (own : List Nat) (t : Tg) (i : MI) (e : ME) (l : Lo) (S S1 : Sto) (xs : List DV) (G : DV → DV → Prop) (hi : i l S = .ok (xs, []) S1) (hl : xs.length ≤ 1000000)
    (h : ∀ x ∈ xs, ∃ l1 d, t x (wipeL l own) = some l1 ∧ G x d ∧ noRef d = true ∧ ∀ S', e l1 S' = .ok d S') :
    ∃ f : DV → DV, (∀ x ∈ xs, G x (f x) ∧ noRef (f x) = true) ∧ comp own t i tYes e l S = .ok (.lst (xs.map f)) S1 := by
  classical
  have hc : ∀ x, ∃ d, x ∈ xs → ∃ l1, t x (wipeL l own) = some l1 ∧ G x d ∧ noRef d = true ∧ ∀ S', e l1 S' = .ok d S' := fun x => by
    by_cases m : x ∈ xs
    · obtain ⟨l1, d, q⟩ := h x m
      exact ⟨d, fun _ => ⟨l1, q⟩⟩
    · exact ⟨.non, fun q => absurd q m⟩
  refine ⟨fun x => Classical.choose (hc x), fun x m => ?_, ?_⟩
  · obtain ⟨l1, _, q1, q2, _⟩ := Classical.choose_spec (hc x) m
    exact ⟨q1, q2⟩
  · rw [comp_run own t i tYes e l S S1 xs (fun _ => true) (fun x => Classical.choose (hc x)) hi hl fun x m => ?_]
    · rw [List.filter_eq_self.mpr fun _ _ => rfl]
    · obtain ⟨l1, q0, _, q2, q3⟩ := Classical.choose_spec (hc x) m
      exact ⟨l1, q0, fun _ => rfl, fun _ => ⟨q2, q3⟩⟩
theorem atI_lt {α : Type} (xs : List α) (i : Int) (h0 : 0 ≤ i) (h : i < xs.length) : ∃ x, xs[i.toNat]? = some x ∧ L2.atI xs i = some x := by
  have hl : i.toNat < xs.length := by omega
  refine ⟨xs[i.toNat], List.getElem?_eq_getElem hl, ?_⟩
  have := L2.atI_nat (xs := xs) (j := i.toNat) (List.getElem?_eq_getElem hl)
  rwa [show ((i.toNat : Nat) : Int) = i by omega] at this
theorem atI_str (ws : List Str) (i : Int) (h0 : 0 ≤ i) (h : i < ws.length) : ∃ w ∈ ws, L2.atI (ws.map DV.str) i = some (.str w) := by
  obtain ⟨x, h1, h2⟩ := atI_lt (ws.map DV.str) i h0 (by simpa using h)
  rw [List.getElem?_map] at h1
  cases e : ws[i.toNat]? with
  | none => rw [e] at h1; simp at h1
  | some w =>
    rw [e] at h1
    simp at h1
    exact ⟨w, List.mem_of_getElem? e, by rw [h2, ← h1]⟩
@[simp] theorem str_len_append (a b : Str) : (a ++ b).length = a.length + b.length := by
  show (a.cps ++ b.cps).size = _
  rw [Array.size_append]
  rfl
/-! ### slices -/
theorem cutD_map {α β : Type} (f : α → β) (xs : List α) (lo hi : Option Int) : cutD (xs.map f) lo hi = (cutD xs lo hi).map f := by
  unfold cutD
  rw [List.length_map, List.map_take, List.map_drop]
theorem sIx_nat' (n d k : Nat) : HT.sIx n d (some (k : Int)) = min k n := HT.sIx_nat n d k
theorem cut_from {α : Type} (xs : List α) (k : Nat) : cutD xs (some (k : Int)) none = xs.drop k := by
  unfold cutD
  rw [sIx_nat', HT.sIx_none]
  by_cases h : k ≤ xs.length
  · rw [Nat.min_eq_left h, List.take_of_length_le (by rw [List.length_drop]; exact Nat.le_refl _)]
  · rw [Nat.min_eq_right (by omega), List.drop_length, List.drop_eq_nil_of_le (by omega)]
    simp
theorem cut_to {α : Type} (xs : List α) (k : Nat) : cutD xs none (some (k : Int)) = xs.take k := by
  unfold cutD
  rw [sIx_nat', HT.sIx_none, List.drop_zero, Nat.sub_zero]
  by_cases h : k ≤ xs.length
  · rw [Nat.min_eq_left h]
  · rw [Nat.min_eq_right (by omega), List.take_length, List.take_of_length_le (by omega)]
theorem cut_mid {α : Type} (xs : List α) (a b : Nat) : cutD xs (some (a : Int)) (some (b : Int)) = (xs.drop a).take (b - a) := by
  unfold cutD
  rw [sIx_nat', sIx_nat']
  by_cases h : a ≤ xs.length
  · rw [Nat.min_eq_left h]
    by_cases hb : b ≤ xs.length
    · rw [Nat.min_eq_left hb]
    · rw [Nat.min_eq_right (by omega), List.take_of_length_le (by rw [List.length_drop]; exact Nat.le_refl _), List.take_of_length_le (by rw [List.length_drop]; omega)]
  · rw [show min a xs.length = xs.length from Nat.min_eq_right (by omega), List.drop_length, List.drop_eq_nil_of_le (by omega)]
    simp
theorem cut_from1 {α : Type} (xs : List α) : cutD xs (some 1) none = xs.drop 1 := cut_from xs 1
theorem cut_from2 {α : Type} (xs : List α) : cutD xs (some 2) none = xs.drop 2 := cut_from xs 2
theorem cut_to1 {α : Type} (xs : List α) : cutD xs none (some 1) = xs.take 1 := cut_to xs 1
theorem cut_to2 {α : Type} (xs : List α) : cutD xs none (some 2) = xs.take 2 := cut_to xs 2
theorem int_nat {i : Int} (h : 0 ≤ i) : ∃ k : Nat, i = (k : Int) := ⟨i.toNat, by omega⟩
end Y
/-! More for simp: objects of the store. -/
namespace Y
open PySem
@[simp] theorem lenV_ref (S : Sto) (k : Nat) : lenV S (.ref k) = match S[k]? with
    | some (.lst xs) => some (.int xs.length)
    | _ => none := by
  unfold lenV
  rw [seqOf_ref]
  cases S[k]? with
  | none => rfl
  | some x => cases x <;> rfl
@[simp] theorem tupleV_ref (S : Sto) (k : Nat) : tupleV S (.ref k) = match S[k]? with
    | some (.lst xs) => some (.tup xs)
    | _ => none := by
  unfold tupleV
  rw [seqOf_ref]
  cases S[k]? with
  | none => rfl
  | some x => cases x <;> rfl
@[simp] theorem listV_ref (S : Sto) (k : Nat) : listV S (.ref k) = match S[k]? with
    | some (.lst xs) => some (.lst xs)
    | _ => none := by
  unfold listV
  rw [seqOf_ref]
  cases S[k]? with
  | none => rfl
  | some x => cases x <;> rfl
@[simp] theorem ixV_ref (S : Sto) (k : Nat) (i : Int) : ixV S (.ref k) (.int i) = match S[k]? with
    | some (.lst xs) => L2.atI xs i
    | _ => none := by
  unfold ixV
  simp only [seqOf_ref]
  cases S[k]? with
  | none => rfl
  | some x => cases x <;> rfl
@[simp] theorem slV_ref (S : Sto) (k : Nat) (lo hi : Option Int) : slV S (.ref k) lo hi = match S[k]? with
    | some (.lst xs) => some (.lst (cutD xs lo hi))
    | _ => none := by
  unfold slV
  simp only [seqOf_ref]
  cases S[k]? with
  | none => rfl
  | some x => cases x <;> rfl
@[simp] theorem tagOf_non (S : Sto) : tagOf S .non = some "NoneType" := by simp only [tagOf]
@[simp] theorem tagOf_bl (S : Sto) (b : Bool) : tagOf S (.bl b) = some "bool" := by simp only [tagOf]
@[simp] theorem tagOf_int (S : Sto) (i : Int) : tagOf S (.int i) = some "int" := by simp only [tagOf]
@[simp] theorem tagOf_str (S : Sto) (s : Str) : tagOf S (.str s) = some "str" := by simp only [tagOf]
@[simp] theorem tagOf_tup (S : Sto) (xs : List DV) : tagOf S (.tup xs) = some "tuple" := by simp only [tagOf]
@[simp] theorem tagOf_lst (S : Sto) (xs : List DV) : tagOf S (.lst xs) = some "list" := by simp only [tagOf]
@[simp] theorem tagOf_ref (S : Sto) (k : Nat) : tagOf S (.ref k) = match S[k]? with
    | some (.lst _) => some "list"
    | some (.dk _) => some "dict"
    | some (.fz _) => some "dict"
    | _ => none := by
  unfold tagOf
  dsimp only
  all_goals first
    | rfl
    | (generalize S[k]? = o; rcases o with _ | x <;> first | rfl | (cases x <;> rfl))
end Y
/-! The text of law_k06_texts_read_again as combinators. -/
namespace Y
open PySem

inductive Fid where
  | p_parts | p_bounded | p_place_past | p_run_of | p_word_at | p_leaf_at | p_atom_at | p_gap_at | p_let_at | p_choice_at | p_inner_at | p_tree_at | p_whole | p_read | p_shown_leaf | p_shown | l_cell_at | l_word | l_leaf | l_tree | l_great | l_nested | l_leaf_written | l_written | l_same | law

def c_FIGURES : DV := .str "0123456789"
def c_LEAVES : DV := .tup [.str "num", .str "name", .str "ask", .str "stop", .str "gap"]
def c_LETTERS : DV := .str "abcdefghijklmnopqrstuvwxyz"
def c_WORDS : DV := .tup [.str "let", .str "in", .str "if", .str "then", .str "else", .str "say", .str "ask", .str "stop", .str "where", .str "quiet", .str "number"]
def kd_BETWEEN : KVs := [("add", .str " + "), ("sub", .str " - "), ("mul", .str " * "), ("then", .str " ; ")]
def kd_SIGNS : KVs := [(" + ", .str "add"), (" - ", .str "sub"), (" * ", .str "mul"), (" ; ", .str "then")]
/- parts(tree): slots 0 tree -/
noncomputable def b_p_parts (C : Fid → Ora) : MS :=
  seq (ifS (tst (inE (ix (var 0) (cst (.int 0))) (cst c_LEAVES))) (ret (tupE (aNil))) (skip)) <|
  seq (ifS (tst (eqE (ix (var 0) (cst (.int 0))) (cst (.str "let")))) (ret (slice (var 0) (some (cst (.int 2))) none)) (skip)) <|
  ret (slice (var 0) (some (cst (.int 1))) none)
/- bounded(text): slots 0 text, 1 deep, 2 sign -/
noncomputable def b_p_bounded (C : Fid → Ora) : MS :=
  seq (ifS (tst (gtE (lenE (var 0)) (cst (.int 2000)))) (crash) (skip)) <|
  seq (asg (tN 1) (cst (.int 0))) <|
  forS (tN 2) (sStr (var 0)) (ifS (tst (eqE (var 2) (cst (.str "(")))) (seq (asg (tN 1) (add (var 1) (cst (.int 1)))) <|
  ifS (tst (gtE (var 1) (cst (.int 16)))) (crash) (skip)) (ifS (tst (eqE (var 2) (cst (.str ")")))) (asg (tN 1) (max2 (cst (.int 0)) (sub (var 1) (cst (.int 1))))) (skip)))
/- place_past(text, at, words): slots 0 text, 1 at, 2 words -/
noncomputable def b_p_place_past (C : Fid → Ora) : MS :=
  seq (ifS (tst (neE (slice (var 0) (some (var 1)) (some (add (var 1) (lenE (var 2))))) (var 2))) (crash) (skip)) <|
  ret (add (var 1) (lenE (var 2)))
/- run_of(text, at, signs): slots 0 text, 1 at, 2 signs -/
noncomputable def b_p_run_of (C : Fid → Ora) : MS :=
  seq (whileS (andT (tst (ltE (var 1) (lenE (var 0)))) (tst (inE (ix (var 0) (var 1)) (var 2)))) (asg (tN 1) (add (var 1) (cst (.int 1))))) <|
  ret (var 1)
/- word_at(text, at): slots 0 text, 1 at, 2 end -/
noncomputable def b_p_word_at (C : Fid → Ora) : MS :=
  seq (asg (tN 2) (call (C .p_run_of) (aCons (var 0) (aCons (var 1) (aCons (cst c_LETTERS) (aNil)))))) <|
  seq (ifS (orT (tst (eqE (var 2) (var 1))) (orT (tst (gtE (var 2) (add (var 1) (cst (.int 8))))) (tst (inE (slice (var 0) (some (var 1)) (some (var 2))) (cst c_WORDS))))) (crash) (skip)) <|
  ret (tupE (aCons (slice (var 0) (some (var 1)) (some (var 2))) (aCons (var 2) (aNil))))
/- leaf_at(text, at): slots 0 text, 1 at, 2 end, 3 word -/
noncomputable def b_p_leaf_at (C : Fid → Ora) : MS :=
  seq (asg (tN 2) (call (C .p_run_of) (aCons (var 0) (aCons (var 1) (aCons (cst c_FIGURES) (aNil)))))) <|
  seq (ifS (tst (eqE (var 2) (var 1))) (seq (asg (tU [3, 2]) (call (C .p_word_at) (aCons (var 0) (aCons (var 1) (aNil))))) <|
  ret (tupE (aCons (tupE (aCons (cst (.str "name")) (aCons (var 3) (aNil)))) (aCons (var 2) (aNil))))) (skip)) <|
  seq (ifS (orT (tst (gtE (var 2) (add (var 1) (cst (.int 30))))) (andT (tst (eqE (ix (var 0) (var 1)) (cst (.str "0")))) (tst (gtE (var 2) (add (var 1) (cst (.int 1))))))) (crash) (skip)) <|
  ret (tupE (aCons (tupE (aCons (cst (.str "num")) (aCons (intT (slice (var 0) (some (var 1)) (some (var 2)))) (aNil)))) (aCons (var 2) (aNil))))
/- atom_at(text, at): slots 0 text, 1 at, 2 word, 3 end -/
noncomputable def b_p_atom_at (C : Fid → Ora) : MS :=
  seq (ifS (tst (neE (slice (var 0) (some (var 1)) (some (add (var 1) (cst (.int 1))))) (cst (.str "?")))) (ret (call (C .p_leaf_at) (aCons (var 0) (aCons (var 1) (aNil))))) (skip)) <|
  seq (asg (tU [2, 3]) (call (C .p_word_at) (aCons (var 0) (aCons (add (var 1) (cst (.int 1))) (aNil))))) <|
  ret (tupE (aCons (tupE (aCons (cst (.str "gap")) (aCons (var 2) (aCons (tupE (aNil)) (aNil))))) (aCons (var 3) (aNil))))
/- gap_at(text, at): slots 0 text, 1 at, 2 word, 3 atom, 4 atoms -/
noncomputable def b_p_gap_at (C : Fid → Ora) : MS :=
  seq (asg (tU [2, 1]) (call (C .p_word_at) (aCons (var 0) (aCons (add (var 1) (cst (.int 1))) (aNil))))) <|
  seq (ifS (tst (neE (slice (var 0) (some (var 1)) (some (add (var 1) (cst (.int 1))))) (cst (.str "[")))) (ret (tupE (aCons (tupE (aCons (cst (.str "gap")) (aCons (var 2) (aCons (tupE (aNil)) (aNil))))) (aCons (var 1) (aNil))))) (skip)) <|
  seq (asg (tU [3, 1]) (call (C .p_atom_at) (aCons (var 0) (aCons (add (var 1) (cst (.int 1))) (aNil))))) <|
  seq (asg (tN 4) (lstR (aCons (var 3) (aNil)))) <|
  seq (whileS (tst (eqE (slice (var 0) (some (var 1)) (some (add (var 1) (cst (.int 1))))) (cst (.str " ")))) (seq (asg (tU [3, 1]) (call (C .p_atom_at) (aCons (var 0) (aCons (add (var 1) (cst (.int 1))) (aNil))))) <|
  app (var 4) (var 3))) <|
  ret (tupE (aCons (tupE (aCons (cst (.str "gap")) (aCons (var 2) (aCons (tupleE (var 4)) (aNil))))) (aCons (call (C .p_place_past) (aCons (var 0) (aCons (var 1) (aCons (cst (.str "]")) (aNil))))) (aNil))))
/- let_at(text, at): slots 0 text, 1 at, 2 word, 3 one, 4 other -/
noncomputable def b_p_let_at (C : Fid → Ora) : MS :=
  seq (asg (tU [2, 1]) (call (C .p_word_at) (aCons (var 0) (aCons (var 1) (aNil))))) <|
  seq (asg (tU [3, 1]) (call (C .p_tree_at) (aCons (var 0) (aCons (call (C .p_place_past) (aCons (var 0) (aCons (var 1) (aCons (cst (.str " = ")) (aNil))))) (aNil))))) <|
  seq (asg (tU [4, 1]) (call (C .p_tree_at) (aCons (var 0) (aCons (call (C .p_place_past) (aCons (var 0) (aCons (var 1) (aCons (cst (.str " in ")) (aNil))))) (aNil))))) <|
  ret (tupE (aCons (tupE (aCons (cst (.str "let")) (aCons (var 2) (aCons (var 3) (aCons (var 4) (aNil)))))) (aCons (var 1) (aNil))))
/- choice_at(text, at): slots 0 text, 1 at, 2 one, 3 two, 4 three -/
noncomputable def b_p_choice_at (C : Fid → Ora) : MS :=
  seq (asg (tU [2, 1]) (call (C .p_tree_at) (aCons (var 0) (aCons (var 1) (aNil))))) <|
  seq (asg (tU [3, 1]) (call (C .p_tree_at) (aCons (var 0) (aCons (call (C .p_place_past) (aCons (var 0) (aCons (var 1) (aCons (cst (.str " then ")) (aNil))))) (aNil))))) <|
  seq (asg (tU [4, 1]) (call (C .p_tree_at) (aCons (var 0) (aCons (call (C .p_place_past) (aCons (var 0) (aCons (var 1) (aCons (cst (.str " else ")) (aNil))))) (aNil))))) <|
  ret (tupE (aCons (tupE (aCons (cst (.str "if")) (aCons (var 2) (aCons (var 3) (aCons (var 4) (aNil)))))) (aCons (var 1) (aNil))))
/- inner_at(text, at): slots 0 text, 1 at, 2 word, 3 one, 4 sign, 5 other -/
noncomputable def b_p_inner_at (C : Fid → Ora) : MS :=
  seq (ifS (tst (eqE (slice (var 0) (some (var 1)) (some (add (var 1) (cst (.int 4))))) (cst (.str "ask ")))) (seq (asg (tU [2, 1]) (call (C .p_word_at) (aCons (var 0) (aCons (add (var 1) (cst (.int 4))) (aNil))))) <|
  ret (tupE (aCons (tupE (aCons (cst (.str "ask")) (aCons (var 2) (aNil)))) (aCons (var 1) (aNil))))) (skip)) <|
  seq (ifS (tst (eqE (slice (var 0) (some (var 1)) (some (add (var 1) (cst (.int 5))))) (cst (.str "stop ")))) (seq (asg (tU [2, 1]) (call (C .p_word_at) (aCons (var 0) (aCons (add (var 1) (cst (.int 5))) (aNil))))) <|
  ret (tupE (aCons (tupE (aCons (cst (.str "stop")) (aCons (var 2) (aNil)))) (aCons (var 1) (aNil))))) (skip)) <|
  seq (ifS (tst (eqE (slice (var 0) (some (var 1)) (some (add (var 1) (cst (.int 4))))) (cst (.str "say ")))) (seq (asg (tU [3, 1]) (call (C .p_tree_at) (aCons (var 0) (aCons (add (var 1) (cst (.int 4))) (aNil))))) <|
  ret (tupE (aCons (tupE (aCons (cst (.str "say")) (aCons (var 3) (aNil)))) (aCons (var 1) (aNil))))) (skip)) <|
  seq (ifS (tst (eqE (slice (var 0) (some (var 1)) (some (add (var 1) (cst (.int 4))))) (cst (.str "let ")))) (ret (call (C .p_let_at) (aCons (var 0) (aCons (add (var 1) (cst (.int 4))) (aNil))))) (skip)) <|
  seq (ifS (tst (eqE (slice (var 0) (some (var 1)) (some (add (var 1) (cst (.int 3))))) (cst (.str "if ")))) (ret (call (C .p_choice_at) (aCons (var 0) (aCons (add (var 1) (cst (.int 3))) (aNil))))) (skip)) <|
  seq (asg (tU [3, 1]) (call (C .p_tree_at) (aCons (var 0) (aCons (var 1) (aNil))))) <|
  seq (asg (tN 4) (slice (var 0) (some (var 1)) (some (add (var 1) (cst (.int 3)))))) <|
  seq (ifS (tst (knin kd_SIGNS (var 4))) (crash) (skip)) <|
  seq (asg (tU [5, 1]) (call (C .p_tree_at) (aCons (var 0) (aCons (add (var 1) (cst (.int 3))) (aNil))))) <|
  ret (tupE (aCons (tupE (aCons (kget kd_SIGNS (var 4)) (aCons (var 3) (aCons (var 5) (aNil))))) (aCons (var 1) (aNil))))
/- tree_at(text, at): slots 0 text, 1 at, 2 sign, 3 tree -/
noncomputable def b_p_tree_at (C : Fid → Ora) : MS :=
  seq (asg (tN 2) (slice (var 0) (some (var 1)) (some (add (var 1) (cst (.int 1)))))) <|
  seq (ifS (tst (eqE (var 2) (cst (.str "?")))) (ret (call (C .p_gap_at) (aCons (var 0) (aCons (var 1) (aNil))))) (skip)) <|
  seq (ifS (tst (neE (var 2) (cst (.str "(")))) (ret (call (C .p_leaf_at) (aCons (var 0) (aCons (var 1) (aNil))))) (skip)) <|
  seq (asg (tU [3, 1]) (call (C .p_inner_at) (aCons (var 0) (aCons (add (var 1) (cst (.int 1))) (aNil))))) <|
  ret (tupE (aCons (var 3) (aCons (call (C .p_place_past) (aCons (var 0) (aCons (var 1) (aCons (cst (.str ")")) (aNil))))) (aNil))))
/- whole(text): slots 0 text, 1 tree, 2 at -/
noncomputable def b_p_whole (C : Fid → Ora) : MS :=
  seq (asg (tU [1, 2]) (call (C .p_tree_at) (aCons (var 0) (aCons (cst (.int 0)) (aNil))))) <|
  seq (ifS (tst (neE (var 2) (lenE (var 0)))) (crash) (skip)) <|
  ret (var 1)
/- read(text): slots 0 text -/
noncomputable def b_p_read (C : Fid → Ora) : MS :=
  seq (drop (call (C .p_bounded) (aCons (var 0) (aNil)))) <|
  ret (call (C .p_whole) (aCons (var 0) (aNil)))
/- shown_leaf(tree): slots 0 tree, 1 atom -/
noncomputable def b_p_shown_leaf (C : Fid → Ora) : MS :=
  seq (ifS (tst (eqE (ix (var 0) (cst (.int 0))) (cst (.str "num")))) (ret (strI (ix (var 0) (cst (.int 1))))) (skip)) <|
  seq (ifS (tst (eqE (ix (var 0) (cst (.int 0))) (cst (.str "name")))) (ret (ix (var 0) (cst (.int 1)))) (skip)) <|
  seq (ifS (tst (eqE (ix (var 0) (cst (.int 0))) (cst (.str "gap")))) (seq (ifS (tst (eqE (lenE (ix (var 0) (cst (.int 2)))) (cst (.int 0)))) (ret (add (cst (.str "?")) (ix (var 0) (cst (.int 1))))) (skip)) <|
  ret (add (add (add (add (cst (.str "?")) (ix (var 0) (cst (.int 1)))) (cst (.str "["))) (joinE (cst (.str " ")) (comp [1] (tN 1) (sSeq (ix (var 0) (cst (.int 2)))) (tYes) (call (C .p_shown_leaf) (aCons (var 1) (aNil)))))) (cst (.str "]")))) (skip)) <|
  ret (add (add (add (add (cst (.str "(")) (ix (var 0) (cst (.int 0)))) (cst (.str " "))) (ix (var 0) (cst (.int 1)))) (cst (.str ")")))
/- shown(tree): slots 0 tree, 1 some, 2 part -/
noncomputable def b_p_shown (C : Fid → Ora) : MS :=
  seq (asg (tN 1) (lstR (aNil))) <|
  seq (forS (tN 2) (sSeq (call (C .p_parts) (aCons (var 0) (aNil)))) (app (var 1) (call (C .p_shown) (aCons (var 2) (aNil))))) <|
  seq (ifS (tst (eqE (lenE (var 1)) (cst (.int 0)))) (ret (call (C .p_shown_leaf) (aCons (var 0) (aNil)))) (skip)) <|
  seq (ifS (tst (eqE (ix (var 0) (cst (.int 0))) (cst (.str "say")))) (ret (add (add (cst (.str "(say ")) (ix (var 1) (cst (.int 0)))) (cst (.str ")")))) (skip)) <|
  seq (ifS (tst (eqE (ix (var 0) (cst (.int 0))) (cst (.str "let")))) (ret (add (add (add (add (add (add (cst (.str "(let ")) (ix (var 0) (cst (.int 1)))) (cst (.str " = "))) (ix (var 1) (cst (.int 0)))) (cst (.str " in "))) (ix (var 1) (cst (.int 1)))) (cst (.str ")")))) (skip)) <|
  seq (ifS (tst (eqE (ix (var 0) (cst (.int 0))) (cst (.str "if")))) (ret (add (add (add (add (add (add (cst (.str "(if ")) (ix (var 1) (cst (.int 0)))) (cst (.str " then "))) (ix (var 1) (cst (.int 1)))) (cst (.str " else "))) (ix (var 1) (cst (.int 2)))) (cst (.str ")")))) (skip)) <|
  ret (add (add (add (add (cst (.str "(")) (ix (var 1) (cst (.int 0)))) (kget kd_BETWEEN (ix (var 0) (cst (.int 0))))) (ix (var 1) (cst (.int 1)))) (cst (.str ")")))
/- _law_cell_at(_law_script, _law_k): slots 0 _law_script, 1 _law_k -/
noncomputable def b_l_cell_at (C : Fid → Ora) : MS :=
  seq (ifS (tst (ltE (var 1) (lenE (var 0)))) (ret (ix (var 0) (var 1))) (skip)) <|
  ret (cst (.int 0))
/- _law_word(_law_cell): slots 0 _law_cell, 1 _law_letters, 2 _law_number, 3 _law_word_here, 4 _law_j, 5 _law_turn -/
noncomputable def b_l_word (C : Fid → Ora) : MS :=
  seq (asg (tN 1) (cst (.str "abcdefghijklmnopqrstuvwxyz"))) <|
  seq (asg (tN 2) (mod (var 0) (pow (cst (.int 10)) (cst (.int 18))))) <|
  seq (asg (tN 3) (cst (.str ""))) <|
  seq (forS (tN 4) (sRange1 (add (cst (.int 1)) (mod (var 2) (cst (.int 8))))) (seq (asg (tN 5) (mul (fdiv (var 2) (cst (.int 8))) (add (mul (cst (.int 2)) (var 4)) (cst (.int 3))))) <|
  asg (tN 3) (add (var 3) (ix (var 1) (mod (add (var 5) (fdiv (fdiv (var 2) (cst (.int 700))) (add (var 4) (cst (.int 1))))) (cst (.int 26))))))) <|
  seq (ifS (tst (inE (var 3) (tupE (aCons (cst (.str "let")) (aCons (cst (.str "in")) (aCons (cst (.str "if")) (aCons (cst (.str "then")) (aCons (cst (.str "else")) (aCons (cst (.str "say")) (aCons (cst (.str "ask")) (aCons (cst (.str "stop")) (aCons (cst (.str "where")) (aCons (cst (.str "quiet")) (aCons (cst (.str "number")) (aNil))))))))))))))) (ret (add (cst (.str "h")) (slice (var 3) (some (cst (.int 1))) none))) (skip)) <|
  ret (var 3)
/- _law_leaf(_law_cell, _law_gaps): slots 0 _law_cell, 1 _law_gaps, 2 _law_kind, 3 _law_rest, 4 _law_some -/
noncomputable def b_l_leaf (C : Fid → Ora) : MS :=
  seq (asg (tN 2) (mod (var 0) (cst (.int 7)))) <|
  seq (asg (tN 3) (fdiv (var 0) (cst (.int 7)))) <|
  seq (ifS (tst (ltE (var 2) (cst (.int 2)))) (ret (tupE (aCons (cst (.str "num")) (aCons (ix (lstE (aCons (mod (var 3) (pow (cst (.int 10)) (cst (.int 30)))) (aCons (mod (var 3) (cst (.int 12))) (aNil)))) (var 2)) (aNil))))) (skip)) <|
  seq (ifS (tst (eqE (var 2) (cst (.int 2)))) (ret (tupE (aCons (cst (.str "ask")) (aCons (call (C .l_word) (aCons (var 3) (aNil))) (aNil))))) (skip)) <|
  seq (ifS (tst (eqE (var 2) (cst (.int 3)))) (ret (tupE (aCons (cst (.str "stop")) (aCons (call (C .l_word) (aCons (var 3) (aNil))) (aNil))))) (skip)) <|
  seq (ifS (andT (tst (eqE (var 2) (cst (.int 4)))) (tst (var 1))) (seq (asg (tN 4) (lstR (aCons (tupE (aCons (cst (.str "name")) (aCons (call (C .l_word) (aCons (fdiv (var 3) (cst (.int 3))) (aNil))) (aNil)))) (aCons (tupE (aCons (cst (.str "num")) (aCons (mod (var 3) (cst (.int 1000))) (aNil)))) (aNil))))) <|
  seq (app (var 4) (tupE (aCons (cst (.str "gap")) (aCons (call (C .l_word) (aCons (fdiv (var 3) (cst (.int 11))) (aNil))) (aCons (tupE (aNil)) (aNil)))))) <|
  ret (tupE (aCons (cst (.str "gap")) (aCons (call (C .l_word) (aCons (fdiv (var 3) (cst (.int 5))) (aNil))) (aCons (tupleE (slice (slice (var 4) (some (mod (fdiv (var 3) (cst (.int 4))) (cst (.int 3)))) none) none (some (mod (var 3) (cst (.int 4)))))) (aNil)))))) (skip)) <|
  ret (tupE (aCons (cst (.str "name")) (aCons (call (C .l_word) (aCons (var 3) (aNil))) (aNil))))
/- _law_tree(_law_cells, _law_deep, _law_gaps): slots 0 _law_cells, 1 _law_deep, 2 _law_gaps, 3 _law_number, 4 _law_rest, 5 _law_at, 6 _law_sign, 7 _law_one, 8 _law_far, 9 _law_two, 10 _law_other -/
noncomputable def b_l_tree (C : Fid → Ora) : MS :=
  seq (ifS (tst (eqE (lenE (var 0)) (cst (.int 0)))) (ret (tupE (aCons (cst (.str "num")) (aCons (mul (var 1) (cst (.int 10))) (aNil))))) (skip)) <|
  seq (ifS (orT (tst (eqE (lenE (var 0)) (cst (.int 1)))) (tst (eqE (var 1) (cst (.int 0))))) (ret (call (C .l_leaf) (aCons (ix (var 0) (cst (.int 0))) (aCons (var 2) (aNil))))) (skip)) <|
  seq (asg (tN 3) (mod (mul (ix (var 0) (cst (.int 0))) (cst (.int 48271))) (cst (.int 2147483647)))) <|
  seq (asg (tN 4) (slice (var 0) (some (cst (.int 1))) none)) <|
  seq (asg (tN 5) (mod (fdiv (var 3) (cst (.int 9))) (add (lenE (var 4)) (cst (.int 1))))) <|
  seq (asg (tN 6) (ix (lstE (aCons (cst (.str "say")) (aCons (cst (.str "add")) (aCons (cst (.str "sub")) (aCons (cst (.str "mul")) (aCons (cst (.str "then")) (aCons (cst (.str "if")) (aCons (cst (.str "let")) (aCons (cst (.str "sub")) (aCons (cst (.str "then")) (aNil))))))))))) (mod (var 3) (cst (.int 9))))) <|
  seq (ifS (tst (eqE (var 6) (cst (.str "say")))) (ret (tupE (aCons (cst (.str "say")) (aCons (call (C .l_tree) (aCons (var 4) (aCons (sub (var 1) (cst (.int 1))) (aCons (var 2) (aNil))))) (aNil))))) (skip)) <|
  seq (asg (tN 7) (call (C .l_tree) (aCons (slice (var 4) none (some (var 5))) (aCons (sub (var 1) (cst (.int 1))) (aCons (var 2) (aNil)))))) <|
  seq (ifS (tst (eqE (var 6) (cst (.str "if")))) (seq (asg (tN 8) (add (var 5) (mod (fdiv (var 3) (cst (.int 1009))) (add (sub (lenE (var 4)) (var 5)) (cst (.int 1)))))) <|
  seq (asg (tN 9) (call (C .l_tree) (aCons (slice (var 4) (some (var 5)) (some (var 8))) (aCons (sub (var 1) (cst (.int 1))) (aCons (var 2) (aNil)))))) <|
  ret (tupE (aCons (cst (.str "if")) (aCons (var 7) (aCons (var 9) (aCons (call (C .l_tree) (aCons (slice (var 4) (some (var 8)) none) (aCons (sub (var 1) (cst (.int 1))) (aCons (var 2) (aNil))))) (aNil))))))) (skip)) <|
  seq (asg (tN 10) (call (C .l_tree) (aCons (slice (var 4) (some (var 5)) none) (aCons (sub (var 1) (cst (.int 1))) (aCons (var 2) (aNil)))))) <|
  seq (ifS (tst (eqE (var 6) (cst (.str "let")))) (ret (tupE (aCons (cst (.str "let")) (aCons (call (C .l_word) (aCons (fdiv (var 3) (cst (.int 9))) (aNil))) (aCons (var 7) (aCons (var 10) (aNil))))))) (skip)) <|
  ret (tupE (aCons (var 6) (aCons (var 7) (aCons (var 10) (aNil)))))
/- _law_great(_law_cell): slots 0 _law_cell, 1 _law_leaves, 2 _law_k, 3 _law_paired, 4 _law_tree_here -/
noncomputable def b_l_great (C : Fid → Ora) : MS :=
  seq (asg (tN 1) (lstR (aNil))) <|
  seq (ifS (tst (eqE (mod (var 0) (cst (.int 2))) (cst (.int 1)))) (seq (forS (tN 2) (sRange1 (add (cst (.int 40)) (mod (fdiv (var 0) (cst (.int 2))) (cst (.int 58))))) (app (var 1) (tupE (aCons (cst (.str "num")) (aCons (add (pow (cst (.int 10)) (cst (.int 29))) (mod (fdiv (var 0) (add (var 2) (cst (.int 3)))) (pow (cst (.int 10)) (cst (.int 29))))) (aNil)))))) <|
  seq (whileS (tst (gtE (lenE (var 1)) (cst (.int 1)))) (seq (asg (tN 3) (comp [2] (tN 2) (sRange3 (cst (.int 0)) (sub (lenE (var 1)) (cst (.int 1))) (cst (.int 2))) (tYes) (tupE (aCons (cst (.str "sub")) (aCons (ix (var 1) (var 2)) (aCons (ix (var 1) (add (var 2) (cst (.int 1)))) (aNil))))))) <|
  asg (tN 1) (addR (var 3) (slice (var 1) (some (mul (cst (.int 2)) (lenE (var 3)))) none)))) <|
  ret (ix (var 1) (cst (.int 0)))) (skip)) <|
  seq (asg (tN 4) (tupE (aCons (cst (.str "name")) (aCons (cst (.str "b")) (aNil))))) <|
  seq (forS (tN 2) (sRange1 (add (cst (.int 17)) (mod (fdiv (var 0) (cst (.int 2))) (cst (.int 70))))) (asg (tN 4) (ix (lstE (aCons (tupE (aCons (cst (.str "say")) (aCons (var 4) (aNil)))) (aCons (tupE (aCons (cst (.str "let")) (aCons (cst (.str "b")) (aCons (tupE (aCons (cst (.str "name")) (aCons (cst (.str "b")) (aNil)))) (aCons (var 4) (aNil)))))) (aNil)))) (mod (fdiv (var 0) (add (var 2) (cst (.int 5)))) (cst (.int 2)))))) <|
  ret (var 4)
/- _law_nested(_law_cell, _law_more): slots 0 _law_cell, 1 _law_more, 2 _law_tree_here, 3 _law_many, 4 _law_k, 5 _law_turn, 6 _law_leaf_here, 7 _law_some -/
noncomputable def b_l_nested (C : Fid → Ora) : MS :=
  seq (asg (tN 2) (call (C .l_leaf) (aCons (var 1) (aCons (cst (.bl false)) (aNil))))) <|
  seq (asg (tN 3) (mod (var 0) (cst (.int 17)))) <|
  seq (ifS (tst (inE (ix (var 2) (cst (.int 0))) (tupE (aCons (cst (.str "ask")) (aCons (cst (.str "stop")) (aNil)))))) (asg (tN 3) (min2 (var 3) (cst (.int 15)))) (skip)) <|
  seq (forS (tN 4) (sRange1 (var 3)) (seq (asg (tN 5) (mod (fdiv (fdiv (var 0) (cst (.int 17))) (add (var 4) (cst (.int 1)))) (cst (.int 5)))) <|
  seq (asg (tN 6) (tupE (aCons (cst (.str "num")) (aCons (mul (var 4) (cst (.int 1000))) (aNil))))) <|
  seq (asg (tN 7) (lstE (aCons (tupE (aCons (cst (.str "say")) (aCons (var 2) (aNil)))) (aCons (tupE (aCons (cst (.str "add")) (aCons (var 6) (aCons (var 2) (aNil))))) (aCons (tupE (aCons (cst (.str "mul")) (aCons (var 2) (aCons (var 6) (aNil))))) (aNil)))))) <|
  seq (asg (tN 7) (add (var 7) (lstE (aCons (tupE (aCons (cst (.str "let")) (aCons (cst (.str "b")) (aCons (var 2) (aCons (var 6) (aNil)))))) (aCons (tupE (aCons (cst (.str "if")) (aCons (var 6) (aCons (tupE (aCons (cst (.str "name")) (aCons (cst (.str "c")) (aNil)))) (aCons (var 2) (aNil)))))) (aNil)))))) <|
  asg (tN 2) (ix (var 7) (var 5)))) <|
  ret (var 2)
/- _law_leaf_written(_law_tree_here): slots 0 _law_tree_here, 1 _law_atom -/
noncomputable def b_l_leaf_written (C : Fid → Ora) : MS :=
  seq (ifS (tst (eqE (ix (var 0) (cst (.int 0))) (cst (.str "num")))) (ret (strI (ix (var 0) (cst (.int 1))))) (skip)) <|
  seq (ifS (tst (eqE (ix (var 0) (cst (.int 0))) (cst (.str "name")))) (ret (ix (var 0) (cst (.int 1)))) (skip)) <|
  seq (ifS (andT (tst (eqE (ix (var 0) (cst (.int 0))) (cst (.str "gap")))) (tst (eqE (ix (var 0) (cst (.int 2))) (tupE (aNil))))) (ret (add (cst (.str "?")) (ix (var 0) (cst (.int 1))))) (skip)) <|
  seq (ifS (tst (eqE (ix (var 0) (cst (.int 0))) (cst (.str "gap")))) (ret (add (add (add (add (cst (.str "?")) (ix (var 0) (cst (.int 1)))) (cst (.str "["))) (joinE (cst (.str " ")) (comp [1] (tN 1) (sSeq (ix (var 0) (cst (.int 2)))) (tYes) (call (C .l_leaf_written) (aCons (var 1) (aNil)))))) (cst (.str "]")))) (skip)) <|
  ret (add (add (add (add (cst (.str "(")) (ix (var 0) (cst (.int 0)))) (cst (.str " "))) (ix (var 0) (cst (.int 1)))) (cst (.str ")")))
/- _law_written(_law_tree_here): slots 0 _law_tree_here, 1 _law_one, 2 _law_ahead, 3 _law_sign, 4 _law_word_here -/
noncomputable def b_l_written (C : Fid → Ora) : MS :=
  seq (ifS (tst (eqE (ix (var 0) (cst (.int 0))) (cst (.str "say")))) (ret (add (add (cst (.str "(say ")) (call (C .l_written) (aCons (ix (var 0) (cst (.int 1))) (aNil)))) (cst (.str ")")))) (skip)) <|
  seq (ifS (tst (eqE (ix (var 0) (cst (.int 0))) (cst (.str "let")))) (seq (asg (tN 1) (add (add (add (cst (.str "(let ")) (ix (var 0) (cst (.int 1)))) (cst (.str " = "))) (call (C .l_written) (aCons (ix (var 0) (cst (.int 2))) (aNil))))) <|
  ret (add (add (add (var 1) (cst (.str " in "))) (call (C .l_written) (aCons (ix (var 0) (cst (.int 3))) (aNil)))) (cst (.str ")")))) (skip)) <|
  seq (ifS (tst (eqE (ix (var 0) (cst (.int 0))) (cst (.str "if")))) (seq (asg (tN 2) (add (add (cst (.str "(if ")) (call (C .l_written) (aCons (ix (var 0) (cst (.int 1))) (aNil)))) (cst (.str " then ")))) <|
  seq (asg (tN 2) (add (var 2) (call (C .l_written) (aCons (ix (var 0) (cst (.int 2))) (aNil))))) <|
  ret (add (add (add (var 2) (cst (.str " else "))) (call (C .l_written) (aCons (ix (var 0) (cst (.int 3))) (aNil)))) (cst (.str ")")))) (skip)) <|
  seq (forS (tU [3, 4]) (sSeq (lstE (aCons (tupE (aCons (cst (.str "+")) (aCons (cst (.str "add")) (aNil)))) (aCons (tupE (aCons (cst (.str "-")) (aCons (cst (.str "sub")) (aNil)))) (aCons (tupE (aCons (cst (.str "*")) (aCons (cst (.str "mul")) (aNil)))) (aCons (tupE (aCons (cst (.str ";")) (aCons (cst (.str "then")) (aNil)))) (aNil))))))) (ifS (tst (eqE (ix (var 0) (cst (.int 0))) (var 4))) (seq (asg (tN 1) (call (C .l_written) (aCons (ix (var 0) (cst (.int 1))) (aNil)))) <|
  ret (add (add (add (add (add (add (cst (.str "(")) (var 1)) (cst (.str " "))) (var 3)) (cst (.str " "))) (call (C .l_written) (aCons (ix (var 0) (cst (.int 2))) (aNil)))) (cst (.str ")")))) (skip))) <|
  ret (call (C .l_leaf_written) (aCons (var 0) (aNil)))
/- _law_same(_law_found, _law_due): slots 0 _law_found, 1 _law_due, 2 _law_one, 3 _law_other -/
noncomputable def b_l_same (C : Fid → Ora) : MS :=
  seq (ifS (tst (isiE "tuple" (var 1))) (seq (ifS (orT (notT (tst (isiE "tuple" (var 0)))) (tst (neE (lenE (var 0)) (lenE (var 1))))) (ret (cst (.bl false))) (skip)) <|
  seq (forS (tU [2, 3]) (sZip2 (var 0) (var 1)) (ifS (notT (tst (call (C .l_same) (aCons (var 2) (aCons (var 3) (aNil)))))) (ret (cst (.bl false))) (skip))) <|
  ret (cst (.bl true))) (skip)) <|
  seq (ifS (tst (isiE "str" (var 1))) (ret (andE (isiE "str" (var 0)) (eqE (var 0) (var 1)))) (skip)) <|
  ret (andE (isiE "int" (var 0)) (andE (notE (isiE "bool" (var 0))) (eqE (var 0) (var 1))))
/- law(_law_script): slots 0 _law_script, 1 _law_trees, 2 _law_told, 3 _law_tree_here, 4 _law_text, 5 _law_great_here -/
noncomputable def b_law (C : Fid → Ora) : MS :=
  seq (asg (tN 1) (lstR (aCons (call (C .l_tree) (aCons (slice (var 0) (some (cst (.int 2))) (some (cst (.int 22)))) (aCons (cst (.int 12)) (aCons (cst (.bl false)) (aNil))))) (aCons (call (C .l_tree) (aCons (slice (var 0) (some (cst (.int 22))) (some (cst (.int 42)))) (aCons (cst (.int 12)) (aCons (cst (.bl true)) (aNil))))) (aNil))))) <|
  seq (app (var 1) (call (C .l_tree) (aCons (slice (var 0) (some (cst (.int 42))) (some (cst (.int 62)))) (aCons (cst (.int 12)) (aCons (cst (.bl false)) (aNil)))))) <|
  seq (app (var 1) (call (C .l_nested) (aCons (call (C .l_cell_at) (aCons (var 0) (aCons (cst (.int 0)) (aNil)))) (aCons (call (C .l_cell_at) (aCons (var 0) (aCons (cst (.int 1)) (aNil)))) (aNil))))) <|
  seq (asg (tN 2) (lstR (aNil))) <|
  seq (forS (tN 3) (sSeq (var 1)) (seq (asg (tN 4) (call (C .p_shown) (aCons (var 3) (aNil)))) <|
  seq (ifS (orT (notT (tst (isiE "str" (var 4)))) (tst (neE (var 4) (call (C .l_written) (aCons (var 3) (aNil)))))) (ret (cst (.bl false))) (skip)) <|
  seq (ifS (notT (tst (call (C .l_same) (aCons (call (C .p_read) (aCons (var 4) (aNil))) (aCons (var 3) (aNil)))))) (ret (cst (.bl false))) (skip)) <|
  app (var 2) (var 4))) <|
  seq (asg (tN 5) (call (C .l_great) (aCons (fdiv (call (C .l_cell_at) (aCons (var 0) (aCons (cst (.int 1)) (aNil)))) (cst (.int 7))) (aNil)))) <|
  seq (ifS (orT (notT (tst (isiE "str" (call (C .p_shown) (aCons (var 5) (aNil)))))) (tst (neE (call (C .p_shown) (aCons (var 5) (aNil))) (call (C .l_written) (aCons (var 5) (aNil)))))) (ret (cst (.bl false))) (skip)) <|
  seq (forS (tU [4, 3]) (sZip2 (var 2) (var 1)) (ifS (orT (tst (neE (call (C .p_shown) (aCons (var 3) (aNil))) (var 4))) (notT (tst (call (C .l_same) (aCons (call (C .p_read) (aCons (var 4) (aNil))) (aCons (var 3) (aNil))))))) (ret (cst (.bl false))) (skip))) <|
  ret (cst (.bl true))
/-- the text's defs, by how many calls may stand within one another -/
noncomputable def C : Nat → Fid → Ora
  | 0, _ => fun _ _ => .bad
  | n + 1, .p_parts => fn 1 (b_p_parts (C n))
  | n + 1, .p_bounded => fn 3 (b_p_bounded (C n))
  | n + 1, .p_place_past => fn 3 (b_p_place_past (C n))
  | n + 1, .p_run_of => fn 3 (b_p_run_of (C n))
  | n + 1, .p_word_at => fn 3 (b_p_word_at (C n))
  | n + 1, .p_leaf_at => fn 4 (b_p_leaf_at (C n))
  | n + 1, .p_atom_at => fn 4 (b_p_atom_at (C n))
  | n + 1, .p_gap_at => fn 5 (b_p_gap_at (C n))
  | n + 1, .p_let_at => fn 5 (b_p_let_at (C n))
  | n + 1, .p_choice_at => fn 5 (b_p_choice_at (C n))
  | n + 1, .p_inner_at => fn 6 (b_p_inner_at (C n))
  | n + 1, .p_tree_at => fn 4 (b_p_tree_at (C n))
  | n + 1, .p_whole => fn 3 (b_p_whole (C n))
  | n + 1, .p_read => fn 1 (b_p_read (C n))
  | n + 1, .p_shown_leaf => fn 2 (b_p_shown_leaf (C n))
  | n + 1, .p_shown => fn 3 (b_p_shown (C n))
  | n + 1, .l_cell_at => fn 2 (b_l_cell_at (C n))
  | n + 1, .l_word => fn 6 (b_l_word (C n))
  | n + 1, .l_leaf => fn 5 (b_l_leaf (C n))
  | n + 1, .l_tree => fn 11 (b_l_tree (C n))
  | n + 1, .l_great => fn 5 (b_l_great (C n))
  | n + 1, .l_nested => fn 8 (b_l_nested (C n))
  | n + 1, .l_leaf_written => fn 2 (b_l_leaf_written (C n))
  | n + 1, .l_written => fn 5 (b_l_written (C n))
  | n + 1, .l_same => fn 4 (b_l_same (C n))
  | n + 1, .law => fn 6 (b_law (C n))
/-- what is to be shown in plain Lean -/
def LawTrue : Prop := ∀ ns : List Int, ns.length ≤ 63 → C 150 .law [.rol (ns.map DV.int)] [] = .ok (.bl true, false) []
end Y
/-! Trees. -/
namespace Y
open PySem
inductive At where
  | num (n : Int) | name (x : Str) | gap (h : Str)
inductive Bo where
  | add | sub | mul | thn
inductive T where
  | num (n : Int) | name (x : Str) | ask (w : Str) | stop (w : Str) | gap (g : Str) (as : List At) | say (a : T) | bin (o : Bo) (a b : T) | ite (a b c : T) | lt (x : Str) (a b : T)
abbrev tg2 (s : String) (d : DV) : DV := .tup [.str s, d]
def encA : At → DV
  | .num n => .tup [.str "num", .int n]
  | .name x => .tup [.str "name", .str x]
  | .gap h => .tup [.str "gap", .str h, .tup []]
def Bo.s : Bo → Str
  | .add => "add"
  | .sub => "sub"
  | .mul => "mul"
  | .thn => "then"
def enc : T → DV
  | .num n => .tup [.str "num", .int n]
  | .name x => .tup [.str "name", .str x]
  | .ask w => .tup [.str "ask", .str w]
  | .stop w => .tup [.str "stop", .str w]
  | .gap g as => .tup [.str "gap", .str g, .tup (as.map encA)]
  | .say a => .tup [.str "say", enc a]
  | .bin o a b => .tup [.str o.s, enc a, enc b]
  | .ite a b c => .tup [.str "if", enc a, enc b, enc c]
  | .lt x a b => .tup [.str "let", .str x, enc a, enc b]
def T.sign : T → Str
  | .num _ => "num"
  | .name _ => "name"
  | .ask _ => "ask"
  | .stop _ => "stop"
  | .gap _ _ => "gap"
  | .say _ => "say"
  | .bin o _ _ => o.s
  | .ite _ _ _ => "if"
  | .lt _ _ _ => "let"
def T.parts : T → List T
  | .say a => [a]
  | .bin _ a b => [a, b]
  | .ite a b c => [a, b, c]
  | .lt _ a b => [a, b]
  | _ => []
def T.size : T → Nat
  | .say a => a.size + 1
  | .bin _ a b => a.size + b.size + 1
  | .ite a b c => a.size + b.size + c.size + 1
  | .lt _ a b => a.size + b.size + 1
  | _ => 1
def T.ht : T → Nat
  | .say a => a.ht + 1
  | .bin _ a b => max a.ht b.ht + 1
  | .ite a b c => max a.ht (max b.ht c.ht) + 1
  | .lt _ a b => max a.ht b.ht + 1
  | _ => 1
theorem T.ht_parts {t p : T} (h : p ∈ t.parts) : p.ht < t.ht := by
  cases t <;> simp [T.parts] at h <;> simp only [T.ht]
  · subst h; omega
  · rcases h with h | h <;> subst h <;> omega
  · rcases h with h | h | h <;> subst h <;> omega
  · rcases h with h | h <;> subst h <;> omega
theorem T.size_parts (t : T) : t.size = (t.parts.map T.size).sum + 1 := by
  cases t <;> simp [T.parts, T.size] <;> omega
theorem T.size_pos (t : T) : 0 < t.size := by rw [T.size_parts]; omega
theorem T.size_part {t p : T} (h : p ∈ t.parts) : p.size < t.size := by
  cases t <;> simp [T.parts] at h <;> simp only [T.size]
  · subst h; omega
  · rcases h with h | h <;> subst h <;> omega
  · rcases h with h | h | h <;> subst h <;> omega
  · rcases h with h | h <;> subst h <;> omega
/-- by the parts -/
theorem T.byParts {P : T → Prop} (h : ∀ t : T, (∀ p ∈ t.parts, P p) → P t) (t : T) : P t := by
  have : ∀ n (t : T), t.ht ≤ n → P t := by
    intro n
    induction n with
    | zero => intro t ht; cases t <;> simp only [T.ht] at ht <;> omega
    | succ n ih => intro t ht; exact h t fun p hp => ih p (by have := T.ht_parts hp; omega)
  exact this t.ht t (Nat.le_refl _)
theorem noRefs_map {α : Type} (f : α → DV) (h : ∀ x, noRef (f x) = true) : ∀ xs : List α, noRefs (xs.map f) = true
  | [] => rfl
  | x :: xs => by simp only [List.map_cons, noRefs, h, noRefs_map f h xs, Bool.and_self]
theorem noRef_encA (a : At) : noRef (encA a) = true := by cases a <;> rfl
theorem noRef_enc : ∀ t : T, noRef (enc t) = true
  | .num _ => rfl
  | .name _ => rfl
  | .ask _ => rfl
  | .stop _ => rfl
  | .gap _ as => by simp [enc, noRef, noRefs, noRefs_map encA noRef_encA]
  | .say a => by simp [enc, noRef, noRefs, noRef_enc a]
  | .bin _ a b => by simp [enc, noRef, noRefs, noRef_enc a, noRef_enc b]
  | .ite a b c => by simp [enc, noRef, noRefs, noRef_enc a, noRef_enc b, noRef_enc c]
  | .lt _ a b => by simp [enc, noRef, noRefs, noRef_enc a, noRef_enc b]
theorem noRefGe_of {m : Nat} {d : DV} (h : noRef d = true) : noRefGe m d = true := noRef_ge m d h
/-- a def's end with a value -/
theorem leave_ok {m : Nat} {d : DV} {S : Sto} (h : noRef d = true) : leave m d S = .ok (d, false) (S.take m) := by
  rw [leave_val (fun k e => by rw [e] at h; simp [noRef] at h), thaw_id d (noRefGe_of h), if_pos (noRefGe_of h)]
@[simp] theorem take_len (S : Sto) : List.take S.length S = S := List.take_length
/-- its own object: the store of before, then its objects -/
theorem leave_mine (S L : Sto) (k : Nat) (x : DV) (h : L[k]? = some x) : leave S.length (.ref (S.length + k)) (S ++ L) = .ok (x, true) S := by
  rw [leave_own (by omega) (y := x) (by rw [List.getElem?_append_right (by omega)]; simpa using h)]
  simp
/-! ### places -/
def encP (p : List Nat) : DV := .tup (p.map fun (k : Nat) => .int (k : Int))
theorem noRef_encP (p : List Nat) : noRef (encP p) = true := by
  unfold encP
  simp only [noRef]
  exact noRefs_map _ (fun _ => rfl) p
mutual
def T.places : T → List (List Nat)
  | .say a => [] :: a.places.map (0 :: ·)
  | .bin _ a b => [] :: (a.places.map (0 :: ·) ++ b.places.map (1 :: ·))
  | .ite a b c => [] :: (a.places.map (0 :: ·) ++ b.places.map (1 :: ·) ++ c.places.map (2 :: ·))
  | .lt _ a b => [] :: (a.places.map (0 :: ·) ++ b.places.map (1 :: ·))
  | _ => [[]]
end
/-- the places of some parts, numbered from k on -/
def placesFrom (k : Nat) : List T → List (List Nat)
  | [] => []
  | p :: ps => p.places.map (k :: ·) ++ placesFrom (k + 1) ps
theorem T.places_eq (t : T) : t.places = [] :: placesFrom 0 t.parts := by
  cases t <;> simp [T.places, T.parts, placesFrom]
theorem placesFrom_len (ps : List T) : (∀ p ∈ ps, p.places.length = p.size) → ∀ k, (placesFrom k ps).length = (ps.map T.size).sum := by
  induction ps with
  | nil => intro _ k; rfl
  | cons p ps ih =>
    intro h k
    simp only [placesFrom, List.length_append, List.length_map, List.map_cons, List.sum_cons]
    rw [h p List.mem_cons_self, ih (fun q m => h q (List.mem_cons_of_mem _ m))]
theorem T.places_len (t : T) : t.places.length = t.size := by
  refine T.byParts (P := fun t => t.places.length = t.size) (fun t ih => ?_) t
  rw [T.places_eq, T.size_parts, List.length_cons, placesFrom_len t.parts ih]
theorem T.place_len (t : T) : ∀ p ∈ t.places, p.length ≤ t.ht := by
  refine T.byParts (P := fun t => ∀ p ∈ t.places, p.length ≤ t.ht) (fun t ih p hp => ?_) t
  rw [T.places_eq] at hp
  rcases List.mem_cons.mp hp with rfl | hp
  · simp
  · have : ∀ (ps : List T) (k : Nat), (∀ q ∈ ps, q ∈ t.parts) → p ∈ placesFrom k ps → p.length ≤ t.ht := by
      intro ps
      induction ps with
      | nil => intro k _ h; simp [placesFrom] at h
      | cons q ps ih2 =>
        intro k hq h
        simp only [placesFrom, List.mem_append, List.mem_map] at h
        rcases h with ⟨r, hr, rfl⟩ | h
        · have h1 := ih q (hq q List.mem_cons_self) r hr
          have h2 := T.ht_parts (hq q List.mem_cons_self)
          simp only [List.length_cons]
          omega
        · exact ih2 (k + 1) (fun r m => hq r (List.mem_cons_of_mem _ m)) h
    exact this t.parts 0 (fun _ m => m) hp
end Y
/-! Running the dict combinators by simp. -/
namespace Y
open PySem
section
variable (l : Lo) (S : Sto) (a b e k i : ME) (x y d : DV) (xs ys : List DV)
@[simp] theorem dctN_run : dctN l S = .ok (.ref S.length) (S ++ [.dk []]) := rfl
@[simp] theorem setK_run : setK a i e l S = (e l S).bind fun y S0 => (a l S0).bind fun x S1 => (i l S1).bind fun j S2 => match x, keyOf j with
  | .ref k, some j => match S2[k]? with
    | some (.dk kvs) => if kvs.length < LIM ∧ noRef y = true then .ok (.nx l) (S2.set k (.dk (putD kvs j y))) else .bad
    | _ => .bad
  | _, _ => .bad := rfl
@[simp] theorem getE_run : getE a k e l S = (a l S).bind fun u S1 => if (dkOf S1 u).isSome = true then (k l S1).bind fun j S2 => (e l S2).bind fun z S3 => (match dkOf S3 u, keyOf j with
  | some kvs, some j => .ok ((getK kvs j).getD z) S3
  | _, _ => .bad) else .bad := rfl
@[simp] theorem ixA_run : ixA a b l S = (a l S).bind fun x S1 => (b l S1).bind fun y S2 => Out.of (ixAV S2 x y) S2 := rfl
@[simp] theorem inA_run : inA a b l S = (a l S).bind fun x S1 => (b l S1).bind fun y S2 => Out.of ((inAV S2 x y).map .bl) S2 := rfl
@[simp] theorem ninA_run : ninA a b l S = (a l S).bind fun x S1 => (b l S1).bind fun y S2 => Out.of ((inAV S2 x y).map fun b => .bl !b) S2 := rfl
@[simp] theorem eqA_run : eqA a b l S = (a l S).bind fun x S1 => (b l S1).bind fun y S2 => Out.of ((eqAV S2 x y).map .bl) S2 := rfl
@[simp] theorem neA_run : neA a b l S = (a l S).bind fun x S1 => (b l S1).bind fun y S2 => Out.of ((eqAV S2 x y).map fun b => .bl !b) S2 := rfl
@[simp] theorem sortD_run : sortD a l S = (a l S).bind fun x S1 => Out.of ((sortDV S1 x).map .lst) S1 := rfl
@[simp] theorem sortDR_run : sortDR a l S = (a l S).bind fun x S1 => match sortDV S1 x with
  | some xs => .ok (.ref S1.length) (S1 ++ [.lst xs])
  | none => .bad := rfl
@[simp] theorem dkOf_dk (kvs) : dkOf S (.dk kvs) = some kvs := by simp only [dkOf]
@[simp] theorem dkOf_fz (kvs) : dkOf S (.fz kvs) = some kvs := by simp only [dkOf]
@[simp] theorem dkOf_tup : dkOf S (.tup xs) = none := by simp only [dkOf]
@[simp] theorem dkOf_lst : dkOf S (.lst xs) = none := by simp only [dkOf]
@[simp] theorem dkOf_rol : dkOf S (.rol xs) = none := by simp only [dkOf]
@[simp] theorem dkOf_int (i : Int) : dkOf S (.int i) = none := by simp only [dkOf]
@[simp] theorem dkOf_str (i : Str) : dkOf S (.str i) = none := by simp only [dkOf]
@[simp] theorem dkOf_bl (i : Bool) : dkOf S (.bl i) = none := by simp only [dkOf]
@[simp] theorem dkOf_non : dkOf S .non = none := by simp only [dkOf]
@[simp] theorem dkOf_ref (k : Nat) : dkOf S (.ref k) = match S[k]? with
    | some (.dk kvs) => some kvs
    | some (.fz kvs) => some kvs
    | _ => none := by
  unfold dkOf
  dsimp only
  all_goals first
    | rfl
    | (generalize S[k]? = o; rcases o with _ | x <;> first | rfl | (cases x <;> rfl))
@[simp] theorem keyOf_str (s : Str) : keyOf (.str s) = some (.inr s) := by simp only [keyOf]
@[simp] theorem keyOf_int (s : Int) : keyOf (.int s) = some (.inl s) := by simp only [keyOf]
theorem ixAV_no (h : dkOf S x = none) : ixAV S x y = ixV S x y := by unfold ixAV; rw [h]; rfl
theorem ixAV_dk {kvs j} (h : dkOf S x = some kvs) (h' : keyOf y = some j) : ixAV S x y = getK kvs j := by unfold ixAV ixKV; rw [h, h']; rfl
theorem inAV_no (h : dkOf S y = none) : inAV S x y = inV S x y := by unfold inAV; rw [h]; rfl
theorem inAV_dk {kvs j} (h : dkOf S y = some kvs) (h' : keyOf x = some j) : inAV S x y = some (getK kvs j).isSome := by unfold inAV inDV; rw [h, h']; rfl
theorem eqAV_no (h : dkOf S x = none) : eqAV S x y = eqV S x y := by unfold eqAV; rw [h]; rfl
@[simp] theorem ixAV_lst : ixAV S (.lst xs) y = ixV S (.lst xs) y := ixAV_no S _ y (by simp)
@[simp] theorem ixAV_tup : ixAV S (.tup xs) y = ixV S (.tup xs) y := ixAV_no S _ y (by simp)
@[simp] theorem ixAV_rol : ixAV S (.rol xs) y = ixV S (.rol xs) y := ixAV_no S _ y (by simp)
@[simp] theorem ixAV_str (s : Str) : ixAV S (.str s) y = ixV S (.str s) y := ixAV_no S _ y (by simp)
@[simp] theorem inAV_lst : inAV S x (.lst xs) = inV S x (.lst xs) := inAV_no S x _ (by simp)
@[simp] theorem inAV_tup : inAV S x (.tup xs) = inV S x (.tup xs) := inAV_no S x _ (by simp)
@[simp] theorem eqAV_int (i : Int) : eqAV S (.int i) y = eqV S (.int i) y := eqAV_no S _ y (by simp)
@[simp] theorem eqAV_str (i : Str) : eqAV S (.str i) y = eqV S (.str i) y := eqAV_no S _ y (by simp)
@[simp] theorem eqAV_tup : eqAV S (.tup xs) y = eqV S (.tup xs) y := eqAV_no S _ y (by simp)
@[simp] theorem eqAV_lst : eqAV S (.lst xs) y = eqV S (.lst xs) y := eqAV_no S _ y (by simp)
@[simp] theorem inV_strs (x : Str) (bs : List Str) : inV S (.str x) (.tup (bs.map DV.str)) = some (decide (x ∈ bs)) := by
  rw [inV_seq S (.str x) (.tup (bs.map DV.str)) (bs.map DV.str) rfl rfl (by simp [flatD])]
  congr 1
  rw [Bool.eq_iff_iff]
  simp only [List.any_eq_true, List.mem_map, decide_eq_true_iff]
  constructor
  · rintro ⟨_, ⟨s, hs, rfl⟩, h⟩
    rw [eqB_iff] at h
    cases h
    exact hs
  · intro h
    exact ⟨.str x, ⟨x, h, rfl⟩, eqB_self _⟩
end
/-! ### dicts of names -/
def dkS (ks : List Str) : DV := .dk (ks.map fun k => (.inr k, .bl true))
def addS (ks : List Str) (k : Str) : List Str := if k ∈ ks then ks else ks ++ [k]
def addAll (ks ns : List Str) : List Str := ns.foldl addS ks
theorem put_dkS (ks : List Str) (k : Str) : putD (ks.map fun k => ((.inr k : Key), DV.bl true)) (.inr k) (.bl true) = (addS ks k).map fun k => (.inr k, .bl true) := by
  unfold putD addS
  have e : ((ks.map fun k => ((.inr k : Key), DV.bl true)).any fun kv => decide (kv.1 = .inr k)) = decide (k ∈ ks) := by
    rw [Bool.eq_iff_iff]
    simp only [List.any_map, List.any_eq_true, Function.comp, decide_eq_true_iff, Sum.inr.injEq]
    constructor
    · rintro ⟨x, h, rfl⟩; exact h
    · intro h; exact ⟨k, h, rfl⟩
  rw [e]
  by_cases h : k ∈ ks
  · rw [if_pos (by simpa using h), if_pos h, List.map_map]
    refine List.map_congr_left fun x _ => ?_
    simp only [Function.comp]
    split <;> rfl
  · rw [if_neg (by simpa using h), if_neg h, List.map_append]
    rfl
theorem mem_addS {ks : List Str} {k x : Str} : x ∈ addS ks k ↔ x ∈ ks ∨ x = k := by
  unfold addS
  split
  · rename_i h
    constructor
    · exact .inl
    · rintro (h' | rfl)
      · exact h'
      · exact h
  · simp
theorem nd_addS {ks : List Str} {k : Str} (h : ks.Nodup) : (addS ks k).Nodup := by
  unfold addS
  split
  · exact h
  · rename_i hk
    rw [List.nodup_append]
    refine ⟨h, by simp, fun a ha b hb => ?_⟩
    rw [List.mem_singleton] at hb
    rintro rfl
    exact hk (hb ▸ ha)
theorem mem_addAll {ns ks : List Str} {x : Str} : x ∈ addAll ks ns ↔ x ∈ ks ∨ x ∈ ns := by
  induction ns generalizing ks with
  | nil => simp [addAll]
  | cons n ns ih =>
    show x ∈ addAll (addS ks n) ns ↔ _
    rw [ih, mem_addS, List.mem_cons, or_assoc]
theorem nd_addAll {ns ks : List Str} (h : ks.Nodup) : (addAll ks ns).Nodup := by
  induction ns generalizing ks with
  | nil => exact h
  | cons n ns ih => exact ih (ks := addS ks n) (nd_addS h)
theorem addAll_append (ks ns ms : List Str) : addAll ks (ns ++ ms) = addAll (addAll ks ns) ms := List.foldl_append
theorem addAll_len (ks ns : List Str) : (addAll ks ns).length ≤ ks.length + ns.length := by
  induction ns generalizing ks with
  | nil => simp [addAll]
  | cons n ns ih =>
    have h := ih (addS ks n)
    have h2 : (addS ks n).length ≤ ks.length + 1 := by unfold addS; split <;> simp
    show (addAll (addS ks n) ns).length ≤ _
    simp only [List.length_cons]
    omega
theorem strs_dkS : ∀ ks : List Str, strs? (ks.map fun k => ((.inr k : Key), DV.bl true)) = some ks
  | [] => rfl
  | k :: ks => by simp [strs?, strs_dkS ks]
theorem sortS_ext {ks ls : List Str} (h : ks.Nodup) (h' : ls.Nodup) (e : ∀ x, x ∈ ks ↔ x ∈ ls) : sortS ks = sortS ls :=
  sortS_eq ((sortS_perm ks).trans ((List.perm_ext_iff_of_nodup h h').mpr e)) (sortS_pw ks)
theorem sortDV_dkS (S : Sto) (x : DV) (ks : List Str) (h : dkOf S x = some (ks.map fun k => ((.inr k : Key), DV.bl true))) (hl : ks.length < 64) : sortDV S x = some ((sortS ks).map .str) := by
  unfold sortDV
  rw [h]
  dsimp only
  rw [strs_dkS]
  dsimp only
  rw [if_pos hl]
/-- lists of texts, compared -/
theorem plains_strs {ks : List Str} (n : Nat) (h : ∀ k ∈ ks, PyData.strOk k = true) : plains n (ks.map DV.str) = true := by
  induction ks with
  | nil => simp [plains]
  | cons k ks ih =>
    simp only [List.map_cons, plains, plain, h k List.mem_cons_self, Bool.true_and]
    exact ih fun x m => h x (List.mem_cons_of_mem _ m)
theorem plain_strs {ks : List Str} (h : ∀ k ∈ ks, PyData.strOk k = true) : plain 60 (.lst (ks.map DV.str)) = true := by
  simp only [plain]
  exact plains_strs 59 h
end Y
/-! Running the rest by simp: copies, displays, int, defaults; dicts of numbers. -/
namespace Y
open PySem
section
variable (l : Lo) (S : Sto) (a b e k i : ME) (x y d : DV) (xs ys : List DV)
@[simp] theorem copyR_run : copyR a l S = (a l S).bind fun x S1 => match dkOf S1 x with
  | some kvs => if noRefK kvs = true then .ok (.ref S1.length) (S1 ++ [.dk kvs]) else .bad
  | none => .bad := rfl
@[simp] theorem copyM_run : copyM a l S = (a l S).bind fun x S1 => match dkLv S1 x with
  | some kvs => .ok (.ref S1.length) (S1 ++ [.dk kvs])
  | none => .bad := rfl
@[simp] theorem dkLv_ref (k : Nat) : dkLv S (.ref k) = match S[k]? with
  | some (.dk kvs) => some kvs
  | _ => none := rfl
@[simp] theorem intE_run : intE a l S = (a l S).bind fun x S1 => Out.of (intV x) S1 := rfl
@[simp] theorem intV_int (i : Int) : intV (.int i) = some (.int i) := by simp only [intV]
@[simp] theorem intV_bl (i : Bool) : intV (.bl i) = some (.int (if i = true then 1 else 0)) := by simp only [intV]
theorem callD_run (f : Ora) (ds : List DV) (r : MA) : callD f ds r l S = (r l S).bind fun xs S1 => match f (xs ++ ds) S1 with
  | .ok (d, _) S2 => .ok d S2
  | .exc c d _ S2 => .exc c d l S2
  | .bad => .bad := rfl
end
/-! ### dicts of numbers -/
abbrev Env := List (Str × Int)
def kI (kv : Str × Int) : Key × DV := (.inr kv.1, .int kv.2)
def dkI (kn : Env) : DV := .dk (kn.map kI)
def getI : Env → Str → Option Int
  | [], _ => none
  | (k, n) :: r, x => if k = x then some n else getI r x
def putI : Env → Str → Int → Env
  | [], x, n => [(x, n)]
  | (k, m) :: r, x, n => if k = x then (k, n) :: (r.map fun p => if p.1 = x then (p.1, n) else p) else (k, m) :: putI r x n
theorem getK_I (x : Str) : ∀ kn : Env, getK (kn.map kI) (.inr x) = (getI kn x).map .int
  | [] => rfl
  | (k, n) :: r => by
    have ih := getK_I x r
    simp only [getK] at ih
    by_cases h : k = x
    · simp [getK, kI, getI, h]
    · simp only [getK, List.map_cons, kI, List.find?_cons, getI, if_neg h]
      rw [decide_eq_false (by simpa using h)]
      exact ih
theorem putD_I (x : Str) (n : Int) (kn : Env) : putD (kn.map kI) (.inr x) (.int n) = (putI kn x n).map kI := by
  unfold putD
  induction kn with
  | nil => rfl
  | cons p r ih =>
    obtain ⟨k, m⟩ := p
    by_cases h : k = x
    · subst h
      simp only [List.map_cons, List.any_cons, kI, decide_true, Bool.true_or, if_true, putI, List.map_map]
      congr 1
      refine List.map_congr_left fun q _ => ?_
      obtain ⟨k', m'⟩ := q
      simp only [Function.comp, kI, Sum.inr.injEq]
      split <;> rfl
    · have hd : decide ((Sum.inr k : Key) = Sum.inr x) = false := decide_eq_false (by simpa using h)
      have hn : ¬ ((Sum.inr k : Key) = Sum.inr x) := by simpa using h
      simp only [List.map_cons, List.any_cons, kI, hd, Bool.false_or, if_neg hn, putI, if_neg h]
      by_cases ha : ((r.map kI).any fun kv => decide (kv.1 = .inr x)) = true
      · rw [if_pos ha] at ih ⊢
        rw [ih]
        all_goals rfl
      · rw [if_neg ha] at ih ⊢
        rw [List.cons_append, ih]
        all_goals rfl
theorem noRefK_I : ∀ kn : Env, noRefK (kn.map kI) = true
  | [] => rfl
  | p :: r => by simp [noRefK, kI, noRefK_I r]
theorem putI_len (x : Str) (n : Int) : ∀ kn : Env, (putI kn x n).length ≤ kn.length + 1
  | [] => by simp [putI]
  | (k, m) :: r => by
    have ih := putI_len x n r
    unfold putI
    split
    · simp
    · simp; exact ih
theorem putI_get (x : Str) (n : Int) (y : Str) : ∀ kn : Env, getI (putI kn x n) y = if y = x then some n else getI kn y
  | [] => by
    simp only [putI, getI]
    by_cases h : x = y
    · simp [h]
    · simp [h, Ne.symm h]
  | (k, m) :: r => by
    have ih := putI_get x n y r
    unfold putI
    by_cases h : k = x
    · rw [if_pos h]
      subst h
      by_cases hy : k = y
      · subst hy; simp [getI]
      · have e : ∀ r : Env, getI (r.map fun p => if p.1 = k then (p.1, n) else p) y = getI r y := by
          intro r
          induction r with
          | nil => rfl
          | cons q r ih =>
            obtain ⟨a, b⟩ := q
            by_cases ha : a = k
            · simp [getI, ha, hy, ih]
            · simp [getI, ha, ih]
        simp only [getI, if_neg hy, e, if_neg (Ne.symm hy)]
    · rw [if_neg h]
      by_cases hy : k = y
      · subst hy; simp [getI, h]
      · simp only [getI, if_neg hy, ih]
/-- numbers below 10 ^ 30 -/
def NumsOk (kn : Env) : Prop := ∀ p ∈ kn, 0 ≤ p.2 ∧ p.2 < 10 ^ 30
theorem NumsOk.get {kn : Env} (h : NumsOk kn) {x : Str} {n : Int} (e : getI kn x = some n) : 0 ≤ n ∧ n < 10 ^ 30 := by
  induction kn with
  | nil => simp [getI] at e
  | cons p r ih =>
    obtain ⟨k, m⟩ := p
    simp only [getI] at e
    split at e
    · cases e
      exact h _ List.mem_cons_self
    · exact ih (fun q m => h q (List.mem_cons_of_mem _ m)) e
theorem NumsOk.put {x : Str} {n : Int} (hn : 0 ≤ n ∧ n < 10 ^ 30) : ∀ {kn : Env}, NumsOk kn → NumsOk (putI kn x n)
  | [], _ => by
    intro p m
    simp only [putI, List.mem_singleton] at m
    rw [m]; exact hn
  | (k, v) :: r, h => by
    have hr : NumsOk r := fun q m => h q (List.mem_cons_of_mem _ m)
    intro p m
    unfold putI at m
    split at m
    · rcases List.mem_cons.mp m with rfl | m
      · exact hn
      · obtain ⟨q, hq, rfl⟩ := List.mem_map.mp m
        split
        · exact hn
        · exact hr q hq
    · rcases List.mem_cons.mp m with rfl | m
      · exact h _ List.mem_cons_self
      · exact NumsOk.put hn hr p m
end Y
/-! Running join, reversed; comprehensions that read the store. -/
namespace Y
open PySem
@[simp] theorem joinE_run (l : Lo) (S : Sto) (o a : ME) : joinE o a l S = (o l S).bind fun x S1 => match x with
  | .str sep => (a l S1).bind fun y S2 => (match seqOf S2 y with
    | some xs => match strsOf xs with
      | some ys => if (ys.map (·.length)).sum + ys.length * sep.length ≤ 16777216 then .ok (.str (Txt.join sep ys)) S2 else .bad
      | none => .bad
    | none => .bad)
  | _ => .bad := rfl
@[simp] theorem sRevL_run (l : Lo) (S : Sto) (a : ME) : sRevL a l S = (a l S).bind fun x S1 => match seqOf S1 x with
  | some xs => .ok (xs.reverse, guardOf S1 x) S1
  | none => .bad := rfl
@[simp] theorem ixAV_ref (S : Sto) (k : Nat) (i : Int) : ixAV S (.ref k) (.int i) = match S[k]? with
    | some (.lst xs) => L2.atI xs i
    | some (.dk kvs) => getK kvs (.inl i)
    | some (.fz kvs) => getK kvs (.inl i)
    | _ => none := by
  cases e : S[k]? with
  | none => rw [ixAV_no S _ _ (by simp [e])]; simp [e]
  | some x =>
    cases x with
    | dk kvs => rw [ixAV_dk S _ _ (by simp [e]; rfl) (by simp; rfl)]
    | fz kvs => rw [ixAV_dk S _ _ (by simp [e]; rfl) (by simp; rfl)]
    | _ => rw [ixAV_no S _ _ (by simp [e])]; simp [e]
@[simp] theorem strsOf_map : ∀ ys : List Str, strsOf (ys.map DV.str) = some ys
  | [] => rfl
  | y :: ys => by simp [strsOf, strsOf_map ys]
theorem compL_S (t : Tg) (e : ME) (l0 : Lo) (S1 : Sto) (f : DV → DV) : ∀ (xs acc : List DV), (∀ x ∈ xs, ∃ l1, t x l0 = some l1 ∧ noRef (f x) = true ∧ ∀ acc, e l1 (S1 ++ [.lst acc]) = .ok (f x) (S1 ++ [.lst acc])) → acc.length + xs.length ≤ 1000000 →
    compL t tYes e [] l0 S1.length xs (S1 ++ [.lst acc]) = .ok () (S1 ++ [.lst (acc ++ xs.map f)])
  | [], acc, _, _ => by
    unfold compL
    rw [if_pos (show held _ [] = true from rfl)]
    simp
  | x :: xs, acc, h, hl => by
    obtain ⟨l1, h1, h2, h3⟩ := h x List.mem_cons_self
    simp only [List.length_cons] at hl
    unfold compL
    rw [if_pos (show held _ [] = true from rfl), h1]
    simp only [tYes, bind_ok', h3]
    rw [if_pos trivial]
    simp only [get_app0, List.getElem?_cons_zero]
    rw [if_pos ⟨by simp only [LIM_def]; omega, h2⟩, set_app0]
    have ih := compL_S t e l0 S1 f xs (acc ++ [f x]) (fun y m => h y (List.mem_cons_of_mem _ m)) (by simp; omega)
    simp only [List.set_cons_zero]
    rw [ih]
    simp
/-- each element by itself, the store at hand -/
theorem comp_eachS (own : List Nat) (t : Tg) (i : MI) (e : ME) (l : Lo) (S S1 : Sto) (xs : List DV) (G : DV → DV → Prop) (hi : i l S = .ok (xs, []) S1) (hl : xs.length ≤ 1000000)
    (h : ∀ x ∈ xs, ∃ l1 d, t x (wipeL l own) = some l1 ∧ G x d ∧ noRef d = true ∧ ∀ acc, e l1 (S1 ++ [.lst acc]) = .ok d (S1 ++ [.lst acc])) :
    ∃ f : DV → DV, (∀ x ∈ xs, G x (f x) ∧ noRef (f x) = true) ∧ comp own t i tYes e l S = .ok (.lst (xs.map f)) S1 := by
  classical
  have hc : ∀ x, ∃ d, x ∈ xs → ∃ l1, t x (wipeL l own) = some l1 ∧ G x d ∧ noRef d = true ∧ ∀ acc, e l1 (S1 ++ [.lst acc]) = .ok d (S1 ++ [.lst acc]) := fun x => by
    by_cases m : x ∈ xs
    · obtain ⟨l1, d, q⟩ := h x m
      exact ⟨d, fun _ => ⟨l1, q⟩⟩
    · exact ⟨.non, fun q => absurd q m⟩
  refine ⟨fun x => Classical.choose (hc x), fun x m => ?_, ?_⟩
  · obtain ⟨l1, _, q1, q2, _⟩ := Classical.choose_spec (hc x) m
    exact ⟨q1, q2⟩
  · unfold comp
    rw [hi]
    simp only [bind_ok']
    rw [compL_S t e (wipeL l own) S1 (fun x => Classical.choose (hc x)) xs [] (fun x m => ?_) (by simpa using hl)]
    · simp
    · obtain ⟨l1, q0, _, q2, q3⟩ := Classical.choose_spec (hc x) m
      exact ⟨l1, q0, q2, q3⟩
/-- each element told exactly, the store at hand -/
theorem comp_S (own : List Nat) (t : Tg) (i : MI) (e : ME) (l : Lo) (S S1 : Sto) (xs : List DV) (f : DV → DV) (hi : i l S = .ok (xs, []) S1) (hl : xs.length ≤ 1000000)
    (h : ∀ x ∈ xs, ∃ l1, t x (wipeL l own) = some l1 ∧ noRef (f x) = true ∧ ∀ acc, e l1 (S1 ++ [.lst acc]) = .ok (f x) (S1 ++ [.lst acc])) : comp own t i tYes e l S = .ok (.lst (xs.map f)) S1 := by
  unfold comp
  rw [hi]
  simp only [bind_ok']
  rw [compL_S t e (wipeL l own) S1 f xs [] h (by simpa using hl)]
  simp
/-- a text of signs -/
def txtOf (cs : List Nat) : Str := ⟨cs.toArray⟩
theorem join_single : ∀ cs : List Nat, Txt.join (Str.ofString "") (cs.map fun c => (⟨#[c]⟩ : Str)) = txtOf cs := by
  intro cs
  rw [TL.join_eq]
  have e0 : (Str.ofString "") = ⟨#[]⟩ := by decide +kernel
  rw [e0]
  induction cs with
  | nil => rfl
  | cons c cs ih =>
    cases cs with
    | nil => rfl
    | cons d cs =>
      show ((⟨#[c]⟩ : Str) ++ ⟨#[]⟩) ++ Str.join ⟨#[]⟩ ((d :: cs).map fun c => (⟨#[c]⟩ : Str)) = _
      rw [ih]
      show (⟨(#[c] ++ #[]) ++ (d :: cs).toArray⟩ : Str) = ⟨(c :: d :: cs).toArray⟩
      simp
theorem txtOf_inj {a b : List Nat} (h : txtOf a = txtOf b) : a = b := by
  have := congrArg (fun z : Str => z.cps.toList) h
  simpa [txtOf] using this
theorem txtOf_len (a : List Nat) : (txtOf a).length = a.length := by
  show a.toArray.size = _
  simp
end Y
/-! Running walks over dicts and the rest by simp. -/
namespace Y
open PySem
section
variable (l : Lo) (S : Sto) (a b e k i : ME) (x y d : DV) (xs ys : List DV) (m : MS) (t : Tg)
@[simp] theorem crash_run : crash l S = .bad := rfl
@[simp] theorem crashE_run : crashE l S = .bad := rfl
theorem forD_run (f : List (Key × DV) → List DV) : forD t f a m l S = (a l S).bind fun x S1 => match x with
  | .ref k => match S1[k]? with
    | some (.dk kvs) => (loop t m [] (f kvs) l (S1.set k (.fz kvs))).bind fun fl S2 => .ok fl (S2.set k (.dk kvs))
    | some (.fz kvs) => loop t m [] (f kvs) l S1
    | _ => .bad
  | .dk kvs => noExc (loop t m [] (f kvs) l S1)
  | .fz kvs => noExc (loop t m [] (f kvs) l S1)
  | _ => .bad := rfl
@[simp] theorem noExc_ok {α : Type} (v : α) : noExc (.ok v S) = .ok v S := rfl
@[simp] theorem augA_run (n : Nat) (f : Int → Int → Int) : augA n f e l S = match l[n]? with
  | some (some (.int a)) => (e l S).bind fun y S1 => (match y with
    | .int b => .ok (.nx (l.set n (some (.int (f a b))))) S1
    | _ => .bad)
  | _ => .bad := rfl
@[simp] theorem rep_run : rep a b l S = (a l S).bind fun x S1 => (b l S1).bind fun y S2 => Out.of (repV S2 x y) S2 := rfl
@[simp] theorem repV_tup (n : Int) : repV S (.tup xs) (.int n) = if xs ≠ [] ∧ 2 ≤ n ∧ n ≤ 1000 ∧ xs.length ≤ 1000 then some (.tup (List.replicate n.toNat xs).flatten) else none := rfl
@[simp] theorem getE1_run : getE1 a k l S = (a l S).bind fun u S1 => if (dkOf S1 u).isSome = true then (k l S1).bind fun j S3 => (match dkOf S3 u, keyOf j with
  | some kvs, some j => .ok ((getK kvs j).getD .non) S3
  | _, _ => .bad) else .bad := rfl
@[simp] theorem setdE_run : setdE a k e l S = (a l S).bind fun u S1 => if (dkOf S1 u).isSome = true then (k l S1).bind fun j S2 => (e l S2).bind fun z S3 => (match u, keyOf j with
  | .ref i, some j => match S3[i]? with
    | some (.dk kvs) => if kvs.length < LIM ∧ noRef z = true then (match getK kvs j with
      | some d => .ok d S3
      | none => .ok z (S3.set i (.dk (putD kvs j z)))) else .bad
    | _ => .bad
  | _, _ => .bad) else .bad := rfl
@[simp] theorem listX_run : listX a l S = (a l S).bind fun x S1 => Out.of (listXV S1 x) S1 := rfl
theorem listXV_dk {kvs} (h : dkOf S x = some kvs) : listXV S x = some (.lst (dKeys kvs)) := by unfold listXV; rw [h]
@[simp] theorem isB_run : isB a b l S = (a l S).bind fun x S1 => (b l S1).bind fun y S2 => Out.of ((isBV x y).map .bl) S2 := rfl
@[simp] theorem isBV_bl (p q : Bool) : isBV (.bl p) (.bl q) = some (decide (p = q)) := rfl
@[simp] theorem src0_run : src0 xs l S = .ok (xs, []) S := rfl
theorem compD_run (own : List Nat) (f : List (Key × DV) → List DV) (c : MT) : compD own t f c e a l S = (a l S).bind fun x S1 => match x with
  | .ref k => match S1[k]? with
    | some (.dk kvs) => (comp own t (src0 (f kvs)) c e l (S1.set k (.fz kvs))).bind fun y S2 => .ok y (S2.set k (.dk kvs))
    | some (.fz kvs) => comp own t (src0 (f kvs)) c e l S1
    | _ => .bad
  | .dk kvs => comp own t (src0 (f kvs)) c e l S1
  | .fz kvs => comp own t (src0 (f kvs)) c e l S1
  | _ => .bad := rfl
@[simp] theorem chE_run (f g : DV → DV → Option Bool) : chE f g a b e l S = (a l S).bind fun x S1 => (b l S1).bind fun y S2 => match f x y with
  | some true => (e l S2).bind fun z S3 => Out.of ((g y z).map .bl) S3
  | some false => .ok (.bl false) S2
  | none => .bad := rfl
@[simp] theorem maxE_run : maxE a l S = (a l S).bind fun x S1 => Out.of (maxV S1 x) S1 := rfl
@[simp] theorem lenX_run : lenX a l S = (a l S).bind fun x S1 => Out.of (dkOr (fun kvs => some (.int kvs.length)) lenV S1 x) S1 := rfl
@[simp] theorem sortX_run : sortX a l S = (a l S).bind fun x S1 => Out.of (dkOr (fun kvs => match strs? kvs with
    | some ks => if ks.length < 64 then some (.lst ((sortS ks).map .str)) else none
    | none => none) sortLV S1 x) S1 := rfl
theorem dkOr_dk {g : List (Key × DV) → Option DV} {f : Sto → DV → Option DV} {kvs} (h : dkOf S x = some kvs) : dkOr g f S x = g kvs := by unfold dkOr; rw [h]
theorem dkOr_no {g : List (Key × DV) → Option DV} {f : Sto → DV → Option DV} (h : dkOf S x = none) : dkOr g f S x = f S x := by unfold dkOr; rw [h]
@[simp] theorem dkOr_ref {g : List (Key × DV) → Option DV} {f : Sto → DV → Option DV} (k : Nat) : dkOr g f S (.ref k) = match S[k]? with
    | some (.dk kvs) => g kvs
    | some (.fz kvs) => g kvs
    | _ => f S (.ref k) := by
  cases e : S[k]? with
  | none => exact dkOr_no S _ (by simp [e])
  | some y =>
    cases y with
    | dk kvs => exact dkOr_dk S _ (by simp [e])
    | fz kvs => exact dkOr_dk S _ (by simp [e])
    | _ => exact dkOr_no S _ (by simp [e])
@[simp] theorem dkOr_dkv {g : List (Key × DV) → Option DV} {f : Sto → DV → Option DV} (kvs) : dkOr g f S (.dk kvs) = g kvs := dkOr_dk S _ (by simp)
@[simp] theorem dkOr_lst {g : List (Key × DV) → Option DV} {f : Sto → DV → Option DV} : dkOr g f S (.lst xs) = f S (.lst xs) := dkOr_no S _ (by simp)
@[simp] theorem dkOr_tup {g : List (Key × DV) → Option DV} {f : Sto → DV → Option DV} : dkOr g f S (.tup xs) = f S (.tup xs) := dkOr_no S _ (by simp)
@[simp] theorem clrD_run : clrD a l S = (a l S).bind fun x S1 => match x with
  | .ref k => match S1[k]? with
    | some (.dk _) => .ok (.nx l) (S1.set k (.dk []))
    | _ => .bad
  | _ => .bad := rfl
@[simp] theorem clrL_run : clrL a l S = (a l S).bind fun x S1 => match x with
  | .ref k => match S1[k]? with
    | some (.lst _) => .ok (.nx l) (S1.set k (.lst []))
    | _ => .bad
  | _ => .bad := rfl
@[simp] theorem ext_run : ext a e l S = (a l S).bind fun x S1 => if (lstOf S1 x).isSome = true then (e l S1).bind fun y S2 => (match x with
  | .ref k => match S2[k]?, lstOf S2 y with
    | some (.lst xs), some ys => if xs.length + ys.length ≤ LIM ∧ noRefs ys = true then .ok (.nx l) (S2.set k (.lst (xs ++ ys))) else .bad
    | _, _ => .bad
  | _ => .bad) else .bad := rfl
@[simp] theorem callD_run' (f : Ora) (ds : List DV) (r : MA) : callD f ds r l S = (r l S).bind fun xs S1 => match f (xs ++ ds) S1 with
  | .ok (d, _) S2 => .ok d S2
  | .exc c d _ S2 => .exc c d l S2
  | .bad => .bad := rfl
open Classical in
@[simp] theorem sRange3_run (c : ME) : sRange3 a b c l S = (a l S).bind fun x S1 => (b l S1).bind fun y S2 => (c l S2).bind fun z S3 => match x, y, z with
  | .int i, .int j, .int k => if L2.RgC i j k (Builtin.Range.rangeSize i j k).toNat then .ok ((List.range (Builtin.Range.rangeSize i j k).toNat).map fun (t : Nat) => DV.int (i + (t : Int) * k), []) S3 else .bad
  | _, _, _ => .bad := rfl
/-- locked and unlocked -/
theorem set_back {S : Sto} {k : Nat} {u v : DV} (h : S[k]? = some v) : (S.set k u).set k v = S := by
  rw [List.set_set]
  refine List.ext_getElem? fun j => ?_
  by_cases hj : j = k
  · subst hj; rw [List.getElem?_set_self (List.getElem?_eq_some_iff.mp h).1, h]
  · rw [List.getElem?_set_ne (Ne.symm hj)]
end
@[simp] theorem ixAV_refS (S : Sto) (k : Nat) (x : Str) : ixAV S (.ref k) (.str x) = match S[k]? with
    | some (.dk kvs) => getK kvs (.inr x)
    | some (.fz kvs) => getK kvs (.inr x)
    | _ => none := by
  cases e : S[k]? with
  | none => rw [ixAV_no S _ _ (by simp [e])]; simp [ixV]
  | some y =>
    cases y with
    | dk kvs => rw [ixAV_dk S _ _ (kvs := kvs) (j := .inr x) (by simp [e]) (by simp)]
    | fz kvs => rw [ixAV_dk S _ _ (kvs := kvs) (j := .inr x) (by simp [e]) (by simp)]
    | _ => rw [ixAV_no S _ _ (by simp [e])]; simp [ixV]
@[simp] theorem ixAV_dkS (S : Sto) (kvs : List (Key × DV)) (x : Str) : ixAV S (.dk kvs) (.str x) = getK kvs (.inr x) := ixAV_dk S _ _ (by simp) (by simp)
@[simp] theorem ixAV_dkI (S : Sto) (kvs : List (Key × DV)) (x : Int) : ixAV S (.dk kvs) (.int x) = getK kvs (.inl x) := ixAV_dk S _ _ (by simp) (by simp)
@[simp] theorem inAV_refS (S : Sto) (k : Nat) (x : Str) : inAV S (.str x) (.ref k) = match S[k]? with
    | some (.dk kvs) => some (getK kvs (.inr x)).isSome
    | some (.fz kvs) => some (getK kvs (.inr x)).isSome
    | _ => inV S (.str x) (.ref k) := by
  cases e : S[k]? with
  | none => rw [inAV_no S _ _ (by simp [e])]
  | some y =>
    cases y with
    | dk kvs => rw [inAV_dk S _ _ (kvs := kvs) (j := .inr x) (by simp [e]) (by simp)]
    | fz kvs => rw [inAV_dk S _ _ (kvs := kvs) (j := .inr x) (by simp [e]) (by simp)]
    | _ => rw [inAV_no S _ _ (by simp [e])]
@[simp] theorem inAV_dkS (S : Sto) (kvs : List (Key × DV)) (x : Str) : inAV S (.str x) (.dk kvs) = some (getK kvs (.inr x)).isSome := inAV_dk S _ _ (by simp) (by simp)
/-! ### dicts compared -/
theorem eqAV_dk (S : Sto) (x y : DV) {ks ls : List (Key × DV)} (h : dkOf S x = some ks) (h' : dkOf S y = some ls) : eqAV S x y = if ks.length = ls.length then allK ls ks else some false := by
  unfold eqAV eqKV
  rw [h, h']
  rfl
theorem getK_self {ks : List (Key × DV)} (nd : (ks.map (·.1)).Nodup) : ∀ p ∈ ks, getK ks p.1 = some p.2 := by
  induction ks with
  | nil => simp
  | cons q r ih =>
    obtain ⟨k, v⟩ := q
    rw [List.map_cons, List.nodup_cons] at nd
    intro p hp
    rcases List.mem_cons.mp hp with rfl | hp
    · simp [getK]
    · have hne : ¬ k = p.1 := fun z => nd.1 (by rw [z]; exact List.mem_map.mpr ⟨p, hp, rfl⟩)
      have := ih nd.2 p hp
      simp only [getK] at this ⊢
      rw [List.find?_cons]
      simp [hne, this]
theorem allK_same (ls : List (Key × DV)) : ∀ ks : List (Key × DV), (∀ p ∈ ks, getK ls p.1 = some p.2 ∧ valEq p.2 p.2 = some true) → allK ls ks = some true
  | [], _ => rfl
  | (k, v) :: r, h => by
    obtain ⟨h1, h2⟩ := h (k, v) List.mem_cons_self
    simp only [allK]
    dsimp only at h1 h2
    rw [h1]
    dsimp only
    rw [h2, allK_same ls r fun p m => h p (List.mem_cons_of_mem _ m)]
    rfl
theorem valEq_plain {x : DV} (h : plain 60 x = true) : valEq x x = some true := by
  unfold valEq
  split
  · simp
  · rw [if_pos ⟨h, h⟩, eqB_self]
/-- a dict and itself -/
theorem eqAV_same (S : Sto) (x y : DV) {ks : List (Key × DV)} (h : dkOf S x = some ks) (h' : dkOf S y = some ks) (nd : (ks.map (·.1)).Nodup) (hp : ∀ p ∈ ks, plain 60 p.2 = true) : eqAV S x y = some true := by
  rw [eqAV_dk S x y h h', if_pos rfl]
  exact allK_same ks ks fun p m => ⟨getK_self nd p m, valEq_plain (hp p m)⟩
end Y
/-! What an outcome must be: by the rest. -/
namespace Y
open PySem
def Wp {α : Type} (o : Out α) (Q : α → Sto → Prop) : Prop := match o with
  | .ok a S => Q a S
  | _ => False
section
variable {α β : Type}
@[simp] theorem Wp_ok (a : α) (S : Sto) (Q : α → Sto → Prop) : Wp (.ok a S) Q = Q a S := rfl
@[simp] theorem Wp_bad (Q : α → Sto → Prop) : Wp (.bad : Out α) Q = False := rfl
@[simp] theorem Wp_bind (o : Out α) (f : α → Sto → Out β) (Q : β → Sto → Prop) : Wp (o.bind f) Q = Wp o fun a S => Wp (f a S) Q := by
  cases o <;> rfl
@[simp] theorem Wp_ite (p : Prop) [Decidable p] (a b : Out α) (Q : α → Sto → Prop) : Wp (if p then a else b) Q = if p then Wp a Q else Wp b Q := by split <;> rfl
theorem Wp.ex {o : Out α} {Q : α → Sto → Prop} (h : Wp o Q) : ∃ a S, o = .ok a S ∧ Q a S := by
  cases o with
  | ok a S => exact ⟨a, S, rfl, h⟩
  | exc _ _ _ _ => exact False.elim h
  | bad => exact False.elim h
theorem Wp.imp {o : Out α} {Q Q' : α → Sto → Prop} (h : Wp o Q) (k : ∀ a S, Q a S → Q' a S) : Wp o Q' := by
  cases o with
  | ok a S => exact k a S h
  | exc _ _ _ _ => exact h
  | bad => exact h
theorem Wp.eq {o : Out α} {a : α} {S : Sto} (h : Wp o fun b T => b = a ∧ T = S) : o = .ok a S := by
  obtain ⟨b, T, h, e1, e2⟩ := h.ex
  rw [h, e1, e2]
theorem Wp.of_eq {o : Out α} {a : α} {S : Sto} {Q : α → Sto → Prop} (h : o = .ok a S) (q : Q a S) : Wp o Q := by rw [h]; exact q
end
theorem Wp_fn {n : Nat} {m : MS} {args : List DV} {S : Sto} {Q : DV × Bool → Sto → Prop} (h : Wp (m (args.map some ++ List.replicate (n - args.length) none) S) fun f S1 => match f with
    | .rt d => Wp (leave S.length d S1) Q
    | .nx _ => Wp (leave S.length .non S1) Q
    | _ => False) : Wp (fn n m args S) Q := by
  obtain ⟨f, S1, e, q⟩ := h.ex
  rw [fn_run, e]
  cases f with
  | nx l => exact q
  | rt d => exact q
  | bk l => exact False.elim q
  | ct l => exact False.elim q
/-- a loop by what holds ahead of each turn: the items left, the slots, the store -/
theorem Wp_loop {t : Tg} {m : MS} {Q : Fl → Sto → Prop} (I : List DV → Lo → Sto → Prop) (hs : ∀ x xs l S, I (x :: xs) l S → ∃ l1, t x l = some l1 ∧ Wp (m l1 S) fun f S' => match f with
      | .nx l2 => I xs l2 S'
      | .ct l2 => I xs l2 S'
      | .bk l2 => Q (.nx l2) S'
      | .rt d => Q (.rt d) S') (hd : ∀ l S, I [] l S → Q (.nx l) S) : ∀ (xs : List DV) (l : Lo) (S : Sto), I xs l S → Wp (loop t m [] xs l S) Q
  | [], l, S, h => by rw [loop_nil]; exact hd l S h
  | x :: xs, l, S, h => by
    obtain ⟨l1, h1, h2⟩ := hs x xs l S h
    rw [loop_cons, h1]
    dsimp only
    rw [Wp_bind]
    refine h2.imp fun f S' q => ?_
    cases f with
    | nx l2 => exact Wp_loop I hs hd xs l2 S' q
    | ct l2 => exact Wp_loop I hs hd xs l2 S' q
    | bk l2 => exact q
    | rt d => exact q
/-- .. over things of one form -/
theorem Wp_map {γ : Type} (e : γ → DV) {t : Tg} {m : MS} {Q : Fl → Sto → Prop} (I : List γ → Lo → Sto → Prop) (ys : List γ) (l : Lo) (S : Sto) (h0 : I ys l S) (hs : ∀ y ys l S, I (y :: ys) l S → ∃ l1, t (e y) l = some l1 ∧ Wp (m l1 S) fun f S' => match f with
      | .nx l2 => I ys l2 S'
      | .ct l2 => I ys l2 S'
      | .bk l2 => Q (.nx l2) S'
      | .rt d => Q (.rt d) S') (hd : ∀ l S, I [] l S → Q (.nx l) S) : Wp (loop t m [] (ys.map e) l S) Q := by
  refine Wp_loop (fun xs l S => ∃ ys : List γ, xs = ys.map e ∧ I ys l S) ?_ ?_ _ l S ⟨ys, rfl, h0⟩
  · rintro x xs l S ⟨ys, h1, h2⟩
    cases ys with
    | nil => cases h1
    | cons y ys =>
      rw [List.map_cons, List.cons.injEq] at h1
      obtain ⟨rfl, rfl⟩ := h1
      obtain ⟨l1, h3, h4⟩ := hs y ys l S h2
      refine ⟨l1, h3, h4.imp fun f S' q => ?_⟩
      cases f with
      | nx l2 => exact ⟨ys, rfl, q⟩
      | ct l2 => exact ⟨ys, rfl, q⟩
      | bk l2 => exact q
      | rt d => exact q
  · rintro l S ⟨ys, h1, h2⟩
    cases ys with
    | nil => exact hd l S h2
    | cons y ys => cases h1
/-- .. over range(n): k turns are done -/
theorem Wp_range {n : Nat} {t : Tg} {m : MS} {Q : Fl → Sto → Prop} (I : Nat → Lo → Sto → Prop) (l : Lo) (S : Sto) (h0 : I 0 l S) (hs : ∀ k l S, k < n → I k l S → ∃ l1, t (.int (k : Int)) l = some l1 ∧ Wp (m l1 S) fun f S' => match f with
      | .nx l2 => I (k + 1) l2 S'
      | .ct l2 => I (k + 1) l2 S'
      | .bk l2 => Q (.nx l2) S'
      | .rt d => Q (.rt d) S') (hd : ∀ l S, I n l S → Q (.nx l) S) : Wp (loop t m [] (rngD 0 n) l S) Q := by
  rw [rngD_at]
  refine Wp_map (fun (i : Nat) => DV.int (i : Int)) (fun ys l S => ∃ k, ys = List.range' k (n - k) ∧ k ≤ n ∧ I k l S) _ l S ⟨0, rfl, Nat.zero_le _, h0⟩ ?_ ?_
  · rintro y ys l S ⟨k, h1, h2, h3⟩
    have hk : k < n := by
      rcases Nat.lt_or_ge k n with h | h
      · exact h
      · rw [Nat.sub_eq_zero_of_le h] at h1; cases h1
    rw [show n - k = (n - (k + 1)) + 1 by omega, List.range'_succ, List.cons.injEq] at h1
    obtain ⟨rfl, rfl⟩ := h1
    obtain ⟨l1, h4, h5⟩ := hs y l S hk h3
    refine ⟨l1, h4, h5.imp fun f S' q => ?_⟩
    cases f with
    | nx l2 => exact ⟨y + 1, rfl, hk, q⟩
    | ct l2 => exact ⟨y + 1, rfl, hk, q⟩
    | bk l2 => exact q
    | rt d => exact q
  · rintro l S ⟨k, h1, h2, h3⟩
    have : k = n := by
      rcases Nat.lt_or_ge k n with h | h
      · rw [show n - k = (n - (k + 1)) + 1 by omega, List.range'_succ] at h1; cases h1
      · omega
    subst this
    exact hd l S h3
/-- a while by a measure -/
theorem Wp_whileN {c : MT} {m : MS} {Q : Fl → Sto → Prop} (I : Nat → Lo → Sto → Prop) (hs : ∀ k l S, I k l S → Wp (c l S) fun b S1 => if b = true then Wp (m l S1) fun f S2 => (match f with
      | .nx l2 => ∃ k', k' < k ∧ I k' l2 S2
      | .ct l2 => ∃ k', k' < k ∧ I k' l2 S2
      | .bk l2 => Q (.nx l2) S2
      | .rt d => Q (.rt d) S2) else Q (.nx l) S1) : ∀ (n k : Nat) (l : Lo) (S : Sto), k < n → I k l S → Wp (whileN c m n l S) Q
  | 0, k, l, S, hk, _ => absurd hk (Nat.not_lt_zero k)
  | n + 1, k, l, S, hk, h => by
    unfold whileN
    rw [Wp_bind]
    refine (hs k l S h).imp fun b S1 q => ?_
    rw [Wp_ite, Wp_bind]
    cases b with
    | false => exact q
    | true =>
      rw [if_pos rfl] at q ⊢
      refine q.imp fun f S2 r => ?_
      cases f with
      | nx l2 => obtain ⟨k', h1, h2⟩ := r; exact Wp_whileN I hs n k' l2 S2 (by omega) h2
      | ct l2 => obtain ⟨k', h1, h2⟩ := r; exact Wp_whileN I hs n k' l2 S2 (by omega) h2
      | bk l2 => exact r
      | rt d => exact r
theorem Wp_while {c : MT} {m : MS} {Q : Fl → Sto → Prop} (I : Nat → Lo → Sto → Prop) (k : Nat) (l : Lo) (S : Sto) (hk : k < 1000000) (h0 : I k l S) (hs : ∀ k l S, I k l S → Wp (c l S) fun b S1 => if b = true then Wp (m l S1) fun f S2 => (match f with
      | .nx l2 => ∃ k', k' < k ∧ I k' l2 S2
      | .ct l2 => ∃ k', k' < k ∧ I k' l2 S2
      | .bk l2 => Q (.nx l2) S2
      | .rt d => Q (.rt d) S2) else Q (.nx l) S1) : Wp (whileS c m l S) Q := Wp_whileN I hs TURNS k l S hk h0
inductive All2 {α β : Type} (G : α → β → Prop) : List α → List β → Prop
  | nil : All2 G [] []
  | cons {a b as bs} : G a b → All2 G as bs → All2 G (a :: as) (b :: bs)
theorem All2.length {α β : Type} {G : α → β → Prop} {as : List α} {bs : List β} (h : All2 G as bs) : as.length = bs.length := by
  induction h with
  | nil => rfl
  | cons _ _ ih => simp [ih]
theorem All2.right {α β : Type} {G : α → β → Prop} {P : β → Prop} (k : ∀ a b, G a b → P b) {as : List α} {bs : List β} (h : All2 G as bs) : ∀ b ∈ bs, P b := by
  induction h with
  | nil => simp
  | cons g _ ih =>
    intro b m
    rcases List.mem_cons.mp m with rfl | m
    · exact k _ _ g
    · exact ih b m
/-- each item is of some form -/
theorem All2.map {α γ : Type} {G : α → DV → Prop} {P : γ → Prop} {e : γ → DV} (k : ∀ a b, G a b → ∃ c, P c ∧ b = e c) {as : List α} {bs : List DV} (h : All2 G as bs) : ∃ cs : List γ, (∀ c ∈ cs, P c) ∧ bs = cs.map e ∧ cs.length = as.length := by
  induction h with
  | nil => exact ⟨[], by simp, rfl, rfl⟩
  | cons g _ ih =>
    obtain ⟨c, h1, h2⟩ := k _ _ g
    obtain ⟨cs, h3, h4, h5⟩ := ih
    exact ⟨c :: cs, fun x m => by
      rcases List.mem_cons.mp m with rfl | m
      · exact h1
      · exact h3 x m, by rw [h2, h4]; rfl, by simp [h5]⟩
theorem Wp_compL {t : Tg} {c : MT} {e : ME} {l0 : Lo} {S1 : Sto} {p : DV → Bool} {G : DV → DV → Prop} {Q : Unit → Sto → Prop} : ∀ (xs acc : List DV), (∀ x ∈ xs, ∃ l1, t x l0 = some l1 ∧ ∀ acc, (∀ S, S = S1 ++ [.lst acc] → c l1 S = .ok (p x) S ∧ (p x = true → Wp (e l1 S) fun d S' => S' = S ∧ noRef d = true ∧ G x d))) → acc.length + xs.length ≤ 1000000 →
    (∀ ys, All2 G (xs.filter p) ys → Q () (S1 ++ [.lst (acc ++ ys)])) → Wp (compL t c e [] l0 S1.length xs (S1 ++ [.lst acc])) Q
  | [], acc, _, _, hq => by
    unfold compL
    rw [if_pos (show held _ [] = true from rfl)]
    have := hq [] .nil
    simpa using this
  | x :: xs, acc, h, hl, hq => by
    obtain ⟨l1, h1, h2⟩ := h x List.mem_cons_self
    simp only [List.length_cons] at hl
    unfold compL
    rw [if_pos (show held _ [] = true from rfl), h1]
    obtain ⟨h3, h4⟩ := h2 acc _ rfl
    simp only [h3, bind_ok']
    cases hp : p x with
    | false =>
      rw [if_neg (by decide)]
      refine Wp_compL xs acc (fun y m => h y (List.mem_cons_of_mem _ m)) (by omega) fun ys hy => hq ys ?_
      rw [List.filter_cons_of_neg (by simp [hp])]
      exact hy
    | true =>
      rw [if_pos rfl]
      obtain ⟨d, S', e1, e2, e3, e4⟩ := (h4 hp).ex
      rw [e1, e2]
      simp only [bind_ok', get_app0, List.getElem?_cons_zero]
      rw [if_pos ⟨by simp only [LIM_def]; omega, e3⟩, set_app0]
      simp only [List.set_cons_zero]
      refine Wp_compL xs (acc ++ [d]) (fun y m => h y (List.mem_cons_of_mem _ m)) (by simp; omega) fun ys hy => ?_
      have := hq (d :: ys) (by rw [List.filter_cons_of_pos hp]; exact .cons e4 hy)
      simpa using this
/-- a comprehension: each item by itself -/
theorem Wp_comp {own : List Nat} {t : Tg} {i : MI} {c : MT} {e : ME} {l : Lo} {S S1 : Sto} {xs : List DV} {Q : DV → Sto → Prop} (p : DV → Bool) (G : DV → DV → Prop) (hi : i l S = .ok (xs, []) S1) (hl : xs.length ≤ 1000000)
    (h : ∀ x ∈ xs, ∃ l1, t x (wipeL l own) = some l1 ∧ ∀ acc, (∀ S, S = S1 ++ [.lst acc] → c l1 S = .ok (p x) S ∧ (p x = true → Wp (e l1 S) fun d S' => S' = S ∧ noRef d = true ∧ G x d)))
    (hq : ∀ ys, All2 G (xs.filter p) ys → Q (.lst ys) S1) : Wp (comp own t i c e l S) Q := by
  unfold comp
  rw [hi]
  simp only [bind_ok']
  have := Wp_compL (t := t) (c := c) (e := e) (l0 := wipeL l own) (S1 := S1) (p := p) (G := G) (Q := fun _ S2 => ∃ ys, All2 G (xs.filter p) ys ∧ S2 = S1 ++ [.lst ys]) xs [] h (by simpa using hl) fun ys hy => ⟨ys, hy, by simp⟩
  obtain ⟨u, S2, e1, ys, hy, rfl⟩ := this.ex
  rw [e1]
  simp
  exact hq ys hy
theorem Wp_compR {own : List Nat} {t : Tg} {i : MI} {c : MT} {e : ME} {l : Lo} {S S1 : Sto} {xs : List DV} {Q : DV → Sto → Prop} (p : DV → Bool) (G : DV → DV → Prop) (hi : i l S = .ok (xs, []) S1) (hl : xs.length ≤ 1000000)
    (h : ∀ x ∈ xs, ∃ l1, t x (wipeL l own) = some l1 ∧ ∀ acc, (∀ S, S = S1 ++ [.lst acc] → c l1 S = .ok (p x) S ∧ (p x = true → Wp (e l1 S) fun d S' => S' = S ∧ noRef d = true ∧ G x d)))
    (hq : ∀ ys, All2 G (xs.filter p) ys → Q (.ref S1.length) (S1 ++ [.lst ys])) : Wp (compR own t i c e l S) Q := by
  unfold compR
  rw [hi]
  simp only [bind_ok']
  have := Wp_compL (t := t) (c := c) (e := e) (l0 := wipeL l own) (S1 := S1) (p := p) (G := G) (Q := fun _ S2 => ∃ ys, All2 G (xs.filter p) ys ∧ S2 = S1 ++ [.lst ys]) xs [] h (by simpa using hl) fun ys hy => ⟨ys, hy, by simp⟩
  obtain ⟨u, S2, e1, ys, hy, rfl⟩ := this.ex
  rw [e1]
  simp
  exact hq ys hy
/-- .. of no tests -/
theorem Wp_comp1 {own : List Nat} {t : Tg} {i : MI} {e : ME} {l : Lo} {S S1 : Sto} {xs : List DV} {Q : DV → Sto → Prop} (G : DV → DV → Prop) (hi : i l S = .ok (xs, []) S1) (hl : xs.length ≤ 1000000)
    (h : ∀ x ∈ xs, ∃ l1, t x (wipeL l own) = some l1 ∧ ∀ acc, Wp (e l1 (S1 ++ [.lst acc])) fun d S' => S' = S1 ++ [.lst acc] ∧ noRef d = true ∧ G x d)
    (hq : ∀ ys, All2 G xs ys → Q (.lst ys) S1) : Wp (comp own t i tYes e l S) Q :=
  Wp_comp (fun _ => true) G hi hl (fun x m => by
    obtain ⟨l1, h1, h2⟩ := h x m
    exact ⟨l1, h1, fun acc S e => ⟨rfl, fun _ => by rw [e]; exact h2 acc⟩⟩) fun ys hy => hq ys (by rwa [List.filter_eq_self.mpr fun _ _ => rfl] at hy)
theorem Wp_compR1 {own : List Nat} {t : Tg} {i : MI} {e : ME} {l : Lo} {S S1 : Sto} {xs : List DV} {Q : DV → Sto → Prop} (G : DV → DV → Prop) (hi : i l S = .ok (xs, []) S1) (hl : xs.length ≤ 1000000)
    (h : ∀ x ∈ xs, ∃ l1, t x (wipeL l own) = some l1 ∧ ∀ acc, Wp (e l1 (S1 ++ [.lst acc])) fun d S' => S' = S1 ++ [.lst acc] ∧ noRef d = true ∧ G x d)
    (hq : ∀ ys, All2 G xs ys → Q (.ref S1.length) (S1 ++ [.lst ys])) : Wp (compR own t i tYes e l S) Q :=
  Wp_compR (fun _ => true) G hi hl (fun x m => by
    obtain ⟨l1, h1, h2⟩ := h x m
    exact ⟨l1, h1, fun acc S e => ⟨rfl, fun _ => by rw [e]; exact h2 acc⟩⟩) fun ys hy => hq ys (by rwa [List.filter_eq_self.mpr fun _ _ => rfl] at hy)
/-! ### with guards -/
theorem held_one {S : Sto} {k : Nat} {x : DV} (h : S[k]? = some x) : held S [(k, x)] = true := by
  simp [held, h, eqB_self]
theorem held_more {S L : Sto} {gs : List (Nat × DV)} (h : held S gs = true) : held (S ++ L) gs = true := by
  unfold held at *
  rw [List.all_eq_true] at *
  intro g m
  have := h g m
  cases e : S[g.1]? with
  | none => rw [e] at this; exact absurd this Bool.false_ne_true
  | some y =>
    rw [e] at this
    rw [List.getElem?_append_left (List.getElem?_eq_some_iff.mp e).1, e]
    exact this
theorem guard_ref {S : Sto} {k : Nat} {x : DV} (h : S[k]? = some x) : guardOf S (.ref k) = [(k, x)] := by
  simp [guardOf, h]
theorem Wp_loopG {gs : List (Nat × DV)} {t : Tg} {m : MS} {Q : Fl → Sto → Prop} (I : List DV → Lo → Sto → Prop) (hg : ∀ xs l S, I xs l S → held S gs = true) (hs : ∀ x xs l S, I (x :: xs) l S → ∃ l1, t x l = some l1 ∧ Wp (m l1 S) fun f S' => match f with
      | .nx l2 => I xs l2 S'
      | .ct l2 => I xs l2 S'
      | .bk l2 => Q (.nx l2) S'
      | .rt d => Q (.rt d) S') (hd : ∀ l S, I [] l S → Q (.nx l) S) : ∀ (xs : List DV) (l : Lo) (S : Sto), I xs l S → Wp (loop t m gs xs l S) Q
  | [], l, S, h => by
    unfold loop
    rw [if_pos (hg _ _ _ h)]
    exact hd l S h
  | x :: xs, l, S, h => by
    obtain ⟨l1, h1, h2⟩ := hs x xs l S h
    unfold loop
    rw [if_pos (hg _ _ _ h), h1]
    dsimp only
    rw [Wp_bind]
    refine h2.imp fun f S' q => ?_
    cases f with
    | nx l2 => exact Wp_loopG I hg hs hd xs l2 S' q
    | ct l2 => exact Wp_loopG I hg hs hd xs l2 S' q
    | bk l2 => exact q
    | rt d => exact q
theorem Wp_mapG {gs : List (Nat × DV)} {γ : Type} (e : γ → DV) {t : Tg} {m : MS} {Q : Fl → Sto → Prop} (I : List γ → Lo → Sto → Prop) (hg : ∀ xs l S, I xs l S → held S gs = true) (ys : List γ) (l : Lo) (S : Sto) (h0 : I ys l S) (hs : ∀ y ys l S, I (y :: ys) l S → ∃ l1, t (e y) l = some l1 ∧ Wp (m l1 S) fun f S' => match f with
      | .nx l2 => I ys l2 S'
      | .ct l2 => I ys l2 S'
      | .bk l2 => Q (.nx l2) S'
      | .rt d => Q (.rt d) S') (hd : ∀ l S, I [] l S → Q (.nx l) S) : Wp (loop t m gs (ys.map e) l S) Q := by
  refine Wp_loopG (fun xs l S => ∃ ys : List γ, xs = ys.map e ∧ I ys l S) (fun xs l S ⟨ys, _, h⟩ => hg ys l S h) ?_ ?_ _ l S ⟨ys, rfl, h0⟩
  · rintro x xs l S ⟨ys, h1, h2⟩
    cases ys with
    | nil => cases h1
    | cons y ys =>
      rw [List.map_cons, List.cons.injEq] at h1
      obtain ⟨rfl, rfl⟩ := h1
      obtain ⟨l1, h3, h4⟩ := hs y ys l S h2
      refine ⟨l1, h3, h4.imp fun f S' q => ?_⟩
      cases f with
      | nx l2 => exact ⟨ys, rfl, q⟩
      | ct l2 => exact ⟨ys, rfl, q⟩
      | bk l2 => exact q
      | rt d => exact q
  · rintro l S ⟨ys, h1, h2⟩
    cases ys with
    | nil => exact hd l S h2
    | cons y ys => cases h1
theorem compL_G {gs : List (Nat × DV)} {t : Tg} {c : MT} {e : ME} {l0 : Lo} {S1 : Sto} (hg : held S1 gs = true) : ∀ (xs acc : List DV), (∀ x ∈ xs, ∃ l1, t x l0 = some l1 ∧ ∀ acc, ∃ b, c l1 (S1 ++ [.lst acc]) = .ok b (S1 ++ [.lst acc]) ∧ (b = true → ∃ d, e l1 (S1 ++ [.lst acc]) = .ok d (S1 ++ [.lst acc]))) →
    compL t c e gs l0 S1.length xs (S1 ++ [.lst acc]) = compL t c e [] l0 S1.length xs (S1 ++ [.lst acc])
  | [], acc, _ => by
    unfold compL
    rw [if_pos (held_more hg), if_pos (show held _ [] = true from rfl)]
  | x :: xs, acc, h => by
    obtain ⟨l1, h1, h2⟩ := h x List.mem_cons_self
    obtain ⟨b, h3, h4⟩ := h2 acc
    unfold compL
    rw [if_pos (held_more hg), if_pos (show held _ [] = true from rfl), h1]
    simp only [h3, bind_ok']
    cases b with
    | false =>
      rw [if_neg (by decide), if_neg (by decide)]
      exact compL_G hg xs acc fun y m => h y (List.mem_cons_of_mem _ m)
    | true =>
      rw [if_pos rfl, if_pos rfl]
      obtain ⟨d, h5⟩ := h4 rfl
      simp only [h5, bind_ok', get_app0, List.getElem?_cons_zero]
      split
      · rw [set_app0]
        simp only [List.set_cons_zero]
        exact compL_G hg xs (acc ++ [d]) fun y m => h y (List.mem_cons_of_mem _ m)
      · rfl
/-- a comprehension without tests, told exactly, over a source that stands still -/
theorem comp_G {own : List Nat} {t : Tg} {i : MI} {e : ME} {l : Lo} {S S1 : Sto} {gs : List (Nat × DV)} {γ : Type} (k : γ → DV) (f : γ → DV) (xs : List γ) (hi : i l S = .ok (xs.map k, gs) S1) (hg : held S1 gs = true) (hl : xs.length ≤ 1000000)
    (h : ∀ x ∈ xs, ∃ l1, t (k x) (wipeL l own) = some l1 ∧ noRef (f x) = true ∧ ∀ acc, e l1 (S1 ++ [.lst acc]) = .ok (f x) (S1 ++ [.lst acc])) : comp own t i tYes e l S = .ok (.lst (xs.map f)) S1 := by
  have h' : ∀ x ∈ xs.map k, ∃ l1, t x (wipeL l own) = some l1 ∧ ∀ acc, ∃ b, tYes l1 (S1 ++ [.lst acc]) = .ok b (S1 ++ [.lst acc]) ∧ (b = true → ∃ d, e l1 (S1 ++ [.lst acc]) = .ok d (S1 ++ [.lst acc])) := fun x hx => by
    obtain ⟨y, hy, rfl⟩ := List.mem_map.mp hx
    obtain ⟨l1, q1, _, q3⟩ := h y hy
    exact ⟨l1, q1, fun acc => ⟨true, rfl, fun _ => ⟨_, q3 acc⟩⟩⟩
  have e1 : comp own t i tYes e l S = comp own t (src0 (xs.map k)) tYes e l S1 := by
    unfold comp
    rw [hi]
    simp only [bind_ok', src0]
    rw [compL_G (acc := []) hg (xs.map k) h']
  rw [e1]
  clear e1
  have : ∀ (zs : List γ), (∀ x ∈ zs, ∃ l1, t (k x) (wipeL l own) = some l1 ∧ noRef (f x) = true ∧ ∀ acc, e l1 (S1 ++ [.lst acc]) = .ok (f x) (S1 ++ [.lst acc])) → ∀ acc, acc.length + zs.length ≤ 1000000 → compL t tYes e [] (wipeL l own) S1.length (zs.map k) (S1 ++ [.lst acc]) = .ok () (S1 ++ [.lst (acc ++ zs.map f)]) := by
    intro zs
    induction zs with
    | nil => intro _ acc _; unfold compL; simp
    | cons z zs ih =>
      intro hz acc hl
      obtain ⟨l1, q1, q2, q3⟩ := hz z List.mem_cons_self
      simp only [List.length_cons] at hl
      rw [List.map_cons]
      unfold compL
      rw [if_pos (show held _ [] = true from rfl), q1]
      simp only [tYes, bind_ok', q3]
      rw [if_pos trivial]
      simp only [get_app0, List.getElem?_cons_zero]
      rw [if_pos ⟨by simp only [LIM_def]; omega, q2⟩, set_app0]
      simp only [List.set_cons_zero]
      rw [ih (fun y m => hz y (List.mem_cons_of_mem _ m)) (acc ++ [f z]) (by simp; omega)]
      simp
  unfold comp
  simp only [src0, bind_ok']
  rw [this xs h [] (by simpa using hl)]
  simp
end Y
/-! Running texts as sources; displays of dicts by constants. -/
namespace Y
open PySem
section
variable (l : Lo) (S : Sto) (a : ME)
@[simp] theorem sStr_run : sStr a l S = (a l S).bind fun x S1 => match x with
  | .str z => .ok (signsD z, []) S1
  | _ => .bad := rfl
@[simp] theorem listS_run : listS a l S = (a l S).bind fun x S1 => Out.of (listSV x) S1 := rfl
theorem listSV_str {z : Str} (h : z.length ≤ 16777216) : listSV (.str z) = some (.lst (signsD z)) := by
  unfold listSV
  exact if_pos h
end
/-- a display whose keys and values read nothing that changes -/
theorem prs_at : ∀ (ps : List (ME × ME)) (qs : List (Str × DV)) (l : Lo) (S : Sto), All2 (fun p q => p.1 l S = .ok (.str q.1) S ∧ p.2 l S = .ok q.2 S) ps qs → prs ps l S = .ok (qs.map fun q => (DV.str q.1, q.2)) S
  | _, _, l, S, .nil => rfl
  | _, _, l, S, .cons h r => by
    rename_i p q ps qs
    obtain ⟨p1, p2⟩ := p
    obtain ⟨h1, h2⟩ := h
    dsimp only at h1 h2
    simp only [prs, h1, h2, bind_ok', prs_at ps qs l S r, List.map_cons]
theorem keyed_at : ∀ qs : List (Str × DV), keyed (qs.map fun q => (DV.str q.1, q.2)) = some (qs.map fun q => ((.inr q.1 : Key), q.2))
  | [] => rfl
  | q :: qs => by simp only [List.map_cons, keyed, keyOf_str, keyed_at qs]
theorem dctR_at (ps : List (ME × ME)) (qs : List (Str × DV)) (l : Lo) (S : Sto) (h : All2 (fun p q => p.1 l (S ++ [.dk []]) = .ok (.str q.1) (S ++ [.dk []]) ∧ p.2 l (S ++ [.dk []]) = .ok q.2 (S ++ [.dk []])) ps qs) (hn : ∀ q ∈ qs, noRef q.2 = true) (hl : qs.length ≤ 15) (hd : (qs.map (·.1)).Nodup) :
    dctR ps l S = .ok (.ref S.length) (S ++ [.dk (qs.map fun q => ((.inr q.1 : Key), q.2))]) := by
  unfold dctR
  rw [prs_at ps qs l _ h]
  simp only [bind_ok', keyed_at]
  have hr : noRefK (qs.map fun q => ((.inr q.1 : Key), q.2)) = true := by
    clear h hl hd
    induction qs with
    | nil => rfl
    | cons q qs ih =>
      simp only [List.map_cons, noRefK, hn q List.mem_cons_self, Bool.true_and]
      exact ih fun r m => hn r (List.mem_cons_of_mem _ m)
  rw [if_pos ⟨hr, by simpa using hl, by simp⟩]
  have hm : ∀ (rs acc : List (Str × DV)), ((acc ++ rs).map (·.1)).Nodup → mergeD (acc.map fun q => ((.inr q.1 : Key), q.2)) (rs.map fun q => ((.inr q.1 : Key), q.2)) = (acc ++ rs).map fun q => ((.inr q.1 : Key), q.2) := by
    intro rs
    induction rs with
    | nil => intro acc _; simp [mergeD]
    | cons r rs ih =>
      intro acc nd
      have hno : ¬ (acc.map fun q => ((.inr q.1 : Key), q.2)).any (fun kv => decide (kv.1 = .inr r.1)) = true := by
        intro hh
        rw [List.any_eq_true] at hh
        obtain ⟨p, hp, he⟩ := hh
        obtain ⟨q, hq, rfl⟩ := List.mem_map.mp hp
        have he : q.1 = r.1 := by simpa using he
        rw [List.map_append, List.nodup_append] at nd
        exact nd.2.2 q.1 (List.mem_map.mpr ⟨q, hq, rfl⟩) r.1 (List.mem_map.mpr ⟨r, List.mem_cons_self, rfl⟩) he
      have ih' := ih (acc ++ [r]) (by simpa using nd)
      have hp : putD (acc.map fun q => ((.inr q.1 : Key), q.2)) (.inr r.1) r.2 = (acc ++ [r]).map fun q => ((.inr q.1 : Key), q.2) := by
        unfold putD
        rw [if_neg hno]
        simp
      simp only [List.map_cons, mergeD]
      simp only [mergeD, List.map_append, List.map_cons, List.map_nil, List.foldl_cons] at ih' hp ⊢
      rw [hp]
      simpa using ih'
  have := hm qs [] (by simpa using hd)
  simp only [List.map_nil, List.nil_append] at this
  rw [this]
  simp
end Y
/-! Trees as data that are told apart. -/
namespace Y
open PySem
theorem set_self {S : Sto} {j : Nat} {d : DV} (h : S[j]? = some d) : S.set j d = S := by
  refine List.ext_getElem? fun i => ?_
  by_cases hi : i = j
  · subst hi; rw [List.getElem?_set_self (List.getElem?_eq_some_iff.mp h).1, h]
  · rw [List.getElem?_set_ne (Ne.symm hi)]
theorem get_set {S : Sto} {j : Nat} {d e : DV} (h : S[j]? = some d) : (S.set j e)[j]? = some e := List.getElem?_set_self (List.getElem?_eq_some_iff.mp h).1
theorem take_set {S : Sto} {j : Nat} {e : DV} : (S.set j e).take S.length = S.set j e := List.take_of_length_le (by rw [List.length_set]; exact Nat.le_refl _)
@[simp] theorem leave_non (m : Nat) (S : Sto) : leave m .non S = .ok (.non, false) (S.take m) := leave_ok (by simp)
@[simp] theorem leave_own0 (S L : Sto) (x : DV) : leave S.length (.ref S.length) (S ++ (x :: L)) = .ok (x, true) S := leave_mine S (x :: L) 0 x rfl
@[simp] theorem leave_ownk (S L : Sto) (k : Nat) : leave S.length (.ref (S.length + k)) (S ++ L) = match L[k]? with
    | some x => .ok (x, true) S
    | none => .bad := by
  cases e : L[k]? with
  | some x => exact leave_mine S L k x e
  | none => exact leave_no (by omega) (by rw [get_appk]; exact e)
theorem T.ht_pos (t : T) : 0 < t.ht := by cases t <;> simp [T.ht]
@[simp] theorem noRef_enc' (t : T) : noRef (enc t) = true := by simp only [noRef_enc]
@[simp] theorem tagOf_enc (S : Sto) (t : T) : tagOf S (enc t) = some "tuple" := by cases t <;> simp only [enc, tagOf]
theorem strOk_append (a b : Str) : PyData.strOk (a ++ b) = (PyData.strOk a && PyData.strOk b) := by
  show (a.cps ++ b.cps).all _ = _
  rw [Array.all_append]
  rfl
theorem strOk_of {a : Str} (h : ∀ c ∈ a.cps.toList, c < 0x110000) : PyData.strOk a = true := by
  unfold PyData.strOk
  rw [← Array.all_toList, List.all_eq_true]
  intro c m
  exact decide_eq_true (h c m)
mutual
theorem plain_mono : ∀ {n m : Nat} {d : DV}, plain n d = true → n ≤ m → plain m d = true
  | n, m, .non, _, _ => by simp [plain]
  | n, m, .int _, _, _ => by simp [plain]
  | n, m, .str _, h, _ => by simpa [plain] using h
  | 0, _, .tup _, h, _ => by simp [plain] at h
  | 0, _, .lst _, h, _ => by simp [plain] at h
  | n + 1, 0, .tup _, _, h => by omega
  | n + 1, 0, .lst _, _, h => by omega
  | n + 1, m + 1, .tup xs, h, k => by
    simp only [plain] at h ⊢
    exact plains_mono h (by omega)
  | n + 1, m + 1, .lst xs, h, k => by
    simp only [plain] at h ⊢
    exact plains_mono h (by omega)
  | _, _, .bl _, h, _ => by simp [plain] at h
  | _, _, .rol _, h, _ => by simp [plain] at h
  | _, _, .dk _, h, _ => by simp [plain] at h
  | _, _, .fz _, h, _ => by simp [plain] at h
  | _, _, .ref _, h, _ => by simp [plain] at h
theorem plains_mono : ∀ {n m : Nat} {xs : List DV}, plains n xs = true → n ≤ m → plains m xs = true
  | _, _, [], _, _ => by simp [plains]
  | n, m, x :: xs, h, k => by
    simp only [plains, Bool.and_eq_true] at h ⊢
    exact ⟨plain_mono h.1 k, plains_mono h.2 k⟩
end
@[simp] theorem plain_int (n : Nat) (i : Int) : plain n (.int i) = true := by cases n <;> simp [plain]
@[simp] theorem plain_non (n : Nat) : plain n .non = true := by cases n <;> simp [plain]
@[simp] theorem plain_str (n : Nat) (s : Str) : plain n (.str s) = PyData.strOk s := by cases n <;> simp [plain]
@[simp] theorem plain_tup (n : Nat) (xs : List DV) : plain (n + 1) (.tup xs) = plains n xs := by simp [plain]
@[simp] theorem plain_lst (n : Nat) (xs : List DV) : plain (n + 1) (.lst xs) = plains n xs := by simp [plain]
@[simp] theorem plains_nil (n : Nat) : plains n [] = true := by simp [plains]
@[simp] theorem plains_cons (n : Nat) (x : DV) (xs : List DV) : plains n (x :: xs) = (plain n x && plains n xs) := by simp [plains]
theorem plains_all {n : Nat} : ∀ {xs : List DV}, plains n xs = true ↔ ∀ x ∈ xs, plain n x = true
  | [] => by simp
  | x :: xs => by simp [plains_all (xs := xs)]
def At.Ws (P : Str → Prop) : At → Prop
  | .num _ => True
  | .name x => P x
  | .gap h => P h
/-- each word of a tree is such -/
def T.Ws (P : Str → Prop) : T → Prop
  | .num _ => True
  | .name x => P x
  | .ask w => P w
  | .stop w => P w
  | .gap g as => P g ∧ ∀ a ∈ as, a.Ws P
  | .say a => a.Ws P
  | .bin _ a b => a.Ws P ∧ b.Ws P
  | .ite a b c => a.Ws P ∧ b.Ws P ∧ c.Ws P
  | .lt x a b => P x ∧ a.Ws P ∧ b.Ws P
abbrev SOk (s : Str) : Prop := PyData.strOk s = true
theorem T.Ws.imp {P Q : Str → Prop} (k : ∀ s, P s → Q s) : ∀ {t : T}, t.Ws P → t.Ws Q
  | .num _, h => trivial
  | .name x, h => k x h
  | .ask w, h => k w h
  | .stop w, h => k w h
  | .gap g as, h => ⟨k g h.1, fun a m => by
    have := h.2 a m
    cases a with
    | num _ => trivial
    | name x => exact k x this
    | gap x => exact k x this⟩
  | .say a, h => T.Ws.imp k (t := a) h
  | .bin _ a b, h => ⟨T.Ws.imp k h.1, T.Ws.imp k h.2⟩
  | .ite a b c, h => ⟨T.Ws.imp k h.1, T.Ws.imp k h.2.1, T.Ws.imp k h.2.2⟩
  | .lt x a b, h => ⟨k x h.1, T.Ws.imp k h.2.1, T.Ws.imp k h.2.2⟩
theorem T.Ws.part {P : Str → Prop} {t p : T} (h : t.Ws P) (m : p ∈ t.parts) : p.Ws P := by
  cases t <;> simp [T.parts] at m
  · subst m; exact h
  · rcases m with m | m <;> subst m
    · exact h.1
    · exact h.2
  · rcases m with m | m | m <;> subst m
    · exact h.1
    · exact h.2.1
    · exact h.2.2
  · rcases m with m | m <;> subst m
    · exact h.2.1
    · exact h.2.2
theorem plain_encA {a : At} (h : a.Ws SOk) : plain 2 (encA a) = true := by
  cases a <;> simp [encA, plain, plains] <;> first | (exact ⟨by decide +kernel, h⟩) | decide +kernel | skip
theorem sOk_lit (s : Str) (h : PyData.strOk s = true := by decide +kernel) : PyData.strOk s = true := h
theorem plain_enc : ∀ (t : T), t.Ws SOk → plain (t.ht + 3) (enc t) = true
  | .num _, h => by simp [enc, T.ht, sOk_lit "num"]
  | .name x, h => by simp [enc, T.ht, sOk_lit "name"]; exact h
  | .ask x, h => by simp [enc, T.ht, sOk_lit "ask"]; exact h
  | .stop x, h => by simp [enc, T.ht, sOk_lit "stop"]; exact h
  | .gap g as, h => by
    have : plains 2 (as.map encA) = true := plains_all.mpr fun x m => by
      obtain ⟨a, ha, rfl⟩ := List.mem_map.mp m
      exact plain_encA (h.2 a ha)
    simp [enc, T.ht, sOk_lit "gap", h.1, this]
  | .say a, h => by
    have ha := plain_enc a h
    simp [enc, T.ht, sOk_lit "say"]
    exact plain_mono ha (by omega)
  | .bin o a b, h => by
    have ha := plain_enc a h.1
    have hb := plain_enc b h.2
    have ho : PyData.strOk o.s = true := by cases o <;> decide +kernel
    simp [enc, T.ht, ho]
    exact ⟨plain_mono ha (by omega), plain_mono hb (by omega)⟩
  | .ite a b c, h => by
    have ha := plain_enc a h.1
    have hb := plain_enc b h.2.1
    have hc := plain_enc c h.2.2
    simp [enc, T.ht, sOk_lit "if"]
    exact ⟨plain_mono ha (by omega), plain_mono hb (by omega), plain_mono hc (by omega)⟩
  | .lt x a b, h => by
    have ha := plain_enc a h.2.1
    have hb := plain_enc b h.2.2
    have hx : PyData.strOk x = true := h.1
    simp [enc, T.ht, sOk_lit "let", hx]
    exact ⟨plain_mono ha (by omega), plain_mono hb (by omega)⟩
/-- told apart as they are -/
theorem eqV_same {S : Sto} {x y : DV} (hx : plain 60 (rd S x) = true) (hy : plain 60 (rd S y) = true) (hs : scalD x y = false) : eqV S x y = some (eqB (rd S x) (rd S y)) := eqV_plain S x y hs hx hy
theorem eqB_ne {x y : DV} (h : x ≠ y) : eqB x y = false := by
  rw [Bool.eq_false_iff]
  intro z
  exact h (eqB_iff.mp z)
/-! ### a list, as a value or as an object -/
def LstAt (S : Sto) (d : DV) (xs : List DV) : Prop := d = .lst xs ∨ ∃ i, d = .ref i ∧ S[i]? = some (.lst xs)
theorem LstAt.seq {S : Sto} {d : DV} {xs : List DV} (h : LstAt S d xs) : seqOf S d = some xs := by
  rcases h with rfl | ⟨i, rfl, h⟩
  · rfl
  · simp [h]
theorem LstAt.len {S : Sto} {d : DV} {xs : List DV} (h : LstAt S d xs) : lenV S d = some (.int xs.length) := by
  unfold lenV; rw [h.seq]
theorem LstAt.ix {S : Sto} {d : DV} {xs : List DV} (h : LstAt S d xs) (i : Int) : ixV S d (.int i) = L2.atI xs i := ixV_seq S d xs i h.seq
theorem LstAt.ixA {S : Sto} {d : DV} {xs : List DV} (h : LstAt S d xs) (i : Int) : ixAV S d (.int i) = L2.atI xs i := by
  rcases h with rfl | ⟨j, rfl, h⟩
  · simp
  · simp [h]
theorem LstAt.app {S : Sto} {d : DV} {xs : List DV} (h : LstAt S d xs) (L : Sto) : LstAt (S ++ L) d xs := by
  rcases h with rfl | ⟨j, rfl, h⟩
  · exact .inl rfl
  · exact .inr ⟨j, rfl, by rw [List.getElem?_append_left (List.getElem?_eq_some_iff.mp h).1]; exact h⟩
theorem LstAt.rd {S : Sto} {d : DV} {xs : List DV} (h : LstAt S d xs) : rd S d = .lst xs := by
  rcases h with rfl | ⟨j, rfl, h⟩
  · rfl
  · simp [Y.rd, h]
theorem LstAt.scal {S : Sto} {d : DV} {xs ys : List DV} (h : LstAt S d xs) : scalD d (.lst ys) = false := by
  rcases h with rfl | ⟨j, rfl, h⟩ <;> rfl
theorem LstAt.guard {S : Sto} {xs : List DV} : guardOf S (.lst xs) = [] := rfl
/-! ### slices from the end -/
theorem sIx_neg {n k : Nat} (d : Nat) (h : k ≤ n) (hk : 0 < k) : HT.sIx n d (some (-(k : Int))) = n - k := by
  unfold HT.sIx
  simp only []
  all_goals first | omega | (split <;> omega) | (split <;> split <;> omega)
theorem cut_last {α : Type} (xs ys : List α) (h : 0 < ys.length) : cutD (xs ++ ys) (some (-(ys.length : Int))) none = ys := by
  unfold cutD
  rw [sIx_neg _ (by simp) h, HT.sIx_none]
  have e : (xs ++ ys).length - ys.length = xs.length := by simp
  rw [e, List.drop_left]
  apply List.take_of_length_le
  simp
theorem cut_front {α : Type} (xs ys : List α) (h : 0 < ys.length) : cutD (xs ++ ys) none (some (-(ys.length : Int))) = xs := by
  unfold cutD
  rw [sIx_neg _ (by simp) h, HT.sIx_none, List.drop_zero, Nat.sub_zero]
  have e : (xs ++ ys).length - ys.length = xs.length := by simp
  rw [e, List.take_left]
theorem split_last {α : Type} (xs : List α) (k : Nat) (h : k ≤ xs.length) : ∃ ys zs, xs = ys ++ zs ∧ zs.length = k := ⟨xs.take (xs.length - k), xs.drop (xs.length - k), (List.take_append_drop _ _).symm, by simp; omega⟩
/-! ### comprehensions over pairs -/
theorem comp_fst {i j : Nat} (hij : i ≠ j) {s : MI} {l : Lo} {S S1 : Sto} {γ : Type} (f g : γ → DV) (xs : List γ) (hs : s l S = .ok (xs.map fun x => .tup [f x, g x], []) S1) (hl : xs.length ≤ 1000000) (hi : i < l.length) (hj : j < l.length) (hn : ∀ x ∈ xs, noRef (f x) = true) :
    comp [i, j] (tU [i, j]) s tYes (var i) l S = .ok (.lst (xs.map f)) S1 := by
  have h := comp_run [i, j] (tU [i, j]) s tYes (var i) l S S1 (xs.map fun x => .tup [f x, g x]) (fun _ => true) (fun d => match d with | .tup [a, b] => a | _ => .non) hs (by simpa using hl) (fun x hx => by
    obtain ⟨y, hy, rfl⟩ := List.mem_map.mp hx
    refine ⟨_, rfl, fun _ => rfl, fun _ => ⟨hn y hy, fun S' => ?_⟩⟩
    have h1 : (wipeL l [i, j]).length = l.length := by simp [wipeL]
    have h2 : (((wipeL l [i, j]).set i (some (f y))).set j (some (g y)))[i]? = some (some (f y)) := by
      rw [List.getElem?_set_ne (Ne.symm hij), List.getElem?_set_self (by rw [h1]; exact hi)]
    show (match (((wipeL l [i, j]).set i (some (f y))).set j (some (g y)))[i]? with
      | some (some d) => Out.ok d S'
      | _ => Out.bad) = _
    rw [h2])
  rw [h, List.filter_eq_self.mpr (fun _ _ => rfl), List.map_map]
  rfl
theorem comp_snd {i j : Nat} (hij : i ≠ j) {s : MI} {l : Lo} {S S1 : Sto} {γ : Type} (f g : γ → DV) (xs : List γ) (hs : s l S = .ok (xs.map fun x => .tup [f x, g x], []) S1) (hl : xs.length ≤ 1000000) (hi : i < l.length) (hj : j < l.length) (hn : ∀ x ∈ xs, noRef (g x) = true) :
    comp [i, j] (tU [i, j]) s tYes (var j) l S = .ok (.lst (xs.map g)) S1 := by
  have h := comp_run [i, j] (tU [i, j]) s tYes (var j) l S S1 (xs.map fun x => .tup [f x, g x]) (fun _ => true) (fun d => match d with | .tup [a, b] => b | _ => .non) hs (by simpa using hl) (fun x hx => by
    obtain ⟨y, hy, rfl⟩ := List.mem_map.mp hx
    refine ⟨_, rfl, fun _ => rfl, fun _ => ⟨hn y hy, fun S' => ?_⟩⟩
    have h1 : (wipeL l [i, j]).length = l.length := by simp [wipeL]
    simp [h1, hi, hj])
  rw [h, List.filter_eq_self.mpr (fun _ _ => rfl), List.map_map]
  rfl
/-! ### max -/
def mxH (ts : List T) : Nat := (ts.map T.ht).foldr max 0
theorem maxV_hts (S : Sto) (ts : List T) (h : 1 ≤ ts.length ∧ ts.length ≤ 3) : maxV S (.lst (ts.map fun t => .int (t.ht : Int))) = some (.int (mxH ts : Int)) := by
  match ts, h with
  | [a], _ => simp [maxV, intsOf, maxOf, mxH]
  | [a, b], _ =>
    simp [maxV, intsOf, maxOf, mxH]
    split <;> omega
  | [a, b, c], _ =>
    simp [maxV, intsOf, maxOf, mxH]
    split <;> split <;> omega
theorem mxH_le {ts : List T} {t : T} (h : t ∈ ts) : t.ht ≤ mxH ts := by
  induction ts with
  | nil => simp at h
  | cons a r ih =>
    simp only [mxH, List.map_cons, List.foldr_cons] at ih ⊢
    rcases List.mem_cons.mp h with rfl | h
    · omega
    · have := ih h; omega
/-- a sign with its parts is a tree -/
theorem mk_tree {P : Str → Prop} {s : Str} {w : Str} (hw : P w) {ts : List T} (hs : (s, ts.length) ∈ [(("say" : Str), 1), ("add", 2), ("sub", 2), ("mul", 2), ("then", 2), ("if", 3), ("let", 2)]) (ht : ∀ t ∈ ts, t.Ws P) :
    ∃ t : T, enc t = .tup ((if s = "let" then [.str s, .str w] else [.str s]) ++ ts.map enc) ∧ t.parts = ts ∧ t.ht = mxH ts + 1 ∧ t.Ws P ∧ t.size = (ts.map T.size).sum + 1 := by
  simp only [List.mem_cons, Prod.mk.injEq, List.not_mem_nil, or_false] at hs
  rcases hs with ⟨rfl, h⟩ | ⟨rfl, h⟩ | ⟨rfl, h⟩ | ⟨rfl, h⟩ | ⟨rfl, h⟩ | ⟨rfl, h⟩ | ⟨rfl, h⟩
  · match ts, h with
    | [a], _ => exact ⟨.say a, by simp [enc], rfl, by simp [T.ht, mxH], ht a (by simp), by simp [T.size]⟩
  · match ts, h with
    | [a, b], _ => exact ⟨.bin .add a b, by simp [enc, Bo.s], rfl, by simp [T.ht, mxH], ⟨ht a (by simp), ht b (by simp)⟩, by simp [T.size]⟩
  · match ts, h with
    | [a, b], _ => exact ⟨.bin .sub a b, by simp [enc, Bo.s], rfl, by simp [T.ht, mxH], ⟨ht a (by simp), ht b (by simp)⟩, by simp [T.size]⟩
  · match ts, h with
    | [a, b], _ => exact ⟨.bin .mul a b, by simp [enc, Bo.s], rfl, by simp [T.ht, mxH], ⟨ht a (by simp), ht b (by simp)⟩, by simp [T.size]⟩
  · match ts, h with
    | [a, b], _ => exact ⟨.bin .thn a b, by simp [enc, Bo.s], rfl, by simp [T.ht, mxH], ⟨ht a (by simp), ht b (by simp)⟩, by simp [T.size]⟩
  · match ts, h with
    | [a, b, c], _ => exact ⟨.ite a b c, by simp [enc], rfl, by simp [T.ht, mxH], ⟨ht a (by simp), ht b (by simp), ht c (by simp)⟩, by simp [T.size]; omega⟩
  · match ts, h with
    | [a, b], _ => exact ⟨.lt w a b, by simp [enc], rfl, by simp [T.ht, mxH], ⟨hw, ht a (by simp), ht b (by simp)⟩, by simp [T.size]⟩
end Y
/-! Gaps of shapes. -/
namespace Y
open PySem
/-- an atom as a tree -/
def At.t : At → T
  | .num n => .num n
  | .name x => .name x
  | .gap h => .gap h []
theorem enc_at (a : At) : enc a.t = encA a := by cases a <;> rfl
theorem At.t_ht (a : At) : a.t.ht = 1 := by cases a <;> rfl
theorem T.sign_gap {t : T} (h : ∀ g as, t ≠ .gap g as) : ¬ t.sign = "gap" := by
  cases t with
  | gap g as => exact absurd rfl (h g as)
  | bin o a b => cases o <;> simp [T.sign, Bo.s]
  | _ => simp [T.sign]
theorem sign_ix (S : Sto) (t : T) : ixV S (enc t) (.int 0) = some (.str t.sign) := by
  cases t <;> simp [enc, T.sign, L2.atI, L2.ixN]
theorem noRefs_enc (ts : List T) : noRefs (ts.map enc) = true := noRefs_map enc noRef_enc ts
/-- all gaps as trees, in order -/
def At.gapT : At → List T
  | .gap h => [.gap h []]
  | _ => []
def T.gapT : T → List T
  | .gap g as => .gap g as :: as.flatMap At.gapT
  | .say a => a.gapT
  | .bin _ a b => a.gapT ++ b.gapT
  | .ite a b c => a.gapT ++ b.gapT ++ c.gapT
  | .lt _ a b => a.gapT ++ b.gapT
  | _ => []
theorem T.gapT_parts {t : T} (h : ∀ g as, t ≠ .gap g as) : t.gapT = t.parts.flatMap T.gapT := by
  cases t <;> simp [T.gapT, T.parts]
  exact absurd rfl (h _ _)
/-- each gap has three atoms at most -/
def T.A3 : T → Prop
  | .gap _ as => as.length ≤ 3
  | .say a => a.A3
  | .bin _ a b => a.A3 ∧ b.A3
  | .ite a b c => a.A3 ∧ b.A3 ∧ c.A3
  | .lt _ a b => a.A3 ∧ b.A3
  | _ => True
theorem T.A3.part {t p : T} (h : t.A3) (m : p ∈ t.parts) : p.A3 := by
  cases t <;> simp [T.parts] at m
  · subst m; exact h
  · rcases m with m | m <;> subst m
    · exact h.1
    · exact h.2
  · rcases m with m | m | m <;> subst m
    · exact h.1
    · exact h.2.1
    · exact h.2.2
  · rcases m with m | m <;> subst m
    · exact h.1
    · exact h.2
theorem atoms_gapT : ∀ as : List At, (as.flatMap At.gapT).length ≤ as.length
  | [] => by simp
  | a :: as => by
    have ih := atoms_gapT as
    have : a.gapT.length ≤ 1 := by cases a <;> simp [At.gapT]
    simp only [List.flatMap_cons, List.length_append, List.length_cons]
    omega
theorem T.gapT_len : ∀ t : T, t.A3 → t.gapT.length ≤ 4 * t.size
  | .gap g as, h => by
    have := atoms_gapT as
    have h3 : as.length ≤ 3 := h
    simp only [T.gapT, T.size, List.length_cons]
    omega
  | .say a, h => by have := T.gapT_len a h; simp only [T.gapT, T.size]; omega
  | .bin _ a b, h => by have := T.gapT_len a h.1; have := T.gapT_len b h.2; simp only [T.gapT, T.size, List.length_append]; omega
  | .ite a b c, h => by have := T.gapT_len a h.1; have := T.gapT_len b h.2.1; have := T.gapT_len c h.2.2; simp only [T.gapT, T.size, List.length_append]; omega
  | .lt _ a b, h => by have := T.gapT_len a h.1; have := T.gapT_len b h.2; simp only [T.gapT, T.size, List.length_append]; omega
  | .num _, _ => by simp [T.gapT]
  | .name _, _ => by simp [T.gapT]
  | .ask _, _ => by simp [T.gapT]
  | .stop _, _ => by simp [T.gapT]
/-- a gap's word and how many atoms it has -/
def gapOf : T → Str × Nat
  | .gap g as => (g, as.length)
  | _ => ("", 0)
def T.gaps (t : T) : List (Str × Nat) := t.gapT.map gapOf
theorem gapT_is {t x : T} (h : x ∈ t.gapT) : ∃ g as, x = .gap g as := by
  induction t with
  | gap g as =>
    simp only [T.gapT, List.mem_cons, List.mem_flatMap] at h
    rcases h with rfl | ⟨a, _, h⟩
    · exact ⟨g, as, rfl⟩
    · cases a <;> simp [At.gapT] at h
      exact ⟨_, _, h⟩
  | say a ih => exact ih h
  | bin o a b iha ihb =>
    simp only [T.gapT, List.mem_append] at h
    exact h.elim iha ihb
  | ite a b c iha ihb ihc =>
    simp only [T.gapT, List.mem_append] at h
    rcases h with (h | h) | h
    · exact iha h
    · exact ihb h
    · exact ihc h
  | lt x a b iha ihb =>
    simp only [T.gapT, List.mem_append] at h
    exact h.elim iha ihb
  | _ => simp [T.gapT] at h
/-- a dict of numbers: kept as it is where it's there already -/
def sdI (kn : Env) (p : Str × Nat) : Env := if (getI kn p.1).isSome = true then kn else kn ++ [(p.1, (p.2 : Int))]
def sdAll (kn : Env) (ps : List (Str × Nat)) : Env := ps.foldl sdI kn
def T.gapsOf (t : T) : Env := sdAll [] t.gaps
theorem getI_app (kn : Env) (x : Str) (n : Int) (y : Str) (h : getI kn x = none) : getI (kn ++ [(x, n)]) y = if y = x then some n else getI kn y := by
  induction kn with
  | nil =>
    simp only [List.nil_append, getI]
    by_cases e : x = y
    · simp [e]
    · simp [e, Ne.symm e]
  | cons p r ih =>
    obtain ⟨k, m⟩ := p
    simp only [getI] at h
    split at h
    · cases h
    · rename_i hk
      simp only [List.cons_append, getI, ih h]
      by_cases e : k = y
      · subst e; simp [hk]
      · simp [e]
theorem putI_new {kn : Env} {x : Str} (n : Int) (h : getI kn x = none) : putI kn x n = kn ++ [(x, n)] := by
  induction kn with
  | nil => rfl
  | cons p r ih =>
    obtain ⟨k, m⟩ := p
    simp only [getI] at h
    split at h
    · cases h
    · rename_i hk
      simp only [putI, if_neg hk, List.cons_append, ih h]
theorem sdI_get (kn : Env) (p : Str × Nat) (y : Str) : getI (sdI kn p) y = match getI kn y with
    | some v => some v
    | none => if y = p.1 then some (p.2 : Int) else none := by
  unfold sdI
  by_cases h : (getI kn p.1).isSome = true
  · rw [if_pos h]
    cases e : getI kn y with
    | some v => rfl
    | none =>
      by_cases hy : y = p.1
      · subst hy; rw [e] at h; simp at h
      · simp [hy]
  · rw [if_neg h, getI_app _ _ _ _ (by simpa using h)]
    by_cases hy : y = p.1
    · subst hy
      have : getI kn p.1 = none := by simpa using h
      simp [this]
    · simp only [if_neg hy]
      cases getI kn y <;> rfl
theorem sdI_len (kn : Env) (p : Str × Nat) : (sdI kn p).length ≤ kn.length + 1 := by unfold sdI; split <;> simp
theorem sdAll_len (ps : List (Str × Nat)) : ∀ kn : Env, (sdAll kn ps).length ≤ kn.length + ps.length := by
  induction ps with
  | nil => intro kn; simp [sdAll]
  | cons p ps ih =>
    intro kn
    have := ih (sdI kn p)
    have h2 := sdI_len kn p
    show (sdAll (sdI kn p) ps).length ≤ _
    simp only [List.length_cons]
    omega
theorem sdAll_get (ps : List (Str × Nat)) : ∀ (kn : Env) (y : Str), getI (sdAll kn ps) y = match getI kn y with
    | some v => some v
    | none => (ps.find? fun p => decide (p.1 = y)).map fun p => (p.2 : Int) := by
  induction ps with
  | nil => intro kn y; show getI kn y = _; cases getI kn y <;> rfl
  | cons p ps ih =>
    intro kn y
    show getI (sdAll (sdI kn p) ps) y = _
    rw [ih, sdI_get]
    cases getI kn y with
    | some v => rfl
    | none =>
      dsimp only
      by_cases h : y = p.1
      · rw [if_pos h]
        simp [List.find?_cons, h]
      · rw [if_neg h]
        have : ¬ p.1 = y := fun z => h z.symm
        simp [List.find?_cons, this]
theorem sdI_nd {kn : Env} (h : (kn.map (·.1)).Nodup) (p : Str × Nat) : ((sdI kn p).map (·.1)).Nodup := by
  unfold sdI
  split
  · exact h
  · rename_i hp
    rw [List.map_append, List.nodup_append]
    refine ⟨h, by simp, fun a ha b hb e => ?_⟩
    simp at hb
    subst hb
    subst e
    have : ∀ kn : Env, p.1 ∈ kn.map (·.1) → (getI kn p.1).isSome = true := by
      intro kn
      induction kn with
      | nil => simp
      | cons q r ih =>
        intro m
        obtain ⟨k, v⟩ := q
        simp only [getI]
        split
        · rfl
        · rename_i hk
          simp only [List.map_cons, List.mem_cons] at m
          exact ih (m.resolve_left fun z => hk z.symm)
    exact hp (this kn ha)
theorem sdAll_nd (ps : List (Str × Nat)) : ∀ {kn : Env}, (kn.map (·.1)).Nodup → ((sdAll kn ps).map (·.1)).Nodup := by
  induction ps with
  | nil => intro kn h; exact h
  | cons p ps ih => intro kn h; exact ih (sdI_nd h p)
theorem getI_mem {kn : Env} (nd : (kn.map (·.1)).Nodup) {p : Str × Int} (h : p ∈ kn) : getI kn p.1 = some p.2 := by
  induction kn with
  | nil => simp at h
  | cons q r ih =>
    obtain ⟨k, v⟩ := q
    rw [List.map_cons, List.nodup_cons] at nd
    simp only [getI]
    rcases List.mem_cons.mp h with rfl | h
    · simp
    · rw [if_neg fun z => nd.1 (by rw [z]; exact List.mem_map.mpr ⟨p, h, rfl⟩)]
      exact ih nd.2 h
theorem mem_getI {kn : Env} {x : Str} {v : Int} (h : getI kn x = some v) : (x, v) ∈ kn := by
  induction kn with
  | nil => simp [getI] at h
  | cons q r ih =>
    obtain ⟨k, w⟩ := q
    simp only [getI] at h
    split at h
    · rename_i e; cases h; rw [e]; exact List.mem_cons_self
    · exact List.mem_cons_of_mem _ (ih h)
/-! ### the same numbers put again -/
def pAll (kn : Env) (ps : List (Str × Nat)) : Env := ps.foldl (fun kn p => putI kn p.1 (p.2 : Int)) kn
/-- each text's number is told by a function -/
def Fits (f : Str → Nat) (kn : Env) : Prop := (kn.map (·.1)).Nodup ∧ ∀ p ∈ kn, p.2 = (f p.1 : Int)
theorem putI_same {f : Str → Nat} : ∀ {kn : Env} {x : Str}, Fits f kn → (getI kn x).isSome = true → putI kn x (f x : Int) = kn
  | [], x, _, h => by simp [getI] at h
  | (k, v) :: r, x, hf, h => by
    have nd := hf.1
    rw [List.map_cons, List.nodup_cons] at nd
    have hr : Fits f r := ⟨nd.2, fun p m => hf.2 p (by simp [m])⟩
    have hv := hf.2 (k, v) (by simp)
    dsimp only at hv
    unfold putI
    by_cases e : k = x
    · subst e
      rw [if_pos rfl, ← hv]
      congr 1
      refine (List.map_congr_left fun p m => ?_).trans (List.map_id r)
      obtain ⟨a, b⟩ := p
      have hne : ¬ a = k := fun z => nd.1 (List.mem_map.mpr ⟨(a, b), m, z⟩)
      simp [hne]
    · rw [if_neg e, putI_same hr (by simpa [getI, e] using h)]
theorem put_sd {f : Str → Nat} {kn : Env} (h : Fits f kn) (x : Str) : putI kn x (f x : Int) = sdI kn (x, f x) := by
  unfold sdI
  by_cases e : (getI kn x).isSome = true
  · rw [if_pos e, putI_same h e]
  · rw [if_neg e, putI_new _ (by simpa using e)]
theorem Fits.sd {f : Str → Nat} {kn : Env} (h : Fits f kn) (x : Str) : Fits f (sdI kn (x, f x)) := by
  refine ⟨sdI_nd h.1 _, fun p m => ?_⟩
  unfold sdI at m
  split at m
  · exact h.2 p m
  · rcases List.mem_append.mp m with m | m
    · exact h.2 p m
    · rw [List.mem_singleton] at m; rw [m]
theorem pAll_sd {f : Str → Nat} : ∀ (ps : List (Str × Nat)) {kn : Env}, Fits f kn → (∀ p ∈ ps, p.2 = f p.1) → pAll kn ps = sdAll kn ps
  | [], kn, _, _ => rfl
  | (x, n) :: ps, kn, h, hp => by
    have e : n = f x := hp (x, n) (by simp)
    subst e
    show pAll (putI kn x (f x : Int)) ps = sdAll (sdI kn (x, f x)) ps
    rw [put_sd h, pAll_sd ps (h.sd x) fun p m => hp p (by simp [m])]
theorem sdAll_fits {f : Str → Nat} : ∀ (ps : List (Str × Nat)) {kn : Env}, Fits f kn → (∀ p ∈ ps, p.2 = f p.1) → Fits f (sdAll kn ps)
  | [], kn, h, _ => h
  | (x, n) :: ps, kn, h, hp => by
    have e : n = f x := hp (x, n) (by simp)
    subst e
    exact sdAll_fits ps (h.sd x) fun p m => hp p (by simp [m])
theorem sdI_keys (kn : Env) (p : Str × Nat) (x : Str) : x ∈ (sdI kn p).map (·.1) ↔ x ∈ kn.map (·.1) ∨ x = p.1 := by
  unfold sdI
  split
  · rename_i h
    constructor
    · exact .inl
    · rintro (h' | rfl)
      · exact h'
      · obtain ⟨v, hv⟩ := Option.isSome_iff_exists.mp h
        exact List.mem_map.mpr ⟨_, mem_getI hv, rfl⟩
  · simp
theorem sdAll_keys : ∀ (ps : List (Str × Nat)) (kn : Env) (x : Str), x ∈ (sdAll kn ps).map (·.1) ↔ x ∈ kn.map (·.1) ∨ x ∈ ps.map (·.1)
  | [], kn, x => by simp [sdAll]
  | p :: ps, kn, x => by
    show x ∈ (sdAll (sdI kn p) ps).map (·.1) ↔ _
    rw [sdAll_keys ps, sdI_keys, List.map_cons, List.mem_cons, or_assoc]
/-! ### gap leaves, atoms' gaps -/
def T.leafG : T → List Str
  | .gap g _ => [g]
  | .say a => a.leafG
  | .bin _ a b => a.leafG ++ b.leafG
  | .ite a b c => a.leafG ++ b.leafG ++ c.leafG
  | .lt _ a b => a.leafG ++ b.leafG
  | _ => []
/-- no say, ask, stop -/
def T.mute : T → Bool
  | .ask _ => false
  | .stop _ => false
  | .say _ => false
  | .bin _ a b => a.mute && b.mute
  | .ite a b c => a.mute && b.mute && c.mute
  | .lt _ a b => a.mute && b.mute
  | _ => true
/-- what its gap leaves and atoms' gaps are -/
def T.Gp (P : Str → Nat → Prop) (Q : Str → Prop) : T → Prop
  | .gap g as => P g as.length ∧ ∀ a ∈ as, match a with
    | .gap h => Q h
    | _ => True
  | .say a => a.Gp P Q
  | .bin _ a b => a.Gp P Q ∧ b.Gp P Q
  | .ite a b c => a.Gp P Q ∧ b.Gp P Q ∧ c.Gp P Q
  | .lt _ a b => a.Gp P Q ∧ b.Gp P Q
  | _ => True
theorem gaps_app (xs ys : List T) : (xs ++ ys).map gapOf = xs.map gapOf ++ ys.map gapOf := List.map_append
theorem atoms_gap_mem {as : List At} {p : Str × Nat} : p ∈ (as.flatMap At.gapT).map gapOf ↔ ∃ h, At.gap h ∈ as ∧ p = (h, 0) := by
  simp only [List.mem_map, List.mem_flatMap]
  constructor
  · rintro ⟨x, ⟨a, ha, hx⟩, rfl⟩
    cases a <;> simp [At.gapT] at hx
    rename_i h
    exact ⟨h, ha, by rw [hx]; rfl⟩
  · rintro ⟨h, ha, rfl⟩
    exact ⟨.gap h [], ⟨_, ha, by simp [At.gapT]⟩, rfl⟩
/-- each gap is a leaf or an atom -/
theorem gaps_cases {P : Str → Nat → Prop} {Q : Str → Prop} : ∀ {t : T}, t.Gp P Q → ∀ p ∈ t.gaps, (P p.1 p.2 ∧ p.1 ∈ t.leafG) ∨ (Q p.1 ∧ p.2 = 0)
  | .gap g as, h, p, m => by
    simp only [T.gaps, T.gapT, List.map_cons, List.mem_cons] at m
    rcases m with rfl | m
    · exact .inl ⟨h.1, by simp [T.leafG, gapOf]⟩
    · obtain ⟨x, hx, rfl⟩ := atoms_gap_mem.mp m
      exact .inr ⟨h.2 _ hx, rfl⟩
  | .say a, h, p, m => gaps_cases (t := a) h p m
  | .bin _ a b, h, p, m => by
    simp only [T.gaps, T.gapT, gaps_app, List.mem_append] at m
    rcases m with m | m
    · rcases gaps_cases h.1 p m with ⟨h1, h2⟩ | h1
      · exact .inl ⟨h1, by simp [T.leafG, h2]⟩
      · exact .inr h1
    · rcases gaps_cases h.2 p m with ⟨h1, h2⟩ | h1
      · exact .inl ⟨h1, by simp [T.leafG, h2]⟩
      · exact .inr h1
  | .ite a b c, h, p, m => by
    simp only [T.gaps, T.gapT, gaps_app, List.mem_append] at m
    rcases m with (m | m) | m
    · rcases gaps_cases h.1 p m with ⟨h1, h2⟩ | h1
      · exact .inl ⟨h1, by simp [T.leafG, h2]⟩
      · exact .inr h1
    · rcases gaps_cases h.2.1 p m with ⟨h1, h2⟩ | h1
      · exact .inl ⟨h1, by simp [T.leafG, h2]⟩
      · exact .inr h1
    · rcases gaps_cases h.2.2 p m with ⟨h1, h2⟩ | h1
      · exact .inl ⟨h1, by simp [T.leafG, h2]⟩
      · exact .inr h1
  | .lt _ a b, h, p, m => by
    simp only [T.gaps, T.gapT, gaps_app, List.mem_append] at m
    rcases m with m | m
    · rcases gaps_cases h.1 p m with ⟨h1, h2⟩ | h1
      · exact .inl ⟨h1, by simp [T.leafG, h2]⟩
      · exact .inr h1
    · rcases gaps_cases h.2 p m with ⟨h1, h2⟩ | h1
      · exact .inl ⟨h1, by simp [T.leafG, h2]⟩
      · exact .inr h1
  | .num _, _, p, m => by simp [T.gaps, T.gapT] at m
  | .name _, _, p, m => by simp [T.gaps, T.gapT] at m
  | .ask _, _, p, m => by simp [T.gaps, T.gapT] at m
  | .stop _, _, p, m => by simp [T.gaps, T.gapT] at m
theorem leafG_gaps : ∀ {t : T} {g : Str}, g ∈ t.leafG → g ∈ t.gaps.map (·.1)
  | .gap g as, x, h => by simp [T.leafG] at h; simp [T.gaps, T.gapT, gapOf, h]
  | .say a, x, h => leafG_gaps (t := a) h
  | .bin _ a b, x, h => by
    simp only [T.leafG, List.mem_append] at h
    simp only [T.gaps, T.gapT, gaps_app, List.map_append, List.mem_append]
    exact h.imp (fun h => leafG_gaps h) (fun h => leafG_gaps h)
  | .ite a b c, x, h => by
    simp only [T.leafG, List.mem_append] at h
    simp only [T.gaps, T.gapT, gaps_app, List.map_append, List.mem_append]
    exact h.imp (fun h => h.imp (fun h => leafG_gaps h) (fun h => leafG_gaps h)) (fun h => leafG_gaps h)
  | .lt _ a b, x, h => by
    simp only [T.leafG, List.mem_append] at h
    simp only [T.gaps, T.gapT, gaps_app, List.map_append, List.mem_append]
    exact h.imp (fun h => leafG_gaps h) (fun h => leafG_gaps h)
  | .num _, x, h => by simp [T.leafG] at h
  | .name _, x, h => by simp [T.leafG] at h
  | .ask _, x, h => by simp [T.leafG] at h
  | .stop _, x, h => by simp [T.leafG] at h
end Y
namespace Y
open PySem
/-! ### texts as lists of signs -/
theorem tx_cat (a b : List Nat) : txtOf a ++ txtOf b = txtOf (a ++ b) := by
  have h : ∀ x y : Str, x ++ y = ⟨x.cps ++ y.cps⟩ := fun _ _ => rfl
  rw [h]; simp [txtOf]
theorem tx_iff {a b : List Nat} : txtOf a = txtOf b ↔ a = b := ⟨txtOf_inj, fun h => by rw [h]⟩
theorem tx_tl (x : Str) : txtOf x.cps.toList = x := by cases x; simp [txtOf]
theorem cutS_tx (l : List Nat) (lo hi : Option Int) : L2.cutS (txtOf l) lo hi = txtOf (cutD l lo hi) := by
  have h1 : (txtOf l).length = l.length := txtOf_len l
  have h2 : (txtOf l).cps.toList = l := by simp [txtOf]
  unfold L2.cutS cutD
  rw [h1, h2]
  rfl
theorem sl_mid (S : Sto) (L : List Nat) (hL : L.length ≤ 1000000) (a k : Nat) : slV S (.str (txtOf L)) (some (a : Int)) (some ((a : Int) + (k : Int))) = some (.str (txtOf ((L.drop a).take k))) := by
  have e : ((a : Int) + (k : Int)) = ((a + k : Nat) : Int) := by omega
  show (if (txtOf L).length ≤ LIM then some (DV.str (L2.cutS (txtOf L) (some (a : Int)) (some ((a : Int) + (k : Int))))) else none) = _
  rw [if_pos (by rw [txtOf_len]; show L.length ≤ 16777216; omega), cutS_tx, e, cut_mid, show a + k - a = k by omega]
theorem sl_to (S : Sto) (L : List Nat) (hL : L.length ≤ 1000000) (a b : Nat) (h : a ≤ b) : slV S (.str (txtOf L)) (some (a : Int)) (some (b : Int)) = some (.str (txtOf ((L.drop a).take (b - a)))) := by
  have := sl_mid S L hL a (b - a)
  rw [show ((a : Int) + ((b - a : Nat) : Int)) = (b : Int) by omega] at this
  exact this
theorem len_tx (S : Sto) (L : List Nat) (hL : L.length ≤ 1000000) : lenV S (.str (txtOf L)) = some (.int (L.length : Nat)) := by
  have : lenV S (.str (txtOf L)) = if (txtOf L).length ≤ LIM then some (.int (txtOf L).length) else none := rfl
  rw [this, txtOf_len, if_pos (by show L.length ≤ 16777216; omega)]
theorem ix_tx (S : Sto) (L : List Nat) (hL : L.length ≤ 1000000) (a c : Nat) (h : L[a]? = some c) : ixV S (.str (txtOf L)) (.int (a : Int)) = some (.str (txtOf [c])) := by
  have e : ixV S (.str (txtOf L)) (.int (a : Int)) = if (txtOf L).length ≤ LIM then (L2.atI (txtOf L).cps.toList (a : Int)).map fun c => .str ⟨#[c]⟩ else none := rfl
  have h2 : (txtOf L).cps.toList = L := by simp [txtOf]
  rw [e, txtOf_len, if_pos (by show L.length ≤ 16777216; omega), h2, L2.atI_nat h]
  rfl
theorem in_tx (S : Sto) (c : Nat) (sg : List Nat) : inV S (.str (txtOf [c])) (.str (txtOf sg)) = some (decide (c ∈ sg)) := by
  have e : inV S (.str (txtOf [c])) (.str (txtOf sg)) = if (txtOf [c]).length = 1 then some (decide ((txtOf [c]).cps.getD 0 0 ∈ (txtOf sg).cps.toList)) else none := rfl
  rw [e, if_pos (show (txtOf [c]).length = 1 from txtOf_len [c])]
  simp [txtOf]
/-! ### a run of signs -/
theorem run_run_of (L : List Nat) (hL : L.length ≤ 900000) (sg : List Nat) (a : Nat) (w post : List Nat) (h : L.drop a = w ++ post) (hw : ∀ c ∈ w, c ∈ sg) (hp : ∀ c, post.head? = some c → c ∉ sg) (ha : a ≤ L.length) (n : Nat) (S : Sto) :
    C (n + 1) .p_run_of [.str (txtOf L), .int (a : Int), .str (txtOf sg)] S = .ok (.int ((a + w.length : Nat) : Int), false) S := by
  have hlen : L.length = a + (w.length + post.length) := by
    have := congrArg List.length h
    rw [List.length_drop, List.length_append] at this
    omega
  have hget : ∀ j, L[a + j]? = (w ++ post)[j]? := fun j => by rw [← h, List.getElem?_drop]
  have hln := fun S => len_tx S L (by omega)
  have hwh : whileS (andT (tst (ltE (var 1) (lenE (var 0)))) (tst (inE (ix (var 0) (var 1)) (var 2)))) (asg (tN 1) (add (var 1) (cst (.int 1)))) [some (.str (txtOf L)), some (.int (a : Int)), some (.str (txtOf sg))] S = .ok (.nx [some (.str (txtOf L)), some (.int ((a + w.length : Nat) : Int)), some (.str (txtOf sg))]) S := by
    refine Wp.eq ?_
    refine Wp_while (fun k l S' => ∃ j, j ≤ w.length ∧ k = w.length - j ∧ S' = S ∧ l = [some (.str (txtOf L)), some (.int ((a + j : Nat) : Int)), some (.str (txtOf sg))]) w.length _ _ (by omega) ⟨0, by omega, by omega, rfl, rfl⟩ ?_
    rintro k l S' ⟨j, h1, h2, rfl, rfl⟩
    by_cases hj : j < w.length
    · have hg : L[a + j]? = some w[j] := by rw [hget, List.getElem?_append_left hj, List.getElem?_eq_getElem hj]
      have hix := fun S => ix_tx S L (by omega) (a + j) _ hg
      have hin := fun S => in_tx S w[j] sg
      have hm : w[j] ∈ sg := hw _ (List.getElem_mem hj)
      have hlt : (((a + j : Nat) : Int) < (L.length : Int)) := by omega
      have hlt' : a + j < L.length := by omega
      have e : ((a + j : Nat) : Int) + 1 = ((a + (j + 1) : Nat) : Int) := by omega
      generalize txtOf L = TX at *
      generalize txtOf [w[j]] = TC at *
      generalize txtOf sg = SG at *
      generalize hq : ((a + j : Nat) : Int) = q at *
      simp [hln, hlt, hix, hin, hm]
      rw [e]
      refine ⟨w.length - (j + 1), by omega, j + 1, by omega, ?_⟩
      first | rfl | exact ⟨rfl, rfl⟩ | exact ⟨rfl, rfl, rfl⟩ | simp
    · have hjw : j = w.length := by omega
      subst hjw
      cases hpo : post with
      | nil =>
        have hlt : ¬ (((a + w.length : Nat) : Int) < (L.length : Int)) := by rw [hpo] at hlen; simp at hlen; omega
        generalize txtOf L = TX at *
        generalize txtOf sg = SG at *
        generalize hq : ((a + w.length : Nat) : Int) = q at *
        simp [hln, hlt]
      | cons c r =>
        have hg : L[a + w.length]? = some c := by rw [hget, hpo, List.getElem?_append_right (Nat.le_refl _), Nat.sub_self]; rfl
        have hix := fun S => ix_tx S L (by omega) (a + w.length) _ hg
        have hin := fun S => in_tx S c sg
        have hm : c ∉ sg := hp c (by rw [hpo]; rfl)
        have hlt : (((a + w.length : Nat) : Int) < (L.length : Int)) := by rw [hpo] at hlen; simp at hlen; omega
        generalize txtOf L = TX at *
        generalize txtOf [c] = TC at *
        generalize txtOf sg = SG at *
        generalize hq : ((a + w.length : Nat) : Int) = q at *
        simp [hln, hlt, hix, hin, hm]
  rw [C]
  generalize txtOf L = TX at *
  generalize txtOf sg = SG at *
  generalize ((a + w.length : Nat) : Int) = q at *
  simp [b_p_run_of]
  rw [hwh]
  simp [leave_ok]
end Y
namespace Y
open PySem
def letters : List Nat := [97,98,99,100,101,102,103,104,105,106,107,108,109,110,111,112,113,114,115,116,117,118,119,120,121,122]
def figures : List Nat := [48,49,50,51,52,53,54,55,56,57]
theorem c_LETTERS_tx : c_LETTERS = .str (txtOf letters) := rfl
theorem c_FIGURES_tx : c_FIGURES = .str (txtOf figures) := rfl
def kw6 : List Str := ["let", "in", "if", "then", "else", "say", "ask", "stop", "where", "quiet", "number"]
/-- a word of the language -/
structure WOk (w : List Nat) : Prop where
  l1 : 1 ≤ w.length
  l8 : w.length ≤ 8
  low : ∀ c ∈ w, c ∈ letters
  no : txtOf w ∉ kw6
theorem in_WORDS (S : Sto) {w : List Nat} (h : txtOf w ∉ kw6) : inV S (.str (txtOf w)) c_WORDS = some false := by
  have : inV S (.str (txtOf w)) (.tup (kw6.map DV.str)) = some (decide (txtOf w ∈ kw6)) := inV_strs S _ _
  rw [decide_eq_false h] at this
  exact this
/-- behind a word or a number no sign of its own -/
def Stop (post : List Nat) : Prop := ∀ c, post.head? = some c → c ∉ letters ∧ c ∉ figures ∧ c ≠ 91
theorem stop_nil : Stop [] := fun c h => by simp at h
theorem stop_32 (r : List Nat) : Stop (32 :: r) := fun c h => by
  have : c = 32 := by simpa using h.symm
  subst this; exact ⟨by decide, by decide, by decide⟩
theorem stop_41 (r : List Nat) : Stop (41 :: r) := fun c h => by
  have : c = 41 := by simpa using h.symm
  subst this; exact ⟨by decide, by decide, by decide⟩
theorem stop_93 (r : List Nat) : Stop (93 :: r) := fun c h => by
  have : c = 93 := by simpa using h.symm
  subst this; exact ⟨by decide, by decide, by decide⟩
/-- a part of a text behind a place -/
structure Wr (L : List Nat) (a : Nat) (w post : List Nat) : Prop where
  len : L.length ≤ 900000
  le : a ≤ L.length
  eq : L.drop a = w ++ post
theorem Wr.next {L : List Nat} {a : Nat} {w v post : List Nat} (h : Wr L a (w ++ v) post) : Wr L (a + w.length) v post := by
  have hl := congrArg List.length h.eq
  simp only [List.length_drop, List.length_append] at hl
  have h1 := h.le
  refine ⟨h.len, by omega, ?_⟩
  rw [← List.drop_drop, h.eq, List.append_assoc, List.drop_left']
  rfl
theorem Wr.post {L : List Nat} {a : Nat} {w v post : List Nat} (h : Wr L a w (v ++ post)) : Wr L (a + w.length) v post := by
  refine Wr.next (w := w) ⟨h.len, h.le, by rw [h.eq, List.append_assoc]⟩
theorem Wr.sub {L : List Nat} {a : Nat} {w v post : List Nat} (h : Wr L a (w ++ v) post) : Wr L a w (v ++ post) := ⟨h.len, h.le, by rw [h.eq, List.append_assoc]⟩
theorem Wr.take {L : List Nat} {a : Nat} {w post : List Nat} (h : Wr L a w post) : (L.drop a).take w.length = w := by rw [h.eq, List.take_left']; rfl
theorem Wr.sl {L : List Nat} {a : Nat} {w post : List Nat} (h : Wr L a w post) (S : Sto) : slV S (.str (txtOf L)) (some (a : Int)) (some ((a + w.length : Nat) : Int)) = some (.str (txtOf w)) := by
  have := sl_to S L (by have := h.len; omega) a (a + w.length) (by omega)
  rw [show a + w.length - a = w.length by omega, h.take] at this
  exact this
theorem run_word_at {L : List Nat} {a : Nat} {w post : List Nat} (h : Wr L a w post) (hw : WOk w) (hp : ∀ c, post.head? = some c → c ∉ letters) (n : Nat) (S : Sto) :
    C (n + 2) .p_word_at [.str (txtOf L), .int (a : Int)] S = .ok (.tup [.str (txtOf w), .int ((a + w.length : Nat) : Int)], false) S := by
  have hr := run_run_of L h.len letters a w post h.eq hw.low hp h.le n
  have hs := h.sl
  have hi := fun S => in_WORDS S hw.no
  have hl1 := hw.l1; have hl8 := hw.l8
  have e1 : ¬ ((a + w.length : Nat) : Int) = (a : Int) := by omega
  have e2 : ¬ (a : Int) + 8 < ((a + w.length : Nat) : Int) := by omega
  have hLT := c_LETTERS_tx
  rw [C]
  generalize txtOf L = TX at *
  generalize txtOf letters = LT at *
  generalize txtOf w = W at *
  generalize ((a + w.length : Nat) : Int) = q at *
  simp [b_p_word_at, hLT, hr, e1, e2, hs, hi, leave_ok]
end Y
namespace Y
open PySem
theorem numL_head : ∀ (k : Nat), (TL.numL k).head? = some 48 → k = 0 := by
  intro k
  induction k using Nat.strongRecOn with
  | _ k ih =>
    intro h
    by_cases hk : k < 10
    · rw [TL.numL_lt hk] at h
      have : 48 + k = 48 := by simpa using h
      omega
    · rw [TL.numL_step (by omega)] at h
      have hne := TL.numL_ne (k / 10)
      have h2 : (TL.numL (k / 10)).head? = some 48 := by
        cases e : TL.numL (k / 10) with
        | nil => exact absurd e hne
        | cons c r =>
          rw [show TL.numL (k / 10) = c :: r from e] at h
          simpa using h
      have := ih (k / 10) (by omega) h2
      omega
theorem numL_fig (k : Nat) : ∀ c ∈ TL.numL k, c ∈ figures := fun c m => by
  have h := TL.numL_digits k c m
  have h2 : 48 ≤ c ∧ c ≤ 57 := h
  have : c = 48 ∨ c = 49 ∨ c = 50 ∨ c = 51 ∨ c = 52 ∨ c = 53 ∨ c = 54 ∨ c = 55 ∨ c = 56 ∨ c = 57 := by omega
  simp only [figures, List.mem_cons, List.not_mem_nil, or_false]
  exact this
theorem lett_fig : ∀ c ∈ letters, c ∉ figures := by decide
theorem int_tx {k : Nat} (hk : k < 10 ^ 30) : intTV (.str (txtOf (TL.numL k))) = some (.int (k : Int)) := by
  have hl : (TL.numL k).length ≤ 30 := TL.numL_len (by decide) hk
  have e : Str.ofString (toString ((k : Nat) : Int)) = txtOf (TL.numL k) := TL.ext_tl (by rw [TL.tl_num]; simp [txtOf, TL.tl])
  have h := TL.int_num (n := k) (by show (TL.numL k).length ≤ 4300; omega)
  rw [e] at h
  show (if (txtOf (TL.numL k)).length ≤ 640 then (intText? (txtOf (TL.numL k))).map DV.int else none) = _
  rw [txtOf_len, if_pos (by omega), h]
  rfl
theorem run_leaf_name {L : List Nat} {a : Nat} {w post : List Nat} (h : Wr L a w post) (hw : WOk w) (hp : Stop post) (n : Nat) (S : Sto) :
    C (n + 3) .p_leaf_at [.str (txtOf L), .int (a : Int)] S = .ok (.tup [.tup [.str "name", .str (txtOf w)], .int ((a + w.length : Nat) : Int)], false) S := by
  have hr := run_run_of L h.len figures a [] (w ++ post) (by rw [h.eq]; rfl) (fun c m => by simp at m) (fun c hc => by
    have hl1 := hw.l1
    cases hw0 : w with
    | nil => rw [hw0] at hl1; simp at hl1
    | cons d r =>
      rw [hw0] at hc
      have : d = c := by simpa using hc
      subst this
      exact lett_fig d (hw.low d (by rw [hw0]; exact List.mem_cons_self))) h.le (n + 1)
  have hwa := run_word_at h hw (fun c hc => (hp c hc).1) n
  have e0 : ((a + ([] : List Nat).length : Nat) : Int) = (a : Int) := by simp
  rw [e0] at hr
  have hLT := c_FIGURES_tx
  rw [C]
  generalize txtOf L = TX at *
  generalize txtOf figures = LT at *
  generalize txtOf w = W at *
  generalize ((a + w.length : Nat) : Int) = q at *
  simp [b_p_leaf_at, hLT, hr, hwa, leave_ok]
theorem run_leaf_num {L : List Nat} {a k : Nat} {post : List Nat} (h : Wr L a (TL.numL k) post) (hk : k < 10 ^ 30) (hp : Stop post) (n : Nat) (S : Sto) :
    C (n + 3) .p_leaf_at [.str (txtOf L), .int (a : Int)] S = .ok (.tup [.tup [.str "num", .int (k : Int)], .int ((a + (TL.numL k).length : Nat) : Int)], false) S := by
  have hr := run_run_of L h.len figures a (TL.numL k) post h.eq (numL_fig k) (fun c hc => (hp c hc).2.1) h.le (n + 1)
  have hl : (TL.numL k).length ≤ 30 := TL.numL_len (by decide) hk
  have hne := TL.numL_ne k
  have hs := h.sl
  have hint := int_tx hk
  obtain ⟨c, r, hcr⟩ : ∃ c r, TL.numL k = c :: r := by
    cases e : TL.numL k with
    | nil => exact absurd e hne
    | cons c r => exact ⟨c, r, rfl⟩
  have hL0 : L[a]? = some c := by
    have : (L.drop a)[0]? = some c := by rw [h.eq, hcr]; rfl
    rw [List.getElem?_drop] at this
    simpa using this
  have hix := fun S => ix_tx S L (by have := h.len; omega) a c hL0
  have hz : c = 48 → (TL.numL k).length = 1 := fun e => by
    have := numL_head k (by rw [hcr, e]; rfl)
    subst this
    rfl
  have hpos : 1 ≤ (TL.numL k).length := by rw [hcr]; simp
  have e1 : ¬ ((a + (TL.numL k).length : Nat) : Int) = (a : Int) := by omega
  have e2 : ¬ (a : Int) + 30 < ((a + (TL.numL k).length : Nat) : Int) := by omega
  have e3 : txtOf [c] = "0" → ¬ (a : Int) + 1 < ((a + (TL.numL k).length : Nat) : Int) := fun e => by
    have : ("0" : Str) = txtOf [48] := rfl
    rw [this] at e
    have h2 := hz (by simpa using txtOf_inj e)
    omega
  have hT : intTV (.str (txtOf (TL.numL k))) = some (.int (k : Int)) := hint
  have hLT := c_FIGURES_tx
  rw [C]
  generalize txtOf L = TX at *
  generalize txtOf figures = LT at *
  generalize txtOf (TL.numL k) = W at *
  generalize ((a + (TL.numL k).length : Nat) : Int) = q at *
  have hI : ∀ (e : ME) (l : Lo) (S : Sto), e l S = .ok (.str W) S → intT e l S = .ok (.int (k : Int)) S := fun e l S he => by
    show (e l S).bind (fun x S1 => Out.of (intTV x) S1) = _
    rw [he]
    simp only [bind_ok', hT]
    rfl
  by_cases e0 : txtOf [c] = "0"
  · have e4 := e3 e0
    have : intT (slice (var 0) (some (var 1)) (some (var 2))) [some (.str TX), some (.int (a : Int)), some (.int q), none] S = .ok (.int (k : Int)) S := hI _ _ _ (by simp [hs])
    simp [b_p_leaf_at, hLT, hr, e1, e2, hix, e0, e4, this, leave_ok]
  · have : intT (slice (var 0) (some (var 1)) (some (var 2))) [some (.str TX), some (.int (a : Int)), some (.int q), none] S = .ok (.int (k : Int)) S := hI _ _ _ (by simp [hs])
    simp [b_p_leaf_at, hLT, hr, e1, e2, hix, e0, this, leave_ok]
end Y
namespace Y
open PySem
def wl (x : Str) : List Nat := x.cps.toList
theorem tx_wl (x : Str) : txtOf (wl x) = x := tx_tl x
def wrA : At → List Nat
  | .num n => TL.numL n.toNat
  | .name x => wl x
  | .gap h => 63 :: wl h
def AtOk : At → Prop
  | .num n => 0 ≤ n ∧ n < 10 ^ 30
  | .name x => WOk (wl x)
  | .gap h => WOk (wl h)
def tailA : List At → List Nat
  | [] => []
  | a :: r => 32 :: (wrA a ++ tailA r)
theorem Wr.c1 {L : List Nat} {a c : Nat} {w post : List Nat} (h : Wr L a (c :: w) post) (S : Sto) : slV S (.str (txtOf L)) (some (a : Int)) (some ((a : Int) + 1)) = some (.str (txtOf [c])) := by
  have := sl_mid S L (by have := h.len; omega) a 1
  rw [h.eq] at this
  exact this
theorem Wr.k {L : List Nat} {a : Nat} {w post : List Nat} (h : Wr L a w post) (S : Sto) (k : Nat) : slV S (.str (txtOf L)) (some (a : Int)) (some ((a : Int) + (k : Int))) = some (.str (txtOf ((w ++ post).take k))) := by
  have := sl_mid S L (by have := h.len; omega) a k
  rw [h.eq] at this
  exact this
theorem run_place_past {L : List Nat} {a : Nat} {w post : List Nat} (h : Wr L a w post) (hw : w.length ≤ 1000) (n : Nat) (S : Sto) :
    C (n + 1) .p_place_past [.str (txtOf L), .int (a : Int), .str (txtOf w)] S = .ok (.int ((a + w.length : Nat) : Int), false) S := by
  have hs := fun S => h.k S w.length
  rw [List.take_left' rfl] at hs
  have hln := fun S => len_tx S w (by omega)
  have e : ((a : Int) + (w.length : Int)) = ((a + w.length : Nat) : Int) := by omega
  rw [C, ← e]
  clear e
  generalize txtOf L = TX at *
  generalize txtOf w = W at *
  generalize (w.length : Int) = wl at *
  simp [b_p_place_past, hln, hs, leave_ok]
theorem lett_q : ∀ c ∈ letters, c ≠ 63 ∧ c ≠ 40 := by decide
theorem fig_q : ∀ c ∈ figures, c ≠ 63 ∧ c ≠ 40 := by decide
theorem wok_hd {w : List Nat} (h : WOk w) : ∃ c r, w = c :: r ∧ c ∈ letters := by
  have := h.l1
  cases e : w with
  | nil => rw [e] at this; simp at this
  | cons c r => exact ⟨c, r, rfl, h.low c (by rw [e]; exact List.mem_cons_self)⟩
theorem num_hd (k : Nat) : ∃ c r, TL.numL k = c :: r ∧ c ∈ figures := by
  cases e : TL.numL k with
  | nil => exact absurd e (TL.numL_ne k)
  | cons c r => exact ⟨c, r, rfl, numL_fig k c (by rw [e]; exact List.mem_cons_self)⟩
theorem tx1_ne {c d : Nat} (h : c ≠ d) : ¬ txtOf [c] = txtOf [d] := fun z => h (by simpa using txtOf_inj z)
theorem lit_q : (Str.ofString "?" : Str) = txtOf [63] := rfl
theorem lit_o : (Str.ofString "(" : Str) = txtOf [40] := rfl
theorem lit_b : (Str.ofString "[" : Str) = txtOf [91] := rfl
theorem lit_e : (Str.ofString "]" : Str) = txtOf [93] := rfl
theorem lit_s : (Str.ofString " " : Str) = txtOf [32] := rfl
theorem run_atom {L : List Nat} {a : Nat} {t : At} {post : List Nat} (h : Wr L a (wrA t) post) (ht : AtOk t) (hp : Stop post) (n : Nat) (S : Sto) :
    C (n + 4) .p_atom_at [.str (txtOf L), .int (a : Int)] S = .ok (.tup [encA t, .int ((a + (wrA t).length : Nat) : Int)], false) S := by
  cases t with
  | num z =>
    obtain ⟨k, rfl⟩ : ∃ k : Nat, z = k := ⟨z.toNat, by have := ht.1; omega⟩
    have hk : k < 10 ^ 30 := by have := ht.2; omega
    have h' : Wr L a (TL.numL k) post := h
    have hr := run_leaf_num h' hk hp (n := n)
    obtain ⟨c, r, e, hc⟩ := num_hd k
    have h2 := h'
    rw [e] at h2
    have hc1 := h2.c1
    have hne := tx1_ne (fig_q c hc).1
    have ew : wrA (.num (k : Int)) = TL.numL k := rfl
    have ee : encA (.num (k : Int)) = .tup [.str "num", .int (k : Int)] := rfl
    rw [ew, ee, C]
    generalize txtOf L = TX at *
    generalize txtOf [c] = CC at *
    generalize ((a + (TL.numL k).length : Nat) : Int) = q at *
    simp [b_p_atom_at, hc1, lit_q, hne, hr, leave_ok]
  | name x =>
    have h' : Wr L a (wl x) post := h
    have hw : WOk (wl x) := ht
    have hr := run_leaf_name h' hw hp (n := n)
    obtain ⟨c, r, e, hc⟩ := wok_hd hw
    have h2 := h'
    rw [e] at h2
    have hc1 := h2.c1
    have hne := tx1_ne (lett_q c hc).1
    have ew : wrA (.name x) = wl x := rfl
    have ee : encA (.name x) = .tup [.str "name", .str x] := rfl
    rw [tx_wl] at hr
    rw [ew, ee, C]
    generalize txtOf L = TX at *
    generalize txtOf [c] = CC at *
    generalize ((a + (wl x).length : Nat) : Int) = q at *
    simp [b_p_atom_at, hc1, lit_q, hne, hr, leave_ok]
  | gap g =>
    have h' : Wr L a (63 :: wl g) post := h
    have hw : WOk (wl g) := ht
    have hc1 := h'.c1
    have hn : Wr L (a + 1) (wl g) post := Wr.next (w := [63]) h'
    have hr := run_word_at hn hw (fun c hc => (hp c hc).1) (n + 1)
    have ew : (wrA (.gap g)).length = 1 + (wl g).length := by show (63 :: wl g).length = _; simp; omega
    have ee : encA (.gap g) = .tup [.str "gap", .str g, .tup []] := rfl
    have e1 : (a : Int) + 1 = ((a + 1 : Nat) : Int) := by omega
    rw [tx_wl] at hr
    rw [ew, ee, C, show a + (1 + (wl g).length) = a + 1 + (wl g).length by omega]
    rw [← e1] at hr
    generalize txtOf L = TX at *
    generalize ((a + 1 + (wl g).length : Nat) : Int) = q at *
    simp [b_p_atom_at, hc1, lit_q, hr, leave_ok]
end Y
namespace Y
open PySem
theorem stop_take {post : List Nat} (h : Stop post) : ¬ txtOf (post.take 1) = txtOf [91] := fun z => by
  have e := txtOf_inj z
  cases hp : post with
  | nil => rw [hp] at e; simp at e
  | cons c r =>
    rw [hp] at e
    have : c = 91 := by simpa using e
    exact (h c (by rw [hp]; rfl)).2.2 this
theorem run_gap0 {L : List Nat} {a : Nat} {g : Str} {post : List Nat} (h : Wr L a (63 :: wl g) post) (hw : WOk (wl g)) (hp : Stop post) (n : Nat) (S : Sto) :
    C (n + 5) .p_gap_at [.str (txtOf L), .int (a : Int)] S = .ok (.tup [enc (.gap g []), .int ((a + (1 + (wl g).length) : Nat) : Int)], false) S := by
  have hn : Wr L (a + 1) (wl g) post := Wr.next (w := [63]) h
  have hr := run_word_at hn hw (fun c hc => (hp c hc).1) (n + 2)
  have he : Wr L (a + 1 + (wl g).length) [] post := Wr.next (w := wl g) (by rw [List.append_nil]; exact hn)
  have hk := fun S => he.k S 1
  rw [List.nil_append] at hk
  have hne := stop_take hp
  have e1 : ((a + 1 : Nat) : Int) = (a : Int) + 1 := by omega
  have ee : enc (.gap g []) = .tup [.str "gap", .str g, .tup []] := rfl
  rw [tx_wl, e1] at hr
  rw [ee, C, show a + (1 + (wl g).length) = a + 1 + (wl g).length by omega]
  generalize txtOf L = TX at *
  generalize txtOf (post.take 1) = CC at *
  generalize ((a + 1 + (wl g).length : Nat) : Int) = q at *
  have hk' : ∀ S, slV S (.str TX) (some q) (some (q + 1)) = some (.str CC) := hk
  simp [b_p_gap_at, hr, hk', lit_b, hne, leave_ok]
theorem run_gapA {L : List Nat} {a : Nat} {g : Str} {a0 : At} {as : List At} {post : List Nat} (h : Wr L a (63 :: wl g ++ 91 :: (wrA a0 ++ (tailA as ++ [93]))) post) (hw : WOk (wl g)) (h0 : AtOk a0) (has : ∀ b ∈ as, AtOk b) (hl : as.length ≤ 1000) (n : Nat) (S : Sto) :
    C (n + 5) .p_gap_at [.str (txtOf L), .int (a : Int)] S = .ok (.tup [enc (.gap g (a0 :: as)), .int ((a + (63 :: wl g ++ 91 :: (wrA a0 ++ (tailA as ++ [93]))).length : Nat) : Int)], false) S := by
  have hs1 : Wr L a (63 :: wl g) (91 :: (wrA a0 ++ (tailA as ++ [93])) ++ post) := h.sub
  have hn : Wr L (a + 1) (wl g) (91 :: (wrA a0 ++ (tailA as ++ [93])) ++ post) := Wr.next (w := [63]) hs1
  have hr := run_word_at hn hw (fun c hc => by
    have : c = 91 := by simpa using hc.symm
    subst this; decide) (n + 2)
  have h2 : Wr L (a + (63 :: wl g).length) (91 :: (wrA a0 ++ (tailA as ++ [93]))) post := h.next
  have ep1 : a + (63 :: wl g).length = a + 1 + (wl g).length := by simp; omega
  rw [ep1] at h2
  have hc1 := h2.c1
  have h3 : Wr L (a + 1 + (wl g).length + 1) (wrA a0 ++ (tailA as ++ [93])) post := Wr.next (w := [91]) h2
  have stopT : ∀ r : List At, Stop (tailA r ++ [93] ++ post) := fun r => by
    cases r with
    | nil => exact stop_93 post
    | cons b r => exact stop_32 _
  have hat := run_atom h3.sub h0 (stopT as) (n := n)
  have h4 : Wr L (a + 1 + (wl g).length + 1 + (wrA a0).length) (tailA as ++ [93]) post := h3.next
  obtain ⟨p1, hp1⟩ : ∃ p, p = a + 1 + (wl g).length := ⟨_, rfl⟩
  obtain ⟨p2, hp2⟩ : ∃ p, p = a + 1 + (wl g).length + 1 + (wrA a0).length := ⟨_, rfl⟩
  rw [← hp2] at h4 hat
  rw [← hp1] at hc1 hr
  have e1 : ((a + 1 : Nat) : Int) = (a : Int) + 1 := by omega
  have e2 : ((a + 1 + (wl g).length + 1 : Nat) : Int) = (p1 : Int) + 1 := by omega
  rw [tx_wl, e1] at hr
  rw [e2] at hat
  have hend : a + (63 :: wl g ++ 91 :: (wrA a0 ++ (tailA as ++ [93]))).length = p2 + (tailA as).length + 1 := by simp; omega
  rw [hend]
  have hasm : ∀ b ∈ as, AtOk b := has
  obtain ⟨f, S1, hwh, o3, hf, hS1⟩ : ∃ f S1, whileS (tst (eqE (slice (var 0) (some (var 1)) (some (add (var 1) (cst (.int 1))))) (cst (.str " ")))) (seq (asg (tU [3, 1]) (call (C (n + 4) .p_atom_at) (aCons (var 0) (aCons (add (var 1) (cst (.int 1))) (aNil))))) <|
      app (var 4) (var 3)) [some (.str (txtOf L)), some (.int (p2 : Int)), some (.str g), some (encA a0), some (.ref S.length)] (S ++ [.lst [encA a0]]) = .ok f S1 ∧ ∃ o3 : DV, f = .nx [some (.str (txtOf L)), some (.int ((p2 + (tailA as).length : Nat) : Int)), some (.str g), some o3, some (.ref S.length)] ∧ S1 = S ++ [.lst ((a0 :: as).map encA)] := by
    refine Wp.ex ?_
    refine Wp_while (fun k l S' => ∃ (done rest : List At) (p : Nat) (o3 : DV), as = done ++ rest ∧ k = rest.length ∧ Wr L p (tailA rest ++ [93]) post ∧ p + (tailA rest).length = p2 + (tailA as).length ∧ S' = S ++ [.lst ((a0 :: done).map encA)] ∧ l = [some (.str (txtOf L)), some (.int (p : Int)), some (.str g), some o3, some (.ref S.length)]) as.length _ _ (by omega) ⟨[], as, p2, encA a0, rfl, rfl, h4, rfl, rfl, rfl⟩ ?_
    rintro k l S' ⟨done, rest, p, o3, q1, q2, q3, q4, rfl, rfl⟩
    cases rest with
    | nil =>
      have hc : Wr L p (93 :: []) post := q3
      have hc1 := hc.c1
      have hne := tx1_ne (show (93 : Nat) ≠ 32 by decide)
      have ed : as = done := by rw [q1, List.append_nil]
      have ep : p = p2 + (tailA as).length := by simpa [tailA] using q4
      subst ed
      rw [← ep]
      generalize txtOf L = TX at *
      generalize txtOf [93] = CC at *
      simp [hc1, lit_s, hne]
    | cons b r =>
      have hc : Wr L p (32 :: (wrA b ++ (tailA r ++ [93]))) post := by
        have : tailA (b :: r) ++ [93] = 32 :: (wrA b ++ (tailA r ++ [93])) := by simp [tailA]
        rw [← this]; exact q3
      have hc1 := hc.c1
      have h5 : Wr L (p + 1) (wrA b ++ (tailA r ++ [93])) post := Wr.next (w := [32]) hc
      have hb : AtOk b := hasm b (by rw [q1]; simp)
      have hat2 := run_atom h5.sub hb (stopT r) (n := n)
      have h6 : Wr L (p + 1 + (wrA b).length) (tailA r ++ [93]) post := h5.next
      have e5 : ((p + 1 : Nat) : Int) = (p : Int) + 1 := by omega
      rw [e5] at hat2
      have hdl : done.length + 1 < 16777216 := by
        have := congrArg List.length q1
        simp at this
        omega
      have hnr := noRef_encA b
      have hfin : ∃ k', k' < k ∧ ∃ (done' rest' : List At) (p' : Nat) (o3 : DV), as = done' ++ rest' ∧ k' = rest'.length ∧ Wr L p' (tailA rest' ++ [93]) post ∧ p' + (tailA rest').length = p2 + (tailA as).length ∧ S ++ [DV.lst ((a0 :: (done ++ [b])).map encA)] = S ++ [.lst ((a0 :: done').map encA)] ∧ [some (.str (txtOf L)), some (.int ((p + 1 + (wrA b).length : Nat) : Int)), some (.str g), some (encA b), some (.ref S.length)] = [some (DV.str (txtOf L)), some (.int (p' : Int)), some (.str g), some o3, some (.ref S.length)] :=
        ⟨r.length, by rw [q2]; simp, done ++ [b], r, p + 1 + (wrA b).length, encA b, by rw [q1]; simp, rfl, h6, by rw [← q4]; simp [tailA]; omega, rfl, rfl⟩
      generalize txtOf L = TX at *
      generalize ((p + 1 + (wrA b).length : Nat) : Int) = q at *
      simp [hc1, lit_s, hat2, hdl, hnr]
      simpa using hfin
  subst hf hS1
  have hcl : Wr L (p2 + (tailA as).length) [93] post := h4.next
  have hpp := run_place_past hcl (by decide) (n + 3)
  have ee : enc (.gap g (a0 :: as)) = .tup [.str "gap", .str g, .tup ((a0 :: as).map encA)] := rfl
  have elen : ((p2 + (tailA as).length + ([93] : List Nat).length : Nat) : Int) = ((p2 + (tailA as).length + 1 : Nat) : Int) := rfl
  rw [elen] at hpp
  have hll : ((a0 :: as).map encA).length ≤ 16777216 := by simp; omega
  have hnrs : noRefs ((a0 :: as).map encA) = true := noRefs_map _ noRef_encA _
  have hnr0 := noRef_encA a0
  rw [ee, C]
  simp only [lit_e.symm] at hpp
  generalize txtOf L = TX at *
  generalize ((p2 + (tailA as).length : Nat) : Int) = q at *
  generalize ((p2 + (tailA as).length + 1 : Nat) : Int) = q1 at *
  generalize (a0 :: as).map encA = AS at *
  simp [b_p_gap_at, hr, hc1, lit_b, hat, hnr0]
  rw [hwh]
  simp [hpp, hll, hnrs, leave_ok]
end Y
namespace Y
open PySem
def sg : Bo → List Nat
  | .add => [32, 43, 32]
  | .sub => [32, 45, 32]
  | .mul => [32, 42, 32]
  | .thn => [32, 59, 32]
/-- what a tree is written as -/
def wr : T → List Nat
  | .num n => TL.numL n.toNat
  | .name x => wl x
  | .ask w => [40, 97, 115, 107, 32] ++ (wl w ++ [41])
  | .stop w => [40, 115, 116, 111, 112, 32] ++ (wl w ++ [41])
  | .gap g [] => 63 :: wl g
  | .gap g (a :: as) => 63 :: wl g ++ 91 :: (wrA a ++ (tailA as ++ [93]))
  | .say a => [40, 115, 97, 121, 32] ++ (wr a ++ [41])
  | .bin o a b => 40 :: (wr a ++ (sg o ++ (wr b ++ [41])))
  | .ite a b c => [40, 105, 102, 32] ++ (wr a ++ ([32, 116, 104, 101, 110, 32] ++ (wr b ++ ([32, 101, 108, 115, 101, 32] ++ (wr c ++ [41])))))
  | .lt x a b => [40, 108, 101, 116, 32] ++ (wl x ++ ([32, 61, 32] ++ (wr a ++ ([32, 105, 110, 32] ++ (wr b ++ [41])))))
def TrW : T → Prop
  | .num n => 0 ≤ n ∧ n < 10 ^ 30
  | .name x => WOk (wl x)
  | .ask w => WOk (wl w)
  | .stop w => WOk (wl w)
  | .gap g as => WOk (wl g) ∧ (∀ a ∈ as, AtOk a) ∧ as.length ≤ 3
  | .say a => TrW a
  | .bin _ a b => TrW a ∧ TrW b
  | .ite a b c => TrW a ∧ TrW b ∧ TrW c
  | .lt x a b => WOk (wl x) ∧ TrW a ∧ TrW b
theorem run_pp {L : List Nat} {a : Nat} {w post : List Nat} (h : Wr L a w post) (lit : Str) (e : lit = txtOf w) (hw : w.length ≤ 1000) (n : Nat) (S : Sto) :
    C (n + 1) .p_place_past [.str (txtOf L), .int (a : Int), .str lit] S = .ok (.int ((a + w.length : Nat) : Int), false) S := by
  subst e; exact run_place_past h hw n S
theorem tree_of_inner {L : List Nat} {a p : Nat} {t : T} {r post0 post : List Nat} (hc : Wr L a (40 :: r) post0) (n : Nat) (hi : ∀ S, C (n + 1) .p_inner_at [.str (txtOf L), .int ((a : Int) + 1)] S = .ok (.tup [enc t, .int (p : Int)], false) S) (hp : Wr L p [41] post) (S : Sto) :
    C (n + 2) .p_tree_at [.str (txtOf L), .int (a : Int)] S = .ok (.tup [enc t, .int ((p + 1 : Nat) : Int)], false) S := by
  have hc1 := hc.c1
  have hpp := run_pp hp (Str.ofString ")") rfl (by decide) n
  have e1 : ((p + ([41] : List Nat).length : Nat) : Int) = ((p + 1 : Nat) : Int) := rfl
  rw [e1] at hpp
  have hq := tx1_ne (show (40 : Nat) ≠ 63 by decide)
  have hnr := noRef_enc t
  rw [C]
  generalize txtOf L = TX at *
  generalize ((p + 1 : Nat) : Int) = q at *
  generalize enc t = ET at *
  simp [b_p_tree_at, hc1, lit_q, lit_o, hq, hi, hpp, hnr, leave_ok]
theorem lt_ask : (Str.ofString "ask " : Str) = txtOf [97, 115, 107, 32] := rfl
theorem lt_stop : (Str.ofString "stop " : Str) = txtOf [115, 116, 111, 112, 32] := rfl
theorem lt_say : (Str.ofString "say " : Str) = txtOf [115, 97, 121, 32] := rfl
theorem lt_let : (Str.ofString "let " : Str) = txtOf [108, 101, 116, 32] := rfl
theorem lt_if : (Str.ofString "if " : Str) = txtOf [105, 102, 32] := rfl
theorem txn {a b : List Nat} (h : a ≠ b) : ¬ txtOf a = txtOf b := fun z => h (txtOf_inj z)
/-- the slices at a place that inner_at looks at -/
theorem Wr.s3 {L : List Nat} {a : Nat} {w post : List Nat} (h : Wr L a w post) (S : Sto) : slV S (.str (txtOf L)) (some (a : Int)) (some ((a : Int) + 3)) = some (.str (txtOf ((w ++ post).take 3))) := h.k S 3
theorem Wr.s4 {L : List Nat} {a : Nat} {w post : List Nat} (h : Wr L a w post) (S : Sto) : slV S (.str (txtOf L)) (some (a : Int)) (some ((a : Int) + 4)) = some (.str (txtOf ((w ++ post).take 4))) := h.k S 4
theorem Wr.s5 {L : List Nat} {a : Nat} {w post : List Nat} (h : Wr L a w post) (S : Sto) : slV S (.str (txtOf L)) (some (a : Int)) (some ((a : Int) + 5)) = some (.str (txtOf ((w ++ post).take 5))) := h.k S 5
theorem inner_ask {L : List Nat} {a : Nat} {w : Str} {post : List Nat} (h : Wr L a ([97, 115, 107, 32] ++ (wl w ++ [41])) post) (hw : WOk (wl w)) (n : Nat) (S : Sto) :
    C (n + 3) .p_inner_at [.str (txtOf L), .int (a : Int)] S = .ok (.tup [enc (.ask w), .int ((a + 4 + (wl w).length : Nat) : Int)], false) S := by
  have h4 := h.s4
  have e4 : ((([97, 115, 107, 32] ++ (wl w ++ [41])) ++ post).take 4) = [97, 115, 107, 32] := rfl
  rw [e4] at h4
  have h2 : Wr L (a + 4) (wl w ++ [41]) post := Wr.next (w := [97, 115, 107, 32]) h
  have hr := run_word_at h2.sub hw (fun c hc => by
    have : c = 41 := by simpa using hc.symm
    subst this; decide) n
  have e1 : ((a + 4 : Nat) : Int) = (a : Int) + 4 := by omega
  rw [tx_wl, e1] at hr
  have ee : enc (.ask w) = .tup [.str "ask", .str w] := rfl
  rw [ee, C]
  generalize txtOf L = TX at *
  generalize ((a + 4 + (wl w).length : Nat) : Int) = q at *
  simp [b_p_inner_at, h4, lt_ask, hr, leave_ok]
theorem inner_stop {L : List Nat} {a : Nat} {w : Str} {post : List Nat} (h : Wr L a ([115, 116, 111, 112, 32] ++ (wl w ++ [41])) post) (hw : WOk (wl w)) (n : Nat) (S : Sto) :
    C (n + 3) .p_inner_at [.str (txtOf L), .int (a : Int)] S = .ok (.tup [enc (.stop w), .int ((a + 5 + (wl w).length : Nat) : Int)], false) S := by
  have h4 := h.s4
  have h5 := h.s5
  have e4 : ((([115, 116, 111, 112, 32] ++ (wl w ++ [41])) ++ post).take 4) = [115, 116, 111, 112] := rfl
  have e5 : ((([115, 116, 111, 112, 32] ++ (wl w ++ [41])) ++ post).take 5) = [115, 116, 111, 112, 32] := rfl
  rw [e4] at h4
  rw [e5] at h5
  have n4 : ¬ txtOf [115, 116, 111, 112] = txtOf [97, 115, 107, 32] := txn (by decide)
  have h2 : Wr L (a + 5) (wl w ++ [41]) post := Wr.next (w := [115, 116, 111, 112, 32]) h
  have hr := run_word_at h2.sub hw (fun c hc => by
    have : c = 41 := by simpa using hc.symm
    subst this; decide) n
  have e1 : ((a + 5 : Nat) : Int) = (a : Int) + 5 := by omega
  rw [tx_wl, e1] at hr
  have ee : enc (.stop w) = .tup [.str "stop", .str w] := rfl
  rw [ee, C]
  generalize txtOf L = TX at *
  generalize ((a + 5 + (wl w).length : Nat) : Int) = q at *
  simp [b_p_inner_at, h4, h5, lt_ask, lt_stop, n4, hr, leave_ok]
theorem inner_say {L : List Nat} {a : Nat} {x : T} {post : List Nat} (h : Wr L a ([115, 97, 121, 32] ++ (wr x ++ [41])) post) (n : Nat) (hx : ∀ S, C n .p_tree_at [.str (txtOf L), .int ((a + 4 : Nat) : Int)] S = .ok (.tup [enc x, .int ((a + 4 + (wr x).length : Nat) : Int)], false) S) (S : Sto) :
    C (n + 1) .p_inner_at [.str (txtOf L), .int (a : Int)] S = .ok (.tup [enc (.say x), .int ((a + 4 + (wr x).length : Nat) : Int)], false) S := by
  have h4 := h.s4
  have h5 := h.s5
  have e4 : ((([115, 97, 121, 32] ++ (wr x ++ [41])) ++ post).take 4) = [115, 97, 121, 32] := rfl
  rw [e4] at h4
  have n4 : ¬ txtOf [115, 97, 121, 32] = txtOf [97, 115, 107, 32] := txn (by decide)
  have n5 : ¬ txtOf ((([115, 97, 121, 32] ++ (wr x ++ [41])) ++ post).take 5) = txtOf [115, 116, 111, 112, 32] := txn (fun z => by simp at z)
  have e1 : ((a + 4 : Nat) : Int) = (a : Int) + 4 := by omega
  rw [e1] at hx
  have ee : enc (.say x) = .tup [.str "say", enc x] := rfl
  have hnr := noRef_enc x
  rw [ee, C]
  generalize txtOf L = TX at *
  generalize ((a + 4 + (wr x).length : Nat) : Int) = q at *
  generalize txtOf ((([115, 97, 121, 32] ++ (wr x ++ [41])) ++ post).take 5) = T5 at *
  generalize enc x = EX at *
  simp [b_p_inner_at, h4, h5, lt_ask, lt_stop, lt_say, n4, n5, hx, hnr, leave_ok]
end Y
namespace Y
open PySem
theorem run_let_at {L : List Nat} {b : Nat} {x : Str} {u v : T} {post : List Nat} (h : Wr L b (wl x ++ ([32, 61, 32] ++ (wr u ++ ([32, 105, 110, 32] ++ (wr v ++ [41]))))) post) (hw : WOk (wl x)) (n : Nat) (hn : 2 ≤ n)
    (hu : ∀ p post, Wr L p (wr u) post → Stop post → ∀ S, C n .p_tree_at [.str (txtOf L), .int (p : Int)] S = .ok (.tup [enc u, .int ((p + (wr u).length : Nat) : Int)], false) S)
    (hv : ∀ p post, Wr L p (wr v) post → Stop post → ∀ S, C n .p_tree_at [.str (txtOf L), .int (p : Int)] S = .ok (.tup [enc v, .int ((p + (wr v).length : Nat) : Int)], false) S) (S : Sto) :
    C (n + 1) .p_let_at [.str (txtOf L), .int (b : Int)] S = .ok (.tup [enc (.lt x u v), .int ((b + (wl x).length + 3 + (wr u).length + 4 + (wr v).length : Nat) : Int)], false) S := by
  obtain ⟨n, rfl⟩ : ∃ m, n = m + 2 := ⟨n - 2, by omega⟩
  have h1 : Wr L (b + (wl x).length) ([32, 61, 32] ++ (wr u ++ ([32, 105, 110, 32] ++ (wr v ++ [41])))) post := h.next
  have h2 : Wr L (b + (wl x).length + 3) (wr u ++ ([32, 105, 110, 32] ++ (wr v ++ [41]))) post := Wr.next (w := [32, 61, 32]) h1
  have h3 : Wr L (b + (wl x).length + 3 + (wr u).length) ([32, 105, 110, 32] ++ (wr v ++ [41])) post := h2.next
  have h4 : Wr L (b + (wl x).length + 3 + (wr u).length + 4) (wr v ++ [41]) post := Wr.next (w := [32, 105, 110, 32]) h3
  have hr := run_word_at h.sub hw (fun c hc => by
    have : c = 32 := by simpa using hc.symm
    subst this; decide) n
  rw [tx_wl] at hr
  have hp1 := run_pp h1.sub (Str.ofString " = ") rfl (by decide) (n + 1)
  have hp2 := run_pp h3.sub (Str.ofString " in ") rfl (by decide) (n + 1)
  have hu' := hu _ _ h2.sub (stop_32 _)
  have hv' := hv _ _ h4.sub (stop_41 _)
  have e1 : ((b + (wl x).length + ([32, 61, 32] : List Nat).length : Nat) : Int) = ((b + (wl x).length + 3 : Nat) : Int) := rfl
  have e2 : ((b + (wl x).length + 3 + (wr u).length + ([32, 105, 110, 32] : List Nat).length : Nat) : Int) = ((b + (wl x).length + 3 + (wr u).length + 4 : Nat) : Int) := rfl
  rw [e1] at hp1
  rw [e2] at hp2
  have ee : enc (.lt x u v) = .tup [.str "let", .str x, enc u, enc v] := rfl
  have n1 := noRef_enc u
  have n2 := noRef_enc v
  rw [ee, C]
  clear e1 e2 h h1 h2 h3 h4 hu hv
  generalize txtOf L = TX at *
  generalize ((b + (wl x).length + 3 + (wr u).length + 4 + (wr v).length : Nat) : Int) = q5 at *
  generalize ((b + (wl x).length + 3 + (wr u).length + 4 : Nat) : Int) = q4 at *
  generalize ((b + (wl x).length + 3 + (wr u).length : Nat) : Int) = q3 at *
  generalize ((b + (wl x).length + 3 : Nat) : Int) = q2 at *
  generalize ((b + (wl x).length : Nat) : Int) = q1 at *
  generalize enc u = EU at *
  generalize enc v = EV at *
  simp [b_p_let_at, hr, hp1, hu', hp2, hv', n1, n2, leave_ok]
theorem inner_let {L : List Nat} {a : Nat} {x : Str} {u v : T} {post : List Nat} (h : Wr L a ([108, 101, 116, 32] ++ (wl x ++ ([32, 61, 32] ++ (wr u ++ ([32, 105, 110, 32] ++ (wr v ++ [41])))))) post) (hw : WOk (wl x)) (n : Nat) (hn : 2 ≤ n)
    (hu : ∀ p post, Wr L p (wr u) post → Stop post → ∀ S, C n .p_tree_at [.str (txtOf L), .int (p : Int)] S = .ok (.tup [enc u, .int ((p + (wr u).length : Nat) : Int)], false) S)
    (hv : ∀ p post, Wr L p (wr v) post → Stop post → ∀ S, C n .p_tree_at [.str (txtOf L), .int (p : Int)] S = .ok (.tup [enc v, .int ((p + (wr v).length : Nat) : Int)], false) S) (S : Sto) :
    C (n + 2) .p_inner_at [.str (txtOf L), .int (a : Int)] S = .ok (.tup [enc (.lt x u v), .int ((a + 4 + (wl x).length + 3 + (wr u).length + 4 + (wr v).length : Nat) : Int)], false) S := by
  have h4 := h.s4
  have h5 := h.s5
  have e4 : ((([108, 101, 116, 32] ++ (wl x ++ ([32, 61, 32] ++ (wr u ++ ([32, 105, 110, 32] ++ (wr v ++ [41])))))) ++ post).take 4) = [108, 101, 116, 32] := rfl
  rw [e4] at h4
  have n4 : ¬ txtOf [108, 101, 116, 32] = txtOf [97, 115, 107, 32] := txn (by decide)
  have n4' : ¬ txtOf [108, 101, 116, 32] = txtOf [115, 97, 121, 32] := txn (by decide)
  have n5 : ¬ txtOf ((([108, 101, 116, 32] ++ (wl x ++ ([32, 61, 32] ++ (wr u ++ ([32, 105, 110, 32] ++ (wr v ++ [41])))))) ++ post).take 5) = txtOf [115, 116, 111, 112, 32] := txn (fun z => by simp at z)
  have h2 : Wr L (a + 4) (wl x ++ ([32, 61, 32] ++ (wr u ++ ([32, 105, 110, 32] ++ (wr v ++ [41]))))) post := Wr.next (w := [108, 101, 116, 32]) h
  have hr := run_let_at h2 hw n hn hu hv
  have e1 : ((a + 4 : Nat) : Int) = (a : Int) + 4 := by omega
  rw [e1] at hr
  have hnr := noRef_enc (.lt x u v)
  rw [C]
  clear h h2 hu hv e4
  generalize txtOf L = TX at *
  generalize ((a + 4 + (wl x).length + 3 + (wr u).length + 4 + (wr v).length : Nat) : Int) = q at *
  generalize txtOf ((([108, 101, 116, 32] ++ (wl x ++ ([32, 61, 32] ++ (wr u ++ ([32, 105, 110, 32] ++ (wr v ++ [41])))))) ++ post).take 5) = T5 at *
  generalize enc (.lt x u v) = EX at *
  simp [b_p_inner_at, h4, h5, lt_ask, lt_stop, lt_say, lt_let, n4, n4', n5, hr, hnr, leave_ok]
theorem run_choice_at {L : List Nat} {b : Nat} {u v z : T} {post : List Nat} (h : Wr L b (wr u ++ ([32, 116, 104, 101, 110, 32] ++ (wr v ++ ([32, 101, 108, 115, 101, 32] ++ (wr z ++ [41]))))) post) (n : Nat) (hn : 1 ≤ n)
    (hu : ∀ p post, Wr L p (wr u) post → Stop post → ∀ S, C n .p_tree_at [.str (txtOf L), .int (p : Int)] S = .ok (.tup [enc u, .int ((p + (wr u).length : Nat) : Int)], false) S)
    (hv : ∀ p post, Wr L p (wr v) post → Stop post → ∀ S, C n .p_tree_at [.str (txtOf L), .int (p : Int)] S = .ok (.tup [enc v, .int ((p + (wr v).length : Nat) : Int)], false) S)
    (hz : ∀ p post, Wr L p (wr z) post → Stop post → ∀ S, C n .p_tree_at [.str (txtOf L), .int (p : Int)] S = .ok (.tup [enc z, .int ((p + (wr z).length : Nat) : Int)], false) S) (S : Sto) :
    C (n + 1) .p_choice_at [.str (txtOf L), .int (b : Int)] S = .ok (.tup [enc (.ite u v z), .int ((b + (wr u).length + 6 + (wr v).length + 6 + (wr z).length : Nat) : Int)], false) S := by
  obtain ⟨n, rfl⟩ : ∃ m, n = m + 1 := ⟨n - 1, by omega⟩
  have h1 : Wr L (b + (wr u).length) ([32, 116, 104, 101, 110, 32] ++ (wr v ++ ([32, 101, 108, 115, 101, 32] ++ (wr z ++ [41])))) post := h.next
  have h2 : Wr L (b + (wr u).length + 6) (wr v ++ ([32, 101, 108, 115, 101, 32] ++ (wr z ++ [41]))) post := Wr.next (w := [32, 116, 104, 101, 110, 32]) h1
  have h3 : Wr L (b + (wr u).length + 6 + (wr v).length) ([32, 101, 108, 115, 101, 32] ++ (wr z ++ [41])) post := h2.next
  have h4 : Wr L (b + (wr u).length + 6 + (wr v).length + 6) (wr z ++ [41]) post := Wr.next (w := [32, 101, 108, 115, 101, 32]) h3
  have hp1 := run_pp h1.sub (Str.ofString " then ") rfl (by decide) n
  have hp2 := run_pp h3.sub (Str.ofString " else ") rfl (by decide) n
  have hu' := hu _ _ h.sub (stop_32 _)
  have hv' := hv _ _ h2.sub (stop_32 _)
  have hz' := hz _ _ h4.sub (stop_41 _)
  have e1 : ((b + (wr u).length + ([32, 116, 104, 101, 110, 32] : List Nat).length : Nat) : Int) = ((b + (wr u).length + 6 : Nat) : Int) := rfl
  have e2 : ((b + (wr u).length + 6 + (wr v).length + ([32, 101, 108, 115, 101, 32] : List Nat).length : Nat) : Int) = ((b + (wr u).length + 6 + (wr v).length + 6 : Nat) : Int) := rfl
  rw [e1] at hp1
  rw [e2] at hp2
  have ee : enc (.ite u v z) = .tup [.str "if", enc u, enc v, enc z] := rfl
  have n1 := noRef_enc u
  have n2 := noRef_enc v
  have n3 := noRef_enc z
  rw [ee, C]
  clear e1 e2 h h1 h2 h3 h4 hu hv hz
  generalize txtOf L = TX at *
  generalize ((b + (wr u).length + 6 + (wr v).length + 6 + (wr z).length : Nat) : Int) = q5 at *
  generalize ((b + (wr u).length + 6 + (wr v).length + 6 : Nat) : Int) = q4 at *
  generalize ((b + (wr u).length + 6 + (wr v).length : Nat) : Int) = q3 at *
  generalize ((b + (wr u).length + 6 : Nat) : Int) = q2 at *
  generalize ((b + (wr u).length : Nat) : Int) = q1 at *
  generalize enc u = EU at *
  generalize enc v = EV at *
  generalize enc z = EZ at *
  simp [b_p_choice_at, hp1, hu', hp2, hv', hz', n1, n2, n3, leave_ok]
theorem inner_if {L : List Nat} {a : Nat} {u v z : T} {post : List Nat} (h : Wr L a ([105, 102, 32] ++ (wr u ++ ([32, 116, 104, 101, 110, 32] ++ (wr v ++ ([32, 101, 108, 115, 101, 32] ++ (wr z ++ [41])))))) post) (n : Nat) (hn : 1 ≤ n)
    (hu : ∀ p post, Wr L p (wr u) post → Stop post → ∀ S, C n .p_tree_at [.str (txtOf L), .int (p : Int)] S = .ok (.tup [enc u, .int ((p + (wr u).length : Nat) : Int)], false) S)
    (hv : ∀ p post, Wr L p (wr v) post → Stop post → ∀ S, C n .p_tree_at [.str (txtOf L), .int (p : Int)] S = .ok (.tup [enc v, .int ((p + (wr v).length : Nat) : Int)], false) S)
    (hz : ∀ p post, Wr L p (wr z) post → Stop post → ∀ S, C n .p_tree_at [.str (txtOf L), .int (p : Int)] S = .ok (.tup [enc z, .int ((p + (wr z).length : Nat) : Int)], false) S) (S : Sto) :
    C (n + 2) .p_inner_at [.str (txtOf L), .int (a : Int)] S = .ok (.tup [enc (.ite u v z), .int ((a + 3 + (wr u).length + 6 + (wr v).length + 6 + (wr z).length : Nat) : Int)], false) S := by
  have h3 := h.s3
  have h4 := h.s4
  have h5 := h.s5
  have e3 : ((([105, 102, 32] ++ (wr u ++ ([32, 116, 104, 101, 110, 32] ++ (wr v ++ ([32, 101, 108, 115, 101, 32] ++ (wr z ++ [41])))))) ++ post).take 3) = [105, 102, 32] := rfl
  rw [e3] at h3
  obtain ⟨X4, hX4⟩ : ∃ X4, X4 = ((([105, 102, 32] ++ (wr u ++ ([32, 116, 104, 101, 110, 32] ++ (wr v ++ ([32, 101, 108, 115, 101, 32] ++ (wr z ++ [41])))))) ++ post).take 4) := ⟨_, rfl⟩
  obtain ⟨X5, hX5⟩ : ∃ X5, X5 = ((([105, 102, 32] ++ (wr u ++ ([32, 116, 104, 101, 110, 32] ++ (wr v ++ ([32, 101, 108, 115, 101, 32] ++ (wr z ++ [41])))))) ++ post).take 5) := ⟨_, rfl⟩
  rw [← hX4] at h4
  rw [← hX5] at h5
  have n1 : ¬ txtOf X4 = txtOf [97, 115, 107, 32] := txn (fun z => by rw [hX4] at z; simp at z)
  have n2 : ¬ txtOf X4 = txtOf [115, 97, 121, 32] := txn (fun z => by rw [hX4] at z; simp at z)
  have n3 : ¬ txtOf X4 = txtOf [108, 101, 116, 32] := txn (fun z => by rw [hX4] at z; simp at z)
  have n5 : ¬ txtOf X5 = txtOf [115, 116, 111, 112, 32] := txn (fun z => by rw [hX5] at z; simp at z)
  have h2 : Wr L (a + 3) (wr u ++ ([32, 116, 104, 101, 110, 32] ++ (wr v ++ ([32, 101, 108, 115, 101, 32] ++ (wr z ++ [41]))))) post := Wr.next (w := [105, 102, 32]) h
  have hr := run_choice_at h2 n hn hu hv hz
  have e1 : ((a + 3 : Nat) : Int) = (a : Int) + 3 := by omega
  rw [e1] at hr
  have hnr := noRef_enc (.ite u v z)
  rw [C]
  clear h h2 hu hv hz e3 hX4 hX5
  generalize txtOf L = TX at *
  generalize ((a + 3 + (wr u).length + 6 + (wr v).length + 6 + (wr z).length : Nat) : Int) = q at *
  generalize txtOf X4 = T4 at *
  generalize txtOf X5 = T5 at *
  generalize enc (.ite u v z) = EX at *
  simp [b_p_inner_at, h3, h4, h5, lt_ask, lt_stop, lt_say, lt_let, lt_if, n1, n2, n3, n5, hr, hnr, leave_ok]
end Y
namespace Y
open PySem
theorem kw_eq : ∀ (w k r : List Nat), (∀ c ∈ w, c ≠ 32) → (∀ c ∈ k, c ≠ 32) → (w ++ 32 :: r).take (k.length + 1) = k ++ [32] → w = k
  | [], [], r, _, _, _ => rfl
  | [], c :: k, r, _, hk, h => by
    have : (32 : Nat) = c := by simpa using congrArg List.head? h
    exact absurd this.symm (hk c List.mem_cons_self)
  | d :: w, [], r, hw, _, h => by
    have : d = 32 := by simpa using congrArg List.head? h
    exact absurd this (hw d List.mem_cons_self)
  | d :: w, c :: k, r, hw, hk, h => by
    simp only [List.cons_append, List.length_cons, List.take_succ_cons, List.cons.injEq] at h
    rw [h.1, kw_eq w k r (fun c m => hw c (List.mem_cons_of_mem _ m)) (fun c m => hk c (List.mem_cons_of_mem _ m)) h.2]
theorem fig_no : ∀ c ∈ figures, c ∉ letters ∧ c ≠ 32 := by decide
theorem lett_32 : ∀ c ∈ letters, c ≠ 32 := by decide
theorem wr_hd : ∀ t : T, TrW t → (∃ x, t = .name x) ∨ ∃ c r, wr t = c :: r ∧ c ∉ letters ∧ c ≠ 32
  | .num z, _ => by
    obtain ⟨c, r, e, m⟩ := num_hd z.toNat
    exact .inr ⟨c, r, e, fig_no c m⟩
  | .name x, _ => .inl ⟨x, rfl⟩
  | .ask w, _ => .inr ⟨40, _, rfl, by decide, by decide⟩
  | .stop w, _ => .inr ⟨40, _, rfl, by decide, by decide⟩
  | .gap g [], _ => .inr ⟨63, _, rfl, by decide, by decide⟩
  | .gap g (a :: as), _ => .inr ⟨63, _, rfl, by decide, by decide⟩
  | .say a, _ => .inr ⟨40, _, rfl, by decide, by decide⟩
  | .bin o a b, _ => .inr ⟨40, _, rfl, by decide, by decide⟩
  | .ite a b c, _ => .inr ⟨40, _, rfl, by decide, by decide⟩
  | .lt x a b, _ => .inr ⟨40, _, rfl, by decide, by decide⟩
/-- no word of the language begins what a part is written as -/
theorem wr_kw {t : T} (ht : TrW t) (k : List Nat) (hk0 : k ≠ []) (hk : ∀ c ∈ k, c ∈ letters ∧ c ≠ 32) (hkw : txtOf k ∈ kw6) (r : List Nat) : ¬ txtOf ((wr t ++ 32 :: r).take (k.length + 1)) = txtOf (k ++ [32]) := txn fun z => by
  rcases wr_hd t ht with ⟨x, rfl⟩ | ⟨c, w, e, hc, _⟩
  · have hw : WOk (wl x) := ht
    have := kw_eq (wl x) k r (fun c m => lett_32 c (hw.low c m)) (fun c m => (hk c m).2) z
    exact hw.no (by rw [this]; exact hkw)
  · rw [e] at z
    cases k with
    | nil => exact hk0 rfl
    | cons d k =>
      have : c = d := by simpa using congrArg List.head? z
      subst this
      exact hc (hk c List.mem_cons_self).1
theorem sg_look (o : Bo) : kd_SIGNS.lookup (txtOf (sg o)) = some (.str o.s) := by cases o <;> rfl
theorem inner_bin {L : List Nat} {a : Nat} {o : Bo} {u v : T} {post : List Nat} (h : Wr L a (wr u ++ (sg o ++ (wr v ++ [41]))) post) (huW : TrW u) (n : Nat)
    (hu : ∀ p post, Wr L p (wr u) post → Stop post → ∀ S, C n .p_tree_at [.str (txtOf L), .int (p : Int)] S = .ok (.tup [enc u, .int ((p + (wr u).length : Nat) : Int)], false) S)
    (hv : ∀ p post, Wr L p (wr v) post → Stop post → ∀ S, C n .p_tree_at [.str (txtOf L), .int (p : Int)] S = .ok (.tup [enc v, .int ((p + (wr v).length : Nat) : Int)], false) S) (S : Sto) :
    C (n + 1) .p_inner_at [.str (txtOf L), .int (a : Int)] S = .ok (.tup [enc (.bin o u v), .int ((a + (wr u).length + 3 + (wr v).length : Nat) : Int)], false) S := by
  obtain ⟨sr, hsr⟩ : ∃ sr, sg o = 32 :: sr := by cases o <;> exact ⟨_, rfl⟩
  have hsl : (sg o).length = 3 := by cases o <;> rfl
  have h3 := h.s3
  have h4 := h.s4
  have h5 := h.s5
  have eX : (wr u ++ (sg o ++ (wr v ++ [41]))) ++ post = wr u ++ 32 :: (sr ++ (wr v ++ [41]) ++ post) := by rw [hsr]; simp
  rw [eX] at h3 h4 h5
  have n1 := wr_kw huW [97, 115, 107] (by decide) (by decide) (by decide) (sr ++ (wr v ++ [41]) ++ post)
  have n2 := wr_kw huW [115, 116, 111, 112] (by decide) (by decide) (by decide) (sr ++ (wr v ++ [41]) ++ post)
  have n3 := wr_kw huW [115, 97, 121] (by decide) (by decide) (by decide) (sr ++ (wr v ++ [41]) ++ post)
  have n4 := wr_kw huW [108, 101, 116] (by decide) (by decide) (by decide) (sr ++ (wr v ++ [41]) ++ post)
  have n5 := wr_kw huW [105, 102] (by decide) (by decide) (by decide) (sr ++ (wr v ++ [41]) ++ post)
  simp only [List.length_cons, List.length_nil, List.cons_append, List.nil_append, Nat.reduceAdd] at n1 n2 n3 n4 n5
  have g1 : Wr L (a + (wr u).length) (sg o ++ (wr v ++ [41])) post := h.next
  have g2 : Wr L (a + (wr u).length + 3) (wr v ++ [41]) post := by have := Wr.next g1; rw [hsl] at this; exact this
  have hu' := hu _ _ h.sub (by rw [hsr]; exact stop_32 _)
  have hv' := hv _ _ g2.sub (stop_41 _)
  have hs := g1.s3
  have es : ((sg o ++ (wr v ++ [41])) ++ post).take 3 = sg o := by rw [List.append_assoc, ← hsl, List.take_left' rfl]
  rw [es] at hs
  have hlk := sg_look o
  have e3 : ((a + (wr u).length + 3 : Nat) : Int) = ((a + (wr u).length : Nat) : Int) + 3 := by omega
  rw [e3] at hv'
  have ee : enc (.bin o u v) = .tup [.str o.s, enc u, enc v] := rfl
  have m1 := noRef_enc u
  have m2 := noRef_enc v
  rw [ee, C]
  clear h g1 g2 hu hv es e3 eX
  generalize txtOf L = TX at *
  generalize txtOf (sg o) = SG at *
  generalize txtOf ((wr u ++ 32 :: (sr ++ (wr v ++ [41]) ++ post)).take 3) = T3 at *
  generalize txtOf ((wr u ++ 32 :: (sr ++ (wr v ++ [41]) ++ post)).take 4) = T4 at *
  generalize txtOf ((wr u ++ 32 :: (sr ++ (wr v ++ [41]) ++ post)).take 5) = T5 at *
  generalize ((a + (wr u).length + 3 + (wr v).length : Nat) : Int) = q2 at *
  generalize ((a + (wr u).length : Nat) : Int) = q1 at *
  generalize enc u = EU at *
  generalize enc v = EV at *
  have hk1 : ∀ (e : ME) (l : Lo) (S : Sto), e l S = .ok (.str SG) S → knin kd_SIGNS e l S = .ok (.bl false) S := fun e l S he => by
    show (e l S).bind _ = _
    rw [he]
    simp [hlk]
  have hk2 : ∀ (e : ME) (l : Lo) (S : Sto), e l S = .ok (.str SG) S → kget kd_SIGNS e l S = .ok (.str o.s) S := fun e l S he => by
    show (e l S).bind _ = _
    rw [he]
    simp [hlk]
  have hk1' : ∀ (l : Lo) (S : Sto), l[4]? = some (some (.str SG)) → knin kd_SIGNS (var 4) l S = .ok (.bl false) S := fun l S hl => hk1 _ l S (by simp [hl])
  have hk2' : ∀ (l : Lo) (S : Sto), l[4]? = some (some (.str SG)) → kget kd_SIGNS (var 4) l S = .ok (.str o.s) S := fun l S hl => hk2 _ l S (by simp [hl])
  simp [b_p_inner_at, h3, h4, h5, lt_ask, lt_stop, lt_say, lt_let, lt_if, n1, n2, n3, n4, n5, hu', hs, hv', hk1', hk2', m1, m2, leave_ok]
end Y
namespace Y
open PySem
/-- the tree that a text writes at a place -/
theorem run_tree : ∀ (t : T), TrW t → ∀ n, 3 * t.ht + 6 ≤ n → ∀ (L : List Nat) (a : Nat) (post : List Nat), Wr L a (wr t) post → Stop post → ∀ S : Sto, C n .p_tree_at [.str (txtOf L), .int (a : Int)] S = .ok (.tup [enc t, .int ((a + (wr t).length : Nat) : Int)], false) S
  | .num z, ht, n, hn, L, a, post, h, hp, S => by
    obtain ⟨n, rfl⟩ : ∃ m, n = m + 4 := ⟨n - 4, by omega⟩
    obtain ⟨k, rfl⟩ : ∃ k : Nat, z = k := ⟨z.toNat, by have := ht.1; omega⟩
    have hk : k < 10 ^ 30 := by have := ht.2; omega
    have h' : Wr L a (TL.numL k) post := h
    have hr := run_leaf_num h' hk hp (n := n)
    obtain ⟨c, r, e, hc⟩ := num_hd k
    have h2 := h'
    rw [e] at h2
    have hc1 := h2.c1
    have q1 := tx1_ne (fig_q c hc).1
    have q2 := tx1_ne (fig_q c hc).2
    have ew : wr (.num (k : Int)) = TL.numL k := rfl
    have ee : enc (.num (k : Int)) = .tup [.str "num", .int (k : Int)] := rfl
    rw [ew, ee, C]
    generalize txtOf L = TX at *
    generalize txtOf [c] = CC at *
    generalize ((a + (TL.numL k).length : Nat) : Int) = q at *
    simp [b_p_tree_at, hc1, lit_q, lit_o, q1, q2, hr, leave_ok]
  | .name x, ht, n, hn, L, a, post, h, hp, S => by
    obtain ⟨n, rfl⟩ : ∃ m, n = m + 4 := ⟨n - 4, by omega⟩
    have h' : Wr L a (wl x) post := h
    have hw : WOk (wl x) := ht
    have hr := run_leaf_name h' hw hp (n := n)
    obtain ⟨c, r, e, hc⟩ := wok_hd hw
    have h2 := h'
    rw [e] at h2
    have hc1 := h2.c1
    have q1 := tx1_ne (lett_q c hc).1
    have q2 := tx1_ne (lett_q c hc).2
    have ew : wr (.name x) = wl x := rfl
    have ee : enc (.name x) = .tup [.str "name", .str x] := rfl
    rw [tx_wl] at hr
    rw [ew, ee, C]
    generalize txtOf L = TX at *
    generalize txtOf [c] = CC at *
    generalize ((a + (wl x).length : Nat) : Int) = q at *
    simp [b_p_tree_at, hc1, lit_q, lit_o, q1, q2, hr, leave_ok]
  | .gap g [], ht, n, hn, L, a, post, h, hp, S => by
    obtain ⟨n, rfl⟩ : ∃ m, n = m + 6 := ⟨n - 6, by simp only [T.ht] at hn; omega⟩
    have h' : Wr L a (63 :: wl g) post := h
    have hr := run_gap0 h' ht.1 hp (n := n)
    have hc1 := h'.c1
    have ew : (wr (.gap g [])).length = 1 + (wl g).length := by show (63 :: wl g).length = _; simp; omega
    have hnr := noRef_enc (.gap g [])
    rw [ew, C]
    generalize txtOf L = TX at *
    generalize ((a + (1 + (wl g).length) : Nat) : Int) = q at *
    generalize enc (.gap g []) = EG at *
    simp [b_p_tree_at, hc1, lit_q, hr, hnr, leave_ok]
  | .gap g (a0 :: as), ht, n, hn, L, a, post, h, hp, S => by
    obtain ⟨n, rfl⟩ : ∃ m, n = m + 6 := ⟨n - 6, by simp only [T.ht] at hn; omega⟩
    have h' : Wr L a (63 :: wl g ++ 91 :: (wrA a0 ++ (tailA as ++ [93]))) post := h
    have hl := ht.2.2
    simp only [List.length_cons] at hl
    have hr := run_gapA h' ht.1 (ht.2.1 a0 List.mem_cons_self) (fun b m => ht.2.1 b (List.mem_cons_of_mem _ m)) (by omega) (n := n)
    have hc1 := Wr.c1 (w := wl g ++ 91 :: (wrA a0 ++ (tailA as ++ [93]))) h'
    have ew : wr (.gap g (a0 :: as)) = 63 :: wl g ++ 91 :: (wrA a0 ++ (tailA as ++ [93])) := rfl
    have hnr := noRef_enc (.gap g (a0 :: as))
    rw [ew, C]
    generalize txtOf L = TX at *
    generalize ((a + (63 :: wl g ++ 91 :: (wrA a0 ++ (tailA as ++ [93]))).length : Nat) : Int) = q at *
    generalize enc (.gap g (a0 :: as)) = EG at *
    simp [b_p_tree_at, hc1, lit_q, hr, hnr, leave_ok]
  | .ask w, ht, n, hn, L, a, post, h, hp, S => by
    obtain ⟨n, rfl⟩ : ∃ m, n = m + 4 := ⟨n - 4, by omega⟩
    have h' : Wr L a (40 :: ([97, 115, 107, 32] ++ (wl w ++ [41]))) post := h
    have hI : Wr L (a + 1) ([97, 115, 107, 32] ++ (wl w ++ [41])) post := Wr.next (w := [40]) h'
    have hr := inner_ask hI ht (n := n)
    have h2 : Wr L (a + 1 + 4) (wl w ++ [41]) post := Wr.next (w := [97, 115, 107, 32]) hI
    have h3 : Wr L (a + 1 + 4 + (wl w).length) [41] post := h2.next
    have e1 : ((a + 1 : Nat) : Int) = (a : Int) + 1 := by omega
    rw [e1] at hr
    have hf := tree_of_inner h' (n + 2) hr h3 S
    have el : a + 1 + 4 + (wl w).length + 1 = a + (wr (.ask w)).length := by simp [wr]; omega
    rw [el] at hf
    exact hf
  | .stop w, ht, n, hn, L, a, post, h, hp, S => by
    obtain ⟨n, rfl⟩ : ∃ m, n = m + 4 := ⟨n - 4, by omega⟩
    have h' : Wr L a (40 :: ([115, 116, 111, 112, 32] ++ (wl w ++ [41]))) post := h
    have hI : Wr L (a + 1) ([115, 116, 111, 112, 32] ++ (wl w ++ [41])) post := Wr.next (w := [40]) h'
    have hr := inner_stop hI ht (n := n)
    have h2 : Wr L (a + 1 + 5) (wl w ++ [41]) post := Wr.next (w := [115, 116, 111, 112, 32]) hI
    have h3 : Wr L (a + 1 + 5 + (wl w).length) [41] post := h2.next
    have e1 : ((a + 1 : Nat) : Int) = (a : Int) + 1 := by omega
    rw [e1] at hr
    have hf := tree_of_inner h' (n + 2) hr h3 S
    have el : a + 1 + 5 + (wl w).length + 1 = a + (wr (.stop w)).length := by simp [wr]; omega
    rw [el] at hf
    exact hf
  | .say x, ht, n, hn, L, a, post, h, hp, S => by
    simp only [T.ht] at hn
    obtain ⟨n, rfl⟩ : ∃ m, n = m + 2 := ⟨n - 2, by omega⟩
    have h' : Wr L a (40 :: ([115, 97, 121, 32] ++ (wr x ++ [41]))) post := h
    have hI : Wr L (a + 1) ([115, 97, 121, 32] ++ (wr x ++ [41])) post := Wr.next (w := [40]) h'
    have h2 : Wr L (a + 1 + 4) (wr x ++ [41]) post := Wr.next (w := [115, 97, 121, 32]) hI
    have h3 : Wr L (a + 1 + 4 + (wr x).length) [41] post := h2.next
    have hx := run_tree x ht n (by omega) L (a + 1 + 4) _ h2.sub (stop_41 _)
    have hr := inner_say hI n hx
    have e1 : ((a + 1 : Nat) : Int) = (a : Int) + 1 := by omega
    rw [e1] at hr
    have hf := tree_of_inner h' n hr h3 S
    have el : a + 1 + 4 + (wr x).length + 1 = a + (wr (.say x)).length := by simp [wr]; omega
    rw [el] at hf
    exact hf
  | .bin o u v, ht, n, hn, L, a, post, h, hp, S => by
    simp only [T.ht] at hn
    obtain ⟨n, rfl⟩ : ∃ m, n = m + 2 := ⟨n - 2, by omega⟩
    have hsl : (sg o).length = 3 := by cases o <;> rfl
    have h' : Wr L a (40 :: (wr u ++ (sg o ++ (wr v ++ [41])))) post := h
    have hI : Wr L (a + 1) (wr u ++ (sg o ++ (wr v ++ [41]))) post := Wr.next (w := [40]) h'
    have g1 : Wr L (a + 1 + (wr u).length) (sg o ++ (wr v ++ [41])) post := hI.next
    have g2 : Wr L (a + 1 + (wr u).length + 3) (wr v ++ [41]) post := by have := Wr.next g1; rw [hsl] at this; exact this
    have h3 : Wr L (a + 1 + (wr u).length + 3 + (wr v).length) [41] post := g2.next
    have hr := inner_bin hI ht.1 n (fun p post hq hs => run_tree u ht.1 n (by omega) L p post hq hs) (fun p post hq hs => run_tree v ht.2 n (by omega) L p post hq hs)
    have e1 : ((a + 1 : Nat) : Int) = (a : Int) + 1 := by omega
    rw [e1] at hr
    have hf := tree_of_inner h' n hr h3 S
    have el : a + 1 + (wr u).length + 3 + (wr v).length + 1 = a + (wr (.bin o u v)).length := by simp [wr, hsl]; omega
    rw [el] at hf
    exact hf
  | .ite u v z, ht, n, hn, L, a, post, h, hp, S => by
    simp only [T.ht] at hn
    obtain ⟨n, rfl⟩ : ∃ m, n = m + 3 := ⟨n - 3, by omega⟩
    have h' : Wr L a (40 :: ([105, 102, 32] ++ (wr u ++ ([32, 116, 104, 101, 110, 32] ++ (wr v ++ ([32, 101, 108, 115, 101, 32] ++ (wr z ++ [41]))))))) post := h
    have hI : Wr L (a + 1) ([105, 102, 32] ++ (wr u ++ ([32, 116, 104, 101, 110, 32] ++ (wr v ++ ([32, 101, 108, 115, 101, 32] ++ (wr z ++ [41])))))) post := Wr.next (w := [40]) h'
    have g1 : Wr L (a + 1 + 3) (wr u ++ ([32, 116, 104, 101, 110, 32] ++ (wr v ++ ([32, 101, 108, 115, 101, 32] ++ (wr z ++ [41]))))) post := Wr.next (w := [105, 102, 32]) hI
    have g2 : Wr L (a + 1 + 3 + (wr u).length) ([32, 116, 104, 101, 110, 32] ++ (wr v ++ ([32, 101, 108, 115, 101, 32] ++ (wr z ++ [41])))) post := g1.next
    have g3 : Wr L (a + 1 + 3 + (wr u).length + 6) (wr v ++ ([32, 101, 108, 115, 101, 32] ++ (wr z ++ [41]))) post := Wr.next (w := [32, 116, 104, 101, 110, 32]) g2
    have g4 : Wr L (a + 1 + 3 + (wr u).length + 6 + (wr v).length) ([32, 101, 108, 115, 101, 32] ++ (wr z ++ [41])) post := g3.next
    have g5 : Wr L (a + 1 + 3 + (wr u).length + 6 + (wr v).length + 6) (wr z ++ [41]) post := Wr.next (w := [32, 101, 108, 115, 101, 32]) g4
    have h3 : Wr L (a + 1 + 3 + (wr u).length + 6 + (wr v).length + 6 + (wr z).length) [41] post := g5.next
    have hr := inner_if hI n (by omega) (fun p post hq hs => run_tree u ht.1 n (by omega) L p post hq hs) (fun p post hq hs => run_tree v ht.2.1 n (by omega) L p post hq hs) (fun p post hq hs => run_tree z ht.2.2 n (by omega) L p post hq hs)
    have e1 : ((a + 1 : Nat) : Int) = (a : Int) + 1 := by omega
    rw [e1] at hr
    have hf := tree_of_inner h' (n + 1) hr h3 S
    have el : a + 1 + 3 + (wr u).length + 6 + (wr v).length + 6 + (wr z).length + 1 = a + (wr (.ite u v z)).length := by simp [wr]; omega
    rw [el] at hf
    exact hf
  | .lt x u v, ht, n, hn, L, a, post, h, hp, S => by
    simp only [T.ht] at hn
    obtain ⟨n, rfl⟩ : ∃ m, n = m + 3 := ⟨n - 3, by omega⟩
    have h' : Wr L a (40 :: ([108, 101, 116, 32] ++ (wl x ++ ([32, 61, 32] ++ (wr u ++ ([32, 105, 110, 32] ++ (wr v ++ [41]))))))) post := h
    have hI : Wr L (a + 1) ([108, 101, 116, 32] ++ (wl x ++ ([32, 61, 32] ++ (wr u ++ ([32, 105, 110, 32] ++ (wr v ++ [41])))))) post := Wr.next (w := [40]) h'
    have g0 : Wr L (a + 1 + 4) (wl x ++ ([32, 61, 32] ++ (wr u ++ ([32, 105, 110, 32] ++ (wr v ++ [41]))))) post := Wr.next (w := [108, 101, 116, 32]) hI
    have g1 : Wr L (a + 1 + 4 + (wl x).length) ([32, 61, 32] ++ (wr u ++ ([32, 105, 110, 32] ++ (wr v ++ [41])))) post := g0.next
    have g2 : Wr L (a + 1 + 4 + (wl x).length + 3) (wr u ++ ([32, 105, 110, 32] ++ (wr v ++ [41]))) post := Wr.next (w := [32, 61, 32]) g1
    have g3 : Wr L (a + 1 + 4 + (wl x).length + 3 + (wr u).length) ([32, 105, 110, 32] ++ (wr v ++ [41])) post := g2.next
    have g4 : Wr L (a + 1 + 4 + (wl x).length + 3 + (wr u).length + 4) (wr v ++ [41]) post := Wr.next (w := [32, 105, 110, 32]) g3
    have h3 : Wr L (a + 1 + 4 + (wl x).length + 3 + (wr u).length + 4 + (wr v).length) [41] post := g4.next
    have hr := inner_let hI ht.1 n (by omega) (fun p post hq hs => run_tree u ht.2.1 n (by omega) L p post hq hs) (fun p post hq hs => run_tree v ht.2.2 n (by omega) L p post hq hs)
    have e1 : ((a + 1 : Nat) : Int) = (a : Int) + 1 := by omega
    rw [e1] at hr
    have hf := tree_of_inner h' (n + 1) hr h3 S
    have el : a + 1 + 4 + (wl x).length + 3 + (wr u).length + 4 + (wr v).length + 1 = a + (wr (.lt x u v)).length := by simp [wr]; omega
    rw [el] at hf
    exact hf
end Y
namespace Y
open PySem
/-! ### how deep a text's brackets are -/
def runB : Nat → List Nat → Option Nat
  | d, [] => some d
  | d, c :: r => if c = 40 then (if 16 < d + 1 then none else runB (d + 1) r) else if c = 41 then runB (d - 1) r else runB d r
theorem runB_app : ∀ (a b : List Nat) (d : Nat), runB d (a ++ b) = (runB d a).bind fun e => runB e b
  | [], b, d => rfl
  | c :: r, b, d => by
    simp only [List.cons_append, runB]
    split
    · split
      · rfl
      · exact runB_app r b _
    · split
      · exact runB_app r b _
      · exact runB_app r b _
theorem runB_flat : ∀ (w : List Nat) (d : Nat), (∀ c ∈ w, c ≠ 40 ∧ c ≠ 41) → runB d w = some d
  | [], d, _ => rfl
  | c :: r, d, h => by
    obtain ⟨h1, h2⟩ := h c List.mem_cons_self
    simp only [runB, if_neg h1, if_neg h2]
    exact runB_flat r d fun x m => h x (List.mem_cons_of_mem _ m)
def bk : T → Nat
  | .ask _ => 1
  | .stop _ => 1
  | .say a => bk a + 1
  | .bin _ a b => max (bk a) (bk b) + 1
  | .ite a b c => max (bk a) (max (bk b) (bk c)) + 1
  | .lt _ a b => max (bk a) (bk b) + 1
  | _ => 0
theorem lett_fl : ∀ c ∈ letters, c ≠ 40 ∧ c ≠ 41 := by decide
theorem fig_fl : ∀ c ∈ figures, c ≠ 40 ∧ c ≠ 41 := by decide
theorem WOk.flat {w : List Nat} (h : WOk w) : ∀ c ∈ w, c ≠ 40 ∧ c ≠ 41 := fun c m => lett_fl c (h.low c m)
theorem wrA_flat {a : At} (h : AtOk a) : ∀ c ∈ wrA a, c ≠ 40 ∧ c ≠ 41 := fun c m => by
  cases a with
  | num n => exact fig_fl c (numL_fig _ c m)
  | name x => exact WOk.flat h c m
  | gap g =>
    rcases List.mem_cons.mp m with rfl | m
    · exact ⟨by decide, by decide⟩
    · exact WOk.flat (w := wl g) h c m
theorem tailA_flat : ∀ (as : List At), (∀ a ∈ as, AtOk a) → ∀ c ∈ tailA as, c ≠ 40 ∧ c ≠ 41
  | [], _, c, m => by simp [tailA] at m
  | a :: r, h, c, m => by
    simp only [tailA, List.mem_cons, List.mem_append] at m
    rcases m with rfl | m | m
    · exact ⟨by decide, by decide⟩
    · exact wrA_flat (h a List.mem_cons_self) c m
    · exact tailA_flat r (fun b mb => h b (List.mem_cons_of_mem _ mb)) c m
theorem fl_of {w : List Nat} (h : w.all (fun c => c != 40 && c != 41) = true) : ∀ c ∈ w, c ≠ 40 ∧ c ≠ 41 := fun c m => by
  have := List.all_eq_true.mp h c m
  simpa using this
theorem open_ok {d m : Nat} (r : List Nat) (h : d + (m + 1) ≤ 16) : runB d (40 :: r) = runB (d + 1) r := by
  simp only [runB, if_true]
  rw [if_neg (by omega)]
theorem close_ok (d : Nat) : runB (d + 1) [41] = some d := by simp [runB]
theorem runB_wr : ∀ (t : T), TrW t → ∀ d, d + bk t ≤ 16 → runB d (wr t) = some d
  | .num z, _, d, _ => runB_flat _ _ fun c m => fig_fl c (numL_fig _ c m)
  | .name x, h, d, _ => runB_flat _ _ (WOk.flat h)
  | .gap g [], h, d, _ => runB_flat _ _ fun c m => by
    rcases List.mem_cons.mp m with rfl | m
    · exact ⟨by decide, by decide⟩
    · exact WOk.flat h.1 c m
  | .gap g (a :: as), h, d, _ => runB_flat _ _ fun c m => by
    simp only [wr, List.mem_append, List.mem_cons, List.not_mem_nil, or_false] at m
    rcases m with (rfl | m) | rfl | m | m | rfl
    · exact ⟨by decide, by decide⟩
    · exact WOk.flat h.1 c m
    · exact ⟨by decide, by decide⟩
    · exact wrA_flat (h.2.1 a List.mem_cons_self) c m
    · exact tailA_flat as (fun b mb => h.2.1 b (List.mem_cons_of_mem _ mb)) c m
    · exact ⟨by decide, by decide⟩
  | .ask w, h, d, hd => by
    have hd : d + (0 + 1) ≤ 16 := by simpa [bk] using hd
    show runB d (40 :: ([97, 115, 107, 32] ++ (wl w ++ [41]))) = some d
    rw [open_ok _ hd, runB_app, runB_flat _ _ (fl_of (by decide)), Option.bind_some, runB_app, runB_flat _ _ (WOk.flat h), Option.bind_some, close_ok]
  | .stop w, h, d, hd => by
    have hd : d + (0 + 1) ≤ 16 := by simpa [bk] using hd
    show runB d (40 :: ([115, 116, 111, 112, 32] ++ (wl w ++ [41]))) = some d
    rw [open_ok _ hd, runB_app, runB_flat _ _ (fl_of (by decide)), Option.bind_some, runB_app, runB_flat _ _ (WOk.flat h), Option.bind_some, close_ok]
  | .say a, h, d, hd => by
    have hd' : d + (bk a + 1) ≤ 16 := hd
    show runB d (40 :: ([115, 97, 121, 32] ++ (wr a ++ [41]))) = some d
    rw [open_ok _ hd', runB_app, runB_flat _ _ (fl_of (by decide)), Option.bind_some, runB_app, runB_wr a h _ (by omega), Option.bind_some, close_ok]
  | .bin o a b, h, d, hd => by
    have hd' : d + (max (bk a) (bk b) + 1) ≤ 16 := hd
    show runB d (40 :: (wr a ++ (sg o ++ (wr b ++ [41])))) = some d
    rw [open_ok _ hd', runB_app, runB_wr a h.1 _ (by omega), Option.bind_some, runB_app, runB_flat _ _ (fl_of (by cases o <;> decide)), Option.bind_some, runB_app, runB_wr b h.2 _ (by omega), Option.bind_some, close_ok]
  | .ite a b c, h, d, hd => by
    have hd' : d + (max (bk a) (max (bk b) (bk c)) + 1) ≤ 16 := hd
    show runB d (40 :: ([105, 102, 32] ++ (wr a ++ ([32, 116, 104, 101, 110, 32] ++ (wr b ++ ([32, 101, 108, 115, 101, 32] ++ (wr c ++ [41]))))))) = some d
    rw [open_ok _ hd', runB_app, runB_flat _ _ (fl_of (by decide)), Option.bind_some, runB_app, runB_wr a h.1 _ (by omega), Option.bind_some, runB_app, runB_flat _ _ (fl_of (by decide)), Option.bind_some, runB_app, runB_wr b h.2.1 _ (by omega), Option.bind_some, runB_app, runB_flat _ _ (fl_of (by decide)), Option.bind_some, runB_app, runB_wr c h.2.2 _ (by omega), Option.bind_some, close_ok]
  | .lt x a b, h, d, hd => by
    have hd' : d + (max (bk a) (bk b) + 1) ≤ 16 := hd
    show runB d (40 :: ([108, 101, 116, 32] ++ (wl x ++ ([32, 61, 32] ++ (wr a ++ ([32, 105, 110, 32] ++ (wr b ++ [41]))))))) = some d
    rw [open_ok _ hd', runB_app, runB_flat _ _ (fl_of (by decide)), Option.bind_some, runB_app, runB_flat _ _ (WOk.flat h.1), Option.bind_some, runB_app, runB_flat _ _ (fl_of (by decide)), Option.bind_some, runB_app, runB_wr a h.2.1 _ (by omega), Option.bind_some, runB_app, runB_flat _ _ (fl_of (by decide)), Option.bind_some, runB_app, runB_wr b h.2.2 _ (by omega), Option.bind_some, close_ok]
theorem max2_run (a b : ME) (l : Lo) (S : Sto) : max2 a b l S = (a l S).bind fun x S1 => (b l S1).bind fun y S2 => Out.of (max2V x y) S2 := rfl
theorem lit_cl : (Str.ofString ")" : Str) = txtOf [41] := rfl
noncomputable def bdB (C : Fid → Ora) : MS := (ifS (tst (eqE (var 2) (cst (.str "(")))) (seq (asg (tN 1) (add (var 1) (cst (.int 1)))) <|
  ifS (tst (gtE (var 1) (cst (.int 16)))) (crash) (skip)) (ifS (tst (eqE (var 2) (cst (.str ")")))) (asg (tN 1) (max2 (cst (.int 0)) (sub (var 1) (cst (.int 1))))) (skip)))
theorem bd_loop (CC : Fid → Ora) (TX : DV) (S : Sto) : ∀ (w : List Nat) (d d' : Nat) (o2 : Option DV), runB d w = some d' → ∃ o2', loop (tN 2) (bdB CC) [] (w.map fun c => DV.str (txtOf [c])) [some TX, some (.int (d : Int)), o2] S = .ok (.nx [some TX, some (.int (d' : Int)), o2']) S
  | [], d, d', o2, h => by
    cases h
    exact ⟨o2, by simp [loop_nil]⟩
  | c :: r, d, d', o2, h => by
    rw [List.map_cons, loop_cons]
    simp only [runB] at h
    by_cases h1 : c = 40
    · subst h1
      rw [if_pos rfl] at h
      by_cases h2 : 16 < d + 1
      · rw [if_pos h2] at h; cases h
      · rw [if_neg h2] at h
        obtain ⟨o, ih⟩ := bd_loop CC TX S r (d + 1) d' (some (.str (txtOf [40]))) h
        have e : ((d + 1 : Nat) : Int) = (d : Int) + 1 := by omega
        rw [e] at ih
        have h3 : ¬ (16 : Int) < (d : Int) + 1 := by omega
        refine ⟨o, ?_⟩
        simp [bdB, lit_o, h3]
        exact ih
    · rw [if_neg h1] at h
      have n1 := tx1_ne h1
      by_cases h2 : c = 41
      · subst h2
        rw [if_pos rfl] at h
        obtain ⟨o, ih⟩ := bd_loop CC TX S r (d - 1) d' (some (.str (txtOf [41]))) h
        have e : max2V (.int 0) (.int ((d : Int) - 1)) = some (.int ((d - 1 : Nat) : Int)) := by
          show some (DV.int (if (d : Int) - 1 > 0 then (d : Int) - 1 else 0)) = _
          congr 2
          split <;> omega
        generalize ((d - 1 : Nat) : Int) = q at *
        refine ⟨o, ?_⟩
        simp [bdB, lit_o, lit_cl, n1, max2_run, e]
        exact ih
      · rw [if_neg h2] at h
        have n2 := tx1_ne h2
        obtain ⟨o, ih⟩ := bd_loop CC TX S r d d' (some (.str (txtOf [c]))) h
        refine ⟨o, ?_⟩
        simp [bdB, lit_o, lit_cl, n1, n2]
        exact ih
end Y
namespace Y
open PySem
theorem run_parts (n : Nat) (t : T) (S : Sto) : C (n + 1) .p_parts [enc t] S = .ok (.tup (t.parts.map enc), false) S := by
  simp only [C]
  cases t with
  | bin o a b =>
    cases o <;> simp [b_p_parts, enc, c_LEAVES, L2.atI, L2.ixN, inV, flatD, HT.sIx, cutD, T.parts, Bo.s, leave_ok, noRef_enc]
  | _ => simp [b_p_parts, enc, c_LEAVES, L2.atI, L2.ixN, inV, flatD, HT.sIx, cutD, T.parts, leave_ok, noRef_enc]
theorem run_cell_at (n : Nat) (ns : List Int) (k : Nat) (S : Sto) : C (n + 1) .l_cell_at [.rol (ns.map DV.int), .int (k : Int)] S = .ok (.int (ns.getD k 0), false) S := by
  simp only [C]
  by_cases h : k < ns.length
  · have h2 : L2.atI (ns.map DV.int) (k : Int) = some (.int ns[k]) := L2.atI_nat (by simp [h])
    simp [b_l_cell_at, h, h2, leave_ok]
  · simp [b_l_cell_at, h, leave_ok]
theorem compL_map {γ : Type} (e0 g : γ → DV) (t : Tg) (e : ME) (l0 : Lo) (S1 : Sto) : ∀ (ys : List γ) (acc : List DV), (∀ y ∈ ys, ∃ l1, t (e0 y) l0 = some l1 ∧ noRef (g y) = true ∧ ∀ x, e l1 (S1 ++ [x]) = .ok (g y) (S1 ++ [x])) →
    acc.length + ys.length ≤ 1000000 → compL t tYes e [] l0 S1.length (ys.map e0) (S1 ++ [.lst acc]) = .ok () (S1 ++ [.lst (acc ++ ys.map g)])
  | [], acc, _, _ => by
    unfold compL
    rw [List.map_nil]
    dsimp only
    rw [if_pos (show held (S1 ++ [.lst acc]) [] = true from rfl)]
    simp
  | y :: ys, acc, h, hl => by
    obtain ⟨l1, h1, h2, h3⟩ := h y List.mem_cons_self
    simp only [List.length_cons] at hl
    rw [List.map_cons]
    unfold compL
    rw [if_pos (show held (S1 ++ [.lst acc]) [] = true from rfl), h1]
    have hy : ∀ S', tYes l1 S' = .ok true S' := fun _ => rfl
    have hg : (S1 ++ [DV.lst acc])[S1.length]? = some (.lst acc) := by simp
    have hs : (S1 ++ [DV.lst acc]).set S1.length (.lst (acc ++ [g y])) = S1 ++ [.lst (acc ++ [g y])] := by simp
    simp only [hy, bind_ok', if_true, h3, hg]
    rw [if_pos ⟨by simp only [LIM_def]; omega, h2⟩, hs]
    rw [compL_map e0 g t e l0 S1 ys (acc ++ [g y]) (fun z m => h z (List.mem_cons_of_mem _ m)) (by simp; omega)]
    simp
/-- a comprehension over things of one kind -/
theorem comp_mapG {γ : Type} (e0 g : γ → DV) (own : List Nat) (t : Tg) (i : MI) (e : ME) (l : Lo) (S S1 : Sto) (ys : List γ) (hi : i l S = .ok (ys.map e0, []) S1) (hl : ys.length ≤ 1000000)
    (h : ∀ y ∈ ys, ∃ l1, t (e0 y) (wipeL l own) = some l1 ∧ noRef (g y) = true ∧ ∀ x, e l1 (S1 ++ [x]) = .ok (g y) (S1 ++ [x])) : comp own t i tYes e l S = .ok (.lst (ys.map g)) S1 := by
  unfold comp
  rw [hi]
  simp only [bind_ok']
  have hc := compL_map e0 g t e (wipeL l own) S1 ys [] h (by simpa using hl)
  rw [hc]
  simp

/-! ### shown -/
theorem catS (S : Sto) (a b : List Nat) (h : a.length + b.length ≤ 1000000) : addV S (.str (txtOf a)) (.str (txtOf b)) = some (.str (txtOf (a ++ b))) := by
  rw [addV_str, if_pos (by rw [txtOf_len, txtOf_len]; show a.length + b.length ≤ 16777216; omega), tx_cat]
theorem log_ok {k : Nat} (hk : k < 10 ^ 30) : k.log2 < 1920 := by
  by_cases h : k = 0
  · subst h; decide
  · exact (Nat.log2_lt h).mpr (Nat.lt_of_lt_of_le hk (Nat.le_trans (show 10 ^ 30 ≤ 2 ^ 100 by decide) (Nat.pow_le_pow_right (by decide) (by decide))))
theorem strI_num {k : Nat} (hk : k < 10 ^ 30) : strIV (.int (k : Int)) = some (.str (txtOf (TL.numL k))) := by
  have e : Str.ofString (toString ((k : Nat) : Int)) = txtOf (TL.numL k) := TL.ext_tl (by rw [TL.tl_num]; simp [txtOf, TL.tl])
  rw [← e]
  exact if_pos (show ((k : Nat) : Int).natAbs.log2 < 1920 from log_ok hk)
theorem strI_run (a : ME) (l : Lo) (S : Sto) : strI a l S = (a l S).bind fun x S1 => Out.of (strIV x) S1 := rfl
theorem lit_ask1 : (Str.ofString "ask" : Str) = txtOf [97, 115, 107] := rfl
theorem lit_stop1 : (Str.ofString "stop" : Str) = txtOf [115, 116, 111, 112] := rfl
theorem run_shown_atom (t : At) (ht : AtOk t) (n : Nat) (S : Sto) : C (n + 1) .p_shown_leaf [encA t] S = .ok (.str (txtOf (wrA t)), false) S := by
  rw [C]
  cases t with
  | num z =>
    obtain ⟨k, rfl⟩ : ∃ k : Nat, z = k := ⟨z.toNat, by have := ht.1; omega⟩
    have h := strI_num (k := k) (by have := ht.2; omega)
    have ew : wrA (.num (k : Int)) = TL.numL k := rfl
    rw [ew]
    simp [-addV_str, b_p_shown_leaf, encA, L2.atI, L2.ixN, strI_run, h, leave_ok]
  | name x =>
    have ew : txtOf (wrA (.name x)) = x := tx_wl x
    rw [ew]
    simp [-addV_str, b_p_shown_leaf, encA, L2.atI, L2.ixN, leave_ok]
  | gap g =>
    have hw : WOk (wl g) := ht
    have h8 := hw.l8
    have ha := catS S [63] (wl g) (by simp; omega)
    rw [tx_wl] at ha
    have ew : wrA (.gap g) = [63] ++ wl g := rfl
    rw [ew]
    simp [-addV_str, b_p_shown_leaf, encA, L2.atI, L2.ixN, lit_q, ha, leave_ok]
theorem joinA : ∀ (as : List At) (a : At), Txt.join (Str.ofString " ") ((a :: as).map fun b => txtOf (wrA b)) = txtOf (wrA a ++ tailA as) := by
  intro as
  induction as with
  | nil =>
    intro a
    rw [TL.join_eq]
    show txtOf (wrA a) = _
    simp [tailA]
  | cons b r ih =>
    intro a
    have h := ih b
    rw [TL.join_eq] at h ⊢
    show (txtOf (wrA a) ++ txtOf [32]) ++ Str.join (Str.ofString " ") ((b :: r).map fun b => txtOf (wrA b)) = _
    rw [h, tx_cat, tx_cat]
    simp [tailA]
theorem wrA_len {a : At} (h : AtOk a) : (wrA a).length ≤ 30 := by
  cases a with
  | num n =>
    obtain ⟨k, rfl⟩ : ∃ k : Nat, n = k := ⟨n.toNat, by have := h.1; omega⟩
    have hk : k < 10 ^ 30 := by have := h.2; omega
    exact TL.numL_len (by decide) hk
  | name x => have := WOk.l8 (w := wl x) h; show (wl x).length ≤ 30; omega
  | gap g => have := WOk.l8 (w := wl g) h; show (63 :: wl g).length ≤ 30; simp; omega
theorem tailA_len : ∀ (as : List At), (∀ a ∈ as, AtOk a) → (tailA as).length ≤ 31 * as.length
  | [], _ => by simp [tailA]
  | a :: r, h => by
    have h1 := wrA_len (h a List.mem_cons_self)
    have h2 := tailA_len r fun b m => h b (List.mem_cons_of_mem _ m)
    simp only [tailA, List.length_cons, List.length_append]
    omega
theorem run_shown_leaf (t : T) (ht : TrW t) (hp : t.parts = []) (n : Nat) (S : Sto) : C (n + 2) .p_shown_leaf [enc t] S = .ok (.str (txtOf (wr t)), false) S := by
  cases t with
  | num z =>
    obtain ⟨k, rfl⟩ : ∃ k : Nat, z = k := ⟨z.toNat, by have := ht.1; omega⟩
    have h := strI_num (k := k) (by have := ht.2; omega)
    have ew : wr (.num (k : Int)) = TL.numL k := rfl
    rw [ew, C]
    simp [-addV_str, b_p_shown_leaf, enc, L2.atI, L2.ixN, strI_run, h, leave_ok]
  | name x =>
    have ew : txtOf (wr (.name x)) = x := tx_wl x
    rw [ew, C]
    simp [-addV_str, b_p_shown_leaf, enc, L2.atI, L2.ixN, leave_ok]
  | ask w =>
    have hw : WOk (wl w) := ht
    have h8 := hw.l8
    have a1 : addV S (.str (txtOf [40])) (.str (Str.ofString "ask")) = some (.str (txtOf [40, 97, 115, 107])) := catS S [40] [97, 115, 107] (by simp)
    have a2 := catS S [40, 97, 115, 107] [32] (by simp)
    have a3 := catS S [40, 97, 115, 107, 32] (wl w) (by simp; omega)
    have a4 := catS S ([40, 97, 115, 107, 32] ++ wl w) [41] (by simp; omega)
    simp only [List.cons_append, List.nil_append] at a2 a3 a4
    rw [tx_wl] at a3
    have ew : wr (.ask w) = 40 :: 97 :: 115 :: 107 :: 32 :: (wl w ++ [41]) := rfl
    rw [ew, C]
    simp [-addV_str, b_p_shown_leaf, enc, L2.atI, L2.ixN, lit_o, lit_s, lit_cl]
    simp [-addV_str, a1, a2, a3, a4, leave_ok]
  | stop w =>
    have hw : WOk (wl w) := ht
    have h8 := hw.l8
    have a1 : addV S (.str (txtOf [40])) (.str (Str.ofString "stop")) = some (.str (txtOf [40, 115, 116, 111, 112])) := catS S [40] [115, 116, 111, 112] (by simp)
    have a2 := catS S [40, 115, 116, 111, 112] [32] (by simp)
    have a3 := catS S [40, 115, 116, 111, 112, 32] (wl w) (by simp; omega)
    have a4 := catS S ([40, 115, 116, 111, 112, 32] ++ wl w) [41] (by simp; omega)
    simp only [List.cons_append, List.nil_append] at a2 a3 a4
    rw [tx_wl] at a3
    have ew : wr (.stop w) = 40 :: 115 :: 116 :: 111 :: 112 :: 32 :: (wl w ++ [41]) := rfl
    rw [ew, C]
    simp [-addV_str, b_p_shown_leaf, enc, L2.atI, L2.ixN, lit_o, lit_s, lit_cl]
    simp [-addV_str, a1, a2, a3, a4, leave_ok]
  | gap g as =>
    have h8 := ht.1.l8
    cases as with
    | nil =>
      have ha := catS S [63] (wl g) (by simp; omega)
      rw [tx_wl] at ha
      have ew : wr (.gap g []) = [63] ++ wl g := rfl
      rw [ew, C]
      simp [-addV_str, b_p_shown_leaf, enc, L2.atI, L2.ixN, lit_q, ha, leave_ok]
    | cons a as =>
      have hl3 := ht.2.2
      simp only [List.length_cons] at hl3
      have hA := wrA_len (ht.2.1 a List.mem_cons_self)
      have hT := tailA_len as fun b m => ht.2.1 b (List.mem_cons_of_mem _ m)
      have a1 := catS S [63] (wl g) (by simp; omega)
      have a2 := catS S (63 :: wl g) [91] (by simp; omega)
      have a3 := catS S (63 :: (wl g ++ [91])) (wrA a ++ tailA as) (by simp; omega)
      have a4 := catS S (63 :: (wl g ++ [91]) ++ (wrA a ++ tailA as)) [93] (by simp; omega)
      simp only [List.cons_append, List.nil_append, List.append_assoc] at a1 a2 a3 a4
      rw [tx_wl] at a1
      have ew : wr (.gap g (a :: as)) = 63 :: (wl g ++ 91 :: (wrA a ++ (tailA as ++ [93]))) := rfl
      have hc : ∀ l : Lo, l[0]? = some (some (enc (.gap g (a :: as)))) → l.length = 2 → ∀ S, comp [1] (tN 1) (sSeq (ix (var 0) (cst (.int 2)))) (tYes) (call (C (n + 1) .p_shown_leaf) (aCons (var 1) (aNil))) l S = .ok (.lst ((a :: as).map fun b => DV.str (txtOf (wrA b)))) S := fun l h0 h2 S => by
        refine comp_mapG (ys := a :: as) encA (fun b => DV.str (txtOf (wrA b))) _ _ _ _ _ _ _ (by simp [h0, enc, L2.atI, L2.ixN]) (by simp; omega) (fun b m => ?_)
        have hg1 : ∀ y : Option DV, ((wipeL l [1]).set 1 y)[1]? = some y := fun y => List.getElem?_set_self (by simp [wipeL, h2])
        exact ⟨_, rfl, rfl, fun x => by simp [hg1, run_shown_atom b (ht.2.1 b m)]⟩
      have hj : Txt.join (Str.ofString " ") ((a :: as).map fun b => txtOf (wrA b)) = txtOf (wrA a ++ tailA as) := joinA as a
      have hso : ∀ ys : List At, strsOf (ys.map fun b => DV.str (txtOf (wrA b))) = some (ys.map fun b => txtOf (wrA b)) := fun ys => by
        induction ys with
        | nil => rfl
        | cons y ys ih => simp [strsOf, ih]
      have hsum : ∀ ys : List At, (∀ b ∈ ys, AtOk b) → ((ys.map fun b => txtOf (wrA b)).map (·.length)).sum ≤ 30 * ys.length := fun ys => by
        induction ys with
        | nil => simp
        | cons y ys ih =>
          intro h
          have h1 := wrA_len (h y List.mem_cons_self)
          have h2 := ih fun b m => h b (List.mem_cons_of_mem _ m)
          have h3 := txtOf_len (wrA y)
          simp only [List.map_cons, List.sum_cons, List.length_cons, h3]
          omega
      have hs1 := hsum (a :: as) ht.2.1
      have hs2 : (Str.ofString " ").length = 1 := rfl
      have hlim : (((a :: as).map fun b => txtOf (wrA b)).map (·.length)).sum + ((a :: as).map fun b => txtOf (wrA b)).length * (Str.ofString " ").length ≤ 16777216 := by
        rw [hs2]; simp only [List.length_map, List.length_cons] at hs1 ⊢; omega
      have ee : enc (.gap g (a :: as)) = .tup [.str "gap", .str g, .tup ((a :: as).map encA)] := rfl
      have hne : ¬ ((a :: as).map encA).length = 0 := by simp
      have hll : ((a :: as).map encA).length ≤ 16777216 := by simp; omega
      rw [ew, C]
      rw [ee] at hc ⊢
      generalize hYS : ((a :: as).map fun b => DV.str (txtOf (wrA b))) = YS at *
      have hso' : strsOf YS = some ((a :: as).map fun b => txtOf (wrA b)) := by rw [← hYS]; exact hso _
      generalize ((a :: as).map fun b => txtOf (wrA b)) = ZS at *
      generalize (a :: as).map encA = AS at *
      have hne' : ¬ AS = [] := fun z => hne (by rw [z]; rfl)
      simp [-addV_str, b_p_shown_leaf, L2.atI, L2.ixN, hll, hne', hc, hso', hlim, hj, lit_q, lit_b, lit_e]
      simp [-addV_str, a1, a2, a3, a4, leave_ok]
  | say a => simp [T.parts] at hp
  | bin o a b => simp [T.parts] at hp
  | ite a b c => simp [T.parts] at hp
  | lt x a b => simp [T.parts] at hp
end Y
namespace Y
open PySem
theorem btw_look (o : Bo) : kd_BETWEEN.lookup o.s = some (.str (txtOf (sg o))) := by cases o <;> rfl
theorem kget_run (kvs : KVs) (b : ME) (l : Lo) (S S1 : Sto) (s : Str) (d : DV) (h : b l S = .ok (.str s) S1) (hk : kvs.lookup s = some d) : kget kvs b l S = .ok d S1 := by
  show (b l S).bind _ = _
  rw [h]
  simp [hk]
theorem run_shown : ∀ (t : T), TrW t → ∀ n, t.ht + 3 ≤ n → (wr t).length ≤ 900000 → ∀ S : Sto, C n .p_shown [enc t] S = .ok (.str (txtOf (wr t)), false) S
  | .num z, ht, n, hn, hl, S => by
    obtain ⟨n, rfl⟩ : ∃ m, n = m + 3 := ⟨n - 3, by omega⟩
    have hp := fun S => run_parts (n + 1) (.num z) S
    have hs := fun S => run_shown_leaf (.num z) ht rfl n S
    have e : T.parts (.num z) = [] := rfl
    rw [e] at hp
    rw [C]
    generalize txtOf (wr (.num z)) = W at *
    generalize enc (.num z) = E at *
    simp [b_p_shown, hp, forS_run, loop_nil, hs, leave_ok]
  | .name z, ht, n, hn, hl, S => by
    obtain ⟨n, rfl⟩ : ∃ m, n = m + 3 := ⟨n - 3, by omega⟩
    have hp := fun S => run_parts (n + 1) (.name z) S
    have hs := fun S => run_shown_leaf (.name z) ht rfl n S
    have e : T.parts (.name z) = [] := rfl
    rw [e] at hp
    rw [C]
    generalize txtOf (wr (.name z)) = W at *
    generalize enc (.name z) = E at *
    simp [b_p_shown, hp, forS_run, loop_nil, hs, leave_ok]
  | .ask z, ht, n, hn, hl, S => by
    obtain ⟨n, rfl⟩ : ∃ m, n = m + 3 := ⟨n - 3, by omega⟩
    have hp := fun S => run_parts (n + 1) (.ask z) S
    have hs := fun S => run_shown_leaf (.ask z) ht rfl n S
    have e : T.parts (.ask z) = [] := rfl
    rw [e] at hp
    rw [C]
    generalize txtOf (wr (.ask z)) = W at *
    generalize enc (.ask z) = E at *
    simp [b_p_shown, hp, forS_run, loop_nil, hs, leave_ok]
  | .stop z, ht, n, hn, hl, S => by
    obtain ⟨n, rfl⟩ : ∃ m, n = m + 3 := ⟨n - 3, by omega⟩
    have hp := fun S => run_parts (n + 1) (.stop z) S
    have hs := fun S => run_shown_leaf (.stop z) ht rfl n S
    have e : T.parts (.stop z) = [] := rfl
    rw [e] at hp
    rw [C]
    generalize txtOf (wr (.stop z)) = W at *
    generalize enc (.stop z) = E at *
    simp [b_p_shown, hp, forS_run, loop_nil, hs, leave_ok]
  | .gap g as, ht, n, hn, hl, S => by
    obtain ⟨n, rfl⟩ : ∃ m, n = m + 3 := ⟨n - 3, by omega⟩
    have hp := fun S => run_parts (n + 1) (.gap g as) S
    have hs := fun S => run_shown_leaf (.gap g as) ht rfl n S
    have e : T.parts (.gap g as) = [] := rfl
    rw [e] at hp
    rw [C]
    generalize txtOf (wr (.gap g as)) = W at *
    generalize enc (.gap g as) = E at *
    simp [b_p_shown, hp, forS_run, loop_nil, hs, leave_ok]
  | .say a, ht, n, hn, hl, S => by
    simp only [T.ht] at hn
    obtain ⟨n, rfl⟩ : ∃ m, n = m + 2 := ⟨n - 2, by omega⟩
    have hla : (wr a).length + 6 ≤ 900000 := by simp [wr] at hl; omega
    have hp := fun S => run_parts n (.say a) S
    have ea := fun S => run_shown a ht (n + 1) (by omega) (by omega) S
    have e : T.parts (.say a) = [a] := rfl
    have c1 : ∀ S, addV S (.str (Str.ofString "(say ")) (.str (txtOf (wr a))) = some (.str (txtOf ([40, 115, 97, 121, 32] ++ wr a))) := fun S => catS S [40, 115, 97, 121, 32] (wr a) (by simp; omega)
    have c2 : ∀ S, addV S (.str (txtOf ([40, 115, 97, 121, 32] ++ wr a))) (.str (Str.ofString ")")) = some (.str (txtOf (([40, 115, 97, 121, 32] ++ wr a) ++ [41]))) := fun S => catS S _ [41] (by simp; omega)
    have ew : wr (.say a) = ([40, 115, 97, 121, 32] ++ wr a) ++ [41] := by simp [wr]
    have ee : enc (.say a) = .tup [.str "say", enc a] := rfl
    rw [e, List.map_cons, List.map_nil, ee] at hp
    rw [ew, ee, C]
    generalize txtOf (([40, 115, 97, 121, 32] ++ wr a) ++ [41]) = W3 at *
    generalize txtOf ([40, 115, 97, 121, 32] ++ wr a) = W2 at *
    generalize txtOf (wr a) = W1 at *
    generalize enc a = E at *
    simp [-addV_str, b_p_shown, hp, forS_run, loop_cons, loop_nil, ea, L2.atI, L2.ixN, c1, c2, leave_ok]
  | .bin o a b, ht, n, hn, hl, S => by
    simp only [T.ht] at hn
    obtain ⟨n, rfl⟩ : ∃ m, n = m + 2 := ⟨n - 2, by omega⟩
    have hsl : (sg o).length = 3 := by cases o <;> rfl
    have hla : (wr a).length + (wr b).length + 5 ≤ 900000 := by simp [wr, hsl] at hl; omega
    have hp := fun S => run_parts n (.bin o a b) S
    have ea := fun S => run_shown a ht.1 (n + 1) (by omega) (by omega) S
    have eb := fun S => run_shown b ht.2 (n + 1) (by omega) (by omega) S
    have e : T.parts (.bin o a b) = [a, b] := rfl
    have c1 : ∀ S, addV S (.str (Str.ofString "(")) (.str (txtOf (wr a))) = some (.str (txtOf ([40] ++ wr a))) := fun S => catS S [40] (wr a) (by simp; omega)
    have c2 : ∀ S, addV S (.str (txtOf ([40] ++ wr a))) (.str (txtOf (sg o))) = some (.str (txtOf (([40] ++ wr a) ++ sg o))) := fun S => catS S _ (sg o) (by simp [hsl]; omega)
    have c3 : ∀ S, addV S (.str (txtOf (([40] ++ wr a) ++ sg o))) (.str (txtOf (wr b))) = some (.str (txtOf ((([40] ++ wr a) ++ sg o) ++ wr b))) := fun S => catS S _ (wr b) (by simp [hsl]; omega)
    have c4 : ∀ S, addV S (.str (txtOf ((([40] ++ wr a) ++ sg o) ++ wr b))) (.str (Str.ofString ")")) = some (.str (txtOf (((([40] ++ wr a) ++ sg o) ++ wr b) ++ [41]))) := fun S => catS S _ [41] (by simp [hsl]; omega)
    have ew : wr (.bin o a b) = ((([40] ++ wr a) ++ sg o) ++ wr b) ++ [41] := by simp [wr]
    have ee : enc (.bin o a b) = .tup [.str o.s, enc a, enc b] := rfl
    have hb := btw_look o
    have hk : ∀ (l : Lo) (S : Sto), l[0]? = some (some (.tup [.str o.s, enc a, enc b])) → kget kd_BETWEEN (ix (var 0) (cst (.int 0))) l S = .ok (.str (txtOf (sg o))) S := fun l S h0 => kget_run _ _ _ _ _ _ _ (by simp [h0, L2.atI, L2.ixN]) hb
    obtain ⟨s1, s2, s3⟩ : ¬ o.s = "say" ∧ ¬ o.s = "let" ∧ ¬ o.s = "if" := by cases o <;> simp [Bo.s]
    rw [e, List.map_cons, List.map_cons, List.map_nil, ee] at hp
    rw [ew, ee, C]
    generalize txtOf (((([40] ++ wr a) ++ sg o) ++ wr b) ++ [41]) = W5 at *
    generalize txtOf ((([40] ++ wr a) ++ sg o) ++ wr b) = W4 at *
    generalize txtOf (([40] ++ wr a) ++ sg o) = W3 at *
    generalize txtOf ([40] ++ wr a) = W2 at *
    generalize txtOf (wr a) = WA at *
    generalize txtOf (wr b) = WB at *
    generalize txtOf (sg o) = WS at *
    generalize enc a = EA at *
    generalize enc b = EB at *
    simp [-addV_str, b_p_shown, hp, forS_run, loop_cons, loop_nil, ea, eb, L2.atI, L2.ixN, s1, s2, s3, hk, c1, c2, c3, c4, leave_ok]
  | .ite a b c, ht, n, hn, hl, S => by
    simp only [T.ht] at hn
    obtain ⟨n, rfl⟩ : ∃ m, n = m + 2 := ⟨n - 2, by omega⟩
    have hla : (wr a).length + (wr b).length + (wr c).length + 17 ≤ 900000 := by simp [wr] at hl; omega
    have hp := fun S => run_parts n (.ite a b c) S
    have ea := fun S => run_shown a ht.1 (n + 1) (by omega) (by omega) S
    have eb := fun S => run_shown b ht.2.1 (n + 1) (by omega) (by omega) S
    have ec := fun S => run_shown c ht.2.2 (n + 1) (by omega) (by omega) S
    have e : T.parts (.ite a b c) = [a, b, c] := rfl
    have c1 : ∀ S, addV S (.str (Str.ofString "(if ")) (.str (txtOf (wr a))) = some (.str (txtOf ([40, 105, 102, 32] ++ wr a))) := fun S => catS S [40, 105, 102, 32] (wr a) (by simp; omega)
    have c2 : ∀ S, addV S (.str (txtOf ([40, 105, 102, 32] ++ wr a))) (.str (Str.ofString " then ")) = some (.str (txtOf (([40, 105, 102, 32] ++ wr a) ++ [32, 116, 104, 101, 110, 32]))) := fun S => catS S _ [32, 116, 104, 101, 110, 32] (by simp; omega)
    have c3 : ∀ S, addV S (.str (txtOf (([40, 105, 102, 32] ++ wr a) ++ [32, 116, 104, 101, 110, 32]))) (.str (txtOf (wr b))) = some (.str (txtOf ((([40, 105, 102, 32] ++ wr a) ++ [32, 116, 104, 101, 110, 32]) ++ wr b))) := fun S => catS S _ (wr b) (by simp; omega)
    have c4 : ∀ S, addV S (.str (txtOf ((([40, 105, 102, 32] ++ wr a) ++ [32, 116, 104, 101, 110, 32]) ++ wr b))) (.str (Str.ofString " else ")) = some (.str (txtOf (((([40, 105, 102, 32] ++ wr a) ++ [32, 116, 104, 101, 110, 32]) ++ wr b) ++ [32, 101, 108, 115, 101, 32]))) := fun S => catS S _ [32, 101, 108, 115, 101, 32] (by simp; omega)
    have c5 : ∀ S, addV S (.str (txtOf (((([40, 105, 102, 32] ++ wr a) ++ [32, 116, 104, 101, 110, 32]) ++ wr b) ++ [32, 101, 108, 115, 101, 32]))) (.str (txtOf (wr c))) = some (.str (txtOf ((((([40, 105, 102, 32] ++ wr a) ++ [32, 116, 104, 101, 110, 32]) ++ wr b) ++ [32, 101, 108, 115, 101, 32]) ++ wr c))) := fun S => catS S _ (wr c) (by simp; omega)
    have c6 : ∀ S, addV S (.str (txtOf ((((([40, 105, 102, 32] ++ wr a) ++ [32, 116, 104, 101, 110, 32]) ++ wr b) ++ [32, 101, 108, 115, 101, 32]) ++ wr c))) (.str (Str.ofString ")")) = some (.str (txtOf (((((([40, 105, 102, 32] ++ wr a) ++ [32, 116, 104, 101, 110, 32]) ++ wr b) ++ [32, 101, 108, 115, 101, 32]) ++ wr c) ++ [41]))) := fun S => catS S _ [41] (by simp; omega)
    have ew : wr (.ite a b c) = ((((([40, 105, 102, 32] ++ wr a) ++ [32, 116, 104, 101, 110, 32]) ++ wr b) ++ [32, 101, 108, 115, 101, 32]) ++ wr c) ++ [41] := by simp [wr]
    have ee : enc (.ite a b c) = .tup [.str "if", enc a, enc b, enc c] := rfl
    rw [e, List.map_cons, List.map_cons, List.map_cons, List.map_nil, ee] at hp
    rw [ew, ee, C]
    generalize txtOf (((((([40, 105, 102, 32] ++ wr a) ++ [32, 116, 104, 101, 110, 32]) ++ wr b) ++ [32, 101, 108, 115, 101, 32]) ++ wr c) ++ [41]) = W7 at *
    generalize txtOf ((((([40, 105, 102, 32] ++ wr a) ++ [32, 116, 104, 101, 110, 32]) ++ wr b) ++ [32, 101, 108, 115, 101, 32]) ++ wr c) = W6 at *
    generalize txtOf (((([40, 105, 102, 32] ++ wr a) ++ [32, 116, 104, 101, 110, 32]) ++ wr b) ++ [32, 101, 108, 115, 101, 32]) = W5 at *
    generalize txtOf ((([40, 105, 102, 32] ++ wr a) ++ [32, 116, 104, 101, 110, 32]) ++ wr b) = W4 at *
    generalize txtOf (([40, 105, 102, 32] ++ wr a) ++ [32, 116, 104, 101, 110, 32]) = W3 at *
    generalize txtOf ([40, 105, 102, 32] ++ wr a) = W2 at *
    generalize txtOf (wr a) = WA at *
    generalize txtOf (wr b) = WB at *
    generalize txtOf (wr c) = WC at *
    generalize enc a = EA at *
    generalize enc b = EB at *
    generalize enc c = EC at *
    simp [-addV_str, b_p_shown, hp, forS_run, loop_cons, loop_nil, ea, eb, ec, L2.atI, L2.ixN, c1, c2, c3, c4, c5, c6, leave_ok]
  | .lt x a b, ht, n, hn, hl, S => by
    simp only [T.ht] at hn
    obtain ⟨n, rfl⟩ : ∃ m, n = m + 2 := ⟨n - 2, by omega⟩
    have hla : (wl x).length + (wr a).length + (wr b).length + 13 ≤ 900000 := by simp [wr] at hl; omega
    have hp := fun S => run_parts n (.lt x a b) S
    have ea := fun S => run_shown a ht.2.1 (n + 1) (by omega) (by omega) S
    have eb := fun S => run_shown b ht.2.2 (n + 1) (by omega) (by omega) S
    have e : T.parts (.lt x a b) = [a, b] := rfl
    have c1 : ∀ S, addV S (.str (Str.ofString "(let ")) (.str x) = some (.str (txtOf ([40, 108, 101, 116, 32] ++ wl x))) := fun S => by
      have := catS S [40, 108, 101, 116, 32] (wl x) (by simp; omega)
      rw [tx_wl] at this
      exact this
    have c2 : ∀ S, addV S (.str (txtOf ([40, 108, 101, 116, 32] ++ wl x))) (.str (Str.ofString " = ")) = some (.str (txtOf (([40, 108, 101, 116, 32] ++ wl x) ++ [32, 61, 32]))) := fun S => catS S _ [32, 61, 32] (by simp; omega)
    have c3 : ∀ S, addV S (.str (txtOf (([40, 108, 101, 116, 32] ++ wl x) ++ [32, 61, 32]))) (.str (txtOf (wr a))) = some (.str (txtOf ((([40, 108, 101, 116, 32] ++ wl x) ++ [32, 61, 32]) ++ wr a))) := fun S => catS S _ (wr a) (by simp; omega)
    have c4 : ∀ S, addV S (.str (txtOf ((([40, 108, 101, 116, 32] ++ wl x) ++ [32, 61, 32]) ++ wr a))) (.str (Str.ofString " in ")) = some (.str (txtOf (((([40, 108, 101, 116, 32] ++ wl x) ++ [32, 61, 32]) ++ wr a) ++ [32, 105, 110, 32]))) := fun S => catS S _ [32, 105, 110, 32] (by simp; omega)
    have c5 : ∀ S, addV S (.str (txtOf (((([40, 108, 101, 116, 32] ++ wl x) ++ [32, 61, 32]) ++ wr a) ++ [32, 105, 110, 32]))) (.str (txtOf (wr b))) = some (.str (txtOf ((((([40, 108, 101, 116, 32] ++ wl x) ++ [32, 61, 32]) ++ wr a) ++ [32, 105, 110, 32]) ++ wr b))) := fun S => catS S _ (wr b) (by simp; omega)
    have c6 : ∀ S, addV S (.str (txtOf ((((([40, 108, 101, 116, 32] ++ wl x) ++ [32, 61, 32]) ++ wr a) ++ [32, 105, 110, 32]) ++ wr b))) (.str (Str.ofString ")")) = some (.str (txtOf (((((([40, 108, 101, 116, 32] ++ wl x) ++ [32, 61, 32]) ++ wr a) ++ [32, 105, 110, 32]) ++ wr b) ++ [41]))) := fun S => catS S _ [41] (by simp; omega)
    have ew : wr (.lt x a b) = ((((([40, 108, 101, 116, 32] ++ wl x) ++ [32, 61, 32]) ++ wr a) ++ [32, 105, 110, 32]) ++ wr b) ++ [41] := by simp [wr]
    have ee : enc (.lt x a b) = .tup [.str "let", .str x, enc a, enc b] := rfl
    rw [e, List.map_cons, List.map_cons, List.map_nil, ee] at hp
    rw [ew, ee, C]
    generalize txtOf (((((([40, 108, 101, 116, 32] ++ wl x) ++ [32, 61, 32]) ++ wr a) ++ [32, 105, 110, 32]) ++ wr b) ++ [41]) = W7 at *
    generalize txtOf ((((([40, 108, 101, 116, 32] ++ wl x) ++ [32, 61, 32]) ++ wr a) ++ [32, 105, 110, 32]) ++ wr b) = W6 at *
    generalize txtOf (((([40, 108, 101, 116, 32] ++ wl x) ++ [32, 61, 32]) ++ wr a) ++ [32, 105, 110, 32]) = W5 at *
    generalize txtOf ((([40, 108, 101, 116, 32] ++ wl x) ++ [32, 61, 32]) ++ wr a) = W4 at *
    generalize txtOf (([40, 108, 101, 116, 32] ++ wl x) ++ [32, 61, 32]) = W3 at *
    generalize txtOf ([40, 108, 101, 116, 32] ++ wl x) = W2 at *
    generalize txtOf (wr a) = WA at *
    generalize txtOf (wr b) = WB at *
    generalize enc a = EA at *
    generalize enc b = EB at *
    simp [-addV_str, b_p_shown, hp, forS_run, loop_cons, loop_nil, ea, eb, L2.atI, L2.ixN, c1, c2, c3, c4, c5, c6, leave_ok]
end Y
namespace Y
open PySem
theorem WOk.sok {x : Str} (h : WOk (wl x)) : SOk x := strOk_of fun c m => by
  have : c ∈ letters := h.low c m
  have hb : ∀ c ∈ letters, c < 0x110000 := by decide
  exact hb c this
theorem sok3 : PyData.strOk (Str.ofString "num") = true ∧ PyData.strOk (Str.ofString "name") = true ∧ PyData.strOk (Str.ofString "gap") = true := by decide +kernel
theorem plain_at {a : At} (h : AtOk a) (n : Nat) : plain (n + 3) (encA a) = true := by
  cases a with
  | num z => simp [encA, sok3.1]
  | name x =>
    have : plain (n + 2) (.str x) = true := WOk.sok h
    simp [encA, this, sok3.2.1]
  | gap g =>
    have : plain (n + 2) (.str g) = true := WOk.sok (x := g) h
    simp [encA, this, sok3.2.2]
theorem eq_nn (S : Sto) : eqV S (.tup []) (.tup []) = some true := by
  rw [eqV_same rfl rfl rfl]; simp [rd, eqB_self]
theorem eq_ats (S : Sto) (as : List At) (h : ∀ a ∈ as, AtOk a) : eqV S (.tup (as.map encA)) (.tup []) = some (decide (as = [])) := by
  have hp : plain 60 (.tup (as.map encA)) = true := by
    show plains 59 (as.map encA) = true
    refine plains_all.mpr fun x m => ?_
    obtain ⟨a, ha, rfl⟩ := List.mem_map.mp m
    exact plain_at (h a ha) 56
  rw [eqV_plain S (.tup (as.map encA)) (.tup []) rfl hp rfl]
  congr 1
  cases as with
  | nil => simp [rd, eqB_self]
  | cons a as => rw [eqB_ne (by simp [rd])]; simp
theorem run_wr_atom (t : At) (ht : AtOk t) (n : Nat) (S : Sto) : C (n + 1) .l_leaf_written [encA t] S = .ok (.str (txtOf (wrA t)), false) S := by
  rw [C]
  cases t with
  | num z =>
    obtain ⟨k, rfl⟩ : ∃ k : Nat, z = k := ⟨z.toNat, by have := ht.1; omega⟩
    have h := strI_num (k := k) (by have := ht.2; omega)
    have ew : wrA (.num (k : Int)) = TL.numL k := rfl
    rw [ew]
    simp [-addV_str, b_l_leaf_written, encA, L2.atI, L2.ixN, strI_run, h, leave_ok]
  | name x =>
    have ew : txtOf (wrA (.name x)) = x := tx_wl x
    rw [ew]
    simp [-addV_str, b_l_leaf_written, encA, L2.atI, L2.ixN, leave_ok]
  | gap g =>
    have hw : WOk (wl g) := ht
    have h8 := hw.l8
    have ha := catS S [63] (wl g) (by simp; omega)
    rw [tx_wl] at ha
    have ew : wrA (.gap g) = [63] ++ wl g := rfl
    rw [ew]
    simp [-addV_str, b_l_leaf_written, encA, L2.atI, L2.ixN, eq_nn, lit_q, ha, leave_ok]
theorem run_wr_leaf (t : T) (ht : TrW t) (hp : t.parts = []) (n : Nat) (S : Sto) : C (n + 2) .l_leaf_written [enc t] S = .ok (.str (txtOf (wr t)), false) S := by
  cases t with
  | num z =>
    obtain ⟨k, rfl⟩ : ∃ k : Nat, z = k := ⟨z.toNat, by have := ht.1; omega⟩
    have h := strI_num (k := k) (by have := ht.2; omega)
    have ew : wr (.num (k : Int)) = TL.numL k := rfl
    rw [ew, C]
    simp [-addV_str, b_l_leaf_written, enc, L2.atI, L2.ixN, strI_run, h, leave_ok]
  | name x =>
    have ew : txtOf (wr (.name x)) = x := tx_wl x
    rw [ew, C]
    simp [-addV_str, b_l_leaf_written, enc, L2.atI, L2.ixN, leave_ok]
  | ask w =>
    have hw : WOk (wl w) := ht
    have h8 := hw.l8
    have a1 : addV S (.str (txtOf [40])) (.str (Str.ofString "ask")) = some (.str (txtOf [40, 97, 115, 107])) := catS S [40] [97, 115, 107] (by simp)
    have a2 := catS S [40, 97, 115, 107] [32] (by simp)
    have a3 := catS S [40, 97, 115, 107, 32] (wl w) (by simp; omega)
    have a4 := catS S ([40, 97, 115, 107, 32] ++ wl w) [41] (by simp; omega)
    simp only [List.cons_append, List.nil_append] at a2 a3 a4
    rw [tx_wl] at a3
    have ew : wr (.ask w) = 40 :: 97 :: 115 :: 107 :: 32 :: (wl w ++ [41]) := rfl
    rw [ew, C]
    simp [-addV_str, b_l_leaf_written, enc, L2.atI, L2.ixN, lit_o, lit_s, lit_cl]
    simp [-addV_str, a1, a2, a3, a4, leave_ok]
  | stop w =>
    have hw : WOk (wl w) := ht
    have h8 := hw.l8
    have a1 : addV S (.str (txtOf [40])) (.str (Str.ofString "stop")) = some (.str (txtOf [40, 115, 116, 111, 112])) := catS S [40] [115, 116, 111, 112] (by simp)
    have a2 := catS S [40, 115, 116, 111, 112] [32] (by simp)
    have a3 := catS S [40, 115, 116, 111, 112, 32] (wl w) (by simp; omega)
    have a4 := catS S ([40, 115, 116, 111, 112, 32] ++ wl w) [41] (by simp; omega)
    simp only [List.cons_append, List.nil_append] at a2 a3 a4
    rw [tx_wl] at a3
    have ew : wr (.stop w) = 40 :: 115 :: 116 :: 111 :: 112 :: 32 :: (wl w ++ [41]) := rfl
    rw [ew, C]
    simp [-addV_str, b_l_leaf_written, enc, L2.atI, L2.ixN, lit_o, lit_s, lit_cl]
    simp [-addV_str, a1, a2, a3, a4, leave_ok]
  | gap g as =>
    have h8 := ht.1.l8
    cases as with
    | nil =>
      have ha := catS S [63] (wl g) (by simp; omega)
      rw [tx_wl] at ha
      have ew : wr (.gap g []) = [63] ++ wl g := rfl
      rw [ew, C]
      simp [-addV_str, b_l_leaf_written, enc, L2.atI, L2.ixN, eq_nn, lit_q, ha, leave_ok]
    | cons a as =>
      have hl3 := ht.2.2
      simp only [List.length_cons] at hl3
      have hA := wrA_len (ht.2.1 a List.mem_cons_self)
      have hT := tailA_len as fun b m => ht.2.1 b (List.mem_cons_of_mem _ m)
      have a1 := catS S [63] (wl g) (by simp; omega)
      have a2 := catS S (63 :: wl g) [91] (by simp; omega)
      have a3 := catS S (63 :: (wl g ++ [91])) (wrA a ++ tailA as) (by simp; omega)
      have a4 := catS S (63 :: (wl g ++ [91]) ++ (wrA a ++ tailA as)) [93] (by simp; omega)
      simp only [List.cons_append, List.nil_append, List.append_assoc] at a1 a2 a3 a4
      rw [tx_wl] at a1
      have ew : wr (.gap g (a :: as)) = 63 :: (wl g ++ 91 :: (wrA a ++ (tailA as ++ [93]))) := rfl
      have hc : ∀ l : Lo, l[0]? = some (some (enc (.gap g (a :: as)))) → l.length = 2 → ∀ S, comp [1] (tN 1) (sSeq (ix (var 0) (cst (.int 2)))) (tYes) (call (C (n + 1) .l_leaf_written) (aCons (var 1) (aNil))) l S = .ok (.lst ((a :: as).map fun b => DV.str (txtOf (wrA b)))) S := fun l h0 h2 S => by
        refine comp_mapG (ys := a :: as) encA (fun b => DV.str (txtOf (wrA b))) _ _ _ _ _ _ _ (by simp [h0, enc, L2.atI, L2.ixN]) (by simp; omega) (fun b m => ?_)
        have hg1 : ∀ y : Option DV, ((wipeL l [1]).set 1 y)[1]? = some y := fun y => List.getElem?_set_self (by simp [wipeL, h2])
        exact ⟨_, rfl, rfl, fun x => by simp [hg1, run_wr_atom b (ht.2.1 b m)]⟩
      have hj : Txt.join (Str.ofString " ") ((a :: as).map fun b => txtOf (wrA b)) = txtOf (wrA a ++ tailA as) := joinA as a
      have hso : ∀ ys : List At, strsOf (ys.map fun b => DV.str (txtOf (wrA b))) = some (ys.map fun b => txtOf (wrA b)) := fun ys => by
        induction ys with
        | nil => rfl
        | cons y ys ih => simp [strsOf, ih]
      have hsum : ∀ ys : List At, (∀ b ∈ ys, AtOk b) → ((ys.map fun b => txtOf (wrA b)).map (·.length)).sum ≤ 30 * ys.length := fun ys => by
        induction ys with
        | nil => simp
        | cons y ys ih =>
          intro h
          have h1 := wrA_len (h y List.mem_cons_self)
          have h2 := ih fun b m => h b (List.mem_cons_of_mem _ m)
          have h3 := txtOf_len (wrA y)
          simp only [List.map_cons, List.sum_cons, List.length_cons, h3]
          omega
      have hs1 := hsum (a :: as) ht.2.1
      have hs2 : (Str.ofString " ").length = 1 := rfl
      have hlim : (((a :: as).map fun b => txtOf (wrA b)).map (·.length)).sum + ((a :: as).map fun b => txtOf (wrA b)).length * (Str.ofString " ").length ≤ 16777216 := by
        rw [hs2]; simp only [List.length_map, List.length_cons] at hs1 ⊢; omega
      have ee : enc (.gap g (a :: as)) = .tup [.str "gap", .str g, .tup ((a :: as).map encA)] := rfl
      have hne : ¬ ((a :: as).map encA).length = 0 := by simp
      have hll : ((a :: as).map encA).length ≤ 16777216 := by simp; omega
      have hea := fun S => eq_ats S (a :: as) ht.2.1
      rw [ew, C]
      rw [ee] at hc ⊢
      generalize hYS : ((a :: as).map fun b => DV.str (txtOf (wrA b))) = YS at *
      have hso' : strsOf YS = some ((a :: as).map fun b => txtOf (wrA b)) := by rw [← hYS]; exact hso _
      generalize ((a :: as).map fun b => txtOf (wrA b)) = ZS at *
      generalize (a :: as).map encA = AS at *
      have hne' : ¬ AS = [] := fun z => hne (by rw [z]; rfl)
      have hea' : ∀ S, eqV S (.tup AS) (.tup []) = some false := fun S => by rw [hea]; simp
      simp [-addV_str, b_l_leaf_written, L2.atI, L2.ixN, hea', hne', hc, hso', hlim, hj, lit_q, lit_b, lit_e]
      simp [-addV_str, a1, a2, a3, a4, leave_ok]
  | say a => simp [T.parts] at hp
  | bin o a b => simp [T.parts] at hp
  | ite a b c => simp [T.parts] at hp
  | lt x a b => simp [T.parts] at hp
theorem run_written : ∀ (t : T), TrW t → ∀ n, t.ht + 3 ≤ n → (wr t).length ≤ 900000 → ∀ S : Sto, C n .l_written [enc t] S = .ok (.str (txtOf (wr t)), false) S
  | .num z, ht, n, hn, hl, S => by
    obtain ⟨n, rfl⟩ : ∃ m, n = m + 3 := ⟨n - 3, by omega⟩
    have hs := fun S => run_wr_leaf (.num z) ht rfl n S
    have ee : enc (.num z) = .tup [.str "num", .int z] := rfl
    rw [ee] at hs ⊢
    rw [C]
    generalize txtOf (wr (.num z)) = W at *
    simp [b_l_written, forS_run, loop_cons, loop_nil, L2.atI, L2.ixN, hs, leave_ok]
  | .name z, ht, n, hn, hl, S => by
    obtain ⟨n, rfl⟩ : ∃ m, n = m + 3 := ⟨n - 3, by omega⟩
    have hs := fun S => run_wr_leaf (.name z) ht rfl n S
    have ee : enc (.name z) = .tup [.str "name", .str z] := rfl
    rw [ee] at hs ⊢
    rw [C]
    generalize txtOf (wr (.name z)) = W at *
    simp [b_l_written, forS_run, loop_cons, loop_nil, L2.atI, L2.ixN, hs, leave_ok]
  | .ask z, ht, n, hn, hl, S => by
    obtain ⟨n, rfl⟩ : ∃ m, n = m + 3 := ⟨n - 3, by omega⟩
    have hs := fun S => run_wr_leaf (.ask z) ht rfl n S
    have ee : enc (.ask z) = .tup [.str "ask", .str z] := rfl
    rw [ee] at hs ⊢
    rw [C]
    generalize txtOf (wr (.ask z)) = W at *
    simp [b_l_written, forS_run, loop_cons, loop_nil, L2.atI, L2.ixN, hs, leave_ok]
  | .stop z, ht, n, hn, hl, S => by
    obtain ⟨n, rfl⟩ : ∃ m, n = m + 3 := ⟨n - 3, by omega⟩
    have hs := fun S => run_wr_leaf (.stop z) ht rfl n S
    have ee : enc (.stop z) = .tup [.str "stop", .str z] := rfl
    rw [ee] at hs ⊢
    rw [C]
    generalize txtOf (wr (.stop z)) = W at *
    simp [b_l_written, forS_run, loop_cons, loop_nil, L2.atI, L2.ixN, hs, leave_ok]
  | .gap g as, ht, n, hn, hl, S => by
    obtain ⟨n, rfl⟩ : ∃ m, n = m + 3 := ⟨n - 3, by omega⟩
    have hs := fun S => run_wr_leaf (.gap g as) ht rfl n S
    have ee : enc (.gap g as) = .tup [.str "gap", .str g, .tup (as.map encA)] := rfl
    rw [ee] at hs ⊢
    rw [C]
    generalize txtOf (wr (.gap g as)) = W at *
    simp [b_l_written, forS_run, loop_cons, loop_nil, L2.atI, L2.ixN, hs, leave_ok]
  | .say a, ht, n, hn, hl, S => by
    simp only [T.ht] at hn
    obtain ⟨n, rfl⟩ : ∃ m, n = m + 2 := ⟨n - 2, by omega⟩
    have hla : (wr a).length + 6 ≤ 900000 := by simp [wr] at hl; omega
    have ea := fun S => run_written a ht (n + 1) (by omega) (by omega) S
    have c1 : ∀ S, addV S (.str (Str.ofString "(say ")) (.str (txtOf (wr a))) = some (.str (txtOf ([40, 115, 97, 121, 32] ++ wr a))) := fun S => catS S [40, 115, 97, 121, 32] (wr a) (by simp; omega)
    have c2 : ∀ S, addV S (.str (txtOf ([40, 115, 97, 121, 32] ++ wr a))) (.str (Str.ofString ")")) = some (.str (txtOf (([40, 115, 97, 121, 32] ++ wr a) ++ [41]))) := fun S => catS S _ [41] (by simp; omega)
    have ew : wr (.say a) = ([40, 115, 97, 121, 32] ++ wr a) ++ [41] := by simp [wr]
    have ee : enc (.say a) = .tup [.str "say", enc a] := rfl
    rw [ew, ee, C]
    generalize txtOf (([40, 115, 97, 121, 32] ++ wr a) ++ [41]) = W3 at *
    generalize txtOf ([40, 115, 97, 121, 32] ++ wr a) = W2 at *
    generalize txtOf (wr a) = W1 at *
    generalize enc a = E at *
    simp [-addV_str, b_l_written, ea, L2.atI, L2.ixN, c1, c2, leave_ok]
  | .ite a b c, ht, n, hn, hl, S => by
    simp only [T.ht] at hn
    obtain ⟨n, rfl⟩ : ∃ m, n = m + 2 := ⟨n - 2, by omega⟩
    have hla : (wr a).length + (wr b).length + (wr c).length + 17 ≤ 900000 := by simp [wr] at hl; omega
    have ea := fun S => run_written a ht.1 (n + 1) (by omega) (by omega) S
    have eb := fun S => run_written b ht.2.1 (n + 1) (by omega) (by omega) S
    have ec := fun S => run_written c ht.2.2 (n + 1) (by omega) (by omega) S
    have c1 : ∀ S, addV S (.str (Str.ofString "(if ")) (.str (txtOf (wr a))) = some (.str (txtOf ([40, 105, 102, 32] ++ wr a))) := fun S => catS S [40, 105, 102, 32] (wr a) (by simp; omega)
    have c2 : ∀ S, addV S (.str (txtOf ([40, 105, 102, 32] ++ wr a))) (.str (Str.ofString " then ")) = some (.str (txtOf (([40, 105, 102, 32] ++ wr a) ++ [32, 116, 104, 101, 110, 32]))) := fun S => catS S _ [32, 116, 104, 101, 110, 32] (by simp; omega)
    have c3 : ∀ S, addV S (.str (txtOf (([40, 105, 102, 32] ++ wr a) ++ [32, 116, 104, 101, 110, 32]))) (.str (txtOf (wr b))) = some (.str (txtOf ((([40, 105, 102, 32] ++ wr a) ++ [32, 116, 104, 101, 110, 32]) ++ wr b))) := fun S => catS S _ (wr b) (by simp; omega)
    have c4 : ∀ S, addV S (.str (txtOf ((([40, 105, 102, 32] ++ wr a) ++ [32, 116, 104, 101, 110, 32]) ++ wr b))) (.str (Str.ofString " else ")) = some (.str (txtOf (((([40, 105, 102, 32] ++ wr a) ++ [32, 116, 104, 101, 110, 32]) ++ wr b) ++ [32, 101, 108, 115, 101, 32]))) := fun S => catS S _ [32, 101, 108, 115, 101, 32] (by simp; omega)
    have c5 : ∀ S, addV S (.str (txtOf (((([40, 105, 102, 32] ++ wr a) ++ [32, 116, 104, 101, 110, 32]) ++ wr b) ++ [32, 101, 108, 115, 101, 32]))) (.str (txtOf (wr c))) = some (.str (txtOf ((((([40, 105, 102, 32] ++ wr a) ++ [32, 116, 104, 101, 110, 32]) ++ wr b) ++ [32, 101, 108, 115, 101, 32]) ++ wr c))) := fun S => catS S _ (wr c) (by simp; omega)
    have c6 : ∀ S, addV S (.str (txtOf ((((([40, 105, 102, 32] ++ wr a) ++ [32, 116, 104, 101, 110, 32]) ++ wr b) ++ [32, 101, 108, 115, 101, 32]) ++ wr c))) (.str (Str.ofString ")")) = some (.str (txtOf (((((([40, 105, 102, 32] ++ wr a) ++ [32, 116, 104, 101, 110, 32]) ++ wr b) ++ [32, 101, 108, 115, 101, 32]) ++ wr c) ++ [41]))) := fun S => catS S _ [41] (by simp; omega)
    have ew : wr (.ite a b c) = ((((([40, 105, 102, 32] ++ wr a) ++ [32, 116, 104, 101, 110, 32]) ++ wr b) ++ [32, 101, 108, 115, 101, 32]) ++ wr c) ++ [41] := by simp [wr]
    have ee : enc (.ite a b c) = .tup [.str "if", enc a, enc b, enc c] := rfl
    rw [ew, ee, C]
    generalize txtOf (((((([40, 105, 102, 32] ++ wr a) ++ [32, 116, 104, 101, 110, 32]) ++ wr b) ++ [32, 101, 108, 115, 101, 32]) ++ wr c) ++ [41]) = W7 at *
    generalize txtOf ((((([40, 105, 102, 32] ++ wr a) ++ [32, 116, 104, 101, 110, 32]) ++ wr b) ++ [32, 101, 108, 115, 101, 32]) ++ wr c) = W6 at *
    generalize txtOf (((([40, 105, 102, 32] ++ wr a) ++ [32, 116, 104, 101, 110, 32]) ++ wr b) ++ [32, 101, 108, 115, 101, 32]) = W5 at *
    generalize txtOf ((([40, 105, 102, 32] ++ wr a) ++ [32, 116, 104, 101, 110, 32]) ++ wr b) = W4 at *
    generalize txtOf (([40, 105, 102, 32] ++ wr a) ++ [32, 116, 104, 101, 110, 32]) = W3 at *
    generalize txtOf ([40, 105, 102, 32] ++ wr a) = W2 at *
    generalize txtOf (wr a) = WA at *
    generalize txtOf (wr b) = WB at *
    generalize txtOf (wr c) = WC at *
    generalize enc a = EA at *
    generalize enc b = EB at *
    generalize enc c = EC at *
    simp [-addV_str, b_l_written, ea, eb, ec, L2.atI, L2.ixN, c1, c2, c3, c4, c5, c6, leave_ok]
  | .lt x a b, ht, n, hn, hl, S => by
    simp only [T.ht] at hn
    obtain ⟨n, rfl⟩ : ∃ m, n = m + 2 := ⟨n - 2, by omega⟩
    have hla : (wl x).length + (wr a).length + (wr b).length + 13 ≤ 900000 := by simp [wr] at hl; omega
    have ea := fun S => run_written a ht.2.1 (n + 1) (by omega) (by omega) S
    have eb := fun S => run_written b ht.2.2 (n + 1) (by omega) (by omega) S
    have c1 : ∀ S, addV S (.str (Str.ofString "(let ")) (.str x) = some (.str (txtOf ([40, 108, 101, 116, 32] ++ wl x))) := fun S => by
      have := catS S [40, 108, 101, 116, 32] (wl x) (by simp; omega)
      rw [tx_wl] at this
      exact this
    have c2 : ∀ S, addV S (.str (txtOf ([40, 108, 101, 116, 32] ++ wl x))) (.str (Str.ofString " = ")) = some (.str (txtOf (([40, 108, 101, 116, 32] ++ wl x) ++ [32, 61, 32]))) := fun S => catS S _ [32, 61, 32] (by simp; omega)
    have c3 : ∀ S, addV S (.str (txtOf (([40, 108, 101, 116, 32] ++ wl x) ++ [32, 61, 32]))) (.str (txtOf (wr a))) = some (.str (txtOf ((([40, 108, 101, 116, 32] ++ wl x) ++ [32, 61, 32]) ++ wr a))) := fun S => catS S _ (wr a) (by simp; omega)
    have c4 : ∀ S, addV S (.str (txtOf ((([40, 108, 101, 116, 32] ++ wl x) ++ [32, 61, 32]) ++ wr a))) (.str (Str.ofString " in ")) = some (.str (txtOf (((([40, 108, 101, 116, 32] ++ wl x) ++ [32, 61, 32]) ++ wr a) ++ [32, 105, 110, 32]))) := fun S => catS S _ [32, 105, 110, 32] (by simp; omega)
    have c5 : ∀ S, addV S (.str (txtOf (((([40, 108, 101, 116, 32] ++ wl x) ++ [32, 61, 32]) ++ wr a) ++ [32, 105, 110, 32]))) (.str (txtOf (wr b))) = some (.str (txtOf ((((([40, 108, 101, 116, 32] ++ wl x) ++ [32, 61, 32]) ++ wr a) ++ [32, 105, 110, 32]) ++ wr b))) := fun S => catS S _ (wr b) (by simp; omega)
    have c6 : ∀ S, addV S (.str (txtOf ((((([40, 108, 101, 116, 32] ++ wl x) ++ [32, 61, 32]) ++ wr a) ++ [32, 105, 110, 32]) ++ wr b))) (.str (Str.ofString ")")) = some (.str (txtOf (((((([40, 108, 101, 116, 32] ++ wl x) ++ [32, 61, 32]) ++ wr a) ++ [32, 105, 110, 32]) ++ wr b) ++ [41]))) := fun S => catS S _ [41] (by simp; omega)
    have ew : wr (.lt x a b) = ((((([40, 108, 101, 116, 32] ++ wl x) ++ [32, 61, 32]) ++ wr a) ++ [32, 105, 110, 32]) ++ wr b) ++ [41] := by simp [wr]
    have ee : enc (.lt x a b) = .tup [.str "let", .str x, enc a, enc b] := rfl
    rw [ew, ee, C]
    generalize txtOf (((((([40, 108, 101, 116, 32] ++ wl x) ++ [32, 61, 32]) ++ wr a) ++ [32, 105, 110, 32]) ++ wr b) ++ [41]) = W7 at *
    generalize txtOf ((((([40, 108, 101, 116, 32] ++ wl x) ++ [32, 61, 32]) ++ wr a) ++ [32, 105, 110, 32]) ++ wr b) = W6 at *
    generalize txtOf (((([40, 108, 101, 116, 32] ++ wl x) ++ [32, 61, 32]) ++ wr a) ++ [32, 105, 110, 32]) = W5 at *
    generalize txtOf ((([40, 108, 101, 116, 32] ++ wl x) ++ [32, 61, 32]) ++ wr a) = W4 at *
    generalize txtOf (([40, 108, 101, 116, 32] ++ wl x) ++ [32, 61, 32]) = W3 at *
    generalize txtOf ([40, 108, 101, 116, 32] ++ wl x) = W2 at *
    generalize txtOf (wr a) = WA at *
    generalize txtOf (wr b) = WB at *
    generalize enc a = EA at *
    generalize enc b = EB at *
    simp [-addV_str, b_l_written, ea, eb, L2.atI, L2.ixN, c1, c2, c3, c4, c5, c6, leave_ok]
  | .bin o a b, ht, n, hn, hl, S => by
    simp only [T.ht] at hn
    obtain ⟨n, rfl⟩ : ∃ m, n = m + 2 := ⟨n - 2, by omega⟩
    have hsl : (sg o).length = 3 := by cases o <;> rfl
    have hla : (wr a).length + (wr b).length + 5 ≤ 900000 := by simp [wr, hsl] at hl; omega
    have ea := fun S => run_written a ht.1 (n + 1) (by omega) (by omega) S
    have eb := fun S => run_written b ht.2 (n + 1) (by omega) (by omega) S
    obtain ⟨s, es⟩ : ∃ s, sg o = [32, s, 32] := by cases o <;> exact ⟨_, rfl⟩
    have c1 : ∀ S, addV S (.str (Str.ofString "(")) (.str (txtOf (wr a))) = some (.str (txtOf ([40] ++ wr a))) := fun S => catS S [40] (wr a) (by simp; omega)
    have c2 : ∀ S, addV S (.str (txtOf ([40] ++ wr a))) (.str (Str.ofString " ")) = some (.str (txtOf (([40] ++ wr a) ++ [32]))) := fun S => catS S _ [32] (by simp; omega)
    have c3 : ∀ S, addV S (.str (txtOf (([40] ++ wr a) ++ [32]))) (.str (txtOf [s])) = some (.str (txtOf ((([40] ++ wr a) ++ [32]) ++ [s]))) := fun S => catS S _ [s] (by simp; omega)
    have c4 : ∀ S, addV S (.str (txtOf ((([40] ++ wr a) ++ [32]) ++ [s]))) (.str (Str.ofString " ")) = some (.str (txtOf (((([40] ++ wr a) ++ [32]) ++ [s]) ++ [32]))) := fun S => catS S _ [32] (by simp; omega)
    have c5 : ∀ S, addV S (.str (txtOf (((([40] ++ wr a) ++ [32]) ++ [s]) ++ [32]))) (.str (txtOf (wr b))) = some (.str (txtOf ((((([40] ++ wr a) ++ [32]) ++ [s]) ++ [32]) ++ wr b))) := fun S => catS S _ (wr b) (by simp; omega)
    have c6 : ∀ S, addV S (.str (txtOf ((((([40] ++ wr a) ++ [32]) ++ [s]) ++ [32]) ++ wr b))) (.str (Str.ofString ")")) = some (.str (txtOf (((((([40] ++ wr a) ++ [32]) ++ [s]) ++ [32]) ++ wr b) ++ [41]))) := fun S => catS S _ [41] (by simp; omega)
    have ew : wr (.bin o a b) = ((((([40] ++ wr a) ++ [32]) ++ [s]) ++ [32]) ++ wr b) ++ [41] := by simp [wr, es]
    have ee : enc (.bin o a b) = .tup [.str o.s, enc a, enc b] := rfl
    have hs : ∀ x : Str, (x, o) ∈ [(Str.ofString "+", Bo.add), (Str.ofString "-", Bo.sub), (Str.ofString "*", Bo.mul), (Str.ofString ";", Bo.thn)] → x = txtOf [s] := fun x m => by
      cases o <;> simp at m <;> rw [m] <;> simp [sg] at es <;> rw [← es] <;> rfl
    rw [ew, ee, C]
    generalize txtOf ((((((([40] ++ wr a) ++ [32]) ++ [s]) ++ [32]) ++ wr b)) ++ [41]) = W7 at *
    generalize txtOf ((((([40] ++ wr a) ++ [32]) ++ [s]) ++ [32]) ++ wr b) = W6 at *
    generalize txtOf (((([40] ++ wr a) ++ [32]) ++ [s]) ++ [32]) = W5 at *
    generalize txtOf ((([40] ++ wr a) ++ [32]) ++ [s]) = W4 at *
    generalize txtOf (([40] ++ wr a) ++ [32]) = W3 at *
    generalize txtOf ([40] ++ wr a) = W2 at *
    generalize txtOf (wr a) = WA at *
    generalize txtOf (wr b) = WB at *
    generalize txtOf [s] = WS at *
    generalize enc a = EA at *
    generalize enc b = EB at *
    cases o
    · have q := hs _ (by simp : (Str.ofString "+", Bo.add) ∈ _)
      simp [-addV_str, b_l_written, Bo.s, forS_run, loop_cons, loop_nil, ea, eb, L2.atI, L2.ixN, q, c1, c2, c3, c4, c5, c6, leave_ok]
    · have q := hs _ (by simp : (Str.ofString "-", Bo.sub) ∈ _)
      simp [-addV_str, b_l_written, Bo.s, forS_run, loop_cons, loop_nil, ea, eb, L2.atI, L2.ixN, q, c1, c2, c3, c4, c5, c6, leave_ok]
    · have q := hs _ (by simp : (Str.ofString "*", Bo.mul) ∈ _)
      simp [-addV_str, b_l_written, Bo.s, forS_run, loop_cons, loop_nil, ea, eb, L2.atI, L2.ixN, q, c1, c2, c3, c4, c5, c6, leave_ok]
    · have q := hs _ (by simp : (Str.ofString ";", Bo.thn) ∈ _)
      simp [-addV_str, b_l_written, Bo.s, forS_run, loop_cons, loop_nil, ea, eb, L2.atI, L2.ixN, q, c1, c2, c3, c4, c5, c6, leave_ok]
end Y
namespace Y
open PySem
theorem run_bounded {L : List Nat} (hL : L.length ≤ 2000) {d : Nat} (h : runB 0 L = some d) (n : Nat) (S : Sto) : C (n + 1) .p_bounded [.str (txtOf L)] S = .ok (.non, false) S := by
  have hln := fun S => len_tx S L (by omega)
  obtain ⟨o2, hlp⟩ := bd_loop (C n) (.str (txtOf L)) S L 0 d none h
  have hsg : signsD (txtOf L) = L.map fun c => DV.str (txtOf [c]) := by
    unfold signsD
    have : (txtOf L).cps.toList = L := by simp [txtOf]
    rw [this]
    rfl
  have h2 : ¬ (2000 : Int) < (L.length : Int) := by omega
  have h2' : ¬ 2000 < L.length := by omega
  rw [C]
  have hb : b_p_bounded (C n) = seq (ifS (tst (gtE (lenE (var 0)) (cst (.int 2000)))) (crash) (skip)) (seq (asg (tN 1) (cst (.int 0))) (forS (tN 2) (sStr (var 0)) (bdB (C n)))) := rfl
  rw [hb]
  rw [← hsg] at hlp
  clear hsg
  have e0 : (((0 : Nat) : Int)) = 0 := rfl
  rw [e0] at hlp
  generalize txtOf L = TX at *
  simp [hln, h2, h2', forS_run]
  rw [hlp]
  simp [leave_ok]
theorem run_whole (t : T) (ht : TrW t) (hL : (wr t).length ≤ 2000) (n : Nat) (hn : 3 * t.ht + 6 ≤ n) (S : Sto) : C (n + 1) .p_whole [.str (txtOf (wr t))] S = .ok (enc t, false) S := by
  have h := run_tree t ht n hn (wr t) 0 [] ⟨by omega, by omega, by simp⟩ stop_nil
  have hln := fun S => len_tx S (wr t) (by omega)
  have e0 : (((0 : Nat) : Int)) = 0 := rfl
  rw [e0, Nat.zero_add] at h
  have hnr := noRef_enc t
  rw [C]
  generalize txtOf (wr t) = TX at *
  generalize (wr t).length = q at *
  generalize enc t = E at *
  simp [b_p_whole, h, hln, leave_ok, hnr]
theorem run_read (t : T) (ht : TrW t) (hb : bk t ≤ 16) (hL : (wr t).length ≤ 2000) (n : Nat) (hn : 3 * t.ht + 8 ≤ n) (S : Sto) : C n .p_read [.str (txtOf (wr t))] S = .ok (enc t, false) S := by
  obtain ⟨n, rfl⟩ : ∃ m, n = m + 2 := ⟨n - 2, by omega⟩
  have h1 := run_bounded hL (runB_wr t ht 0 (by omega)) n
  have h2 := run_whole t ht hL n (by omega)
  have hnr := noRef_enc t
  rw [C]
  generalize txtOf (wr t) = TX at *
  generalize enc t = E at *
  simp [b_p_read, h1, h2, leave_ok, hnr]
/-! ### the same -/
theorem tgA1 : isTag "tuple" "tuple" = true := by decide +kernel
theorem tgA2 : isTag "str" "tuple" = false := by decide +kernel
theorem tgA3 : isTag "int" "tuple" = false := by decide +kernel
theorem tgA4 : isTag "str" "str" = true := by decide +kernel
theorem tgA5 : isTag "int" "str" = false := by decide +kernel
theorem tgA6 : isTag "int" "int" = true := by decide +kernel
theorem tgA7 : isTag "int" "bool" = false := by decide +kernel
def Same (n : Nat) (d : DV) : Prop := ∀ S, C n .l_same [d, d] S = .ok (.bl true, false) S
theorem same_str (n : Nat) (x : Str) : Same (n + 1) (.str x) := fun S => by
  rw [C]
  simp [b_l_same, tgA2, tgA4, leave_ok]
theorem same_int (n : Nat) (z : Int) : Same (n + 1) (.int z) := fun S => by
  rw [C]
  simp [b_l_same, tgA3, tgA5, tgA6, tgA7, leave_ok]
theorem same_loop (n : Nat) (a b : DV) (S : Sto) : ∀ (ds : List DV), (∀ d ∈ ds, Same n d) → ∀ o2 o3 : Option DV, ∃ o2' o3', loop (tU [2, 3]) (ifS (notT (tst (call (C n .l_same) (aCons (var 2) (aCons (var 3) (aNil)))))) (ret (cst (.bl false))) (skip)) [] (ds.map fun d => .tup [d, d]) [some a, some b, o2, o3] S = .ok (.nx [some a, some b, o2', o3']) S
  | [], _, o2, o3 => ⟨o2, o3, by simp [loop_nil]⟩
  | d :: ds, h, o2, o3 => by
    have hd := h d List.mem_cons_self
    obtain ⟨a2, a3, ih⟩ := same_loop n a b S ds (fun x m => h x (List.mem_cons_of_mem _ m)) (some d) (some d)
    refine ⟨a2, a3, ?_⟩
    rw [List.map_cons, loop_cons]
    have hd' : C n .l_same [d, d] S = .ok (.bl true, false) S := hd S
    simp [hd']
    exact ih
theorem same_tup (n : Nat) (ds : List DV) (h : ∀ d ∈ ds, Same n d) (hl : ds.length ≤ 1000) : Same (n + 1) (.tup ds) := fun S => by
  obtain ⟨o2, o3, hlp⟩ := same_loop n (.tup ds) (.tup ds) S ds h none none
  have hz : zipD ds ds = ds.map fun d => .tup [d, d] := by
    unfold zipD
    clear h hl hlp
    induction ds with
    | nil => rfl
    | cons q ds ih => simp
  have hll : ds.length ≤ 16777216 := by omega
  rw [C]
  simp [b_l_same, tgA1, hll, forS_run, hz]
  rw [hlp]
  simp [leave_ok]
theorem same_at (n : Nat) (a : At) : Same (n + 2) (encA a) := by
  cases a with
  | num z => exact same_tup (n + 1) _ (fun d m => by
      simp only [List.mem_cons, List.not_mem_nil, or_false] at m
      rcases m with rfl | rfl
      · exact same_str n _
      · exact same_int n _) (by simp)
  | name x => exact same_tup (n + 1) _ (fun d m => by
      simp only [List.mem_cons, List.not_mem_nil, or_false] at m
      rcases m with rfl | rfl
      · exact same_str n _
      · exact same_str n _) (by simp)
  | gap g => exact same_tup (n + 1) _ (fun d m => by
      simp only [List.mem_cons, List.not_mem_nil, or_false] at m
      rcases m with rfl | rfl | rfl
      · exact same_str n _
      · exact same_str n _
      · exact same_tup n [] (fun d m => by simp at m) (by simp)) (by simp)
theorem same_enc : ∀ (t : T), TrW t → ∀ n, t.ht + 4 ≤ n → Same n (enc t)
  | .num z, _, n, hn => by
    obtain ⟨n, rfl⟩ : ∃ m, n = m + 2 := ⟨n - 2, by omega⟩
    exact same_tup (n + 1) _ (fun d m => by
      simp only [List.mem_cons, List.not_mem_nil, or_false] at m
      rcases m with rfl | rfl
      · exact same_str n _
      · exact same_int n _) (by simp)
  | .name x, _, n, hn => by
    obtain ⟨n, rfl⟩ : ∃ m, n = m + 2 := ⟨n - 2, by omega⟩
    exact same_tup (n + 1) _ (fun d m => by
      simp only [List.mem_cons, List.not_mem_nil, or_false] at m
      rcases m with rfl | rfl <;> exact same_str n _) (by simp)
  | .ask x, _, n, hn => by
    obtain ⟨n, rfl⟩ : ∃ m, n = m + 2 := ⟨n - 2, by omega⟩
    exact same_tup (n + 1) _ (fun d m => by
      simp only [List.mem_cons, List.not_mem_nil, or_false] at m
      rcases m with rfl | rfl <;> exact same_str n _) (by simp)
  | .stop x, _, n, hn => by
    obtain ⟨n, rfl⟩ : ∃ m, n = m + 2 := ⟨n - 2, by omega⟩
    exact same_tup (n + 1) _ (fun d m => by
      simp only [List.mem_cons, List.not_mem_nil, or_false] at m
      rcases m with rfl | rfl <;> exact same_str n _) (by simp)
  | .gap g as, ht, n, hn => by
    obtain ⟨n, rfl⟩ : ∃ m, n = m + 4 := ⟨n - 4, by omega⟩
    have h3 := ht.2.2
    exact same_tup (n + 3) _ (fun d m => by
      simp only [List.mem_cons, List.not_mem_nil, or_false] at m
      rcases m with rfl | rfl | rfl
      · exact same_str _ _
      · exact same_str _ _
      · exact same_tup (n + 2) _ (fun d m => by
          obtain ⟨a, _, rfl⟩ := List.mem_map.mp m
          exact same_at n a) (by simp; omega)) (by simp)
  | .say a, ht, n, hn => by
    simp only [T.ht] at hn
    obtain ⟨n, rfl⟩ : ∃ m, n = m + 2 := ⟨n - 2, by omega⟩
    have ha := same_enc a ht (n + 1) (by omega)
    exact same_tup (n + 1) _ (fun d m => by
      simp only [List.mem_cons, List.not_mem_nil, or_false] at m
      rcases m with rfl | rfl
      · exact same_str n _
      · exact ha) (by simp)
  | .bin o a b, ht, n, hn => by
    simp only [T.ht] at hn
    obtain ⟨n, rfl⟩ : ∃ m, n = m + 2 := ⟨n - 2, by omega⟩
    have ha := same_enc a ht.1 (n + 1) (by omega)
    have hb := same_enc b ht.2 (n + 1) (by omega)
    exact same_tup (n + 1) _ (fun d m => by
      simp only [List.mem_cons, List.not_mem_nil, or_false] at m
      rcases m with rfl | rfl | rfl
      · exact same_str n _
      · exact ha
      · exact hb) (by simp)
  | .ite a b c, ht, n, hn => by
    simp only [T.ht] at hn
    obtain ⟨n, rfl⟩ : ∃ m, n = m + 2 := ⟨n - 2, by omega⟩
    have ha := same_enc a ht.1 (n + 1) (by omega)
    have hb := same_enc b ht.2.1 (n + 1) (by omega)
    have hc := same_enc c ht.2.2 (n + 1) (by omega)
    exact same_tup (n + 1) _ (fun d m => by
      simp only [List.mem_cons, List.not_mem_nil, or_false] at m
      rcases m with rfl | rfl | rfl | rfl
      · exact same_str n _
      · exact ha
      · exact hb
      · exact hc) (by simp)
  | .lt x a b, ht, n, hn => by
    simp only [T.ht] at hn
    obtain ⟨n, rfl⟩ : ∃ m, n = m + 2 := ⟨n - 2, by omega⟩
    have ha := same_enc a ht.2.1 (n + 1) (by omega)
    have hb := same_enc b ht.2.2 (n + 1) (by omega)
    exact same_tup (n + 1) _ (fun d m => by
      simp only [List.mem_cons, List.not_mem_nil, or_false] at m
      rcases m with rfl | rfl | rfl | rfl
      · exact same_str n _
      · exact same_str n _
      · exact ha
      · exact hb) (by simp)
end Y
namespace Y
open PySem
theorem lit_abc : (Str.ofString "abcdefghijklmnopqrstuvwxyz" : Str) = txtOf letters := rfl
theorem kw_h : ∀ x ∈ kw6, ∃ w, WOk w ∧ (Str.ofString "h" ++ L2.cutS x (some 1) none) = txtOf w := by
  intro x hx
  have key : ∀ w : List Nat, (Str.ofString "h" ++ L2.cutS x (some 1) none) = txtOf w → (1 ≤ w.length ∧ w.length ≤ 8) → (∀ c ∈ w, c ∈ letters) → txtOf w ∉ kw6 → ∃ w, WOk w ∧ (Str.ofString "h" ++ L2.cutS x (some 1) none) = txtOf w := fun w e l a b => ⟨w, ⟨l.1, l.2, a, b⟩, e⟩
  simp only [kw6, List.mem_cons, List.not_mem_nil, or_false] at hx
  rcases hx with rfl | rfl | rfl | rfl | rfl | rfl | rfl | rfl | rfl | rfl | rfl
  · exact key [104, 101, 116] (by decide +kernel) (by decide) (by decide) (by decide +kernel)
  · exact key [104, 110] (by decide +kernel) (by decide) (by decide) (by decide +kernel)
  · exact key [104, 102] (by decide +kernel) (by decide) (by decide) (by decide +kernel)
  · exact key [104, 104, 101, 110] (by decide +kernel) (by decide) (by decide) (by decide +kernel)
  · exact key [104, 108, 115, 101] (by decide +kernel) (by decide) (by decide) (by decide +kernel)
  · exact key [104, 97, 121] (by decide +kernel) (by decide) (by decide) (by decide +kernel)
  · exact key [104, 115, 107] (by decide +kernel) (by decide) (by decide) (by decide +kernel)
  · exact key [104, 116, 111, 112] (by decide +kernel) (by decide) (by decide) (by decide +kernel)
  · exact key [104, 104, 101, 114, 101] (by decide +kernel) (by decide) (by decide) (by decide +kernel)
  · exact key [104, 117, 105, 101, 116] (by decide +kernel) (by decide) (by decide) (by decide +kernel)
  · exact key [104, 117, 109, 98, 101, 114] (by decide +kernel) (by decide) (by decide) (by decide +kernel)
theorem run_word (c : Int) : ∃ x : Str, WOk (wl x) ∧ ∀ n S, C (n + 1) .l_word [.int c] S = .ok (.str x, false) S := by
  have p18 : PowOk 10 18 := ⟨by decide, by decide, by decide⟩
  obtain ⟨v, hv⟩ : ∃ v : Int, v = c % 1000000000000000000 := ⟨_, rfl⟩
  obtain ⟨k, hk⟩ : ∃ k : Nat, 1 + v % 8 = (k : Int) := ⟨(1 + v % 8).toNat, by omega⟩
  have hk8 : k ≤ 8 := by omega
  have hk1 : 1 ≤ k := by omega
  have d8 : DivOk 8 := divOk_lt (by decide) (by decide)
  have d700 : DivOk 700 := divOk_lt (by decide) (by decide)
  have llen : letters.length = 26 := by decide
  have hloop : ∀ (m i : Nat) (w : List Nat) (o4 o5 : Option DV), (∀ c ∈ w, c ∈ letters) → w.length = i → i + m ≤ 200 → ∃ w' o4' o5', (∀ c ∈ w', c ∈ letters) ∧ w'.length = i + m ∧ ∀ S : Sto,
      loop (tN 4) (seq (asg (tN 5) (mul (fdiv (var 2) (cst (.int 8))) (add (mul (cst (.int 2)) (var 4)) (cst (.int 3))))) <|
  asg (tN 3) (add (var 3) (ix (var 1) (mod (add (var 5) (fdiv (fdiv (var 2) (cst (.int 700))) (add (var 4) (cst (.int 1))))) (cst (.int 26)))))) [] ((List.range' i m).map fun i => DV.int (i : Nat)) [some (.int c), some (.str (txtOf letters)), some (.int v), some (.str (txtOf w)), o4, o5] S =
        .ok (.nx [some (.int c), some (.str (txtOf letters)), some (.int v), some (.str (txtOf w')), o4', o5']) S := by
    intro m
    induction m with
    | zero => intro i w o4 o5 hw hl _; exact ⟨w, o4, o5, hw, hl, fun S => by simp [loop_nil]⟩
    | succ m ih =>
      intro i w o4 o5 hw hl hi
      have m2 : MulOk 2 (i : Int) := mulOk_l _
      have m3 : MulOk (v / 8) (2 * (i : Int) + 3) := .inr (by omega)
      have d1 : DivOk ((i : Int) + 1) := divOk_lt (by omega) (by omega)
      obtain ⟨q, hq⟩ : ∃ q : Int, q = v / 8 * (2 * (i : Int) + 3) := ⟨_, rfl⟩
      obtain ⟨p, hp⟩ : ∃ p : Nat, (q + v / 700 / ((i : Int) + 1)) % 26 = (p : Int) := ⟨((q + v / 700 / ((i : Int) + 1)) % 26).toNat, by omega⟩
      have hp26 : p < letters.length := by rw [llen]; omega
      have hix := fun S => ix_tx S letters (by rw [llen]; omega) p letters[p] (by simp [hp26])
      obtain ⟨w', o4', o5', h1, h2, h3⟩ := ih (i + 1) (w ++ [letters[p]]) (some (.int i)) (some (.int q)) (fun x m => by
        rcases List.mem_append.mp m with m | m
        · exact hw x m
        · have : x = letters[p] := by simpa using m
          rw [this]; exact List.getElem_mem _) (by simp [hl]) (by omega)
      refine ⟨w', o4', o5', h1, by omega, fun S => ?_⟩
      replace h3 := h3 S
      rw [List.range'_succ, List.map_cons, loop_cons]
      have hcat := fun S => catS S w [letters[p]] (by simp only [List.length_cons, List.length_nil]; omega)
      generalize txtOf letters = LT at *
      generalize txtOf (w ++ [letters[p]]) = W2 at *
      generalize txtOf [letters[p]] = W1 at *
      generalize txtOf w = W at *
      simp [-addV_str, mulV_int _ _ m2, mulV_int _ _ m3, divV_int _ _ d1, divV_int _ _ d8, divV_int _ _ d700, ← hq, hp, hix, hcat]
      exact h3
  obtain ⟨w, o4, o5, hlow, hlen, hl⟩ := hloop k 0 [] none none (fun c m => by simp at m) rfl (by omega)
  have e0 : txtOf [] = (Str.ofString "" : Str) := rfl
  rw [e0] at hl
  have hin := fun S => inV_strs S (txtOf w) kw6
  have hin' : ∀ S, inV S (.str (txtOf w)) (.tup [.str "let", .str "in", .str "if", .str "then", .str "else", .str "say", .str "ask", .str "stop", .str "where", .str "quiet", .str "number"]) = some (decide (txtOf w ∈ kw6)) := hin
  rw [← lit_abc] at hl
  by_cases hkw : txtOf w ∈ kw6
  · obtain ⟨w2, hw2, e2⟩ := kw_h _ hkw
    have hlim : (txtOf w).length ≤ 16777216 := by rw [txtOf_len]; omega
    have hx : (Str.ofString "h").length = 1 := by decide +kernel
    have hcl := L2.cutS_length (txtOf w) (some 1) none
    have hle0 : (txtOf w).length = w.length := by rw [txtOf_len]
    have hsum : 1 + (L2.cutS (txtOf w) (some 1) none).length ≤ 16777216 := by omega
    refine ⟨txtOf w2, by rw [show wl (txtOf w2) = w2 by simp [wl, txtOf]]; exact hw2, fun n S => ?_⟩
    rw [C, ← e2]
    clear hcl hloop
    generalize txtOf w = W at *
    simp [b_l_word, forS_run, powV_int _ _ p18, ← hv, hk, rngOk (n := (k : Int)) (by omega), rngD_at]
    simp only [hl]
    simp [hin', hkw, slV, hlim, hx, hsum, leave_ok]
  · refine ⟨txtOf w, by rw [show wl (txtOf w) = w by simp [wl, txtOf]]; exact ⟨by omega, by omega, hlow, hkw⟩, fun n S => ?_⟩
    rw [C]
    clear hloop
    generalize txtOf w = W at *
    simp [b_l_word, forS_run, powV_int _ _ p18, ← hv, hk, rngOk (n := (k : Int)) (by omega), rngD_at]
    simp only [hl]
    simp [hin', hkw, leave_ok]
end Y
namespace Y
open PySem
/-- a leaf as the law draws it -/
structure LfOk (t : T) : Prop where
  ht : t.ht = 1
  ok : TrW t
  ln : (wr t).length ≤ 40
  bk1 : bk t ≤ 1
theorem WOk.len {x : Str} (h : WOk (wl x)) : (wl x).length ≤ 8 := h.l8
theorem numL_le (z : Int) (h : 0 ≤ z ∧ z < 10 ^ 30) : (TL.numL z.toNat).length ≤ 30 := TL.numL_len (by decide) (by omega)
theorem numL_le3 (z : Int) (h : 0 ≤ z ∧ z < 1000) : (TL.numL z.toNat).length ≤ 3 := TL.numL_len (k := 3) (by decide) (by omega)
theorem tailA_9 : ∀ (as : List At), (∀ a ∈ as, (wrA a).length ≤ 9) → (tailA as).length ≤ 10 * as.length
  | [], _ => by simp [tailA]
  | a :: r, h => by
    have h1 := h a List.mem_cons_self
    have h2 := tailA_9 r fun b m => h b (List.mem_cons_of_mem _ m)
    simp only [tailA, List.length_cons, List.length_append]
    omega
theorem lf_num {z : Int} (h : 0 ≤ z ∧ z < 10 ^ 30) : LfOk (.num z) := ⟨rfl, h, by have := numL_le z h; show (TL.numL z.toNat).length ≤ 40; omega, by show 0 ≤ 1; omega⟩
theorem lf_name {x : Str} (h : WOk (wl x)) : LfOk (.name x) := ⟨rfl, h, by have := h.len; show (wl x).length ≤ 40; omega, by show 0 ≤ 1; omega⟩
theorem lf_ask {x : Str} (h : WOk (wl x)) : LfOk (.ask x) := ⟨rfl, h, by have := h.len; simp only [wr, List.length_append, List.length_cons, List.length_nil]; omega, by show 1 ≤ 1; omega⟩
theorem lf_stop {x : Str} (h : WOk (wl x)) : LfOk (.stop x) := ⟨rfl, h, by have := h.len; simp only [wr, List.length_append, List.length_cons, List.length_nil]; omega, by show 1 ≤ 1; omega⟩
theorem lf_gap {x : Str} {as : List At} (h : WOk (wl x)) (ha : ∀ a ∈ as, AtOk a ∧ (wrA a).length ≤ 9) (hl : as.length ≤ 3) : LfOk (.gap x as) := ⟨rfl, ⟨h, fun a m => (ha a m).1, hl⟩, by
  have := h.len
  cases as with
  | nil => show (63 :: wl x).length ≤ 40; simp only [List.length_cons]; omega
  | cons a as =>
    have h1 := (ha a List.mem_cons_self).2
    have h2 := tailA_9 as fun b m => (ha b (List.mem_cons_of_mem _ m)).2
    simp only [List.length_cons] at hl
    simp only [wr, List.length_append, List.length_cons, List.length_nil]
    omega, by cases as <;> exact Nat.zero_le 1⟩
theorem run_lleaf (c : Int) (b : Bool) : ∃ t : T, LfOk t ∧ (b = false → ∀ x as, t ≠ .gap x as) ∧ ∀ n S, C (n + 2) .l_leaf [.int c, .bl b] S = .ok (enc t, false) S := by
  have p30 : PowOk 10 30 := ⟨by decide, by decide, by decide⟩
  have d7 : DivOk 7 := divOk_lt (by decide) (by decide)
  have d3 : DivOk 3 := divOk_lt (by decide) (by decide)
  have d11 : DivOk 11 := divOk_lt (by decide) (by decide)
  have d5 : DivOk 5 := divOk_lt (by decide) (by decide)
  have d4 : DivOk 4 := divOk_lt (by decide) (by decide)
  obtain ⟨r, hr⟩ : ∃ r, r = c / 7 := ⟨_, rfl⟩
  obtain ⟨w, hw, rw_⟩ := run_word r
  obtain ⟨x3, hx3, r3⟩ := run_word (r / 3)
  obtain ⟨x11, hx11, r11⟩ := run_word (r / 11)
  obtain ⟨x5, hx5, r5⟩ := run_word (r / 5)
  have hk : c % 7 = 0 ∨ c % 7 = 1 ∨ c % 7 = 2 ∨ c % 7 = 3 ∨ c % 7 = 4 ∨ c % 7 = 5 ∨ c % 7 = 6 := by omega
  have nm : ∀ n S, c % 7 = 5 ∨ c % 7 = 6 ∨ (c % 7 = 4 ∧ b = false) → C (n + 2) .l_leaf [.int c, .bl b] S = .ok (enc (.name w), false) S := fun n S hh => by
    have rw' := fun S => rw_ n S
    rw [C]
    rcases hh with e | e | ⟨e, rfl⟩
    · simp [b_l_leaf, divV_int _ _ d7, ← hr, e, rw', leave_ok, enc]
    · simp [b_l_leaf, divV_int _ _ d7, ← hr, e, rw', leave_ok, enc]
    · simp [b_l_leaf, divV_int _ _ d7, ← hr, e, rw', leave_ok, enc]
  rcases hk with e | e | e | e | e | e | e
  · refine ⟨.num (r % 1000000000000000000000000000000), lf_num (by omega), fun _ _ _ z => (by cases z), fun n S => ?_⟩
    rw [C]
    simp [b_l_leaf, divV_int _ _ d7, ← hr, e, powV_int _ _ p30, leave_ok, enc, L2.atI, L2.ixN]
  · refine ⟨.num (r % 12), lf_num (by omega), fun _ _ _ z => (by cases z), fun n S => ?_⟩
    rw [C]
    simp [b_l_leaf, divV_int _ _ d7, ← hr, e, powV_int _ _ p30, leave_ok, enc, L2.atI, L2.ixN]
  · refine ⟨.ask w, lf_ask hw, fun _ _ _ z => (by cases z), fun n S => ?_⟩
    have rw' := fun S => rw_ n S
    rw [C]
    simp [b_l_leaf, divV_int _ _ d7, ← hr, e, rw', leave_ok, enc]
  · refine ⟨.stop w, lf_stop hw, fun _ _ _ z => (by cases z), fun n S => ?_⟩
    have rw' := fun S => rw_ n S
    rw [C]
    simp [b_l_leaf, divV_int _ _ d7, ← hr, e, rw', leave_ok, enc]
  · cases b with
    | false => exact ⟨.name w, lf_name hw, fun _ _ _ z => (by cases z), fun n S => nm n S (.inr (.inr ⟨e, rfl⟩))⟩
    | true =>
      obtain ⟨u, hu⟩ : ∃ u : Nat, r / 4 % 3 = (u : Int) := ⟨(r / 4 % 3).toNat, by omega⟩
      obtain ⟨v, hv⟩ : ∃ v : Nat, r % 4 = (v : Int) := ⟨(r % 4).toNat, by omega⟩
      have hall : ∀ a ∈ ([.name x3, .num (r % 1000), .gap x11] : List At), AtOk a ∧ (wrA a).length ≤ 9 := fun a m => by
        simp only [List.mem_cons, List.not_mem_nil, or_false] at m
        rcases m with rfl | rfl | rfl
        · exact ⟨hx3, by have := hx3.len; show (wl x3).length ≤ 9; omega⟩
        · exact ⟨by show 0 ≤ r % 1000 ∧ r % 1000 < 10 ^ 30; omega, by have := numL_le3 (r % 1000) (by omega); show (TL.numL (r % 1000).toNat).length ≤ 9; omega⟩
        · exact ⟨hx11, by have := hx11.len; show (63 :: wl x11).length ≤ 9; simp only [List.length_cons]; omega⟩
      refine ⟨.gap x5 ((([.name x3, .num (r % 1000), .gap x11] : List At).drop u).take v), lf_gap hx5 (fun a m => hall a (List.mem_of_mem_drop (List.mem_of_mem_take m))) (by simp; omega), fun z => (by cases z), fun n S => ?_⟩
      have hcut : cutD (cutD (([.name x3, .num (r % 1000), .gap x11] : List At).map encA) (some (u : Int)) none) none (some (v : Int)) = ((([.name x3, .num (r % 1000), .gap x11] : List At).drop u).take v).map encA := by
        rw [cut_from, cut_to, List.map_take, List.map_drop]
      have r3' := fun S => r3 n S
      have r11' := fun S => r11 n S
      have r5' := fun S => r5 n S
      have henc : enc (.gap x5 ((([.name x3, .num (r % 1000), .gap x11] : List At).drop u).take v)) = .tup [.str "gap", .str x5, .tup (((([.name x3, .num (r % 1000), .gap x11] : List At).drop u).take v).map encA)] := rfl
      have hm : (([.name x3, .num (r % 1000), .gap x11] : List At).map encA) = [.tup [.str "name", .str x3], .tup [.str "num", .int (r % 1000)], .tup [.str "gap", .str x11, .tup []]] := rfl
      rw [hm] at hcut
      rw [C, henc, ← hcut]
      have hnr : noRefs (cutD (cutD [DV.tup [.str "name", .str x3], .tup [.str "num", .int (r % 1000)], .tup [.str "gap", .str x11, .tup []]] (some (u : Int)) none) none (some (v : Int))) = true := by
        rw [hcut]
        exact noRefs_map encA noRef_encA _
      clear hcut henc hall
      simp [-addV_str, b_l_leaf, divV_int _ _ d7, ← hr, e, divV_int _ _ d3, divV_int _ _ d11, divV_int _ _ d5, divV_int _ _ d4, r3', r11', r5', hu, hv, hnr, leave_ok, enc]
  · exact ⟨.name w, lf_name hw, fun _ _ _ z => (by cases z), fun n S => nm n S (.inl e)⟩
  · exact ⟨.name w, lf_name hw, fun _ _ _ z => (by cases z), fun n S => nm n S (.inr (.inl e))⟩
end Y
namespace Y
open PySem
theorem sg_len (o : Bo) : (sg o).length = 3 := by cases o <;> rfl
/-- a tree as the law draws it, of so many cells -/
structure TrOk (d k : Nat) (t : T) : Prop where
  ok : TrW t
  ht : t.ht ≤ d + 1
  bk : bk t ≤ d + 1
  ln : (wr t).length ≤ 40 * k + 3
theorem run_ltree (g : Bool) : ∀ (d : Nat) (cs : List Int), d ≤ 12 → cs.length ≤ 100 → ∃ t : T, TrOk d cs.length t ∧ ∀ n S, d + 2 < n → C n .l_tree [.lst (cs.map DV.int), .int (d : Int), .bl g] S = .ok (enc t, false) S := by
  intro d
  have d9 : DivOk 9 := divOk_lt (by decide) (by decide)
  have d909 : DivOk 1009 := divOk_lt (by decide) (by decide)
  have none_ : ∀ (d : Nat), d ≤ 12 → ∃ t : T, TrOk d 0 t ∧ ∀ n S, d + 2 < n → C n .l_tree [.lst [], .int (d : Int), .bl g] S = .ok (enc t, false) S := fun d hd => by
    have md : MulOk (d : Int) 10 := mulOk_r _
    refine ⟨.num ((d : Int) * 10), ⟨by show 0 ≤ (d : Int) * 10 ∧ (d : Int) * 10 < 10 ^ 30; omega, by simp [T.ht], by show 0 ≤ d + 1; omega, by have := numL_le3 ((d : Int) * 10) (by omega); show (TL.numL ((d : Int) * 10).toNat).length ≤ 40 * 0 + 3; omega⟩, fun n S hn => ?_⟩
    obtain ⟨m, rfl⟩ : ∃ m, n = m + 1 := ⟨n - 1, by omega⟩
    simp [C, b_l_tree, mulV_int _ _ md, leave_ok, enc]
  have leaf_ : ∀ (d : Nat) (c : Int) (cs : List Int), (cs = [] ∨ d = 0) → ∃ t : T, TrOk d (cs.length + 1) t ∧ ∀ n S, d + 2 < n → C n .l_tree [.lst (.int c :: cs.map DV.int), .int (d : Int), .bl g] S = .ok (enc t, false) S := fun d c cs hcs => by
    obtain ⟨t, h1, _, h2⟩ := run_lleaf c g
    refine ⟨t, ⟨h1.ok, by have := h1.ht; omega, by have := h1.bk1; omega, by have := h1.ln; omega⟩, fun n S hn => ?_⟩
    obtain ⟨m, rfl⟩ : ∃ m, n = m + 3 := ⟨n - 3, by omega⟩
    have hne : ¬ ((cs.length : Int) + 1 = 0) := by omega
    rw [C]
    rcases hcs with rfl | rfl
    · simp [b_l_tree, L2.atI, L2.ixN, h2, leave_ok, noRef_enc]
    · simp [b_l_tree, L2.atI, L2.ixN, h2, leave_ok, noRef_enc, hne]
  induction d with
  | zero =>
    intro cs hd hc
    cases cs with
    | nil => exact none_ 0 hd
    | cons c cs => exact leaf_ 0 c cs (.inr rfl)
  | succ d ih =>
    intro cs hd hc
    cases cs with
    | nil => exact none_ (d + 1) hd
    | cons c cs =>
      by_cases hnil : cs = []
      · exact leaf_ (d + 1) c cs (.inl hnil)
      have hpos : 0 < cs.length := by cases cs <;> simp_all
      simp only [List.length_cons] at hc ⊢
      have m1 : MulOk c 48271 := mulOk_r c
      have hne : ¬ ((cs.length : Int) + 1 = 0) := by omega
      have hne1 : ¬ ((cs.length : Int) + 1 = 1) := by omega
      have hned : ¬ (((d : Int) + 1) = 0) := by omega
      have hlp : (0 : Int) < cs.length + 1 := by omega
      generalize hv : c * 48271 % 2147483647 = v
      obtain ⟨a, ha⟩ : ∃ a : Nat, v / 9 % (cs.length + 1) = (a : Int) := ⟨(v / 9 % (cs.length + 1)).toNat, by have := Int.emod_nonneg (v / 9) (b := cs.length + 1) (by omega); omega⟩
      have hal : a ≤ cs.length := by have := Int.emod_lt_of_pos (v / 9) (b := cs.length + 1) (by omega); omega
      obtain ⟨b, hb⟩ : ∃ b : Nat, v / 1009 % (cs.length - a + 1) = (b : Int) := ⟨(v / 1009 % (cs.length - a + 1)).toNat, by have := Int.emod_nonneg (v / 1009) (b := cs.length - a + 1) (by omega); omega⟩
      have hbl : a + b ≤ cs.length := by have := Int.emod_lt_of_pos (v / 1009) (b := cs.length - a + 1) (by omega); omega
      have hlp2 : (0 : Int) < cs.length - a + 1 := by omega
      obtain ⟨w, hwk, hw'⟩ := run_word (v / 9)
      have hs : ∃ s : String, L2.atI [DV.str "say", .str "add", .str "sub", .str "mul", .str "then", .str "if", .str "let", .str "sub", .str "then"] (v % 9) = some (.str s) ∧ (s = "say" ∨ s = "if" ∨ s = "let" ∨ s = "add" ∨ s = "sub" ∨ s = "mul" ∨ s = "then") := by
        have : v % 9 = 0 ∨ v % 9 = 1 ∨ v % 9 = 2 ∨ v % 9 = 3 ∨ v % 9 = 4 ∨ v % 9 = 5 ∨ v % 9 = 6 ∨ v % 9 = 7 ∨ v % 9 = 8 := by omega
        rcases this with h | h | h | h | h | h | h | h | h <;> rw [h]
        · exact ⟨"say", rfl, by simp⟩
        · exact ⟨"add", rfl, by simp⟩
        · exact ⟨"sub", rfl, by simp⟩
        · exact ⟨"mul", rfl, by simp⟩
        · exact ⟨"then", rfl, by simp⟩
        · exact ⟨"if", rfl, by simp⟩
        · exact ⟨"let", rfl, by simp⟩
        · exact ⟨"sub", rfl, by simp⟩
        · exact ⟨"then", rfl, by simp⟩
      obtain ⟨s, hs, hs2⟩ := hs
      have sub (ys : List Int) (h : ys.length ≤ cs.length) := ih ys (by omega) (by omega)
      have cut1 : ∀ m, (cs.take m).length ≤ cs.length := fun m => by simp; omega
      have cut2 : ∀ m, (cs.drop m).length ≤ cs.length := fun m => by simp
      have hcut (lo hi : Option Int) : cutD (cs.map DV.int) lo hi = (cutD cs lo hi).map DV.int := cutD_map DV.int cs lo hi
      have hcons : cutD (DV.int c :: cs.map DV.int) (some 1) none = cs.map DV.int := by rw [cut_from1]; rfl
      have e1 : ((d : Int) + 1) - 1 = d := by omega
      obtain ⟨f, hf⟩ : ∃ f : Nat, f = a + b := ⟨_, rfl⟩
      have eab : ((a : Int) + (b : Int)) = (f : Int) := by omega
      have tk : cutD cs none (some (a : Int)) = cs.take a := cut_to cs a
      have dr : cutD cs (some (a : Int)) none = cs.drop a := cut_from cs a
      have dr2 : cutD cs (some (f : Int)) none = cs.drop f := cut_from cs f
      have md : cutD cs (some (a : Int)) (some (f : Int)) = (cs.drop a).take b := by rw [cut_mid cs a f]; congr 1; omega
      have h0 : L2.atI (DV.int c :: cs.map DV.int) 0 = some (.int c) := by simp [L2.atI, L2.ixN, show (0:Int) < cs.length + 1 by omega]
      by_cases hsay : s = "say"
      · subst hsay
        obtain ⟨t, q1, q3⟩ := sub cs (by omega)
        refine ⟨.say t, ⟨q1.ok, by have := q1.ht; simp only [T.ht]; omega, by have := q1.bk; show bk t + 1 ≤ _; omega, by have := q1.ln; simp only [wr, List.length_append, List.length_cons, List.length_nil]; omega⟩, fun n S hn => ?_⟩
        obtain ⟨m, rfl⟩ : ∃ m, n = m + 1 := ⟨n - 1, by omega⟩
        rw [C]
        simp [b_l_tree, h0, hne, hne1, hned, mulV_int _ _ m1, divV_int _ _ d9, hlp, hv, ha, hs, hcons, e1, q3 _ _ (show d + 2 < m by omega), leave_ok, noRef_enc, enc]
      obtain ⟨t1, q1, r1⟩ := sub (cs.take a) (cut1 a)
      have la : (cs.take a).length = a := by simp; omega
      have ldr : (cs.drop a).length = cs.length - a := by simp
      by_cases hif : s = "if"
      · subst hif
        obtain ⟨t2, q2, r2⟩ := sub ((cs.drop a).take b) (by simp; omega)
        obtain ⟨t3, q3, r3⟩ := sub (cs.drop f) (cut2 _)
        have l2 : ((cs.drop a).take b).length ≤ b := by simp; omega
        have l3 : (cs.drop f).length = cs.length - f := by simp
        refine ⟨.ite t1 t2 t3, ⟨⟨q1.ok, q2.ok, q3.ok⟩, by have := q1.ht; have := q2.ht; have := q3.ht; simp only [T.ht]; omega, by have := q1.bk; have := q2.bk; have := q3.bk; show max (bk t1) (max (bk t2) (bk t3)) + 1 ≤ _; omega, by have := q1.ln; have := q2.ln; have := q3.ln; simp only [wr, List.length_append, List.length_cons, List.length_nil]; omega⟩, fun n S hn => ?_⟩
        obtain ⟨m, rfl⟩ : ∃ m, n = m + 1 := ⟨n - 1, by omega⟩
        rw [C]
        simp (maxSteps := 2000000) [-List.map_take, -List.map_drop, b_l_tree, h0, hne, hne1, hned, mulV_int _ _ m1, divV_int _ _ d9, divV_int _ _ d909, hlp, hlp2, hv, ha, hb, hs, hcons, e1, eab, hcut, tk, dr, dr2, md, r1 _ _ (show d + 2 < m by omega), r2 _ _ (show d + 2 < m by omega), r3 _ _ (show d + 2 < m by omega), leave_ok, noRef_enc, enc]
      obtain ⟨t2, q2, r2⟩ := sub (cs.drop a) (cut2 _)
      by_cases hlet : s = "let"
      · subst hlet
        refine ⟨.lt w t1 t2, ⟨⟨hwk, q1.ok, q2.ok⟩, by have := q1.ht; have := q2.ht; simp only [T.ht]; omega, by have := q1.bk; have := q2.bk; show max (bk t1) (bk t2) + 1 ≤ _; omega, by have := q1.ln; have := q2.ln; have := hwk.len; simp only [wr, List.length_append, List.length_cons, List.length_nil]; omega⟩, fun n S hn => ?_⟩
        obtain ⟨m, rfl⟩ : ∃ m, n = m + 2 := ⟨n - 2, by omega⟩
        rw [C]
        simp (maxSteps := 2000000) [-List.map_take, -List.map_drop, b_l_tree, h0, hne, hne1, hned, mulV_int _ _ m1, divV_int _ _ d9, hlp, hlp2, hv, ha, hb, hs, hw', hcons, e1, hcut, tk, dr, r1 _ _ (show d + 2 < m + 1 by omega), r2 _ _ (show d + 2 < m + 1 by omega), leave_ok, noRef_enc, enc]
      obtain ⟨o, ho⟩ : ∃ o : Bo, o.s = Str.ofString s := by
        rcases hs2 with h | h | h | h | h | h | h
        · exact absurd h hsay
        · exact absurd h hif
        · exact absurd h hlet
        · exact ⟨.add, by rw [h]; rfl⟩
        · exact ⟨.sub, by rw [h]; rfl⟩
        · exact ⟨.mul, by rw [h]; rfl⟩
        · exact ⟨.thn, by rw [h]; rfl⟩
      refine ⟨.bin o t1 t2, ⟨⟨q1.ok, q2.ok⟩, by have := q1.ht; have := q2.ht; simp only [T.ht]; omega, by have := q1.bk; have := q2.bk; show max (bk t1) (bk t2) + 1 ≤ _; omega, by have := q1.ln; have := q2.ln; have := sg_len o; simp only [wr, List.length_append, List.length_cons, List.length_nil]; omega⟩, fun n S hn => ?_⟩
      obtain ⟨m, rfl⟩ : ∃ m, n = m + 1 := ⟨n - 1, by omega⟩
      rw [C]
      simp (maxSteps := 2000000) [-List.map_take, -List.map_drop, b_l_tree, h0, hne, hne1, hned, mulV_int _ _ m1, divV_int _ _ d9, hlp, hlp2, hv, ha, hb, hs, hcons, e1, hcut, tk, dr, r1 _ _ (show d + 2 < m by omega), r2 _ _ (show d + 2 < m by omega), hsay, hif, hlet, leave_ok, noRef_enc, enc, ho]
end Y
namespace Y
open PySem
/-- a tree nested in itself: so deep are its brackets, so many levels stand around its leaf -/
structure NsOk (b k : Nat) (t : T) : Prop where
  ok : TrW t
  ht : t.ht ≤ k + 1
  bk : bk t ≤ b + k
  ln : (wr t).length ≤ 40 * k + 40
theorem wok_of (w : List Nat) (x : Str) (e : wl x = w) (h : (decide (1 ≤ w.length) && (decide (w.length ≤ 8) && (w.all fun c => decide (c ∈ letters)))) = true) (hn : txtOf w ∉ kw6) : WOk (wl x) := by
  simp only [Bool.and_eq_true, decide_eq_true_eq, List.all_eq_true] at h
  rw [e]
  exact ⟨h.1, h.2.1, h.2.2, hn⟩
theorem wok_b : WOk (wl (Str.ofString "b")) := wok_of [98] _ (by decide +kernel) (by decide) (by decide +kernel)
theorem wok_c : WOk (wl (Str.ofString "c")) := wok_of [99] _ (by decide +kernel) (by decide) (by decide +kernel)
def nsS (m : Int) (i : Nat) (t : T) : T :=
  if m = 0 then .say t else if m = 1 then .bin .add (.num ((i : Int) * 1000)) t else if m = 2 then .bin .mul t (.num ((i : Int) * 1000)) else
  if m = 3 then .lt "b" t (.num ((i : Int) * 1000)) else .ite (.num ((i : Int) * 1000)) (.name "c") t
theorem nsS_ok {b k i : Nat} {t : T} (h : NsOk b k t) (hi : i ≤ 16) (m : Int) : NsOk b (k + 1) (nsS m i t) := by
  have hz : 0 ≤ (i : Int) * 1000 ∧ (i : Int) * 1000 < 10 ^ 30 := by omega
  have hl : (TL.numL ((i : Int) * 1000).toNat).length ≤ 5 := TL.numL_len (k := 5) (by decide) (by omega)
  have hb : (wl (Str.ofString "b")).length = 1 := by decide +kernel
  have hc : (wl (Str.ofString "c")).length = 1 := by decide +kernel
  obtain ⟨h1, h2, h3, h4⟩ := h
  unfold nsS
  split
  · exact ⟨h1, by simp only [T.ht]; omega, by show bk t + 1 ≤ _; omega, by simp only [wr, List.length_append, List.length_cons, List.length_nil]; omega⟩
  split
  · exact ⟨⟨hz, h1⟩, by simp only [T.ht]; omega, by show max 0 (bk t) + 1 ≤ _; omega, by have := sg_len .add; simp only [wr, List.length_append, List.length_cons, List.length_nil]; omega⟩
  split
  · exact ⟨⟨h1, hz⟩, by simp only [T.ht]; omega, by show max (bk t) 0 + 1 ≤ _; omega, by have := sg_len .mul; simp only [wr, List.length_append, List.length_cons, List.length_nil]; omega⟩
  split
  · exact ⟨⟨wok_b, h1, hz⟩, by simp only [T.ht]; omega, by show max (bk t) 0 + 1 ≤ _; omega, by simp only [wr, List.length_append, List.length_cons, List.length_nil]; omega⟩
  · exact ⟨⟨hz, wok_c, h1⟩, by simp only [T.ht]; omega, by show max 0 (max 0 (bk t)) + 1 ≤ _; omega, by simp only [wr, List.length_append, List.length_cons, List.length_nil]; omega⟩
theorem min2_int (a b : Int) : min2V (.int a) (.int b) = some (.int (min a b)) := by
  show some (DV.int _) = _
  congr 2
  by_cases h : b < a
  · simp [h]; omega
  · simp [h]; omega
theorem min2_run (a b : ME) (l : Lo) (S : Sto) : min2 a b l S = (a l S).bind fun x S1 => (b l S1).bind fun y S2 => Out.of (min2V x y) S2 := rfl
theorem run_nested (c d : Int) : ∃ t : T, TrW t ∧ t.ht ≤ 17 ∧ bk t ≤ 16 ∧ (wr t).length ≤ 2000 ∧ ∀ n S, C (n + 3) .l_nested [.int c, .int d] S = .ok (enc t, false) S := by
  obtain ⟨t0, h0, hg, hr⟩ := run_lleaf d false
  have hg := hg rfl
  have d17 : DivOk 17 := divOk_lt (by decide) (by decide)
  have hloop : ∀ (CC : Fid → Ora) (b : Nat) (mny : DV) (m i : Nat) (t : T) (o5 o6 o7 : Option DV), NsOk b i t → i + m ≤ 16 → ∃ (t' : T) (o4' o5' o6' o7' : Option DV), NsOk b (i + m) t' ∧ ∀ (o4 : Option DV) (S : Sto),
      loop (tN 4) (seq (asg (tN 5) (mod (fdiv (fdiv (var 0) (cst (.int 17))) (add (var 4) (cst (.int 1)))) (cst (.int 5)))) <|
  seq (asg (tN 6) (tupE (aCons (cst (.str "num")) (aCons (mul (var 4) (cst (.int 1000))) (aNil))))) <|
  seq (asg (tN 7) (lstE (aCons (tupE (aCons (cst (.str "say")) (aCons (var 2) (aNil)))) (aCons (tupE (aCons (cst (.str "add")) (aCons (var 6) (aCons (var 2) (aNil))))) (aCons (tupE (aCons (cst (.str "mul")) (aCons (var 2) (aCons (var 6) (aNil))))) (aNil)))))) <|
  seq (asg (tN 7) (add (var 7) (lstE (aCons (tupE (aCons (cst (.str "let")) (aCons (cst (.str "b")) (aCons (var 2) (aCons (var 6) (aNil)))))) (aCons (tupE (aCons (cst (.str "if")) (aCons (var 6) (aCons (tupE (aCons (cst (.str "name")) (aCons (cst (.str "c")) (aNil)))) (aCons (var 2) (aNil)))))) (aNil)))))) <|
  asg (tN 2) (ix (var 7) (var 5))) [] ((List.range' i m).map fun i => DV.int (i : Nat)) [some (.int c), some (.int d), some (enc t), some mny, o4, o5, o6, o7] S =
        .ok (.nx [some (.int c), some (.int d), some (enc t'), some mny, if m = 0 then o4 else o4', if m = 0 then o5 else o5', if m = 0 then o6 else o6', if m = 0 then o7 else o7']) S := by
    intro CC b mny m
    induction m with
    | zero => intro i t o5 o6 o7 ht _; exact ⟨t, none, none, none, none, ht, fun o4 S => by simp [loop_nil]⟩
    | succ m ih =>
      intro i t o5 o6 o7 ht hi
      have d1 : DivOk ((i : Int) + 1) := divOk_lt (by omega) (by omega)
      have m1 : MulOk (i : Int) 1000 := mulOk_r _
      obtain ⟨v, hv⟩ : ∃ v : Int, v = c / 17 / ((i : Int) + 1) % 5 := ⟨_, rfl⟩
      have hv5 : v = 0 ∨ v = 1 ∨ v = 2 ∨ v = 3 ∨ v = 4 := by omega
      have hsel : L2.atI [DV.tup [.str "say", enc t], .tup [.str "add", enc (.num ((i : Int) * 1000)), enc t], .tup [.str "mul", enc t, enc (.num ((i : Int) * 1000))], .tup [.str "let", .str "b", enc t, enc (.num ((i : Int) * 1000))], .tup [.str "if", enc (.num ((i : Int) * 1000)), .tup [.str "name", .str "c"], enc t]] v = some (enc (nsS v i t)) := by
        rcases hv5 with e | e | e | e | e <;> rw [e] <;> rfl
      have en : enc (.num ((i : Int) * 1000)) = .tup [.str "num", .int ((i : Int) * 1000)] := rfl
      obtain ⟨t', o4', o5', o6', o7', h1, h2⟩ := ih (i + 1) (nsS v i t) (some (.int v)) (some (.tup [.str "num", .int ((i : Int) * 1000)])) (some (.lst [DV.tup [.str "say", enc t], .tup [.str "add", enc (.num ((i : Int) * 1000)), enc t], .tup [.str "mul", enc t, enc (.num ((i : Int) * 1000))], .tup [.str "let", .str "b", enc t, enc (.num ((i : Int) * 1000))], .tup [.str "if", enc (.num ((i : Int) * 1000)), .tup [.str "name", .str "c"], enc t]])) (nsS_ok ht (by omega) v) (by omega)
      refine ⟨t', if m = 0 then some (.int i) else o4', if m = 0 then some (.int v) else o5', if m = 0 then some (.tup [.str "num", .int ((i : Int) * 1000)]) else o6', if m = 0 then some (.lst [DV.tup [.str "say", enc t], .tup [.str "add", enc (.num ((i : Int) * 1000)), enc t], .tup [.str "mul", enc t, enc (.num ((i : Int) * 1000))], .tup [.str "let", .str "b", enc t, enc (.num ((i : Int) * 1000))], .tup [.str "if", enc (.num ((i : Int) * 1000)), .tup [.str "name", .str "c"], enc t]]) else o7', by rw [show i + (m + 1) = i + 1 + m by omega]; exact h1, fun o4 S => ?_⟩
      have h2 := h2 (some (.int i)) S
      rw [List.range'_succ, List.map_cons, loop_cons]
      rw [en] at hsel h2
      simp only [Nat.succ_ne_zero, if_false]
      generalize enc (nsS v i t) = E2 at *
      have hnr := noRef_enc t
      generalize enc t = E at *
      simp [divV_int _ _ d1, divV_int _ _ d17, ← hv, mulV_int _ _ m1, hnr]
      rw [hsel]
      simp
      exact h2
  obtain ⟨m, hm⟩ : ∃ m : Nat, c % 17 = (m : Int) := ⟨(c % 17).toNat, by omega⟩
  have hm16 : m ≤ 16 := by omega
  have fin : ∀ (b k : Nat) (o4 : Option DV), NsOk b 0 t0 → b + k ≤ 16 → (∀ (n : Nat) (S : Sto), ∃ hd, ixV S (enc t0) (.int 0) = some (.str hd) ∧ inV S (.str hd) (.tup [.str "ask", .str "stop"]) = some (decide (b = 1))) → (if b = 1 then min (m : Int) 15 else (m : Int)) = (k : Int) →
      ∃ t : T, TrW t ∧ t.ht ≤ 17 ∧ bk t ≤ 16 ∧ (wr t).length ≤ 2000 ∧ ∀ n S, C (n + 3) .l_nested [.int c, .int d] S = .ok (enc t, false) S := fun b k o4 hns hbk hix hk => by
    obtain ⟨t', o4', o5', o6', o7', h1, h2⟩ := hloop (C 0) b (.int (k : Int)) k 0 t0 none none none hns (by omega)
    rw [Nat.zero_add] at h1
    refine ⟨t', h1.ok, by have := h1.ht; omega, by have := h1.bk; omega, by have := h1.ln; omega, fun n S => ?_⟩
    have h2 := h2 none S
    have hr' := fun S => hr n S
    obtain ⟨hd, hx, hin⟩ := hix n S
    have hnr := noRef_enc t0
    have hnr' := noRef_enc t'
    rw [C]
    clear hix
    generalize enc t0 = E at *
    generalize enc t' = E2 at *
    have rk := rngOk (n := (k : Int)) (by omega)
    by_cases hb : b = 1
    · rw [if_pos hb] at hk
      rw [decide_eq_true hb] at hin
      have hmin : min2V (.int (m : Int)) (.int 15) = some (.int (k : Int)) := by rw [← hk]; exact min2_int _ _
      simp [b_l_nested, hr', hnr, hm, hx, hin, hmin, forS_run, min2_run, rk, rngD_at]
      rw [h2]
      simp [leave_ok, hnr']
    · rw [if_neg hb] at hk
      rw [decide_eq_false hb] at hin
      simp [b_l_nested, hr', hnr, hm, hx, hin, hk, forS_run, rk, rngD_at]
      rw [h2]
      simp [leave_ok, hnr']
  have hin : ∀ S (x : Str), inV S (.str x) (.tup [.str "ask", .str "stop"]) = some (decide (x ∈ [Str.ofString "ask", Str.ofString "stop"])) := fun S x => inV_strs S x ["ask", "stop"]
  have q1 : decide (Str.ofString "num" ∈ [Str.ofString "ask", Str.ofString "stop"]) = false := by decide +kernel
  have q2 : decide (Str.ofString "name" ∈ [Str.ofString "ask", Str.ofString "stop"]) = false := by decide +kernel
  have q3 : decide (Str.ofString "ask" ∈ [Str.ofString "ask", Str.ofString "stop"]) = true := by decide +kernel
  have q4 : decide (Str.ofString "stop" ∈ [Str.ofString "ask", Str.ofString "stop"]) = true := by decide +kernel
  have ns0 : ∀ b, bk t0 ≤ b → NsOk b 0 t0 := fun b hb => ⟨h0.ok, by have := h0.ht; omega, by omega, by have := h0.ln; omega⟩
  have f0 := fin 0 m none
  have f1 := fin 1 (if m ≤ 15 then m else 15) none
  have hk1 : (if (1 : Nat) = 1 then min (m : Int) 15 else (m : Int)) = ((if m ≤ 15 then m else 15 : Nat) : Int) := by
    rw [if_pos rfl]
    split <;> omega
  have hb1 : 1 + (if m ≤ 15 then m else 15) ≤ 16 := by split <;> omega
  have hh := h0.ht
  cases t0 with
  | num z => exact f0 (ns0 0 (by show 0 ≤ 0; omega)) (by omega) (fun n S => ⟨"num", rfl, by rw [hin, q1]; rfl⟩) rfl
  | name x => exact f0 (ns0 0 (by show 0 ≤ 0; omega)) (by omega) (fun n S => ⟨"name", rfl, by rw [hin, q2]; rfl⟩) rfl
  | ask x => exact f1 (ns0 1 (by show 1 ≤ 1; omega)) hb1 (fun n S => ⟨"ask", rfl, by rw [hin, q3]; rfl⟩) hk1
  | stop x => exact f1 (ns0 1 (by show 1 ≤ 1; omega)) hb1 (fun n S => ⟨"stop", rfl, by rw [hin, q4]; rfl⟩) hk1
  | gap x as => exact absurd rfl (hg x as)
  | say a => exact absurd hh (by have := T.ht_pos a; simp only [T.ht]; omega)
  | bin o a b => exact absurd hh (by have := T.ht_pos a; simp only [T.ht]; omega)
  | ite a b c => exact absurd hh (by have := T.ht_pos a; simp only [T.ht]; omega)
  | lt x a b => exact absurd hh (by have := T.ht_pos a; simp only [T.ht]; omega)
end Y
namespace Y
open PySem
theorem range3_half (L : Nat) (h : 2 ≤ L) (h2 : L ≤ 1000) : L2.RgC 0 ((L : Int) - 1) 2 (Builtin.Range.rangeSize 0 ((L : Int) - 1) 2).toNat ∧ (Builtin.Range.rangeSize 0 ((L : Int) - 1) 2).toNat = L / 2 := by
  have e : Builtin.Range.rangeSize 0 ((L : Int) - 1) 2 = ((L / 2 : Nat) : Int) := by
    unfold Builtin.Range.rangeSize
    rw [if_pos (by decide), if_pos (by omega)]
    omega
  refine ⟨⟨by decide, by decide, ?_, ?_⟩, by rw [e]; rfl⟩
  · unfold Builtin.Range.small
    rw [e]
    simp only [Builtin.Range.rangeFitsLong, Bool.and_eq_true, Bool.or_eq_true, decide_eq_true_eq, beq_iff_eq, show (2 : Int) > 0 by decide, if_true]
    omega
  · rw [e]; rfl
/-- a great tree after j rounds -/
structure GtOk (j : Nat) (t : T) : Prop where
  ok : TrW t
  ht : t.ht ≤ 1 + j
  ln : (wr t).length + 5 ≤ 35 * 2 ^ j
def pr2 (ts : List T) (k : Nat) : T := .bin .sub (ts.getD (2 * k) (.num 0)) (ts.getD (2 * k + 1) (.num 0))
theorem GtOk.up {j : Nat} {t : T} (h : GtOk j t) : GtOk (j + 1) t := ⟨h.ok, by have := h.ht; omega, by have := h.ln; rw [Nat.pow_succ]; omega⟩
theorem GtOk.two {j : Nat} {a b : T} (h : GtOk j a) (h' : GtOk j b) : GtOk (j + 1) (.bin .sub a b) := ⟨⟨h.ok, h'.ok⟩, by have := h.ht; have := h'.ht; simp only [T.ht]; omega, by
  have := h.ln; have := h'.ln; have := sg_len .sub
  rw [Nat.pow_succ]
  simp only [wr, List.length_append, List.length_cons, List.length_nil]
  omega⟩
theorem getD_mem {ts : List T} {k : Nat} (h : k < ts.length) : ts.getD k (.num 0) ∈ ts := by
  rw [List.getD_eq_getElem?_getD, List.getElem?_eq_getElem h]
  exact List.getElem_mem h
theorem at_getD {ts : List T} {k : Nat} (h : k < ts.length) : L2.atI (ts.map enc) ((k : Nat) : Int) = some (enc (ts.getD k (.num 0))) := by
  refine L2.atI_nat ?_
  rw [List.getElem?_map, List.getD_eq_getElem?_getD, List.getElem?_eq_getElem h]
  rfl
theorem run_great_odd (CC : Fid → Ora) (c : Int) (S : Sto) (ts0 : List T) (h0 : ∀ t ∈ ts0, GtOk 0 t) (hl0 : 1 ≤ ts0.length ∧ ts0.length ≤ 128) (S0 : Sto) (k0 : Nat) (hS0 : S0.take S.length = S ∧ S.length ≤ S0.length ∧ S0[k0]? = some (.lst (ts0.map enc))) (o2 o3 o4 : Option DV) :
    ∃ (t : T) (k : Nat) (o2' o3' : Option DV) (S1 : Sto), GtOk 7 t ∧ S1.take S.length = S ∧ S1[k]? = some (.lst [enc t]) ∧
      whileS (tst (gtE (lenE (var 1)) (cst (.int 1)))) (seq (asg (tN 3) (comp [2] (tN 2) (sRange3 (cst (.int 0)) (sub (lenE (var 1)) (cst (.int 1))) (cst (.int 2))) (tYes) (tupE (aCons (cst (.str "sub")) (aCons (ix (var 1) (var 2)) (aCons (ix (var 1) (add (var 2) (cst (.int 1)))) (aNil))))))) <|
  asg (tN 1) (addR (var 3) (slice (var 1) (some (mul (cst (.int 2)) (lenE (var 3)))) none))) [some (.int c), some (.ref k0), o2, o3, o4] S0 = .ok (.nx [some (.int c), some (.ref k), o2', o3', o4]) S1 := by
  obtain ⟨f, S1, hwh, t, k, o2', o3', hf, ht, hS, hk⟩ : ∃ f S1, whileS (tst (gtE (lenE (var 1)) (cst (.int 1)))) (seq (asg (tN 3) (comp [2] (tN 2) (sRange3 (cst (.int 0)) (sub (lenE (var 1)) (cst (.int 1))) (cst (.int 2))) (tYes) (tupE (aCons (cst (.str "sub")) (aCons (ix (var 1) (var 2)) (aCons (ix (var 1) (add (var 2) (cst (.int 1)))) (aNil))))))) <|
  asg (tN 1) (addR (var 3) (slice (var 1) (some (mul (cst (.int 2)) (lenE (var 3)))) none))) [some (.int c), some (.ref k0), o2, o3, o4] S0 = .ok f S1 ∧ ∃ (t : T) (k : Nat) (o2' o3' : Option DV), f = .nx [some (.int c), some (.ref k), o2', o3', o4] ∧ GtOk 7 t ∧ S1.take S.length = S ∧ S1[k]? = some (.lst [enc t]) := by
    refine Wp.ex ?_
    refine Wp_while (fun m l S' => ∃ (ts : List T) (j k : Nat) (o2 o3 : Option DV), m = ts.length ∧ j ≤ 7 ∧ 1 ≤ ts.length ∧ ts.length ≤ 2 ^ (7 - j) ∧ (∀ t ∈ ts, GtOk j t) ∧ S'.take S.length = S ∧ S.length ≤ S'.length ∧ S'[k]? = some (.lst (ts.map enc)) ∧ l = [some (.int c), some (.ref k), o2, o3, o4]) ts0.length _ _ (by omega) ⟨ts0, 0, k0, o2, o3, rfl, by omega, hl0.1, hl0.2, h0, hS0.1, hS0.2.1, hS0.2.2, rfl⟩ ?_
    rintro m l S' ⟨ts, j, k, o2, o3, rfl, hj, hl1, hl2, hts, hS1, hS2, hS3, rfl⟩
    have hlen : ts.length ≤ 128 := Nat.le_trans hl2 (Nat.le_trans (Nat.pow_le_pow_right (by decide) (show 7 - j ≤ 7 by omega)) (by decide))
    have hln : lenV S' (.ref k) = some (.int (ts.length : Nat)) := by
      simp [hS3]
    by_cases h1 : ts.length ≤ 1
    · have hts1 : ∃ t, ts = [t] := by
        cases ts with
        | nil => simp at hl1
        | cons t r => cases r with
          | nil => exact ⟨t, rfl⟩
          | cons _ _ => simp at h1
      obtain ⟨t, rfl⟩ := hts1
      have hg : GtOk 7 t := by
        have := hts t List.mem_cons_self
        have hup : ∀ i, GtOk (j + i) t := fun i => by
          induction i with
          | zero => exact this
          | succ i ih => exact ih.up
        have := hup (7 - j)
        rwa [show j + (7 - j) = 7 by omega] at this
      simp [hS3]
      exact ⟨t, hg, hS1, rfl⟩
    · have hgt : (1 : Int) < (ts.length : Int) := by omega
      obtain ⟨hrg, hrs⟩ := range3_half ts.length (by omega) (by omega)
      have hrg' := hrg
      rw [hrs] at hrg'
      have hcomp : comp [2] (tN 2) (sRange3 (cst (.int 0)) (sub (lenE (var 1)) (cst (.int 1))) (cst (.int 2))) (tYes) (tupE (aCons (cst (.str "sub")) (aCons (ix (var 1) (var 2)) (aCons (ix (var 1) (add (var 2) (cst (.int 1)))) (aNil))))) [some (.int c), some (.ref k), o2, o3, o4] S' = .ok (.lst ((List.range (ts.length / 2)).map fun y => enc (pr2 ts y))) S' := by
        refine comp_mapG (fun y : Nat => DV.int (0 + (y : Int) * 2)) (fun y => enc (pr2 ts y)) _ _ _ _ _ _ _ _ (by simp [hS3, hrg', hrs]) (by simp; omega) fun y hy => ⟨_, rfl, noRef_enc _, fun x => ?_⟩
        have hy2 : y < ts.length / 2 := by simpa using hy
        have a1 := at_getD (ts := ts) (k := 2 * y) (by omega)
        have a2 := at_getD (ts := ts) (k := 2 * y + 1) (by omega)
        have e1 : ((2 * y : Nat) : Int) = (y : Int) * 2 := by omega
        have e2 : ((2 * y + 1 : Nat) : Int) = (y : Int) * 2 + 1 := by omega
        rw [e1] at a1
        rw [e2] at a2
        have hk : (S' ++ [x])[k]? = some (.lst (ts.map enc)) := by
          rw [List.getElem?_append_left (List.getElem?_eq_some_iff.mp hS3).1]; exact hS3
        have ee : enc (pr2 ts y) = .tup [.str "sub", enc (ts.getD (2 * y) (.num 0)), enc (ts.getD (2 * y + 1) (.num 0))] := rfl
        rw [ee]
        have hw : wipeL [some (.int c), some (.ref k), o2, o3, o4] [2] = [some (.int c), some (.ref k), none, o3, o4] := rfl
        rw [hw]
        simp [hk, a1, a2]
      have hcut : cutD (ts.map enc) (some ((2 * (ts.length / 2) : Nat) : Int)) none = (ts.drop (2 * (ts.length / 2))).map enc := by rw [cut_from, List.map_drop]
      have ec : ((2 * (ts.length / 2) : Nat) : Int) = 2 * ((ts.length / 2 : Nat) : Int) := by omega
      rw [ec] at hcut
      have m2 : MulOk 2 ((ts.length / 2 : Nat) : Int) := mulOk_l _
      have hl16 : ts.length / 2 ≤ 16777216 := by omega
      have hlnP : ∀ (S : Sto), lenV S (.lst ((List.range (ts.length / 2)).map fun y => enc (pr2 ts y))) = some (.int ((ts.length / 2 : Nat) : Int)) := fun S => by
        simp
      have hnew : ((List.range (ts.length / 2)).map fun y => enc (pr2 ts y)) ++ (ts.drop (2 * (ts.length / 2))).map enc = (((List.range (ts.length / 2)).map (pr2 ts)) ++ ts.drop (2 * (ts.length / 2))).map enc := by
        rw [List.map_append, List.map_map]; rfl
      have hnr : noRefs ((((List.range (ts.length / 2)).map (pr2 ts)) ++ ts.drop (2 * (ts.length / 2))).map enc) = true := noRefs_map _ noRef_enc _
      have hsl : slV S' (.ref k) (some (2 * ((ts.length / 2 : Nat) : Int))) none = some (.lst ((ts.drop (2 * (ts.length / 2))).map enc)) := by
        simp [hS3]
        rw [show (2 * ((ts.length : Int) / 2)) = ((2 * (ts.length / 2) : Nat) : Int) by omega, cut_from]
      obtain ⟨ts2, hts2⟩ : ∃ ts2, ts2 = (List.range (ts.length / 2)).map (pr2 ts) ++ ts.drop (2 * (ts.length / 2)) := ⟨_, rfl⟩
      rw [← hts2] at hnew hnr
      have hlen2 : ts2.length = ts.length / 2 + (ts.length - 2 * (ts.length / 2)) := by rw [hts2]; simp
      have hg2 : ∀ t ∈ ts2, GtOk (j + 1) t := fun t m => by
        rw [hts2, List.mem_append] at m
        rcases m with m | m
        · obtain ⟨y, hy, rfl⟩ := List.mem_map.mp m
          have hy2 : y < ts.length / 2 := by simpa using hy
          exact GtOk.two (hts _ (getD_mem (by omega))) (hts _ (getD_mem (by omega)))
        · exact (hts t (List.mem_of_mem_drop m)).up
      have hj7 : j < 7 := by
        rcases Nat.lt_or_ge j 7 with h | h
        · exact h
        · have : j = 7 := by omega
          subst this
          simp at hl2
          omega
      have hl3 : ts2.length ≤ 2 ^ (7 - (j + 1)) := by
        have : 2 ^ (7 - j) = 2 ^ (7 - (j + 1)) * 2 := by rw [← Nat.pow_succ]; congr 1; omega
        rw [this] at hl2
        omega
      have hlim : (((List.range (ts.length / 2)).map fun y => enc (pr2 ts y)).length + ((ts.drop (2 * (ts.length / 2))).map enc).length) ≤ 16777216 := by simp; omega
      have htk : (S' ++ [DV.lst (ts2.map enc)]).take S.length = S := by
        rw [List.take_append_of_le_length hS2]
        exact hS1
      have hlnk : ∀ S'', lenV S'' (.lst ((List.range (ts.length / 2)).map fun y => enc (pr2 ts y))) = some (.int ((ts.length / 2 : Nat) : Int)) := hlnP
      have hll : ((List.range (ts.length / 2)).map fun y => enc (pr2 ts y)).length = ts.length / 2 := by simp
      have hnrP : noRefs ((List.range (ts.length / 2)).map fun y => enc (pr2 ts y)) = true := noRefs_map _ (fun y => noRef_enc _) _
      have hnrR : noRefs ((ts.drop (2 * (ts.length / 2))).map enc) = true := noRefs_map _ noRef_enc _
      have hlim2 : ts.length / 2 + ((ts.drop (2 * (ts.length / 2))).map enc).length ≤ 16777216 := by simp; omega
      generalize ((List.range (ts.length / 2)).map fun y => enc (pr2 ts y)) = PP at *
      generalize ((ts.drop (2 * (ts.length / 2))).map enc) = RR at *
      have hl16' : ¬ (16777216 < PP.length) := by omega
      have hadd : addR (var 3) (slice (var 1) (some (mul (cst (.int 2)) (lenE (var 3)))) none) [some (.int c), some (.ref k), o2, some (.lst PP), o4] S' = .ok (.ref S'.length) (S' ++ [.lst (ts2.map enc)]) := by
        clear hcomp hsl hlnP hlnk hrs hrg' hrg hln hlen2 hl3 hl2 hl1 hlen h1 hgt hts2
        generalize ts.length / 2 = H at *
        simp [addR, hS3, hll, hl16, mulV_int _ _ m2, hcut, hnew, hnrP, hnrR, hlim2]
      simp only [seq, asg]
      simp [hS3, hgt, hcomp, hadd]
      exact ⟨ts2.length, by omega, ts2, rfl, j + 1, by omega, by omega, hl3, hg2, htk, by omega, rfl⟩
  subst hf
  exact ⟨t, k, o2', o3', S1, ht, hS, hk, hwh⟩
theorem gt_even {t : T} {k : Nat} (ok : TrW t ∧ t.ht ≤ k + 1 ∧ (wr t).length ≤ 30 * k + 30) (b : Nat) :
    TrW (if b = 0 then .say t else .lt "b" (.name "b") t) ∧ (if b = 0 then T.say t else .lt "b" (.name "b") t).ht ≤ k + 1 + 1 ∧ (wr (if b = 0 then .say t else .lt "b" (.name "b") t)).length ≤ 30 * (k + 1) + 30 := by
  obtain ⟨h1, h2, h3⟩ := ok
  have hb : (wl (Str.ofString "b")).length = 1 := by decide +kernel
  split
  · exact ⟨h1, by simp only [T.ht]; omega, by simp only [wr, List.length_append, List.length_cons, List.length_nil]; omega⟩
  · exact ⟨⟨wok_b, wok_b, h1⟩, by simp only [T.ht]; omega, by simp only [wr, List.length_append, List.length_cons, List.length_nil]; omega⟩
theorem run_great (c : Int) (n : Nat) (S : Sto) : ∃ t : T, TrW t ∧ t.ht ≤ 88 ∧ (wr t).length ≤ 5000 ∧ C (n + 1) .l_great [.int c] S = .ok (enc t, false) S := by
  have d2 : DivOk 2 := divOk_lt (by decide) (by decide)
  have p29 : PowOk 10 29 := ⟨by decide, by decide, by decide⟩
  rcases (show c % 2 = 0 ∨ c % 2 = 1 by omega) with e | e
  · obtain ⟨m, hm⟩ : ∃ m : Nat, 17 + c / 2 % 70 = (m : Int) := ⟨(17 + c / 2 % 70).toNat, by omega⟩
    have hloop : ∀ (m i : Nat) (t : T) (o2 : Option DV), TrW t ∧ t.ht ≤ i + 1 ∧ (wr t).length ≤ 30 * i + 30 → i + m ≤ 90 → ∃ (t' : T) (o2' : Option DV), (TrW t' ∧ t'.ht ≤ i + m + 1 ∧ (wr t').length ≤ 30 * (i + m) + 30) ∧ ∀ (S : Sto) (r : Option DV),
        loop (tN 2) (asg (tN 4) (ix (lstE (aCons (tupE (aCons (cst (.str "say")) (aCons (var 4) (aNil)))) (aCons (tupE (aCons (cst (.str "let")) (aCons (cst (.str "b")) (aCons (tupE (aCons (cst (.str "name")) (aCons (cst (.str "b")) (aNil)))) (aCons (var 4) (aNil)))))) (aNil)))) (mod (fdiv (var 0) (add (var 2) (cst (.int 5)))) (cst (.int 2))))) [] ((List.range' i m).map fun i => DV.int (i : Nat)) [some (.int c), r, o2, none, some (enc t)] S =
          .ok (.nx [some (.int c), r, o2', none, some (enc t')]) S := by
      intro m
      induction m with
      | zero => intro i t o2 ht _; exact ⟨t, o2, ht, fun S r => by simp [loop_nil]⟩
      | succ m ih =>
        intro i t o2 ht hi
        have d1 : DivOk ((i : Int) + 5) := divOk_lt (by omega) (by omega)
        obtain ⟨b, hb⟩ : ∃ b : Nat, c / ((i : Int) + 5) % 2 = (b : Int) := ⟨(c / ((i : Int) + 5) % 2).toNat, by omega⟩
        have hb2 : b = 0 ∨ b = 1 := by omega
        obtain ⟨t', o2', h1, h2⟩ := ih (i + 1) (if b = 0 then .say t else .lt "b" (.name "b") t) (some (.int i)) (gt_even ht b) (by omega)
        have hsel : L2.atI [DV.tup [.str "say", enc t], .tup [.str "let", .str "b", .tup [.str "name", .str "b"], enc t]] (b : Int) = some (enc (if b = 0 then .say t else .lt "b" (.name "b") t)) := by
          rcases hb2 with rfl | rfl <;> rfl
        refine ⟨t', o2', by rw [show i + (m + 1) = i + 1 + m by omega]; exact h1, fun S r => ?_⟩
        replace h2 := h2 S r
        rw [List.range'_succ, List.map_cons, loop_cons]
        have hnr := noRef_enc t
        generalize enc (if b = 0 then T.say t else .lt "b" (.name "b") t) = E2 at *
        generalize enc t = E at *
        simp [divV_int _ _ d1, hb, hsel, hnr]
        exact h2
    have hlb : (wr (.name "b")).length ≤ 30 * 0 + 30 := by
      have : (wl (Str.ofString "b")).length = 1 := by decide +kernel
      show (wl (Str.ofString "b")).length ≤ _
      omega
    obtain ⟨t, o2', h1, h2⟩ := hloop m 0 (.name "b") none ⟨wok_b, by simp [T.ht], hlb⟩ (by omega)
    refine ⟨t, h1.1, by omega, by omega, ?_⟩
    have eb : enc (.name "b") = .tup [.str "name", .str "b"] := rfl
    rw [eb] at h2
    have hnr := noRef_enc t
    have rk := rngOk (n := (m : Int)) (by omega)
    rw [C]
    generalize enc t = E at *
    simp [b_l_great, e, divV_int _ _ d2, hm, forS_run, rk, rngD_at]
    rw [h2]
    simp [leave_ok, hnr]
  · obtain ⟨m, hm⟩ : ∃ m : Nat, 40 + c / 2 % 58 = (m : Int) := ⟨(40 + c / 2 % 58).toNat, by omega⟩
    have hloop : ∀ (m i : Nat) (ts : List T) (o2 : Option DV), (∀ t ∈ ts, GtOk 0 t) → ts.length = i → i + m ≤ 128 → ∃ (ts' : List T) (o2' : Option DV), (∀ t ∈ ts', GtOk 0 t) ∧ ts'.length = i + m ∧
        loop (tN 2) (app (var 1) (tupE (aCons (cst (.str "num")) (aCons (add (pow (cst (.int 10)) (cst (.int 29))) (mod (fdiv (var 0) (add (var 2) (cst (.int 3)))) (pow (cst (.int 10)) (cst (.int 29))))) (aNil))))) [] ((List.range' i m).map fun i => DV.int (i : Nat)) [some (.int c), some (.ref S.length), o2, none, none] (S ++ [.lst (ts.map enc)]) =
          .ok (.nx [some (.int c), some (.ref S.length), o2', none, none]) (S ++ [.lst (ts'.map enc)]) := by
      intro m
      induction m with
      | zero => intro i ts o2 ht hl _; exact ⟨ts, o2, ht, hl, by simp [loop_nil]⟩
      | succ m ih =>
        intro i ts o2 ht hl hi
        have d1 : DivOk ((i : Int) + 3) := divOk_lt (by omega) (by omega)
        obtain ⟨v, hv⟩ : ∃ v, v = c / ((i : Int) + 3) % 100000000000000000000000000000 := ⟨_, rfl⟩
        have hg : GtOk 0 (.num (100000000000000000000000000000 + v)) := by
          have hb : 0 ≤ 100000000000000000000000000000 + v ∧ 100000000000000000000000000000 + v < 10 ^ 30 := by omega
          have := numL_le _ hb
          exact ⟨hb, by simp [T.ht], by show (TL.numL _).length + 5 ≤ 35 * 2 ^ 0; omega⟩
        obtain ⟨ts', o2', h1, h2, h3⟩ := ih (i + 1) (ts ++ [.num (100000000000000000000000000000 + v)]) (some (.int i)) (fun t m => by
          rcases List.mem_append.mp m with m | m
          · exact ht t m
          · have : t = .num (100000000000000000000000000000 + v) := by simpa using m
            rw [this]; exact hg) (by simp [hl]) (by omega)
        refine ⟨ts', o2', h1, by omega, ?_⟩
        rw [List.range'_succ, List.map_cons, loop_cons]
        have hlim : ts.length < 16777216 := by omega
        have en : (ts ++ [T.num (100000000000000000000000000000 + v)]).map enc = ts.map enc ++ [.tup [.str "num", .int (100000000000000000000000000000 + v)]] := by simp [enc]
        rw [en] at h3
        simp [divV_int _ _ d1, powV_int _ _ p29, ← hv, hlim]
        exact h3
    obtain ⟨ts, o2', h1, h2, h3⟩ := hloop m 0 [] none (by simp) rfl (by omega)
    obtain ⟨t, k, o2'', o3', S1, g1, g2, g3, g4⟩ := run_great_odd (C n) c S ts h1 (by omega) (S ++ [.lst (ts.map enc)]) S.length ⟨by simp, by simp, by simp⟩ o2' none none
    refine ⟨t, g1.ok, by have := g1.ht; omega, by have := g1.ln; omega, ?_⟩
    have hnr := noRef_enc t
    have rk := rngOk (n := (m : Int)) (by omega)
    rw [C]
    generalize enc t = E at *
    have e0 : ([] : List T).map enc = [] := rfl
    rw [e0] at h3
    simp [b_l_great, e, divV_int _ _ d2, hm, forS_run, rk, rngD_at]
    rw [h3]
    simp
    rw [g4]
    have a0 : L2.atI [E] 0 = some E := rfl
    simp [g3, a0, leave_ok, hnr, g2]
end Y
namespace Y
open PySem
structure Lw (t : T) : Prop where
  ok : TrW t
  ht : t.ht ≤ 17
  bk : bk t ≤ 16
  ln : (wr t).length ≤ 2000
def wtx (t : T) : DV := .str (txtOf (wr t))
theorem lw_shown {t : T} (h : Lw t) (S : Sto) : C 149 .p_shown [enc t] S = .ok (wtx t, false) S := run_shown t h.ok 149 (by have := h.ht; omega) (by have := h.ln; omega) S
theorem lw_written {t : T} (h : Lw t) (S : Sto) : C 149 .l_written [enc t] S = .ok (wtx t, false) S := run_written t h.ok 149 (by have := h.ht; omega) (by have := h.ln; omega) S
theorem lw_read {t : T} (h : Lw t) (S : Sto) : C 149 .p_read [wtx t] S = .ok (enc t, false) S := run_read t h.ok h.bk h.ln 149 (by have := h.ht; omega) S
theorem lw_same {t : T} (h : Lw t) (S : Sto) : C 149 .l_same [enc t, enc t] S = .ok (.bl true, false) S := same_enc t h.ok 149 (by have := h.ht; omega) S
noncomputable def lwB1 (C : Fid → Ora) : MS := (seq (asg (tN 4) (call (C .p_shown) (aCons (var 3) (aNil)))) <|
  seq (ifS (orT (notT (tst (isiE "str" (var 4)))) (tst (neE (var 4) (call (C .l_written) (aCons (var 3) (aNil)))))) (ret (cst (.bl false))) (skip)) <|
  seq (ifS (notT (tst (call (C .l_same) (aCons (call (C .p_read) (aCons (var 4) (aNil))) (aCons (var 3) (aNil)))))) (ret (cst (.bl false))) (skip)) <|
  app (var 2) (var 4))
noncomputable def lwB2 (C : Fid → Ora) : MS := (ifS (orT (tst (neE (call (C .p_shown) (aCons (var 3) (aNil))) (var 4))) (notT (tst (call (C .l_same) (aCons (call (C .p_read) (aCons (var 4) (aNil))) (aCons (var 3) (aNil))))))) (ret (cst (.bl false))) (skip))
theorem lw_loop1 (a0 : Option DV) (X : DV) : ∀ (rest done : List T) (o3 o4 : Option DV), (∀ t ∈ rest, Lw t) → done.length + rest.length ≤ 100 → ∃ o3' o4' : Option DV,
    loop (tN 3) (lwB1 (C 149)) [(0, X)] (rest.map enc) [a0, some (.ref 0), some (.ref 1), o3, o4, none] [X, .lst (done.map wtx)] = .ok (.nx [a0, some (.ref 0), some (.ref 1), o3', o4', none]) [X, .lst ((done ++ rest).map wtx)]
  | [], done, o3, o4, _, _ => ⟨o3, o4, by
    unfold loop
    rw [List.map_nil]
    dsimp only
    rw [if_pos (held_one rfl), List.append_nil]⟩
  | t :: r, done, o3, o4, h, hl => by
    have ht := h t List.mem_cons_self
    simp only [List.length_cons] at hl
    obtain ⟨o3', o4', ih⟩ := lw_loop1 a0 X r (done ++ [t]) (some (enc t)) (some (wtx t)) (fun u m => h u (List.mem_cons_of_mem _ m)) (by simp; omega)
    refine ⟨o3', o4', ?_⟩
    rw [List.map_cons]
    unfold loop
    rw [if_pos (held_one rfl)]
    have h1 : ∀ S, C 149 .p_shown [enc t] S = .ok (.str (txtOf (wr t)), false) S := lw_shown ht
    have h2 : ∀ S, C 149 .l_written [enc t] S = .ok (.str (txtOf (wr t)), false) S := lw_written ht
    have h3 : ∀ S, C 149 .p_read [.str (txtOf (wr t))] S = .ok (enc t, false) S := lw_read ht
    have h4 := lw_same ht
    have hd : done.length < 16777216 := by omega
    have e1 : (done ++ [t]).map wtx = done.map wtx ++ [wtx t] := by simp
    have e2 : done ++ [t] ++ r = done ++ t :: r := by simp
    rw [e1, e2] at ih
    have hw : wtx t = .str (txtOf (wr t)) := rfl
    generalize (done ++ t :: r).map wtx = FF at *
    rw [hw] at *
    generalize txtOf (wr t) = W at *
    generalize enc t = E at *
    simp [lwB1, h1, h2, h3, h4, tgA4, hd]
    exact ih
theorem lw_loop2 (a0 a5 : Option DV) (S : Sto) (gs : List (Nat × DV)) (hg : held S gs = true) : ∀ (ts : List T) (o3 o4 : Option DV), (∀ t ∈ ts, Lw t) → ∃ o3' o4' : Option DV,
    loop (tU [4, 3]) (lwB2 (C 149)) gs (ts.map fun t => .tup [wtx t, enc t]) [a0, some (.ref 0), some (.ref 1), o3, o4, a5] S = .ok (.nx [a0, some (.ref 0), some (.ref 1), o3', o4', a5]) S
  | [], o3, o4, _ => ⟨o3, o4, by
    unfold loop
    rw [List.map_nil]
    dsimp only
    rw [if_pos hg]⟩
  | t :: r, o3, o4, h => by
    have ht := h t List.mem_cons_self
    obtain ⟨o3', o4', ih⟩ := lw_loop2 a0 a5 S gs hg r (some (enc t)) (some (wtx t)) (fun u m => h u (List.mem_cons_of_mem _ m))
    refine ⟨o3', o4', ?_⟩
    rw [List.map_cons]
    unfold loop
    rw [if_pos hg]
    have h1 : ∀ S, C 149 .p_shown [enc t] S = .ok (.str (txtOf (wr t)), false) S := lw_shown ht
    have h3 : ∀ S, C 149 .p_read [.str (txtOf (wr t))] S = .ok (enc t, false) S := lw_read ht
    have h4 := lw_same ht
    have hw : wtx t = .str (txtOf (wr t)) := rfl
    generalize (r.map fun t => DV.tup [wtx t, enc t]) = FF at *
    rw [hw] at *
    generalize txtOf (wr t) = W at *
    generalize enc t = E at *
    simp [lwB2, h1, h3, h4]
    exact ih
theorem zip_tr (ts : List T) : zipD (ts.map wtx) (ts.map enc) = ts.map fun t => .tup [wtx t, enc t] := by
  unfold zipD
  induction ts with
  | nil => rfl
  | cons t ts ih => simp
noncomputable def lwT2 (C : Fid → Ora) : MS := seq (asg (tN 5) (call (C .l_great) (aCons (fdiv (call (C .l_cell_at) (aCons (var 0) (aCons (cst (.int 1)) (aNil)))) (cst (.int 7))) (aNil)))) <|
  seq (ifS (orT (notT (tst (isiE "str" (call (C .p_shown) (aCons (var 5) (aNil)))))) (tst (neE (call (C .p_shown) (aCons (var 5) (aNil))) (call (C .l_written) (aCons (var 5) (aNil)))))) (ret (cst (.bl false))) (skip)) <|
  seq (forS (tU [4, 3]) (sZip2 (var 2) (var 1)) (lwB2 C)) <|
  ret (cst (.bl true))
theorem run_lwT2 (ns : List Int) (ts : List T) (h : ∀ t ∈ ts, Lw t) (o3 o4 : Option DV) : ∃ l : Lo, lwT2 (C 149) [some (.rol (ns.map DV.int)), some (.ref 0), some (.ref 1), o3, o4, none] [.lst (ts.map enc), .lst (ts.map wtx)] = .ok (.rt (.bl true)) [.lst (ts.map enc), .lst (ts.map wtx)] := by
  have d7 : DivOk 7 := divOk_lt (by decide) (by decide)
  have hc := fun S => run_cell_at 148 ns 1 S
  obtain ⟨c, hcc⟩ : ∃ c, c = ns.getD 1 0 := ⟨_, rfl⟩
  rw [← hcc] at hc
  obtain ⟨t, g1, g2, g3, g4⟩ := run_great (c / 7) 148 [.lst (ts.map enc), .lst (ts.map wtx)]
  have h1 := fun S => run_shown t g1 149 (by omega) (by omega) S
  have h2 := fun S => run_written t g1 149 (by omega) (by omega) S
  have hg : held [DV.lst (ts.map enc), .lst (ts.map wtx)] [(1, .lst (ts.map wtx)), (0, .lst (ts.map enc))] = true := by
    simp [held, eqB_self]
  obtain ⟨o3', o4', hlp⟩ := lw_loop2 (some (.rol (ns.map DV.int))) (some (enc t)) [.lst (ts.map enc), .lst (ts.map wtx)] [(1, .lst (ts.map wtx)), (0, .lst (ts.map enc))] hg ts o3 o4 h
  have hz := zip_tr ts
  refine ⟨[], ?_⟩
  have e1 : ((1 : Nat) : Int) = 1 := rfl
  rw [e1] at hc
  generalize txtOf (wr t) = W at *
  generalize (ts.map fun t => DV.tup [wtx t, enc t]) = ZZ at *
  generalize ts.map enc = A at *
  generalize ts.map wtx = B at *
  generalize enc t = E at *
  simp [lwT2, hc, divV_int _ _ d7, g4, h1, h2, tgA4, forS_run, guardOf, hz]
  rw [hlp]
  rfl
end Y
namespace Y
open PySem
noncomputable def lwT1 (C : Fid → Ora) : MS := seq (asg (tN 2) (lstR (aNil))) <|
  seq (forS (tN 3) (sSeq (var 1)) (lwB1 C)) (lwT2 C)
theorem run_lwT1 (ns : List Int) (ts : List T) (h : ∀ t ∈ ts, Lw t) (hl : ts.length ≤ 100) : lwT1 (C 149) [some (.rol (ns.map DV.int)), some (.ref 0), none, none, none, none] [.lst (ts.map enc)] = .ok (.rt (.bl true)) [.lst (ts.map enc), .lst (ts.map wtx)] := by
  obtain ⟨o3, o4, hlp⟩ := lw_loop1 (some (.rol (ns.map DV.int))) (.lst (ts.map enc)) ts [] none none h (by simpa using hl)
  obtain ⟨_, h2⟩ := run_lwT2 ns ts h o3 o4
  rw [List.nil_append] at hlp
  have e0 : ([] : List T).map wtx = [] := rfl
  rw [e0] at hlp
  generalize ts.map enc = A at *
  generalize ts.map wtx = B at *
  simp [lwT1, forS_run, guardOf]
  rw [hlp]
  simp [h2]
noncomputable def lwTr (C : Fid → Ora) (a b : Int) (g : Bool) : ME := call (C .l_tree) (aCons (slice (var 0) (some (cst (.int a))) (some (cst (.int b)))) (aCons (cst (.int 12)) (aCons (cst (.bl g)) (aNil))))
theorem law_head (CC : Fid → Ora) : b_law CC = seq (asg (tN 1) (lstR (aCons (lwTr CC 2 22 false) (aCons (lwTr CC 22 42 true) (aNil))))) (
  seq (app (var 1) (lwTr CC 42 62 false)) (
  seq (app (var 1) (call (CC .l_nested) (aCons (call (CC .l_cell_at) (aCons (var 0) (aCons (cst (.int 0)) (aNil)))) (aCons (call (CC .l_cell_at) (aCons (var 0) (aCons (cst (.int 1)) (aNil)))) (aNil))))) (lwT1 CC))) := rfl
theorem run_lwTr (ns : List Int) (hl : ns.length ≤ 63) (a : Nat) (g : Bool) : ∃ t : T, Lw t ∧ ∀ (S : Sto) (r : Lo), lwTr (C 149) (a : Int) ((a + 20 : Nat) : Int) g (some (.rol (ns.map DV.int)) :: r) S = .ok (enc t) S := by
  obtain ⟨t, h, hr⟩ := run_ltree g 12 ((ns.drop a).take 20) (by omega) (by simp; omega)
  have hl20 : ((ns.drop a).take 20).length ≤ 20 := by simp; omega
  refine ⟨t, ⟨h.ok, by have := h.ht; omega, by have := h.bk; omega, by have := h.ln; omega⟩, fun S r => ?_⟩
  have hcut : cutD (ns.map DV.int) (some (a : Int)) (some ((a + 20 : Nat) : Int)) = ((ns.drop a).take 20).map DV.int := by
    rw [cut_mid, List.map_take, List.map_drop]
    congr 1
    omega
  have hr' := fun S => hr 149 S (by omega)
  have e12 : (((12 : Nat) : Int)) = 12 := rfl
  rw [e12] at hr'
  generalize ((a + 20 : Nat) : Int) = b at *
  generalize (a : Int) = a' at *
  have hsl : slV S (.rol (ns.map DV.int)) (some a') (some b) = some (.lst (((ns.drop a).take 20).map DV.int)) := by
    simp
    rw [hcut]
    simp
  generalize (((ns.drop a).take 20).map DV.int) = XS at *
  generalize ns.map DV.int = NS at *
  simp only [lwTr]
  simp [hcut, hr']
theorem law_true : LawTrue := by
  intro ns hl
  obtain ⟨t1, k1, r1⟩ := run_lwTr ns hl 2 false
  obtain ⟨t2, k2, r2⟩ := run_lwTr ns hl 22 true
  obtain ⟨t3, k3, r3⟩ := run_lwTr ns hl 42 false
  obtain ⟨t4, q1, q2, q3, q4, r4⟩ := run_nested (ns.getD 0 0) (ns.getD 1 0)
  have k4 : Lw t4 := ⟨q1, q2, q3, q4⟩
  have hT := run_lwT1 ns [t1, t2, t3, t4] (fun t m => by
    simp only [List.mem_cons, List.not_mem_nil, or_false] at m
    rcases m with rfl | rfl | rfl | rfl <;> assumption) (by simp)
  have hc0 := fun S => run_cell_at 148 ns 0 S
  have hc1 := fun S => run_cell_at 148 ns 1 S
  have r4' := fun S => r4 146 S
  have e0 : ((0 : Nat) : Int) = 0 := rfl
  have e1 : ((1 : Nat) : Int) = 1 := rfl
  have e2 : ((2 : Nat) : Int) = 2 := rfl
  have e22 : ((22 : Nat) : Int) = 22 := rfl
  have e42 : ((42 : Nat) : Int) = 42 := rfl
  have e62 : ((62 : Nat) : Int) = 62 := rfl
  simp only [Nat.reduceAdd, e0, e1, e2, e22, e42, e62] at hc0 hc1 r1 r2 r3 r4'
  have em : [t1, t2, t3, t4].map enc = [enc t1, enc t2, enc t3, enc t4] := rfl
  rw [em] at hT
  have n1 := noRef_enc t1
  have n2 := noRef_enc t2
  have n3 := noRef_enc t3
  have n4 := noRef_enc t4
  rw [C, law_head]
  generalize [t1, t2, t3, t4].map wtx = B at *
  generalize ns.getD 0 0 = c0 at *
  generalize ns.getD 1 0 = c1 at *
  generalize enc t1 = E1 at *
  generalize enc t2 = E2 at *
  generalize enc t3 = E3 at *
  generalize enc t4 = E4 at *
  generalize ns.map DV.int = NS at *
  simp [r1, r2, r3, r4', hc0, hc1, n1, n2, n3, n4]
  rw [hT]
  simp [leave_ok]
end Y
namespace Y
open PySem L2 PyProof.Rows

def top (i : Nat) : Stmt := PySem.Challenge.pw_recastle_k06_texts_read_again.main.body.getD i (.Pass ⟨0, 0, 0, 0⟩)
abbrev s_p_parts : Stmt := top 6
abbrev s_p_bounded : Stmt := top 12
abbrev s_p_place_past : Stmt := top 13
abbrev s_p_run_of : Stmt := top 14
abbrev s_p_word_at : Stmt := top 15
abbrev s_p_leaf_at : Stmt := top 16
abbrev s_p_atom_at : Stmt := top 17
abbrev s_p_gap_at : Stmt := top 18
abbrev s_p_let_at : Stmt := top 19
abbrev s_p_choice_at : Stmt := top 20
abbrev s_p_inner_at : Stmt := top 21
abbrev s_p_tree_at : Stmt := top 22
abbrev s_p_whole : Stmt := top 23
abbrev s_p_read : Stmt := top 24
abbrev s_p_shown_leaf : Stmt := top 27
abbrev s_p_shown : Stmt := top 28
abbrev s_l_cell_at : Stmt := top 30
abbrev s_l_word : Stmt := top 31
abbrev s_l_leaf : Stmt := top 32
abbrev s_l_tree : Stmt := top 33
abbrev s_l_great : Stmt := top 34
abbrev s_l_nested : Stmt := top 35
abbrev s_l_leaf_written : Stmt := top 36
abbrev s_l_written : Stmt := top 37
abbrev s_l_same : Stmt := top 38
abbrev s_law : Stmt := top 39
theorem alen_nil : ∀ l S xs S', aNil l S = .ok xs S' → xs.length = 0 := fun l S xs S' h => by cases h; rfl
theorem alen_cons {e : ME} {r : MA} {n : Nat} (h : ∀ l S xs S', r l S = .ok xs S' → xs.length = n) : ∀ l S xs S', aCons e r l S = .ok xs S' → xs.length = n + 1 := fun l S xs S' q => by
  unfold aCons at q
  cases e1 : e l S with
  | ok x S1 =>
    rw [e1] at q
    simp only [Out.bind] at q
    cases e2 : r l S1 with
    | ok ys S2 =>
      rw [e2] at q
      cases q
      simp [h l S1 ys _ e2]
    | exc _ _ _ _ => rw [e2] at q; cases q
    | bad => rw [e2] at q; cases q
  | exc _ _ _ _ => rw [e1] at q; cases q
  | bad => rw [e1] at q; cases q
theorem blk_is {N : List Str} {sc scope : Scope} {own : List (Str × Nat)} (h : blkC N sc scope own = true) : blkC N sc scope own = true := h
/-- what the text's top has left -/
structure Txt (w : World) (K : PySem.W.Frag) (mg : Str → Option Value) : Prop where
  z_bool : mg "bool" = none
  z_int : mg "int" = none
  z_isinstance : mg "isinstance" = none
  z_len : mg "len" = none
  z_max : mg "max" = none
  z_min : mg "min" = none
  z_range : mg "range" = none
  z_str : mg "str" = none
  z_tuple : mg "tuple" = none
  z_zip : mg "zip" = none
  c_FIGURES : MgC K mg "FIGURES" c_FIGURES
  c_LEAVES : MgC K mg "LEAVES" c_LEAVES
  c_LETTERS : MgC K mg "LETTERS" c_LETTERS
  c_WORDS : MgC K mg "WORDS" c_WORDS
  k_BETWEEN : MgD K w mg "BETWEEN" kd_BETWEEN
  k_SIGNS : MgD K w mg "SIGNS" kd_SIGNS
  d_p_parts : ∃ (g : Addr) (fd : FuncData), mg "parts" = some (.ref g) ∧ Fun K "parts" "parts" s_p_parts g fd ∧ Binds K fd ["tree"] []
  d_p_bounded : ∃ (g : Addr) (fd : FuncData), mg "bounded" = some (.ref g) ∧ Fun K "bounded" "bounded" s_p_bounded g fd ∧ Binds K fd ["text"] []
  d_p_place_past : ∃ (g : Addr) (fd : FuncData), mg "place_past" = some (.ref g) ∧ Fun K "place_past" "place_past" s_p_place_past g fd ∧ Binds K fd ["text", "at", "words"] []
  d_p_run_of : ∃ (g : Addr) (fd : FuncData), mg "run_of" = some (.ref g) ∧ Fun K "run_of" "run_of" s_p_run_of g fd ∧ Binds K fd ["text", "at", "signs"] []
  d_p_word_at : ∃ (g : Addr) (fd : FuncData), mg "word_at" = some (.ref g) ∧ Fun K "word_at" "word_at" s_p_word_at g fd ∧ Binds K fd ["text", "at"] []
  d_p_leaf_at : ∃ (g : Addr) (fd : FuncData), mg "leaf_at" = some (.ref g) ∧ Fun K "leaf_at" "leaf_at" s_p_leaf_at g fd ∧ Binds K fd ["text", "at"] []
  d_p_atom_at : ∃ (g : Addr) (fd : FuncData), mg "atom_at" = some (.ref g) ∧ Fun K "atom_at" "atom_at" s_p_atom_at g fd ∧ Binds K fd ["text", "at"] []
  d_p_gap_at : ∃ (g : Addr) (fd : FuncData), mg "gap_at" = some (.ref g) ∧ Fun K "gap_at" "gap_at" s_p_gap_at g fd ∧ Binds K fd ["text", "at"] []
  d_p_let_at : ∃ (g : Addr) (fd : FuncData), mg "let_at" = some (.ref g) ∧ Fun K "let_at" "let_at" s_p_let_at g fd ∧ Binds K fd ["text", "at"] []
  d_p_choice_at : ∃ (g : Addr) (fd : FuncData), mg "choice_at" = some (.ref g) ∧ Fun K "choice_at" "choice_at" s_p_choice_at g fd ∧ Binds K fd ["text", "at"] []
  d_p_inner_at : ∃ (g : Addr) (fd : FuncData), mg "inner_at" = some (.ref g) ∧ Fun K "inner_at" "inner_at" s_p_inner_at g fd ∧ Binds K fd ["text", "at"] []
  d_p_tree_at : ∃ (g : Addr) (fd : FuncData), mg "tree_at" = some (.ref g) ∧ Fun K "tree_at" "tree_at" s_p_tree_at g fd ∧ Binds K fd ["text", "at"] []
  d_p_whole : ∃ (g : Addr) (fd : FuncData), mg "whole" = some (.ref g) ∧ Fun K "whole" "whole" s_p_whole g fd ∧ Binds K fd ["text"] []
  d_p_read : ∃ (g : Addr) (fd : FuncData), mg "read" = some (.ref g) ∧ Fun K "read" "read" s_p_read g fd ∧ Binds K fd ["text"] []
  d_p_shown_leaf : ∃ (g : Addr) (fd : FuncData), mg "shown_leaf" = some (.ref g) ∧ Fun K "shown_leaf" "shown_leaf" s_p_shown_leaf g fd ∧ Binds K fd ["tree"] []
  d_p_shown : ∃ (g : Addr) (fd : FuncData), mg "shown" = some (.ref g) ∧ Fun K "shown" "shown" s_p_shown g fd ∧ Binds K fd ["tree"] []
  d_l_cell_at : ∃ (g : Addr) (fd : FuncData), mg "_law_cell_at" = some (.ref g) ∧ Fun K "_law_cell_at" "_law_cell_at" s_l_cell_at g fd ∧ Binds K fd ["_law_script", "_law_k"] []
  d_l_word : ∃ (g : Addr) (fd : FuncData), mg "_law_word" = some (.ref g) ∧ Fun K "_law_word" "_law_word" s_l_word g fd ∧ Binds K fd ["_law_cell"] []
  d_l_leaf : ∃ (g : Addr) (fd : FuncData), mg "_law_leaf" = some (.ref g) ∧ Fun K "_law_leaf" "_law_leaf" s_l_leaf g fd ∧ Binds K fd ["_law_cell", "_law_gaps"] []
  d_l_tree : ∃ (g : Addr) (fd : FuncData), mg "_law_tree" = some (.ref g) ∧ Fun K "_law_tree" "_law_tree" s_l_tree g fd ∧ Binds K fd ["_law_cells", "_law_deep", "_law_gaps"] []
  d_l_great : ∃ (g : Addr) (fd : FuncData), mg "_law_great" = some (.ref g) ∧ Fun K "_law_great" "_law_great" s_l_great g fd ∧ Binds K fd ["_law_cell"] []
  d_l_nested : ∃ (g : Addr) (fd : FuncData), mg "_law_nested" = some (.ref g) ∧ Fun K "_law_nested" "_law_nested" s_l_nested g fd ∧ Binds K fd ["_law_cell", "_law_more"] []
  d_l_leaf_written : ∃ (g : Addr) (fd : FuncData), mg "_law_leaf_written" = some (.ref g) ∧ Fun K "_law_leaf_written" "_law_leaf_written" s_l_leaf_written g fd ∧ Binds K fd ["_law_tree_here"] []
  d_l_written : ∃ (g : Addr) (fd : FuncData), mg "_law_written" = some (.ref g) ∧ Fun K "_law_written" "_law_written" s_l_written g fd ∧ Binds K fd ["_law_tree_here"] []
  d_l_same : ∃ (g : Addr) (fd : FuncData), mg "_law_same" = some (.ref g) ∧ Fun K "_law_same" "_law_same" s_l_same g fd ∧ Binds K fd ["_law_found", "_law_due"] []
  d_law : ∃ (g : Addr) (fd : FuncData), mg "law" = some (.ref g) ∧ Fun K "law" "law" s_law g fd ∧ Binds K fd ["_law_script"] []
def rx0 (K : PySem.W.Frag) : Rx := fun _ _ => False
section
variable {P : Program} {w : World} {K : PySem.W.Frag} {mg : Str → Option Value} {base : Heap} {n : Nat}
structure All (P : Program) (w : World) (K : PySem.W.Frag) (mg : Str → Option Value) (base : Heap) (n : Nat) : Prop where
  f_p_parts : FnAt P w K mg base (rx0 K) n "parts" ["tree"] (C n .p_parts)
  f_p_bounded : FnAt P w K mg base (rx0 K) n "bounded" ["text"] (C n .p_bounded)
  f_p_place_past : FnAt P w K mg base (rx0 K) n "place_past" ["text", "at", "words"] (C n .p_place_past)
  f_p_run_of : FnAt P w K mg base (rx0 K) n "run_of" ["text", "at", "signs"] (C n .p_run_of)
  f_p_word_at : FnAt P w K mg base (rx0 K) n "word_at" ["text", "at"] (C n .p_word_at)
  f_p_leaf_at : FnAt P w K mg base (rx0 K) n "leaf_at" ["text", "at"] (C n .p_leaf_at)
  f_p_atom_at : FnAt P w K mg base (rx0 K) n "atom_at" ["text", "at"] (C n .p_atom_at)
  f_p_gap_at : FnAt P w K mg base (rx0 K) n "gap_at" ["text", "at"] (C n .p_gap_at)
  f_p_let_at : FnAt P w K mg base (rx0 K) n "let_at" ["text", "at"] (C n .p_let_at)
  f_p_choice_at : FnAt P w K mg base (rx0 K) n "choice_at" ["text", "at"] (C n .p_choice_at)
  f_p_inner_at : FnAt P w K mg base (rx0 K) n "inner_at" ["text", "at"] (C n .p_inner_at)
  f_p_tree_at : FnAt P w K mg base (rx0 K) n "tree_at" ["text", "at"] (C n .p_tree_at)
  f_p_whole : FnAt P w K mg base (rx0 K) n "whole" ["text"] (C n .p_whole)
  f_p_read : FnAt P w K mg base (rx0 K) n "read" ["text"] (C n .p_read)
  f_p_shown_leaf : FnAt P w K mg base (rx0 K) n "shown_leaf" ["tree"] (C n .p_shown_leaf)
  f_p_shown : FnAt P w K mg base (rx0 K) n "shown" ["tree"] (C n .p_shown)
  f_l_cell_at : FnAt P w K mg base (rx0 K) n "_law_cell_at" ["_law_script", "_law_k"] (C n .l_cell_at)
  f_l_word : FnAt P w K mg base (rx0 K) n "_law_word" ["_law_cell"] (C n .l_word)
  f_l_leaf : FnAt P w K mg base (rx0 K) n "_law_leaf" ["_law_cell", "_law_gaps"] (C n .l_leaf)
  f_l_tree : FnAt P w K mg base (rx0 K) n "_law_tree" ["_law_cells", "_law_deep", "_law_gaps"] (C n .l_tree)
  f_l_great : FnAt P w K mg base (rx0 K) n "_law_great" ["_law_cell"] (C n .l_great)
  f_l_nested : FnAt P w K mg base (rx0 K) n "_law_nested" ["_law_cell", "_law_more"] (C n .l_nested)
  f_l_leaf_written : FnAt P w K mg base (rx0 K) n "_law_leaf_written" ["_law_tree_here"] (C n .l_leaf_written)
  f_l_written : FnAt P w K mg base (rx0 K) n "_law_written" ["_law_tree_here"] (C n .l_written)
  f_l_same : FnAt P w K mg base (rx0 K) n "_law_same" ["_law_found", "_law_due"] (C n .l_same)
  f_law : FnAt P w K mg base (rx0 K) n "law" ["_law_script"] (C n .law)
theorem sc_p_parts : FnScope ["tree"] ["tree"] (defScope s_p_parts) := ⟨rfl, rfl, rfl, by decide +kernel, rfl, by decide +kernel, by decide +kernel⟩
theorem kk_p_parts {g : Addr} {fd : FuncData} (F : Fun K "parts" "parts" s_p_parts g fd) (Tx : Txt w K mg) (G : All P w K mg base n) : FnOk P w K mg base (L2.CX P w) (n + 1) g fd ["tree"] (spF K (rx0 K) 1 (C (n + 1) .p_parts)) := by
  have nd := sc_p_parts.nd
  refine fn_ok F sc_p_parts (n := 1) rfl fun cdv A outer s H E hr => ?_
  have tk := takes_of (X := cxOf (L2.CX P w) P w K mg base ["tree"] "parts" (defScope s_p_parts) g cdv A outer s H E) rfl rfl rfl rfl
  exact (v_seq (v_if (v_tin rfl (v_ix (fun _ _ => rfl) (v_var 0) v_int) (v_glob Tx.c_LEAVES)) (v_one (v_ret (v_tup v_nil))) v_skip)
  (v_seq (v_if (v_teq hr.units (v_ix (fun _ _ => rfl) (v_var 0) v_int) v_str) (v_one (v_ret (v_slice (v_var 0) (v_po1 v_int) v_po0))) v_skip)
  (v_one (v_ret (v_slice (v_var 0) (v_po1 v_int) v_po0)))))
theorem k_p_parts (Tx : Txt w K mg) (G : All P w K mg base n) : FnAt P w K mg base (rx0 K) (n + 1) "parts" ["tree"] (C (n + 1) .p_parts) := by
  obtain ⟨g, fd, h1, F, h2⟩ := Tx.d_p_parts
  exact ⟨g, fd, h1, F.kp, h2, kk_p_parts F Tx G⟩
theorem sc_p_bounded : FnScope ["text", "deep", "sign"] ["text"] (defScope s_p_bounded) := ⟨rfl, rfl, rfl, by decide +kernel, rfl, by decide +kernel, by decide +kernel⟩
theorem kk_p_bounded {g : Addr} {fd : FuncData} (F : Fun K "bounded" "bounded" s_p_bounded g fd) (Tx : Txt w K mg) (G : All P w K mg base n) : FnOk P w K mg base (L2.CX P w) (n + 1) g fd ["text"] (spF K (rx0 K) 1 (C (n + 1) .p_bounded)) := by
  have nd := sc_p_bounded.nd
  refine fn_ok F sc_p_bounded (n := 3) rfl fun cdv A outer s H E hr => ?_
  have tk := takes_of (X := cxOf (L2.CX P w) P w K mg base ["text", "deep", "sign"] "bounded" (defScope s_p_bounded) g cdv A outer s H E) rfl rfl rfl rfl
  exact (v_seq (v_if (v_tgt (v_len Tx.z_len (v_var 0)) v_int) (v_one v_crash) v_skip)
  (v_seq (v_set 1 nd v_int)
  (v_one (v_for (passes_of rfl) rfl (s_str (v_var 0)) (g_name 2 nd) (v_one (v_if (v_teq hr.units (v_var 2) v_str) (v_seq (v_set 1 nd (v_add (v_var 1) v_int))
  (v_one (v_if (v_tgt (v_var 1) v_int) (v_one v_crash) v_skip))) (v_one (v_if (v_teq hr.units (v_var 2) v_str) (v_one (v_set 1 nd (v_max2 rfl Tx.z_max v_int (v_sub (v_var 1) v_int)))) v_skip))))))))
theorem k_p_bounded (Tx : Txt w K mg) (G : All P w K mg base n) : FnAt P w K mg base (rx0 K) (n + 1) "bounded" ["text"] (C (n + 1) .p_bounded) := by
  obtain ⟨g, fd, h1, F, h2⟩ := Tx.d_p_bounded
  exact ⟨g, fd, h1, F.kp, h2, kk_p_bounded F Tx G⟩
theorem sc_p_place_past : FnScope ["text", "at", "words"] ["text", "at", "words"] (defScope s_p_place_past) := ⟨rfl, rfl, rfl, by decide +kernel, rfl, by decide +kernel, by decide +kernel⟩
theorem kk_p_place_past {g : Addr} {fd : FuncData} (F : Fun K "place_past" "place_past" s_p_place_past g fd) (Tx : Txt w K mg) (G : All P w K mg base n) : FnOk P w K mg base (L2.CX P w) (n + 1) g fd ["text", "at", "words"] (spF K (rx0 K) 3 (C (n + 1) .p_place_past)) := by
  have nd := sc_p_place_past.nd
  refine fn_ok F sc_p_place_past (n := 3) rfl fun cdv A outer s H E hr => ?_
  have tk := takes_of (X := cxOf (L2.CX P w) P w K mg base ["text", "at", "words"] "place_past" (defScope s_p_place_past) g cdv A outer s H E) rfl rfl rfl rfl
  exact (v_seq (v_if (v_tne hr.units (v_slice (v_var 0) (v_po1 (v_var 1)) (v_po1 (v_add (v_var 1) (v_len Tx.z_len (v_var 2))))) (v_var 2)) (v_one v_crash) v_skip)
  (v_one (v_ret (v_add (v_var 1) (v_len Tx.z_len (v_var 2))))))
theorem k_p_place_past (Tx : Txt w K mg) (G : All P w K mg base n) : FnAt P w K mg base (rx0 K) (n + 1) "place_past" ["text", "at", "words"] (C (n + 1) .p_place_past) := by
  obtain ⟨g, fd, h1, F, h2⟩ := Tx.d_p_place_past
  exact ⟨g, fd, h1, F.kp, h2, kk_p_place_past F Tx G⟩
theorem sc_p_run_of : FnScope ["text", "at", "signs"] ["text", "at", "signs"] (defScope s_p_run_of) := ⟨rfl, rfl, rfl, by decide +kernel, rfl, by decide +kernel, by decide +kernel⟩
theorem kk_p_run_of {g : Addr} {fd : FuncData} (F : Fun K "run_of" "run_of" s_p_run_of g fd) (Tx : Txt w K mg) (G : All P w K mg base n) : FnOk P w K mg base (L2.CX P w) (n + 1) g fd ["text", "at", "signs"] (spF K (rx0 K) 3 (C (n + 1) .p_run_of)) := by
  have nd := sc_p_run_of.nd
  refine fn_ok F sc_p_run_of (n := 3) rfl fun cdv A outer s H E hr => ?_
  have tk := takes_of (X := cxOf (L2.CX P w) P w K mg base ["text", "at", "signs"] "run_of" (defScope s_p_run_of) g cdv A outer s H E) rfl rfl rfl rfl
  exact (v_seq (v_while (passes_of rfl) (v_bop (v_andT (v_tlt (v_var 1) (v_len Tx.z_len (v_var 0))) (v_and1 (v_tin rfl (v_ix (fun _ _ => rfl) (v_var 0) (v_var 1)) (v_var 2))))) (v_one (v_set 1 nd (v_add (v_var 1) v_int))))
  (v_one (v_ret (v_var 1))))
theorem k_p_run_of (Tx : Txt w K mg) (G : All P w K mg base n) : FnAt P w K mg base (rx0 K) (n + 1) "run_of" ["text", "at", "signs"] (C (n + 1) .p_run_of) := by
  obtain ⟨g, fd, h1, F, h2⟩ := Tx.d_p_run_of
  exact ⟨g, fd, h1, F.kp, h2, kk_p_run_of F Tx G⟩
theorem sc_p_word_at : FnScope ["text", "at", "end"] ["text", "at"] (defScope s_p_word_at) := ⟨rfl, rfl, rfl, by decide +kernel, rfl, by decide +kernel, by decide +kernel⟩
theorem kk_p_word_at {g : Addr} {fd : FuncData} (F : Fun K "word_at" "word_at" s_p_word_at g fd) (Tx : Txt w K mg) (G : All P w K mg base n) : FnOk P w K mg base (L2.CX P w) (n + 1) g fd ["text", "at"] (spF K (rx0 K) 2 (C (n + 1) .p_word_at)) := by
  have nd := sc_p_word_at.nd
  refine fn_ok F sc_p_word_at (n := 3) rfl fun cdv A outer s H E hr => ?_
  have tk := takes_of (X := cxOf (L2.CX P w) P w K mg base ["text", "at", "end"] "word_at" (defScope s_p_word_at) g cdv A outer s H E) rfl rfl rfl rfl
  exact (v_seq (v_set 2 nd (v_call G.f_p_run_of hr tk (v_cons (v_var 0) (v_cons (v_var 1) (v_cons (v_glob Tx.c_LETTERS) v_nil))) (alen_cons (alen_cons (alen_cons alen_nil)))))
  (v_seq (v_if (v_bop (v_orT (v_teq hr.units (v_var 2) (v_var 1)) (v_orT (v_tgt (v_var 2) (v_add (v_var 1) v_int)) (v_or1 (v_tin rfl (v_slice (v_var 0) (v_po1 (v_var 1)) (v_po1 (v_var 2))) (v_glob Tx.c_WORDS)))))) (v_one v_crash) v_skip)
  (v_one (v_ret (v_tup (v_cons (v_slice (v_var 0) (v_po1 (v_var 1)) (v_po1 (v_var 2))) (v_cons (v_var 2) v_nil)))))))
theorem k_p_word_at (Tx : Txt w K mg) (G : All P w K mg base n) : FnAt P w K mg base (rx0 K) (n + 1) "word_at" ["text", "at"] (C (n + 1) .p_word_at) := by
  obtain ⟨g, fd, h1, F, h2⟩ := Tx.d_p_word_at
  exact ⟨g, fd, h1, F.kp, h2, kk_p_word_at F Tx G⟩
theorem sc_p_leaf_at : FnScope ["text", "at", "end", "word"] ["text", "at"] (defScope s_p_leaf_at) := ⟨rfl, rfl, rfl, by decide +kernel, rfl, by decide +kernel, by decide +kernel⟩
theorem kk_p_leaf_at {g : Addr} {fd : FuncData} (F : Fun K "leaf_at" "leaf_at" s_p_leaf_at g fd) (Tx : Txt w K mg) (G : All P w K mg base n) : FnOk P w K mg base (L2.CX P w) (n + 1) g fd ["text", "at"] (spF K (rx0 K) 2 (C (n + 1) .p_leaf_at)) := by
  have nd := sc_p_leaf_at.nd
  refine fn_ok F sc_p_leaf_at (n := 4) rfl fun cdv A outer s H E hr => ?_
  have tk := takes_of (X := cxOf (L2.CX P w) P w K mg base ["text", "at", "end", "word"] "leaf_at" (defScope s_p_leaf_at) g cdv A outer s H E) rfl rfl rfl rfl
  exact (v_seq (v_set 2 nd (v_call G.f_p_run_of hr tk (v_cons (v_var 0) (v_cons (v_var 1) (v_cons (v_glob Tx.c_FIGURES) v_nil))) (alen_cons (alen_cons (alen_cons alen_nil)))))
  (v_seq (v_if (v_teq hr.units (v_var 2) (v_var 1)) (v_seq (v_asg (v_call G.f_p_word_at hr tk (v_cons (v_var 0) (v_cons (v_var 1) v_nil)) (alen_cons (alen_cons alen_nil))) (g_tup rfl (gs_cons 3 nd (gs_cons 2 nd gs_nil))))
  (v_one (v_ret (v_tup (v_cons (v_tup (v_cons v_str (v_cons (v_var 3) v_nil))) (v_cons (v_var 2) v_nil)))))) v_skip)
  (v_seq (v_if (v_bop (v_orT (v_tgt (v_var 2) (v_add (v_var 1) v_int)) (v_or1 (v_bop (v_andT (v_teq hr.units (v_ix (fun _ _ => rfl) (v_var 0) (v_var 1)) v_str) (v_and1 (v_tgt (v_var 2) (v_add (v_var 1) v_int)))))))) (v_one v_crash) v_skip)
  (v_one (v_ret (v_tup (v_cons (v_tup (v_cons v_str (v_cons (v_intT Tx.z_int (v_slice (v_var 0) (v_po1 (v_var 1)) (v_po1 (v_var 2)))) v_nil))) (v_cons (v_var 2) v_nil))))))))
theorem k_p_leaf_at (Tx : Txt w K mg) (G : All P w K mg base n) : FnAt P w K mg base (rx0 K) (n + 1) "leaf_at" ["text", "at"] (C (n + 1) .p_leaf_at) := by
  obtain ⟨g, fd, h1, F, h2⟩ := Tx.d_p_leaf_at
  exact ⟨g, fd, h1, F.kp, h2, kk_p_leaf_at F Tx G⟩
theorem sc_p_atom_at : FnScope ["text", "at", "word", "end"] ["text", "at"] (defScope s_p_atom_at) := ⟨rfl, rfl, rfl, by decide +kernel, rfl, by decide +kernel, by decide +kernel⟩
theorem kk_p_atom_at {g : Addr} {fd : FuncData} (F : Fun K "atom_at" "atom_at" s_p_atom_at g fd) (Tx : Txt w K mg) (G : All P w K mg base n) : FnOk P w K mg base (L2.CX P w) (n + 1) g fd ["text", "at"] (spF K (rx0 K) 2 (C (n + 1) .p_atom_at)) := by
  have nd := sc_p_atom_at.nd
  refine fn_ok F sc_p_atom_at (n := 4) rfl fun cdv A outer s H E hr => ?_
  have tk := takes_of (X := cxOf (L2.CX P w) P w K mg base ["text", "at", "word", "end"] "atom_at" (defScope s_p_atom_at) g cdv A outer s H E) rfl rfl rfl rfl
  exact (v_seq (v_if (v_tne hr.units (v_slice (v_var 0) (v_po1 (v_var 1)) (v_po1 (v_add (v_var 1) v_int))) v_str) (v_one (v_ret (v_call G.f_p_leaf_at hr tk (v_cons (v_var 0) (v_cons (v_var 1) v_nil)) (alen_cons (alen_cons alen_nil))))) v_skip)
  (v_seq (v_asg (v_call G.f_p_word_at hr tk (v_cons (v_var 0) (v_cons (v_add (v_var 1) v_int) v_nil)) (alen_cons (alen_cons alen_nil))) (g_tup rfl (gs_cons 2 nd (gs_cons 3 nd gs_nil))))
  (v_one (v_ret (v_tup (v_cons (v_tup (v_cons v_str (v_cons (v_var 2) (v_cons (v_tup v_nil) v_nil)))) (v_cons (v_var 3) v_nil)))))))
theorem k_p_atom_at (Tx : Txt w K mg) (G : All P w K mg base n) : FnAt P w K mg base (rx0 K) (n + 1) "atom_at" ["text", "at"] (C (n + 1) .p_atom_at) := by
  obtain ⟨g, fd, h1, F, h2⟩ := Tx.d_p_atom_at
  exact ⟨g, fd, h1, F.kp, h2, kk_p_atom_at F Tx G⟩
theorem sc_p_gap_at : FnScope ["text", "at", "word", "atom", "atoms"] ["text", "at"] (defScope s_p_gap_at) := ⟨rfl, rfl, rfl, by decide +kernel, rfl, by decide +kernel, by decide +kernel⟩
theorem kk_p_gap_at {g : Addr} {fd : FuncData} (F : Fun K "gap_at" "gap_at" s_p_gap_at g fd) (Tx : Txt w K mg) (G : All P w K mg base n) : FnOk P w K mg base (L2.CX P w) (n + 1) g fd ["text", "at"] (spF K (rx0 K) 2 (C (n + 1) .p_gap_at)) := by
  have nd := sc_p_gap_at.nd
  refine fn_ok F sc_p_gap_at (n := 5) rfl fun cdv A outer s H E hr => ?_
  have tk := takes_of (X := cxOf (L2.CX P w) P w K mg base ["text", "at", "word", "atom", "atoms"] "gap_at" (defScope s_p_gap_at) g cdv A outer s H E) rfl rfl rfl rfl
  exact (v_seq (v_asg (v_call G.f_p_word_at hr tk (v_cons (v_var 0) (v_cons (v_add (v_var 1) v_int) v_nil)) (alen_cons (alen_cons alen_nil))) (g_tup rfl (gs_cons 2 nd (gs_cons 1 nd gs_nil))))
  (v_seq (v_if (v_tne hr.units (v_slice (v_var 0) (v_po1 (v_var 1)) (v_po1 (v_add (v_var 1) v_int))) v_str) (v_one (v_ret (v_tup (v_cons (v_tup (v_cons v_str (v_cons (v_var 2) (v_cons (v_tup v_nil) v_nil)))) (v_cons (v_var 1) v_nil))))) v_skip)
  (v_seq (v_asg (v_call G.f_p_atom_at hr tk (v_cons (v_var 0) (v_cons (v_add (v_var 1) v_int) v_nil)) (alen_cons (alen_cons alen_nil))) (g_tup rfl (gs_cons 3 nd (gs_cons 1 nd gs_nil))))
  (v_seq (v_set 4 nd (v_lstR (v_cons (v_var 3) v_nil)))
  (v_seq (v_while (passes_of rfl) (v_teq hr.units (v_slice (v_var 0) (v_po1 (v_var 1)) (v_po1 (v_add (v_var 1) v_int))) v_str) (v_seq (v_asg (v_call G.f_p_atom_at hr tk (v_cons (v_var 0) (v_cons (v_add (v_var 1) v_int) v_nil)) (alen_cons (alen_cons alen_nil))) (g_tup rfl (gs_cons 3 nd (gs_cons 1 nd gs_nil))))
  (v_one (v_app (v_var 4) (v_var 3)))))
  (v_one (v_ret (v_tup (v_cons (v_tup (v_cons v_str (v_cons (v_var 2) (v_cons (v_tuple Tx.z_tuple (v_var 4)) v_nil)))) (v_cons (v_call G.f_p_place_past hr tk (v_cons (v_var 0) (v_cons (v_var 1) (v_cons v_str v_nil))) (alen_cons (alen_cons (alen_cons alen_nil)))) v_nil))))))))))
theorem k_p_gap_at (Tx : Txt w K mg) (G : All P w K mg base n) : FnAt P w K mg base (rx0 K) (n + 1) "gap_at" ["text", "at"] (C (n + 1) .p_gap_at) := by
  obtain ⟨g, fd, h1, F, h2⟩ := Tx.d_p_gap_at
  exact ⟨g, fd, h1, F.kp, h2, kk_p_gap_at F Tx G⟩
theorem sc_p_let_at : FnScope ["text", "at", "word", "one", "other"] ["text", "at"] (defScope s_p_let_at) := ⟨rfl, rfl, rfl, by decide +kernel, rfl, by decide +kernel, by decide +kernel⟩
theorem kk_p_let_at {g : Addr} {fd : FuncData} (F : Fun K "let_at" "let_at" s_p_let_at g fd) (Tx : Txt w K mg) (G : All P w K mg base n) : FnOk P w K mg base (L2.CX P w) (n + 1) g fd ["text", "at"] (spF K (rx0 K) 2 (C (n + 1) .p_let_at)) := by
  have nd := sc_p_let_at.nd
  refine fn_ok F sc_p_let_at (n := 5) rfl fun cdv A outer s H E hr => ?_
  have tk := takes_of (X := cxOf (L2.CX P w) P w K mg base ["text", "at", "word", "one", "other"] "let_at" (defScope s_p_let_at) g cdv A outer s H E) rfl rfl rfl rfl
  exact (v_seq (v_asg (v_call G.f_p_word_at hr tk (v_cons (v_var 0) (v_cons (v_var 1) v_nil)) (alen_cons (alen_cons alen_nil))) (g_tup rfl (gs_cons 2 nd (gs_cons 1 nd gs_nil))))
  (v_seq (v_asg (v_call G.f_p_tree_at hr tk (v_cons (v_var 0) (v_cons (v_call G.f_p_place_past hr tk (v_cons (v_var 0) (v_cons (v_var 1) (v_cons v_str v_nil))) (alen_cons (alen_cons (alen_cons alen_nil)))) v_nil)) (alen_cons (alen_cons alen_nil))) (g_tup rfl (gs_cons 3 nd (gs_cons 1 nd gs_nil))))
  (v_seq (v_asg (v_call G.f_p_tree_at hr tk (v_cons (v_var 0) (v_cons (v_call G.f_p_place_past hr tk (v_cons (v_var 0) (v_cons (v_var 1) (v_cons v_str v_nil))) (alen_cons (alen_cons (alen_cons alen_nil)))) v_nil)) (alen_cons (alen_cons alen_nil))) (g_tup rfl (gs_cons 4 nd (gs_cons 1 nd gs_nil))))
  (v_one (v_ret (v_tup (v_cons (v_tup (v_cons v_str (v_cons (v_var 2) (v_cons (v_var 3) (v_cons (v_var 4) v_nil))))) (v_cons (v_var 1) v_nil))))))))
theorem k_p_let_at (Tx : Txt w K mg) (G : All P w K mg base n) : FnAt P w K mg base (rx0 K) (n + 1) "let_at" ["text", "at"] (C (n + 1) .p_let_at) := by
  obtain ⟨g, fd, h1, F, h2⟩ := Tx.d_p_let_at
  exact ⟨g, fd, h1, F.kp, h2, kk_p_let_at F Tx G⟩
theorem sc_p_choice_at : FnScope ["text", "at", "one", "two", "three"] ["text", "at"] (defScope s_p_choice_at) := ⟨rfl, rfl, rfl, by decide +kernel, rfl, by decide +kernel, by decide +kernel⟩
theorem kk_p_choice_at {g : Addr} {fd : FuncData} (F : Fun K "choice_at" "choice_at" s_p_choice_at g fd) (Tx : Txt w K mg) (G : All P w K mg base n) : FnOk P w K mg base (L2.CX P w) (n + 1) g fd ["text", "at"] (spF K (rx0 K) 2 (C (n + 1) .p_choice_at)) := by
  have nd := sc_p_choice_at.nd
  refine fn_ok F sc_p_choice_at (n := 5) rfl fun cdv A outer s H E hr => ?_
  have tk := takes_of (X := cxOf (L2.CX P w) P w K mg base ["text", "at", "one", "two", "three"] "choice_at" (defScope s_p_choice_at) g cdv A outer s H E) rfl rfl rfl rfl
  exact (v_seq (v_asg (v_call G.f_p_tree_at hr tk (v_cons (v_var 0) (v_cons (v_var 1) v_nil)) (alen_cons (alen_cons alen_nil))) (g_tup rfl (gs_cons 2 nd (gs_cons 1 nd gs_nil))))
  (v_seq (v_asg (v_call G.f_p_tree_at hr tk (v_cons (v_var 0) (v_cons (v_call G.f_p_place_past hr tk (v_cons (v_var 0) (v_cons (v_var 1) (v_cons v_str v_nil))) (alen_cons (alen_cons (alen_cons alen_nil)))) v_nil)) (alen_cons (alen_cons alen_nil))) (g_tup rfl (gs_cons 3 nd (gs_cons 1 nd gs_nil))))
  (v_seq (v_asg (v_call G.f_p_tree_at hr tk (v_cons (v_var 0) (v_cons (v_call G.f_p_place_past hr tk (v_cons (v_var 0) (v_cons (v_var 1) (v_cons v_str v_nil))) (alen_cons (alen_cons (alen_cons alen_nil)))) v_nil)) (alen_cons (alen_cons alen_nil))) (g_tup rfl (gs_cons 4 nd (gs_cons 1 nd gs_nil))))
  (v_one (v_ret (v_tup (v_cons (v_tup (v_cons v_str (v_cons (v_var 2) (v_cons (v_var 3) (v_cons (v_var 4) v_nil))))) (v_cons (v_var 1) v_nil))))))))
theorem k_p_choice_at (Tx : Txt w K mg) (G : All P w K mg base n) : FnAt P w K mg base (rx0 K) (n + 1) "choice_at" ["text", "at"] (C (n + 1) .p_choice_at) := by
  obtain ⟨g, fd, h1, F, h2⟩ := Tx.d_p_choice_at
  exact ⟨g, fd, h1, F.kp, h2, kk_p_choice_at F Tx G⟩
theorem sc_p_inner_at : FnScope ["text", "at", "word", "one", "sign", "other"] ["text", "at"] (defScope s_p_inner_at) := ⟨rfl, rfl, rfl, by decide +kernel, rfl, by decide +kernel, by decide +kernel⟩
theorem kk_p_inner_at {g : Addr} {fd : FuncData} (F : Fun K "inner_at" "inner_at" s_p_inner_at g fd) (Tx : Txt w K mg) (G : All P w K mg base n) : FnOk P w K mg base (L2.CX P w) (n + 1) g fd ["text", "at"] (spF K (rx0 K) 2 (C (n + 1) .p_inner_at)) := by
  have nd := sc_p_inner_at.nd
  refine fn_ok F sc_p_inner_at (n := 6) rfl fun cdv A outer s H E hr => ?_
  have tk := takes_of (X := cxOf (L2.CX P w) P w K mg base ["text", "at", "word", "one", "sign", "other"] "inner_at" (defScope s_p_inner_at) g cdv A outer s H E) rfl rfl rfl rfl
  exact (v_seq (v_if (v_teq hr.units (v_slice (v_var 0) (v_po1 (v_var 1)) (v_po1 (v_add (v_var 1) v_int))) v_str) (v_seq (v_asg (v_call G.f_p_word_at hr tk (v_cons (v_var 0) (v_cons (v_add (v_var 1) v_int) v_nil)) (alen_cons (alen_cons alen_nil))) (g_tup rfl (gs_cons 2 nd (gs_cons 1 nd gs_nil))))
  (v_one (v_ret (v_tup (v_cons (v_tup (v_cons v_str (v_cons (v_var 2) v_nil))) (v_cons (v_var 1) v_nil)))))) v_skip)
  (v_seq (v_if (v_teq hr.units (v_slice (v_var 0) (v_po1 (v_var 1)) (v_po1 (v_add (v_var 1) v_int))) v_str) (v_seq (v_asg (v_call G.f_p_word_at hr tk (v_cons (v_var 0) (v_cons (v_add (v_var 1) v_int) v_nil)) (alen_cons (alen_cons alen_nil))) (g_tup rfl (gs_cons 2 nd (gs_cons 1 nd gs_nil))))
  (v_one (v_ret (v_tup (v_cons (v_tup (v_cons v_str (v_cons (v_var 2) v_nil))) (v_cons (v_var 1) v_nil)))))) v_skip)
  (v_seq (v_if (v_teq hr.units (v_slice (v_var 0) (v_po1 (v_var 1)) (v_po1 (v_add (v_var 1) v_int))) v_str) (v_seq (v_asg (v_call G.f_p_tree_at hr tk (v_cons (v_var 0) (v_cons (v_add (v_var 1) v_int) v_nil)) (alen_cons (alen_cons alen_nil))) (g_tup rfl (gs_cons 3 nd (gs_cons 1 nd gs_nil))))
  (v_one (v_ret (v_tup (v_cons (v_tup (v_cons v_str (v_cons (v_var 3) v_nil))) (v_cons (v_var 1) v_nil)))))) v_skip)
  (v_seq (v_if (v_teq hr.units (v_slice (v_var 0) (v_po1 (v_var 1)) (v_po1 (v_add (v_var 1) v_int))) v_str) (v_one (v_ret (v_call G.f_p_let_at hr tk (v_cons (v_var 0) (v_cons (v_add (v_var 1) v_int) v_nil)) (alen_cons (alen_cons alen_nil))))) v_skip)
  (v_seq (v_if (v_teq hr.units (v_slice (v_var 0) (v_po1 (v_var 1)) (v_po1 (v_add (v_var 1) v_int))) v_str) (v_one (v_ret (v_call G.f_p_choice_at hr tk (v_cons (v_var 0) (v_cons (v_add (v_var 1) v_int) v_nil)) (alen_cons (alen_cons alen_nil))))) v_skip)
  (v_seq (v_asg (v_call G.f_p_tree_at hr tk (v_cons (v_var 0) (v_cons (v_var 1) v_nil)) (alen_cons (alen_cons alen_nil))) (g_tup rfl (gs_cons 3 nd (gs_cons 1 nd gs_nil))))
  (v_seq (v_set 4 nd (v_slice (v_var 0) (v_po1 (v_var 1)) (v_po1 (v_add (v_var 1) v_int))))
  (v_seq (v_if (v_tknin Tx.k_SIGNS (v_var 4)) (v_one v_crash) v_skip)
  (v_seq (v_asg (v_call G.f_p_tree_at hr tk (v_cons (v_var 0) (v_cons (v_add (v_var 1) v_int) v_nil)) (alen_cons (alen_cons alen_nil))) (g_tup rfl (gs_cons 5 nd (gs_cons 1 nd gs_nil))))
  (v_one (v_ret (v_tup (v_cons (v_tup (v_cons (v_kget Tx.k_SIGNS (fun _ _ => rfl) (v_var 4)) (v_cons (v_var 3) (v_cons (v_var 5) v_nil)))) (v_cons (v_var 1) v_nil))))))))))))))
theorem k_p_inner_at (Tx : Txt w K mg) (G : All P w K mg base n) : FnAt P w K mg base (rx0 K) (n + 1) "inner_at" ["text", "at"] (C (n + 1) .p_inner_at) := by
  obtain ⟨g, fd, h1, F, h2⟩ := Tx.d_p_inner_at
  exact ⟨g, fd, h1, F.kp, h2, kk_p_inner_at F Tx G⟩
theorem sc_p_tree_at : FnScope ["text", "at", "sign", "tree"] ["text", "at"] (defScope s_p_tree_at) := ⟨rfl, rfl, rfl, by decide +kernel, rfl, by decide +kernel, by decide +kernel⟩
theorem kk_p_tree_at {g : Addr} {fd : FuncData} (F : Fun K "tree_at" "tree_at" s_p_tree_at g fd) (Tx : Txt w K mg) (G : All P w K mg base n) : FnOk P w K mg base (L2.CX P w) (n + 1) g fd ["text", "at"] (spF K (rx0 K) 2 (C (n + 1) .p_tree_at)) := by
  have nd := sc_p_tree_at.nd
  refine fn_ok F sc_p_tree_at (n := 4) rfl fun cdv A outer s H E hr => ?_
  have tk := takes_of (X := cxOf (L2.CX P w) P w K mg base ["text", "at", "sign", "tree"] "tree_at" (defScope s_p_tree_at) g cdv A outer s H E) rfl rfl rfl rfl
  exact (v_seq (v_set 2 nd (v_slice (v_var 0) (v_po1 (v_var 1)) (v_po1 (v_add (v_var 1) v_int))))
  (v_seq (v_if (v_teq hr.units (v_var 2) v_str) (v_one (v_ret (v_call G.f_p_gap_at hr tk (v_cons (v_var 0) (v_cons (v_var 1) v_nil)) (alen_cons (alen_cons alen_nil))))) v_skip)
  (v_seq (v_if (v_tne hr.units (v_var 2) v_str) (v_one (v_ret (v_call G.f_p_leaf_at hr tk (v_cons (v_var 0) (v_cons (v_var 1) v_nil)) (alen_cons (alen_cons alen_nil))))) v_skip)
  (v_seq (v_asg (v_call G.f_p_inner_at hr tk (v_cons (v_var 0) (v_cons (v_add (v_var 1) v_int) v_nil)) (alen_cons (alen_cons alen_nil))) (g_tup rfl (gs_cons 3 nd (gs_cons 1 nd gs_nil))))
  (v_one (v_ret (v_tup (v_cons (v_var 3) (v_cons (v_call G.f_p_place_past hr tk (v_cons (v_var 0) (v_cons (v_var 1) (v_cons v_str v_nil))) (alen_cons (alen_cons (alen_cons alen_nil)))) v_nil)))))))))
theorem k_p_tree_at (Tx : Txt w K mg) (G : All P w K mg base n) : FnAt P w K mg base (rx0 K) (n + 1) "tree_at" ["text", "at"] (C (n + 1) .p_tree_at) := by
  obtain ⟨g, fd, h1, F, h2⟩ := Tx.d_p_tree_at
  exact ⟨g, fd, h1, F.kp, h2, kk_p_tree_at F Tx G⟩
theorem sc_p_whole : FnScope ["text", "tree", "at"] ["text"] (defScope s_p_whole) := ⟨rfl, rfl, rfl, by decide +kernel, rfl, by decide +kernel, by decide +kernel⟩
theorem kk_p_whole {g : Addr} {fd : FuncData} (F : Fun K "whole" "whole" s_p_whole g fd) (Tx : Txt w K mg) (G : All P w K mg base n) : FnOk P w K mg base (L2.CX P w) (n + 1) g fd ["text"] (spF K (rx0 K) 1 (C (n + 1) .p_whole)) := by
  have nd := sc_p_whole.nd
  refine fn_ok F sc_p_whole (n := 3) rfl fun cdv A outer s H E hr => ?_
  have tk := takes_of (X := cxOf (L2.CX P w) P w K mg base ["text", "tree", "at"] "whole" (defScope s_p_whole) g cdv A outer s H E) rfl rfl rfl rfl
  exact (v_seq (v_asg (v_call G.f_p_tree_at hr tk (v_cons (v_var 0) (v_cons v_int v_nil)) (alen_cons (alen_cons alen_nil))) (g_tup rfl (gs_cons 1 nd (gs_cons 2 nd gs_nil))))
  (v_seq (v_if (v_tne hr.units (v_var 2) (v_len Tx.z_len (v_var 0))) (v_one v_crash) v_skip)
  (v_one (v_ret (v_var 1)))))
theorem k_p_whole (Tx : Txt w K mg) (G : All P w K mg base n) : FnAt P w K mg base (rx0 K) (n + 1) "whole" ["text"] (C (n + 1) .p_whole) := by
  obtain ⟨g, fd, h1, F, h2⟩ := Tx.d_p_whole
  exact ⟨g, fd, h1, F.kp, h2, kk_p_whole F Tx G⟩
theorem sc_p_read : FnScope ["text"] ["text"] (defScope s_p_read) := ⟨rfl, rfl, rfl, by decide +kernel, rfl, by decide +kernel, by decide +kernel⟩
theorem kk_p_read {g : Addr} {fd : FuncData} (F : Fun K "read" "read" s_p_read g fd) (Tx : Txt w K mg) (G : All P w K mg base n) : FnOk P w K mg base (L2.CX P w) (n + 1) g fd ["text"] (spF K (rx0 K) 1 (C (n + 1) .p_read)) := by
  have nd := sc_p_read.nd
  refine fn_ok F sc_p_read (n := 1) rfl fun cdv A outer s H E hr => ?_
  have tk := takes_of (X := cxOf (L2.CX P w) P w K mg base ["text"] "read" (defScope s_p_read) g cdv A outer s H E) rfl rfl rfl rfl
  exact (v_seq (v_drop (v_call G.f_p_bounded hr tk (v_cons (v_var 0) v_nil) (alen_cons alen_nil)))
  (v_one (v_ret (v_call G.f_p_whole hr tk (v_cons (v_var 0) v_nil) (alen_cons alen_nil)))))
theorem k_p_read (Tx : Txt w K mg) (G : All P w K mg base n) : FnAt P w K mg base (rx0 K) (n + 1) "read" ["text"] (C (n + 1) .p_read) := by
  obtain ⟨g, fd, h1, F, h2⟩ := Tx.d_p_read
  exact ⟨g, fd, h1, F.kp, h2, kk_p_read F Tx G⟩
theorem sc_p_shown_leaf : FnScope ["tree", "atom"] ["tree"] (defScope s_p_shown_leaf) := ⟨rfl, rfl, rfl, by decide +kernel, rfl, by decide +kernel, by decide +kernel⟩
theorem kk_p_shown_leaf {g : Addr} {fd : FuncData} (F : Fun K "shown_leaf" "shown_leaf" s_p_shown_leaf g fd) (Tx : Txt w K mg) (G : All P w K mg base n) : FnOk P w K mg base (L2.CX P w) (n + 1) g fd ["tree"] (spF K (rx0 K) 1 (C (n + 1) .p_shown_leaf)) := by
  have nd := sc_p_shown_leaf.nd
  refine fn_ok F sc_p_shown_leaf (n := 2) rfl fun cdv A outer s H E hr => ?_
  have tk := takes_of (X := cxOf (L2.CX P w) P w K mg base ["tree", "atom"] "shown_leaf" (defScope s_p_shown_leaf) g cdv A outer s H E) rfl rfl rfl rfl
  exact (v_seq (v_if (v_teq hr.units (v_ix (fun _ _ => rfl) (v_var 0) v_int) v_str) (v_one (v_ret (v_strI Tx.z_str (v_ix (fun _ _ => rfl) (v_var 0) v_int)))) v_skip)
  (v_seq (v_if (v_teq hr.units (v_ix (fun _ _ => rfl) (v_var 0) v_int) v_str) (v_one (v_ret (v_ix (fun _ _ => rfl) (v_var 0) v_int))) v_skip)
  (v_seq (v_if (v_teq hr.units (v_ix (fun _ _ => rfl) (v_var 0) v_int) v_str) (v_seq (v_if (v_teq hr.units (v_len Tx.z_len (v_ix (fun _ _ => rfl) (v_var 0) v_int)) v_int) (v_one (v_ret (v_add v_str (v_ix (fun _ _ => rfl) (v_var 0) v_int)))) v_skip)
  (v_one (v_ret (v_add (v_add (v_add (v_add v_str (v_ix (fun _ _ => rfl) (v_var 0) v_int)) v_str) (v_join v_str (v_comp (own := [(("atom" : Str), 1)]) rfl nd (s_seq (v_ix (fun _ _ => rfl) (v_var 0) v_int)) (blk_is (N := ["tree", "atom"]) (sc := defScope s_p_shown_leaf) (by decide +kernel)) (go_name 1) (fun _ _ _ _ _ => pg_name (i := 1) nd rfl (by first | exact Or.inl rfl | exact Or.inr rfl)) (fun _ _ _ _ _ => v_ifs0) (fun _ _ _ _ _ => (v_call G.f_p_shown_leaf hr takes0 (v_cons (v_var 1) v_nil) (alen_cons alen_nil)))))) v_str)))) v_skip)
  (v_one (v_ret (v_add (v_add (v_add (v_add v_str (v_ix (fun _ _ => rfl) (v_var 0) v_int)) v_str) (v_ix (fun _ _ => rfl) (v_var 0) v_int)) v_str))))))
theorem k_p_shown_leaf (Tx : Txt w K mg) (G : All P w K mg base n) : FnAt P w K mg base (rx0 K) (n + 1) "shown_leaf" ["tree"] (C (n + 1) .p_shown_leaf) := by
  obtain ⟨g, fd, h1, F, h2⟩ := Tx.d_p_shown_leaf
  exact ⟨g, fd, h1, F.kp, h2, kk_p_shown_leaf F Tx G⟩
theorem sc_p_shown : FnScope ["tree", "some", "part"] ["tree"] (defScope s_p_shown) := ⟨rfl, rfl, rfl, by decide +kernel, rfl, by decide +kernel, by decide +kernel⟩
theorem kk_p_shown {g : Addr} {fd : FuncData} (F : Fun K "shown" "shown" s_p_shown g fd) (Tx : Txt w K mg) (G : All P w K mg base n) : FnOk P w K mg base (L2.CX P w) (n + 1) g fd ["tree"] (spF K (rx0 K) 1 (C (n + 1) .p_shown)) := by
  have nd := sc_p_shown.nd
  refine fn_ok F sc_p_shown (n := 3) rfl fun cdv A outer s H E hr => ?_
  have tk := takes_of (X := cxOf (L2.CX P w) P w K mg base ["tree", "some", "part"] "shown" (defScope s_p_shown) g cdv A outer s H E) rfl rfl rfl rfl
  exact (v_seq (v_set 1 nd (v_lstR v_nil))
  (v_seq (v_for (passes_of rfl) rfl (s_seq (v_call G.f_p_parts hr tk (v_cons (v_var 0) v_nil) (alen_cons alen_nil))) (g_name 2 nd) (v_one (v_app (v_var 1) (v_call G.f_p_shown hr tk (v_cons (v_var 2) v_nil) (alen_cons alen_nil)))))
  (v_seq (v_if (v_teq hr.units (v_len Tx.z_len (v_var 1)) v_int) (v_one (v_ret (v_call G.f_p_shown_leaf hr tk (v_cons (v_var 0) v_nil) (alen_cons alen_nil)))) v_skip)
  (v_seq (v_if (v_teq hr.units (v_ix (fun _ _ => rfl) (v_var 0) v_int) v_str) (v_one (v_ret (v_add (v_add v_str (v_ix (fun _ _ => rfl) (v_var 1) v_int)) v_str))) v_skip)
  (v_seq (v_if (v_teq hr.units (v_ix (fun _ _ => rfl) (v_var 0) v_int) v_str) (v_one (v_ret (v_add (v_add (v_add (v_add (v_add (v_add v_str (v_ix (fun _ _ => rfl) (v_var 0) v_int)) v_str) (v_ix (fun _ _ => rfl) (v_var 1) v_int)) v_str) (v_ix (fun _ _ => rfl) (v_var 1) v_int)) v_str))) v_skip)
  (v_seq (v_if (v_teq hr.units (v_ix (fun _ _ => rfl) (v_var 0) v_int) v_str) (v_one (v_ret (v_add (v_add (v_add (v_add (v_add (v_add v_str (v_ix (fun _ _ => rfl) (v_var 1) v_int)) v_str) (v_ix (fun _ _ => rfl) (v_var 1) v_int)) v_str) (v_ix (fun _ _ => rfl) (v_var 1) v_int)) v_str))) v_skip)
  (v_one (v_ret (v_add (v_add (v_add (v_add v_str (v_ix (fun _ _ => rfl) (v_var 1) v_int)) (v_kget Tx.k_BETWEEN (fun _ _ => rfl) (v_ix (fun _ _ => rfl) (v_var 0) v_int))) (v_ix (fun _ _ => rfl) (v_var 1) v_int)) v_str)))))))))
theorem k_p_shown (Tx : Txt w K mg) (G : All P w K mg base n) : FnAt P w K mg base (rx0 K) (n + 1) "shown" ["tree"] (C (n + 1) .p_shown) := by
  obtain ⟨g, fd, h1, F, h2⟩ := Tx.d_p_shown
  exact ⟨g, fd, h1, F.kp, h2, kk_p_shown F Tx G⟩
theorem sc_l_cell_at : FnScope ["_law_script", "_law_k"] ["_law_script", "_law_k"] (defScope s_l_cell_at) := ⟨rfl, rfl, rfl, by decide +kernel, rfl, by decide +kernel, by decide +kernel⟩
theorem kk_l_cell_at {g : Addr} {fd : FuncData} (F : Fun K "_law_cell_at" "_law_cell_at" s_l_cell_at g fd) (Tx : Txt w K mg) (G : All P w K mg base n) : FnOk P w K mg base (L2.CX P w) (n + 1) g fd ["_law_script", "_law_k"] (spF K (rx0 K) 2 (C (n + 1) .l_cell_at)) := by
  have nd := sc_l_cell_at.nd
  refine fn_ok F sc_l_cell_at (n := 2) rfl fun cdv A outer s H E hr => ?_
  have tk := takes_of (X := cxOf (L2.CX P w) P w K mg base ["_law_script", "_law_k"] "_law_cell_at" (defScope s_l_cell_at) g cdv A outer s H E) rfl rfl rfl rfl
  exact (v_seq (v_if (v_tlt (v_var 1) (v_len Tx.z_len (v_var 0))) (v_one (v_ret (v_ix (fun _ _ => rfl) (v_var 0) (v_var 1)))) v_skip)
  (v_one (v_ret v_int)))
theorem k_l_cell_at (Tx : Txt w K mg) (G : All P w K mg base n) : FnAt P w K mg base (rx0 K) (n + 1) "_law_cell_at" ["_law_script", "_law_k"] (C (n + 1) .l_cell_at) := by
  obtain ⟨g, fd, h1, F, h2⟩ := Tx.d_l_cell_at
  exact ⟨g, fd, h1, F.kp, h2, kk_l_cell_at F Tx G⟩
theorem sc_l_word : FnScope ["_law_cell", "_law_letters", "_law_number", "_law_word_here", "_law_j", "_law_turn"] ["_law_cell"] (defScope s_l_word) := ⟨rfl, rfl, rfl, by decide +kernel, rfl, by decide +kernel, by decide +kernel⟩
theorem kk_l_word {g : Addr} {fd : FuncData} (F : Fun K "_law_word" "_law_word" s_l_word g fd) (Tx : Txt w K mg) (G : All P w K mg base n) : FnOk P w K mg base (L2.CX P w) (n + 1) g fd ["_law_cell"] (spF K (rx0 K) 1 (C (n + 1) .l_word)) := by
  have nd := sc_l_word.nd
  refine fn_ok F sc_l_word (n := 6) rfl fun cdv A outer s H E hr => ?_
  have tk := takes_of (X := cxOf (L2.CX P w) P w K mg base ["_law_cell", "_law_letters", "_law_number", "_law_word_here", "_law_j", "_law_turn"] "_law_word" (defScope s_l_word) g cdv A outer s H E) rfl rfl rfl rfl
  exact (v_seq (v_set 1 nd v_str)
  (v_seq (v_set 2 nd (v_mod (v_var 0) (v_pow v_int v_int)))
  (v_seq (v_set 3 nd v_str)
  (v_seq (v_for (passes_of rfl) rfl (s_range1 Tx.z_range (v_add v_int (v_mod (v_var 2) v_int))) (g_name 4 nd) (v_seq (v_set 5 nd (v_mul (v_fdiv (v_var 2) v_int) (v_add (v_mul v_int (v_var 4)) v_int)))
  (v_one (v_set 3 nd (v_add (v_var 3) (v_ix (fun _ _ => rfl) (v_var 1) (v_mod (v_add (v_var 5) (v_fdiv (v_fdiv (v_var 2) v_int) (v_add (v_var 4) v_int))) v_int)))))))
  (v_seq (v_if (v_tin rfl (v_var 3) (v_tup (v_cons v_str (v_cons v_str (v_cons v_str (v_cons v_str (v_cons v_str (v_cons v_str (v_cons v_str (v_cons v_str (v_cons v_str (v_cons v_str (v_cons v_str v_nil))))))))))))) (v_one (v_ret (v_add v_str (v_slice (v_var 3) (v_po1 v_int) v_po0)))) v_skip)
  (v_one (v_ret (v_var 3))))))))
theorem k_l_word (Tx : Txt w K mg) (G : All P w K mg base n) : FnAt P w K mg base (rx0 K) (n + 1) "_law_word" ["_law_cell"] (C (n + 1) .l_word) := by
  obtain ⟨g, fd, h1, F, h2⟩ := Tx.d_l_word
  exact ⟨g, fd, h1, F.kp, h2, kk_l_word F Tx G⟩
theorem sc_l_leaf : FnScope ["_law_cell", "_law_gaps", "_law_kind", "_law_rest", "_law_some"] ["_law_cell", "_law_gaps"] (defScope s_l_leaf) := ⟨rfl, rfl, rfl, by decide +kernel, rfl, by decide +kernel, by decide +kernel⟩
theorem kk_l_leaf {g : Addr} {fd : FuncData} (F : Fun K "_law_leaf" "_law_leaf" s_l_leaf g fd) (Tx : Txt w K mg) (G : All P w K mg base n) : FnOk P w K mg base (L2.CX P w) (n + 1) g fd ["_law_cell", "_law_gaps"] (spF K (rx0 K) 2 (C (n + 1) .l_leaf)) := by
  have nd := sc_l_leaf.nd
  refine fn_ok F sc_l_leaf (n := 5) rfl fun cdv A outer s H E hr => ?_
  have tk := takes_of (X := cxOf (L2.CX P w) P w K mg base ["_law_cell", "_law_gaps", "_law_kind", "_law_rest", "_law_some"] "_law_leaf" (defScope s_l_leaf) g cdv A outer s H E) rfl rfl rfl rfl
  exact (v_seq (v_set 2 nd (v_mod (v_var 0) v_int))
  (v_seq (v_set 3 nd (v_fdiv (v_var 0) v_int))
  (v_seq (v_if (v_tlt (v_var 2) v_int) (v_one (v_ret (v_tup (v_cons v_str (v_cons (v_ix (fun _ _ => rfl) (v_lst (v_cons (v_mod (v_var 3) (v_pow v_int v_int)) (v_cons (v_mod (v_var 3) v_int) v_nil))) (v_var 2)) v_nil))))) v_skip)
  (v_seq (v_if (v_teq hr.units (v_var 2) v_int) (v_one (v_ret (v_tup (v_cons v_str (v_cons (v_call G.f_l_word hr tk (v_cons (v_var 3) v_nil) (alen_cons alen_nil)) v_nil))))) v_skip)
  (v_seq (v_if (v_teq hr.units (v_var 2) v_int) (v_one (v_ret (v_tup (v_cons v_str (v_cons (v_call G.f_l_word hr tk (v_cons (v_var 3) v_nil) (alen_cons alen_nil)) v_nil))))) v_skip)
  (v_seq (v_if (v_bop (v_andT (v_teq hr.units (v_var 2) v_int) (v_and1 (v_tst (v_var 1))))) (v_seq (v_set 4 nd (v_lstR (v_cons (v_tup (v_cons v_str (v_cons (v_call G.f_l_word hr tk (v_cons (v_fdiv (v_var 3) v_int) v_nil) (alen_cons alen_nil)) v_nil))) (v_cons (v_tup (v_cons v_str (v_cons (v_mod (v_var 3) v_int) v_nil))) v_nil))))
  (v_seq (v_app (v_var 4) (v_tup (v_cons v_str (v_cons (v_call G.f_l_word hr tk (v_cons (v_fdiv (v_var 3) v_int) v_nil) (alen_cons alen_nil)) (v_cons (v_tup v_nil) v_nil)))))
  (v_one (v_ret (v_tup (v_cons v_str (v_cons (v_call G.f_l_word hr tk (v_cons (v_fdiv (v_var 3) v_int) v_nil) (alen_cons alen_nil)) (v_cons (v_tuple Tx.z_tuple (v_slice (v_slice (v_var 4) (v_po1 (v_mod (v_fdiv (v_var 3) v_int) v_int)) v_po0) v_po0 (v_po1 (v_mod (v_var 3) v_int)))) v_nil)))))))) v_skip)
  (v_one (v_ret (v_tup (v_cons v_str (v_cons (v_call G.f_l_word hr tk (v_cons (v_var 3) v_nil) (alen_cons alen_nil)) v_nil)))))))))))
theorem k_l_leaf (Tx : Txt w K mg) (G : All P w K mg base n) : FnAt P w K mg base (rx0 K) (n + 1) "_law_leaf" ["_law_cell", "_law_gaps"] (C (n + 1) .l_leaf) := by
  obtain ⟨g, fd, h1, F, h2⟩ := Tx.d_l_leaf
  exact ⟨g, fd, h1, F.kp, h2, kk_l_leaf F Tx G⟩
theorem sc_l_tree : FnScope ["_law_cells", "_law_deep", "_law_gaps", "_law_number", "_law_rest", "_law_at", "_law_sign", "_law_one", "_law_far", "_law_two", "_law_other"] ["_law_cells", "_law_deep", "_law_gaps"] (defScope s_l_tree) := ⟨rfl, rfl, rfl, by decide +kernel, rfl, by decide +kernel, by decide +kernel⟩
theorem kk_l_tree {g : Addr} {fd : FuncData} (F : Fun K "_law_tree" "_law_tree" s_l_tree g fd) (Tx : Txt w K mg) (G : All P w K mg base n) : FnOk P w K mg base (L2.CX P w) (n + 1) g fd ["_law_cells", "_law_deep", "_law_gaps"] (spF K (rx0 K) 3 (C (n + 1) .l_tree)) := by
  have nd := sc_l_tree.nd
  refine fn_ok F sc_l_tree (n := 11) rfl fun cdv A outer s H E hr => ?_
  have tk := takes_of (X := cxOf (L2.CX P w) P w K mg base ["_law_cells", "_law_deep", "_law_gaps", "_law_number", "_law_rest", "_law_at", "_law_sign", "_law_one", "_law_far", "_law_two", "_law_other"] "_law_tree" (defScope s_l_tree) g cdv A outer s H E) rfl rfl rfl rfl
  exact (v_seq (v_if (v_teq hr.units (v_len Tx.z_len (v_var 0)) v_int) (v_one (v_ret (v_tup (v_cons v_str (v_cons (v_mul (v_var 1) v_int) v_nil))))) v_skip)
  (v_seq (v_if (v_bop (v_orT (v_teq hr.units (v_len Tx.z_len (v_var 0)) v_int) (v_or1 (v_teq hr.units (v_var 1) v_int)))) (v_one (v_ret (v_call G.f_l_leaf hr tk (v_cons (v_ix (fun _ _ => rfl) (v_var 0) v_int) (v_cons (v_var 2) v_nil)) (alen_cons (alen_cons alen_nil))))) v_skip)
  (v_seq (v_set 3 nd (v_mod (v_mul (v_ix (fun _ _ => rfl) (v_var 0) v_int) v_int) v_int))
  (v_seq (v_set 4 nd (v_slice (v_var 0) (v_po1 v_int) v_po0))
  (v_seq (v_set 5 nd (v_mod (v_fdiv (v_var 3) v_int) (v_add (v_len Tx.z_len (v_var 4)) v_int)))
  (v_seq (v_set 6 nd (v_ix (fun _ _ => rfl) (v_lst (v_cons v_str (v_cons v_str (v_cons v_str (v_cons v_str (v_cons v_str (v_cons v_str (v_cons v_str (v_cons v_str (v_cons v_str v_nil)))))))))) (v_mod (v_var 3) v_int)))
  (v_seq (v_if (v_teq hr.units (v_var 6) v_str) (v_one (v_ret (v_tup (v_cons v_str (v_cons (v_call G.f_l_tree hr tk (v_cons (v_var 4) (v_cons (v_sub (v_var 1) v_int) (v_cons (v_var 2) v_nil))) (alen_cons (alen_cons (alen_cons alen_nil)))) v_nil))))) v_skip)
  (v_seq (v_set 7 nd (v_call G.f_l_tree hr tk (v_cons (v_slice (v_var 4) v_po0 (v_po1 (v_var 5))) (v_cons (v_sub (v_var 1) v_int) (v_cons (v_var 2) v_nil))) (alen_cons (alen_cons (alen_cons alen_nil)))))
  (v_seq (v_if (v_teq hr.units (v_var 6) v_str) (v_seq (v_set 8 nd (v_add (v_var 5) (v_mod (v_fdiv (v_var 3) v_int) (v_add (v_sub (v_len Tx.z_len (v_var 4)) (v_var 5)) v_int))))
  (v_seq (v_set 9 nd (v_call G.f_l_tree hr tk (v_cons (v_slice (v_var 4) (v_po1 (v_var 5)) (v_po1 (v_var 8))) (v_cons (v_sub (v_var 1) v_int) (v_cons (v_var 2) v_nil))) (alen_cons (alen_cons (alen_cons alen_nil)))))
  (v_one (v_ret (v_tup (v_cons v_str (v_cons (v_var 7) (v_cons (v_var 9) (v_cons (v_call G.f_l_tree hr tk (v_cons (v_slice (v_var 4) (v_po1 (v_var 8)) v_po0) (v_cons (v_sub (v_var 1) v_int) (v_cons (v_var 2) v_nil))) (alen_cons (alen_cons (alen_cons alen_nil)))) v_nil))))))))) v_skip)
  (v_seq (v_set 10 nd (v_call G.f_l_tree hr tk (v_cons (v_slice (v_var 4) (v_po1 (v_var 5)) v_po0) (v_cons (v_sub (v_var 1) v_int) (v_cons (v_var 2) v_nil))) (alen_cons (alen_cons (alen_cons alen_nil)))))
  (v_seq (v_if (v_teq hr.units (v_var 6) v_str) (v_one (v_ret (v_tup (v_cons v_str (v_cons (v_call G.f_l_word hr tk (v_cons (v_fdiv (v_var 3) v_int) v_nil) (alen_cons alen_nil)) (v_cons (v_var 7) (v_cons (v_var 10) v_nil))))))) v_skip)
  (v_one (v_ret (v_tup (v_cons (v_var 6) (v_cons (v_var 7) (v_cons (v_var 10) v_nil)))))))))))))))))
theorem k_l_tree (Tx : Txt w K mg) (G : All P w K mg base n) : FnAt P w K mg base (rx0 K) (n + 1) "_law_tree" ["_law_cells", "_law_deep", "_law_gaps"] (C (n + 1) .l_tree) := by
  obtain ⟨g, fd, h1, F, h2⟩ := Tx.d_l_tree
  exact ⟨g, fd, h1, F.kp, h2, kk_l_tree F Tx G⟩
theorem sc_l_great : FnScope ["_law_cell", "_law_leaves", "_law_k", "_law_paired", "_law_tree_here"] ["_law_cell"] (defScope s_l_great) := ⟨rfl, rfl, rfl, by decide +kernel, rfl, by decide +kernel, by decide +kernel⟩
theorem kk_l_great {g : Addr} {fd : FuncData} (F : Fun K "_law_great" "_law_great" s_l_great g fd) (Tx : Txt w K mg) (G : All P w K mg base n) : FnOk P w K mg base (L2.CX P w) (n + 1) g fd ["_law_cell"] (spF K (rx0 K) 1 (C (n + 1) .l_great)) := by
  have nd := sc_l_great.nd
  refine fn_ok F sc_l_great (n := 5) rfl fun cdv A outer s H E hr => ?_
  have tk := takes_of (X := cxOf (L2.CX P w) P w K mg base ["_law_cell", "_law_leaves", "_law_k", "_law_paired", "_law_tree_here"] "_law_great" (defScope s_l_great) g cdv A outer s H E) rfl rfl rfl rfl
  exact (v_seq (v_set 1 nd (v_lstR v_nil))
  (v_seq (v_if (v_teq hr.units (v_mod (v_var 0) v_int) v_int) (v_seq (v_for (passes_of rfl) rfl (s_range1 Tx.z_range (v_add v_int (v_mod (v_fdiv (v_var 0) v_int) v_int))) (g_name 2 nd) (v_one (v_app (v_var 1) (v_tup (v_cons v_str (v_cons (v_add (v_pow v_int v_int) (v_mod (v_fdiv (v_var 0) (v_add (v_var 2) v_int)) (v_pow v_int v_int))) v_nil))))))
  (v_seq (v_while (passes_of rfl) (v_tgt (v_len Tx.z_len (v_var 1)) v_int) (v_seq (v_setLc 3 (own := [(("_law_k" : Str), 2)]) rfl nd (s_range3 Tx.z_range v_int (v_sub (v_len Tx.z_len (v_var 1)) v_int) v_int) (blk_is (N := ["_law_cell", "_law_leaves", "_law_k", "_law_paired", "_law_tree_here"]) (sc := defScope s_l_great) (by decide +kernel)) (go_name 2) (fun _ _ _ _ _ => pg_name (i := 2) nd rfl (by first | exact Or.inl rfl | exact Or.inr rfl)) (fun _ _ _ _ _ => v_ifs0) (fun _ _ _ _ _ => (v_tup (v_cons v_str (v_cons (v_ix (fun _ _ => rfl) (v_var 1) (v_var 2)) (v_cons (v_ix (fun _ _ => rfl) (v_var 1) (v_add (v_var 2) v_int)) v_nil))))))
  (v_one (v_set 1 nd (v_addR (v_var 3) (v_slice (v_var 1) (v_po1 (v_mul v_int (v_len Tx.z_len (v_var 3)))) v_po0))))))
  (v_one (v_ret (v_ix (fun _ _ => rfl) (v_var 1) v_int))))) v_skip)
  (v_seq (v_set 4 nd (v_tup (v_cons v_str (v_cons v_str v_nil))))
  (v_seq (v_for (passes_of rfl) rfl (s_range1 Tx.z_range (v_add v_int (v_mod (v_fdiv (v_var 0) v_int) v_int))) (g_name 2 nd) (v_one (v_set 4 nd (v_ix (fun _ _ => rfl) (v_lst (v_cons (v_tup (v_cons v_str (v_cons (v_var 4) v_nil))) (v_cons (v_tup (v_cons v_str (v_cons v_str (v_cons (v_tup (v_cons v_str (v_cons v_str v_nil))) (v_cons (v_var 4) v_nil))))) v_nil))) (v_mod (v_fdiv (v_var 0) (v_add (v_var 2) v_int)) v_int)))))
  (v_one (v_ret (v_var 4)))))))
theorem k_l_great (Tx : Txt w K mg) (G : All P w K mg base n) : FnAt P w K mg base (rx0 K) (n + 1) "_law_great" ["_law_cell"] (C (n + 1) .l_great) := by
  obtain ⟨g, fd, h1, F, h2⟩ := Tx.d_l_great
  exact ⟨g, fd, h1, F.kp, h2, kk_l_great F Tx G⟩
theorem sc_l_nested : FnScope ["_law_cell", "_law_more", "_law_tree_here", "_law_many", "_law_k", "_law_turn", "_law_leaf_here", "_law_some"] ["_law_cell", "_law_more"] (defScope s_l_nested) := ⟨rfl, rfl, rfl, by decide +kernel, rfl, by decide +kernel, by decide +kernel⟩
theorem kk_l_nested {g : Addr} {fd : FuncData} (F : Fun K "_law_nested" "_law_nested" s_l_nested g fd) (Tx : Txt w K mg) (G : All P w K mg base n) : FnOk P w K mg base (L2.CX P w) (n + 1) g fd ["_law_cell", "_law_more"] (spF K (rx0 K) 2 (C (n + 1) .l_nested)) := by
  have nd := sc_l_nested.nd
  refine fn_ok F sc_l_nested (n := 8) rfl fun cdv A outer s H E hr => ?_
  have tk := takes_of (X := cxOf (L2.CX P w) P w K mg base ["_law_cell", "_law_more", "_law_tree_here", "_law_many", "_law_k", "_law_turn", "_law_leaf_here", "_law_some"] "_law_nested" (defScope s_l_nested) g cdv A outer s H E) rfl rfl rfl rfl
  exact (v_seq (v_set 2 nd (v_call G.f_l_leaf hr tk (v_cons (v_var 1) (v_cons v_bl v_nil)) (alen_cons (alen_cons alen_nil))))
  (v_seq (v_set 3 nd (v_mod (v_var 0) v_int))
  (v_seq (v_if (v_tin rfl (v_ix (fun _ _ => rfl) (v_var 2) v_int) (v_tup (v_cons v_str (v_cons v_str v_nil)))) (v_one (v_set 3 nd (v_min2 rfl Tx.z_min (v_var 3) v_int))) v_skip)
  (v_seq (v_for (passes_of rfl) rfl (s_range1 Tx.z_range (v_var 3)) (g_name 4 nd) (v_seq (v_set 5 nd (v_mod (v_fdiv (v_fdiv (v_var 0) v_int) (v_add (v_var 4) v_int)) v_int))
  (v_seq (v_set 6 nd (v_tup (v_cons v_str (v_cons (v_mul (v_var 4) v_int) v_nil))))
  (v_seq (v_set 7 nd (v_lst (v_cons (v_tup (v_cons v_str (v_cons (v_var 2) v_nil))) (v_cons (v_tup (v_cons v_str (v_cons (v_var 6) (v_cons (v_var 2) v_nil)))) (v_cons (v_tup (v_cons v_str (v_cons (v_var 2) (v_cons (v_var 6) v_nil)))) v_nil)))))
  (v_seq (v_set 7 nd (v_add (v_var 7) (v_lst (v_cons (v_tup (v_cons v_str (v_cons v_str (v_cons (v_var 2) (v_cons (v_var 6) v_nil))))) (v_cons (v_tup (v_cons v_str (v_cons (v_var 6) (v_cons (v_tup (v_cons v_str (v_cons v_str v_nil))) (v_cons (v_var 2) v_nil))))) v_nil)))))
  (v_one (v_set 2 nd (v_ix (fun _ _ => rfl) (v_var 7) (v_var 5)))))))))
  (v_one (v_ret (v_var 2)))))))
theorem k_l_nested (Tx : Txt w K mg) (G : All P w K mg base n) : FnAt P w K mg base (rx0 K) (n + 1) "_law_nested" ["_law_cell", "_law_more"] (C (n + 1) .l_nested) := by
  obtain ⟨g, fd, h1, F, h2⟩ := Tx.d_l_nested
  exact ⟨g, fd, h1, F.kp, h2, kk_l_nested F Tx G⟩
theorem sc_l_leaf_written : FnScope ["_law_tree_here", "_law_atom"] ["_law_tree_here"] (defScope s_l_leaf_written) := ⟨rfl, rfl, rfl, by decide +kernel, rfl, by decide +kernel, by decide +kernel⟩
theorem kk_l_leaf_written {g : Addr} {fd : FuncData} (F : Fun K "_law_leaf_written" "_law_leaf_written" s_l_leaf_written g fd) (Tx : Txt w K mg) (G : All P w K mg base n) : FnOk P w K mg base (L2.CX P w) (n + 1) g fd ["_law_tree_here"] (spF K (rx0 K) 1 (C (n + 1) .l_leaf_written)) := by
  have nd := sc_l_leaf_written.nd
  refine fn_ok F sc_l_leaf_written (n := 2) rfl fun cdv A outer s H E hr => ?_
  have tk := takes_of (X := cxOf (L2.CX P w) P w K mg base ["_law_tree_here", "_law_atom"] "_law_leaf_written" (defScope s_l_leaf_written) g cdv A outer s H E) rfl rfl rfl rfl
  exact (v_seq (v_if (v_teq hr.units (v_ix (fun _ _ => rfl) (v_var 0) v_int) v_str) (v_one (v_ret (v_strI Tx.z_str (v_ix (fun _ _ => rfl) (v_var 0) v_int)))) v_skip)
  (v_seq (v_if (v_teq hr.units (v_ix (fun _ _ => rfl) (v_var 0) v_int) v_str) (v_one (v_ret (v_ix (fun _ _ => rfl) (v_var 0) v_int))) v_skip)
  (v_seq (v_if (v_bop (v_andT (v_teq hr.units (v_ix (fun _ _ => rfl) (v_var 0) v_int) v_str) (v_and1 (v_teq hr.units (v_ix (fun _ _ => rfl) (v_var 0) v_int) (v_tup v_nil))))) (v_one (v_ret (v_add v_str (v_ix (fun _ _ => rfl) (v_var 0) v_int)))) v_skip)
  (v_seq (v_if (v_teq hr.units (v_ix (fun _ _ => rfl) (v_var 0) v_int) v_str) (v_one (v_ret (v_add (v_add (v_add (v_add v_str (v_ix (fun _ _ => rfl) (v_var 0) v_int)) v_str) (v_join v_str (v_comp (own := [(("_law_atom" : Str), 1)]) rfl nd (s_seq (v_ix (fun _ _ => rfl) (v_var 0) v_int)) (blk_is (N := ["_law_tree_here", "_law_atom"]) (sc := defScope s_l_leaf_written) (by decide +kernel)) (go_name 1) (fun _ _ _ _ _ => pg_name (i := 1) nd rfl (by first | exact Or.inl rfl | exact Or.inr rfl)) (fun _ _ _ _ _ => v_ifs0) (fun _ _ _ _ _ => (v_call G.f_l_leaf_written hr takes0 (v_cons (v_var 1) v_nil) (alen_cons alen_nil)))))) v_str))) v_skip)
  (v_one (v_ret (v_add (v_add (v_add (v_add v_str (v_ix (fun _ _ => rfl) (v_var 0) v_int)) v_str) (v_ix (fun _ _ => rfl) (v_var 0) v_int)) v_str)))))))
theorem k_l_leaf_written (Tx : Txt w K mg) (G : All P w K mg base n) : FnAt P w K mg base (rx0 K) (n + 1) "_law_leaf_written" ["_law_tree_here"] (C (n + 1) .l_leaf_written) := by
  obtain ⟨g, fd, h1, F, h2⟩ := Tx.d_l_leaf_written
  exact ⟨g, fd, h1, F.kp, h2, kk_l_leaf_written F Tx G⟩
theorem sc_l_written : FnScope ["_law_tree_here", "_law_one", "_law_ahead", "_law_sign", "_law_word_here"] ["_law_tree_here"] (defScope s_l_written) := ⟨rfl, rfl, rfl, by decide +kernel, rfl, by decide +kernel, by decide +kernel⟩
theorem kk_l_written {g : Addr} {fd : FuncData} (F : Fun K "_law_written" "_law_written" s_l_written g fd) (Tx : Txt w K mg) (G : All P w K mg base n) : FnOk P w K mg base (L2.CX P w) (n + 1) g fd ["_law_tree_here"] (spF K (rx0 K) 1 (C (n + 1) .l_written)) := by
  have nd := sc_l_written.nd
  refine fn_ok F sc_l_written (n := 5) rfl fun cdv A outer s H E hr => ?_
  have tk := takes_of (X := cxOf (L2.CX P w) P w K mg base ["_law_tree_here", "_law_one", "_law_ahead", "_law_sign", "_law_word_here"] "_law_written" (defScope s_l_written) g cdv A outer s H E) rfl rfl rfl rfl
  exact (v_seq (v_if (v_teq hr.units (v_ix (fun _ _ => rfl) (v_var 0) v_int) v_str) (v_one (v_ret (v_add (v_add v_str (v_call G.f_l_written hr tk (v_cons (v_ix (fun _ _ => rfl) (v_var 0) v_int) v_nil) (alen_cons alen_nil))) v_str))) v_skip)
  (v_seq (v_if (v_teq hr.units (v_ix (fun _ _ => rfl) (v_var 0) v_int) v_str) (v_seq (v_set 1 nd (v_add (v_add (v_add v_str (v_ix (fun _ _ => rfl) (v_var 0) v_int)) v_str) (v_call G.f_l_written hr tk (v_cons (v_ix (fun _ _ => rfl) (v_var 0) v_int) v_nil) (alen_cons alen_nil))))
  (v_one (v_ret (v_add (v_add (v_add (v_var 1) v_str) (v_call G.f_l_written hr tk (v_cons (v_ix (fun _ _ => rfl) (v_var 0) v_int) v_nil) (alen_cons alen_nil))) v_str)))) v_skip)
  (v_seq (v_if (v_teq hr.units (v_ix (fun _ _ => rfl) (v_var 0) v_int) v_str) (v_seq (v_set 2 nd (v_add (v_add v_str (v_call G.f_l_written hr tk (v_cons (v_ix (fun _ _ => rfl) (v_var 0) v_int) v_nil) (alen_cons alen_nil))) v_str))
  (v_seq (v_set 2 nd (v_add (v_var 2) (v_call G.f_l_written hr tk (v_cons (v_ix (fun _ _ => rfl) (v_var 0) v_int) v_nil) (alen_cons alen_nil))))
  (v_one (v_ret (v_add (v_add (v_add (v_var 2) v_str) (v_call G.f_l_written hr tk (v_cons (v_ix (fun _ _ => rfl) (v_var 0) v_int) v_nil) (alen_cons alen_nil))) v_str))))) v_skip)
  (v_seq (v_for (passes_of rfl) rfl (s_seq (v_lst (v_cons (v_tup (v_cons v_str (v_cons v_str v_nil))) (v_cons (v_tup (v_cons v_str (v_cons v_str v_nil))) (v_cons (v_tup (v_cons v_str (v_cons v_str v_nil))) (v_cons (v_tup (v_cons v_str (v_cons v_str v_nil))) v_nil)))))) (g_tup rfl (gs_cons 3 nd (gs_cons 4 nd gs_nil))) (v_one (v_if (v_teq hr.units (v_ix (fun _ _ => rfl) (v_var 0) v_int) (v_var 4)) (v_seq (v_set 1 nd (v_call G.f_l_written hr tk (v_cons (v_ix (fun _ _ => rfl) (v_var 0) v_int) v_nil) (alen_cons alen_nil)))
  (v_one (v_ret (v_add (v_add (v_add (v_add (v_add (v_add v_str (v_var 1)) v_str) (v_var 3)) v_str) (v_call G.f_l_written hr tk (v_cons (v_ix (fun _ _ => rfl) (v_var 0) v_int) v_nil) (alen_cons alen_nil))) v_str)))) v_skip)))
  (v_one (v_ret (v_call G.f_l_leaf_written hr tk (v_cons (v_var 0) v_nil) (alen_cons alen_nil))))))))
theorem k_l_written (Tx : Txt w K mg) (G : All P w K mg base n) : FnAt P w K mg base (rx0 K) (n + 1) "_law_written" ["_law_tree_here"] (C (n + 1) .l_written) := by
  obtain ⟨g, fd, h1, F, h2⟩ := Tx.d_l_written
  exact ⟨g, fd, h1, F.kp, h2, kk_l_written F Tx G⟩
theorem sc_l_same : FnScope ["_law_found", "_law_due", "_law_one", "_law_other"] ["_law_found", "_law_due"] (defScope s_l_same) := ⟨rfl, rfl, rfl, by decide +kernel, rfl, by decide +kernel, by decide +kernel⟩
theorem kk_l_same {g : Addr} {fd : FuncData} (F : Fun K "_law_same" "_law_same" s_l_same g fd) (Tx : Txt w K mg) (G : All P w K mg base n) : FnOk P w K mg base (L2.CX P w) (n + 1) g fd ["_law_found", "_law_due"] (spF K (rx0 K) 2 (C (n + 1) .l_same)) := by
  have nd := sc_l_same.nd
  refine fn_ok F sc_l_same (n := 4) rfl fun cdv A outer s H E hr => ?_
  have tk := takes_of (X := cxOf (L2.CX P w) P w K mg base ["_law_found", "_law_due", "_law_one", "_law_other"] "_law_same" (defScope s_l_same) g cdv A outer s H E) rfl rfl rfl rfl
  exact (v_seq (v_if (v_tst (v_isi (c := "tuple") (by decide) (by decide +kernel) Tx.z_isinstance Tx.z_tuple (v_var 1))) (v_seq (v_if (v_bop (v_orT (v_notT (v_tst (v_isi (c := "tuple") (by decide) (by decide +kernel) Tx.z_isinstance Tx.z_tuple (v_var 0)))) (v_or1 (v_tne hr.units (v_len Tx.z_len (v_var 0)) (v_len Tx.z_len (v_var 1)))))) (v_one (v_ret v_bl)) v_skip)
  (v_seq (v_for (passes_of rfl) rfl (s_zip Tx.z_zip (v_var 0) (v_var 1)) (g_tup rfl (gs_cons 2 nd (gs_cons 3 nd gs_nil))) (v_one (v_if (v_notT (v_tst (v_call G.f_l_same hr tk (v_cons (v_var 2) (v_cons (v_var 3) v_nil)) (alen_cons (alen_cons alen_nil))))) (v_one (v_ret v_bl)) v_skip)))
  (v_one (v_ret v_bl)))) v_skip)
  (v_seq (v_if (v_tst (v_isi (c := "str") (by decide) (by decide +kernel) Tx.z_isinstance Tx.z_str (v_var 1))) (v_one (v_ret (v_andE (v_isi (c := "str") (by decide) (by decide +kernel) Tx.z_isinstance Tx.z_str (v_var 0)) (v_oneE (v_eq hr.units (v_var 0) (v_var 1)))))) v_skip)
  (v_one (v_ret (v_andE (v_isi (c := "int") (by decide) (by decide +kernel) Tx.z_isinstance Tx.z_int (v_var 0)) (v_andE (v_notE (v_isi (c := "bool") (by decide) (by decide +kernel) Tx.z_isinstance Tx.z_bool (v_var 0))) (v_oneE (v_eq hr.units (v_var 0) (v_var 1)))))))))
theorem k_l_same (Tx : Txt w K mg) (G : All P w K mg base n) : FnAt P w K mg base (rx0 K) (n + 1) "_law_same" ["_law_found", "_law_due"] (C (n + 1) .l_same) := by
  obtain ⟨g, fd, h1, F, h2⟩ := Tx.d_l_same
  exact ⟨g, fd, h1, F.kp, h2, kk_l_same F Tx G⟩
theorem sc_law : FnScope ["_law_script", "_law_trees", "_law_told", "_law_tree_here", "_law_text", "_law_great_here"] ["_law_script"] (defScope s_law) := ⟨rfl, rfl, rfl, by decide +kernel, rfl, by decide +kernel, by decide +kernel⟩
theorem kk_law {g : Addr} {fd : FuncData} (F : Fun K "law" "law" s_law g fd) (Tx : Txt w K mg) (G : All P w K mg base n) : FnOk P w K mg base (L2.CX P w) (n + 1) g fd ["_law_script"] (spF K (rx0 K) 1 (C (n + 1) .law)) := by
  have nd := sc_law.nd
  refine fn_ok F sc_law (n := 6) rfl fun cdv A outer s H E hr => ?_
  have tk := takes_of (X := cxOf (L2.CX P w) P w K mg base ["_law_script", "_law_trees", "_law_told", "_law_tree_here", "_law_text", "_law_great_here"] "law" (defScope s_law) g cdv A outer s H E) rfl rfl rfl rfl
  exact (v_seq (v_set 1 nd (v_lstR (v_cons (v_call G.f_l_tree hr tk (v_cons (v_slice (v_var 0) (v_po1 v_int) (v_po1 v_int)) (v_cons v_int (v_cons v_bl v_nil))) (alen_cons (alen_cons (alen_cons alen_nil)))) (v_cons (v_call G.f_l_tree hr tk (v_cons (v_slice (v_var 0) (v_po1 v_int) (v_po1 v_int)) (v_cons v_int (v_cons v_bl v_nil))) (alen_cons (alen_cons (alen_cons alen_nil)))) v_nil))))
  (v_seq (v_app (v_var 1) (v_call G.f_l_tree hr tk (v_cons (v_slice (v_var 0) (v_po1 v_int) (v_po1 v_int)) (v_cons v_int (v_cons v_bl v_nil))) (alen_cons (alen_cons (alen_cons alen_nil)))))
  (v_seq (v_app (v_var 1) (v_call G.f_l_nested hr tk (v_cons (v_call G.f_l_cell_at hr tk (v_cons (v_var 0) (v_cons v_int v_nil)) (alen_cons (alen_cons alen_nil))) (v_cons (v_call G.f_l_cell_at hr tk (v_cons (v_var 0) (v_cons v_int v_nil)) (alen_cons (alen_cons alen_nil))) v_nil)) (alen_cons (alen_cons alen_nil))))
  (v_seq (v_set 2 nd (v_lstR v_nil))
  (v_seq (v_for (passes_of rfl) rfl (s_seq (v_var 1)) (g_name 3 nd) (v_seq (v_set 4 nd (v_call G.f_p_shown hr tk (v_cons (v_var 3) v_nil) (alen_cons alen_nil)))
  (v_seq (v_if (v_bop (v_orT (v_notT (v_tst (v_isi (c := "str") (by decide) (by decide +kernel) Tx.z_isinstance Tx.z_str (v_var 4)))) (v_or1 (v_tne hr.units (v_var 4) (v_call G.f_l_written hr tk (v_cons (v_var 3) v_nil) (alen_cons alen_nil)))))) (v_one (v_ret v_bl)) v_skip)
  (v_seq (v_if (v_notT (v_tst (v_call G.f_l_same hr tk (v_cons (v_call G.f_p_read hr tk (v_cons (v_var 4) v_nil) (alen_cons alen_nil)) (v_cons (v_var 3) v_nil)) (alen_cons (alen_cons alen_nil))))) (v_one (v_ret v_bl)) v_skip)
  (v_one (v_app (v_var 2) (v_var 4)))))))
  (v_seq (v_set 5 nd (v_call G.f_l_great hr tk (v_cons (v_fdiv (v_call G.f_l_cell_at hr tk (v_cons (v_var 0) (v_cons v_int v_nil)) (alen_cons (alen_cons alen_nil))) v_int) v_nil) (alen_cons alen_nil)))
  (v_seq (v_if (v_bop (v_orT (v_notT (v_tst (v_isi (c := "str") (by decide) (by decide +kernel) Tx.z_isinstance Tx.z_str (v_call G.f_p_shown hr tk (v_cons (v_var 5) v_nil) (alen_cons alen_nil))))) (v_or1 (v_tne hr.units (v_call G.f_p_shown hr tk (v_cons (v_var 5) v_nil) (alen_cons alen_nil)) (v_call G.f_l_written hr tk (v_cons (v_var 5) v_nil) (alen_cons alen_nil)))))) (v_one (v_ret v_bl)) v_skip)
  (v_seq (v_for (passes_of rfl) rfl (s_zip Tx.z_zip (v_var 2) (v_var 1)) (g_tup rfl (gs_cons 4 nd (gs_cons 3 nd gs_nil))) (v_one (v_if (v_bop (v_orT (v_tne hr.units (v_call G.f_p_shown hr tk (v_cons (v_var 3) v_nil) (alen_cons alen_nil)) (v_var 4)) (v_or1 (v_notT (v_tst (v_call G.f_l_same hr tk (v_cons (v_call G.f_p_read hr tk (v_cons (v_var 4) v_nil) (alen_cons alen_nil)) (v_cons (v_var 3) v_nil)) (alen_cons (alen_cons alen_nil)))))))) (v_one (v_ret v_bl)) v_skip)))
  (v_one (v_ret v_bl))))))))))
theorem k_law (Tx : Txt w K mg) (G : All P w K mg base n) : FnAt P w K mg base (rx0 K) (n + 1) "law" ["_law_script"] (C (n + 1) .law) := by
  obtain ⟨g, fd, h1, F, h2⟩ := Tx.d_law
  exact ⟨g, fd, h1, F.kp, h2, kk_law F Tx G⟩
theorem all_ok (Tx : Txt w K mg) : ∀ n : Nat, All P w K mg base n
  | 0 => by
    refine ⟨?_, ?_, ?_, ?_, ?_, ?_, ?_, ?_, ?_, ?_, ?_, ?_, ?_, ?_, ?_, ?_, ?_, ?_, ?_, ?_, ?_, ?_, ?_, ?_, ?_, ?_⟩
    · obtain ⟨g, fd, h1, F, h2⟩ := Tx.d_p_parts
      exact ⟨g, fd, h1, F.kp, h2, fn_none fun _ _ => rfl⟩
    · obtain ⟨g, fd, h1, F, h2⟩ := Tx.d_p_bounded
      exact ⟨g, fd, h1, F.kp, h2, fn_none fun _ _ => rfl⟩
    · obtain ⟨g, fd, h1, F, h2⟩ := Tx.d_p_place_past
      exact ⟨g, fd, h1, F.kp, h2, fn_none fun _ _ => rfl⟩
    · obtain ⟨g, fd, h1, F, h2⟩ := Tx.d_p_run_of
      exact ⟨g, fd, h1, F.kp, h2, fn_none fun _ _ => rfl⟩
    · obtain ⟨g, fd, h1, F, h2⟩ := Tx.d_p_word_at
      exact ⟨g, fd, h1, F.kp, h2, fn_none fun _ _ => rfl⟩
    · obtain ⟨g, fd, h1, F, h2⟩ := Tx.d_p_leaf_at
      exact ⟨g, fd, h1, F.kp, h2, fn_none fun _ _ => rfl⟩
    · obtain ⟨g, fd, h1, F, h2⟩ := Tx.d_p_atom_at
      exact ⟨g, fd, h1, F.kp, h2, fn_none fun _ _ => rfl⟩
    · obtain ⟨g, fd, h1, F, h2⟩ := Tx.d_p_gap_at
      exact ⟨g, fd, h1, F.kp, h2, fn_none fun _ _ => rfl⟩
    · obtain ⟨g, fd, h1, F, h2⟩ := Tx.d_p_let_at
      exact ⟨g, fd, h1, F.kp, h2, fn_none fun _ _ => rfl⟩
    · obtain ⟨g, fd, h1, F, h2⟩ := Tx.d_p_choice_at
      exact ⟨g, fd, h1, F.kp, h2, fn_none fun _ _ => rfl⟩
    · obtain ⟨g, fd, h1, F, h2⟩ := Tx.d_p_inner_at
      exact ⟨g, fd, h1, F.kp, h2, fn_none fun _ _ => rfl⟩
    · obtain ⟨g, fd, h1, F, h2⟩ := Tx.d_p_tree_at
      exact ⟨g, fd, h1, F.kp, h2, fn_none fun _ _ => rfl⟩
    · obtain ⟨g, fd, h1, F, h2⟩ := Tx.d_p_whole
      exact ⟨g, fd, h1, F.kp, h2, fn_none fun _ _ => rfl⟩
    · obtain ⟨g, fd, h1, F, h2⟩ := Tx.d_p_read
      exact ⟨g, fd, h1, F.kp, h2, fn_none fun _ _ => rfl⟩
    · obtain ⟨g, fd, h1, F, h2⟩ := Tx.d_p_shown_leaf
      exact ⟨g, fd, h1, F.kp, h2, fn_none fun _ _ => rfl⟩
    · obtain ⟨g, fd, h1, F, h2⟩ := Tx.d_p_shown
      exact ⟨g, fd, h1, F.kp, h2, fn_none fun _ _ => rfl⟩
    · obtain ⟨g, fd, h1, F, h2⟩ := Tx.d_l_cell_at
      exact ⟨g, fd, h1, F.kp, h2, fn_none fun _ _ => rfl⟩
    · obtain ⟨g, fd, h1, F, h2⟩ := Tx.d_l_word
      exact ⟨g, fd, h1, F.kp, h2, fn_none fun _ _ => rfl⟩
    · obtain ⟨g, fd, h1, F, h2⟩ := Tx.d_l_leaf
      exact ⟨g, fd, h1, F.kp, h2, fn_none fun _ _ => rfl⟩
    · obtain ⟨g, fd, h1, F, h2⟩ := Tx.d_l_tree
      exact ⟨g, fd, h1, F.kp, h2, fn_none fun _ _ => rfl⟩
    · obtain ⟨g, fd, h1, F, h2⟩ := Tx.d_l_great
      exact ⟨g, fd, h1, F.kp, h2, fn_none fun _ _ => rfl⟩
    · obtain ⟨g, fd, h1, F, h2⟩ := Tx.d_l_nested
      exact ⟨g, fd, h1, F.kp, h2, fn_none fun _ _ => rfl⟩
    · obtain ⟨g, fd, h1, F, h2⟩ := Tx.d_l_leaf_written
      exact ⟨g, fd, h1, F.kp, h2, fn_none fun _ _ => rfl⟩
    · obtain ⟨g, fd, h1, F, h2⟩ := Tx.d_l_written
      exact ⟨g, fd, h1, F.kp, h2, fn_none fun _ _ => rfl⟩
    · obtain ⟨g, fd, h1, F, h2⟩ := Tx.d_l_same
      exact ⟨g, fd, h1, F.kp, h2, fn_none fun _ _ => rfl⟩
    · obtain ⟨g, fd, h1, F, h2⟩ := Tx.d_law
      exact ⟨g, fd, h1, F.kp, h2, fn_none fun _ _ => rfl⟩
  | n + 1 => by
    have G := all_ok Tx n
    exact ⟨k_p_parts Tx G, k_p_bounded Tx G, k_p_place_past Tx G, k_p_run_of Tx G, k_p_word_at Tx G, k_p_leaf_at Tx G, k_p_atom_at Tx G, k_p_gap_at Tx G, k_p_let_at Tx G, k_p_choice_at Tx G, k_p_inner_at Tx G, k_p_tree_at Tx G, k_p_whole Tx G, k_p_read Tx G, k_p_shown_leaf Tx G, k_p_shown Tx G, k_l_cell_at Tx G, k_l_word Tx G, k_l_leaf Tx G, k_l_tree Tx G, k_l_great Tx G, k_l_nested Tx G, k_l_leaf_written Tx G, k_l_written Tx G, k_l_same Tx G, k_law Tx G⟩
end
end Y
namespace Y
open PySem L2 PyProof.Rows
def spLaw (K : PySem.W.Frag) : Sp := fun vs H Q _ => ∃ (a : Addr) (ns : List Int), vs = [.ref a] ∧ SqL K H a (ns.map V.int) ∧ ns.length ≤ 63 ∧ ∀ H', Q (.bl true) H'
theorem rvs_ints {K : PySem.W.Frag} {ρ : List Addr} {H : Hp} : ∀ ns : List Int, RVs K ρ H (ns.map DV.int) (ns.map V.int)
  | [] => by simp [RVs]
  | n :: ns => RVs.cons (by simp [RV]) (rvs_ints ns)
theorem law_ok {P : Program} {w : World} {K : PySem.W.Frag} {mg : Str → Option Value} {base : Heap} (L : LawTrue) (Tx : Txt w K mg) {fa : Addr} {fd : FuncData} (F : Fun K "law" "law" s_law fa fd) : FnOk P w K mg base (L2.CX P w) 150 fa fd ["_law_script"] (spLaw K) := by
  refine (kk_law (n := 149) F Tx (all_ok Tx _)).imp fun vs H Q E ⟨a, ns, ev, hs, hl, q⟩ => ?_
  refine ⟨[], [.rol (ns.map DV.int)], [], by rw [ev]; rfl, ?_, ⟨List.nodup_nil, rfl, fun k a o h => by simp at h⟩, ?_⟩
  · rw [ev]
    refine rvs1 ?_
    simp only [RV]
    exact ⟨a, _, rfl, RolAt.of hs, rvs_ints ns⟩
  · have e := L ns hl
    show FnPost K (rx0 K) [] H Q E (C 150 .law [.rol (ns.map DV.int)] [])
    rw [e]
    intro H' v _ _ r
    rw [r.bl]
    exact q H'
theorem all_mk (L : LawTrue) {l : PySem.W.OpenLaw} {w : World} {K : PySem.W.Frag} {h : Heap} {mg : Str → Option Value} {fa : Addr} (X : K.In h) (G : h.Ns mainGlobals mg) (hfa : mg "law" = some (.ref fa))
    {t_FIGURES : Tok} (ca_FIGURES : PySem.W.nsIn K mainGlobals "FIGURES" = some (some (.str "0123456789" t_FIGURES)))
    {tLEAVES_0 tLEAVES_1 tLEAVES_2 tLEAVES_3 tLEAVES_4 : Tok} {a_LEAVES : Addr} {dd_LEAVES : Option Addr} {nn_LEAVES : Nat} {sl_LEAVES : Array (Option Value)} (ca_LEAVES : PySem.W.nsIn K mainGlobals "LEAVES" = some (some (.ref a_LEAVES))) (cl_LEAVES : K.lookup a_LEAVES = some ⟨.type "tuple", dd_LEAVES, .seq #[.str "num" tLEAVES_0, .str "name" tLEAVES_1, .str "ask" tLEAVES_2, .str "stop" tLEAVES_3, .str "gap" tLEAVES_4] nn_LEAVES, sl_LEAVES⟩)
    {t_LETTERS : Tok} (ca_LETTERS : PySem.W.nsIn K mainGlobals "LETTERS" = some (some (.str "abcdefghijklmnopqrstuvwxyz" t_LETTERS)))
    {tWORDS_0 tWORDS_1 tWORDS_2 tWORDS_3 tWORDS_4 tWORDS_5 tWORDS_6 tWORDS_7 tWORDS_8 tWORDS_9 tWORDS_10 : Tok} {a_WORDS : Addr} {dd_WORDS : Option Addr} {nn_WORDS : Nat} {sl_WORDS : Array (Option Value)} (ca_WORDS : PySem.W.nsIn K mainGlobals "WORDS" = some (some (.ref a_WORDS))) (cl_WORDS : K.lookup a_WORDS = some ⟨.type "tuple", dd_WORDS, .seq #[.str "let" tWORDS_0, .str "in" tWORDS_1, .str "if" tWORDS_2, .str "then" tWORDS_3, .str "else" tWORDS_4, .str "say" tWORDS_5, .str "ask" tWORDS_6, .str "stop" tWORDS_7, .str "where" tWORDS_8, .str "quiet" tWORDS_9, .str "number" tWORDS_10] nn_WORDS, sl_WORDS⟩)
    {tBETWEEN_0 tBETWEEN_1 tBETWEEN_2 tBETWEEN_3 tBETWEEN_4 tBETWEEN_5 tBETWEEN_6 tBETWEEN_7 : Tok} {a_BETWEEN : Addr} {es_BETWEEN : Array DictEntry} {nn_BETWEEN : Nat} (ca_BETWEEN : PySem.W.nsIn K mainGlobals "BETWEEN" = some (some (.ref a_BETWEEN))) (cl_BETWEEN : K.lookup a_BETWEEN = some ⟨.type "dict", none, .dict es_BETWEEN nn_BETWEEN, #[]⟩) (ke_BETWEEN : es_BETWEEN.toList = List.map (entOf w.params) [(("add" : Str), tBETWEEN_0, (" + " : Str), tBETWEEN_1), (("sub" : Str), tBETWEEN_2, (" - " : Str), tBETWEEN_3), (("mul" : Str), tBETWEEN_4, (" * " : Str), tBETWEEN_5), (("then" : Str), tBETWEEN_6, (" ; " : Str), tBETWEEN_7)]) (lo_BETWEEN : (a_BETWEEN == sysModules) = false)
    {tSIGNS_0 tSIGNS_1 tSIGNS_2 tSIGNS_3 tSIGNS_4 tSIGNS_5 tSIGNS_6 tSIGNS_7 : Tok} {a_SIGNS : Addr} {es_SIGNS : Array DictEntry} {nn_SIGNS : Nat} (ca_SIGNS : PySem.W.nsIn K mainGlobals "SIGNS" = some (some (.ref a_SIGNS))) (cl_SIGNS : K.lookup a_SIGNS = some ⟨.type "dict", none, .dict es_SIGNS nn_SIGNS, #[]⟩) (ke_SIGNS : es_SIGNS.toList = List.map (entOf w.params) [((" + " : Str), tSIGNS_0, ("add" : Str), tSIGNS_1), ((" - " : Str), tSIGNS_2, ("sub" : Str), tSIGNS_3), ((" * " : Str), tSIGNS_4, ("mul" : Str), tSIGNS_5), ((" ; " : Str), tSIGNS_6, ("then" : Str), tSIGNS_7)]) (lo_SIGNS : (a_SIGNS == sysModules) = false)
    {f_p_parts : Addr} {od_p_parts an_p_parts : Option Addr} {sl_p_parts : Array (Option Value)} {oc_p_parts kV_p_parts dc_p_parts pm_p_parts cd_p_parts ct_p_parts : Value} (a_p_parts : PySem.W.nsIn K mainGlobals "parts" = some (some (.ref f_p_parts))) (l_p_parts : K.lookup f_p_parts = some ⟨oc_p_parts, od_p_parts, .func (PySem.W.fnOf "parts" "parts" (defArgs s_p_parts) (defBody s_p_parts) (defScope s_p_parts) .none kV_p_parts dc_p_parts pm_p_parts an_p_parts cd_p_parts ct_p_parts), sl_p_parts⟩) (e_p_parts : PySem.W.codeIn K cd_p_parts "parts" = true) (k_p_parts : PySem.W.keepIn K (.ref f_p_parts) = true)
    {f_p_bounded : Addr} {od_p_bounded an_p_bounded : Option Addr} {sl_p_bounded : Array (Option Value)} {oc_p_bounded kV_p_bounded dc_p_bounded pm_p_bounded cd_p_bounded ct_p_bounded : Value} (a_p_bounded : PySem.W.nsIn K mainGlobals "bounded" = some (some (.ref f_p_bounded))) (l_p_bounded : K.lookup f_p_bounded = some ⟨oc_p_bounded, od_p_bounded, .func (PySem.W.fnOf "bounded" "bounded" (defArgs s_p_bounded) (defBody s_p_bounded) (defScope s_p_bounded) .none kV_p_bounded dc_p_bounded pm_p_bounded an_p_bounded cd_p_bounded ct_p_bounded), sl_p_bounded⟩) (e_p_bounded : PySem.W.codeIn K cd_p_bounded "bounded" = true) (k_p_bounded : PySem.W.keepIn K (.ref f_p_bounded) = true)
    {f_p_place_past : Addr} {od_p_place_past an_p_place_past : Option Addr} {sl_p_place_past : Array (Option Value)} {oc_p_place_past kV_p_place_past dc_p_place_past pm_p_place_past cd_p_place_past ct_p_place_past : Value} (a_p_place_past : PySem.W.nsIn K mainGlobals "place_past" = some (some (.ref f_p_place_past))) (l_p_place_past : K.lookup f_p_place_past = some ⟨oc_p_place_past, od_p_place_past, .func (PySem.W.fnOf "place_past" "place_past" (defArgs s_p_place_past) (defBody s_p_place_past) (defScope s_p_place_past) .none kV_p_place_past dc_p_place_past pm_p_place_past an_p_place_past cd_p_place_past ct_p_place_past), sl_p_place_past⟩) (e_p_place_past : PySem.W.codeIn K cd_p_place_past "place_past" = true) (k_p_place_past : PySem.W.keepIn K (.ref f_p_place_past) = true)
    {f_p_run_of : Addr} {od_p_run_of an_p_run_of : Option Addr} {sl_p_run_of : Array (Option Value)} {oc_p_run_of kV_p_run_of dc_p_run_of pm_p_run_of cd_p_run_of ct_p_run_of : Value} (a_p_run_of : PySem.W.nsIn K mainGlobals "run_of" = some (some (.ref f_p_run_of))) (l_p_run_of : K.lookup f_p_run_of = some ⟨oc_p_run_of, od_p_run_of, .func (PySem.W.fnOf "run_of" "run_of" (defArgs s_p_run_of) (defBody s_p_run_of) (defScope s_p_run_of) .none kV_p_run_of dc_p_run_of pm_p_run_of an_p_run_of cd_p_run_of ct_p_run_of), sl_p_run_of⟩) (e_p_run_of : PySem.W.codeIn K cd_p_run_of "run_of" = true) (k_p_run_of : PySem.W.keepIn K (.ref f_p_run_of) = true)
    {f_p_word_at : Addr} {od_p_word_at an_p_word_at : Option Addr} {sl_p_word_at : Array (Option Value)} {oc_p_word_at kV_p_word_at dc_p_word_at pm_p_word_at cd_p_word_at ct_p_word_at : Value} (a_p_word_at : PySem.W.nsIn K mainGlobals "word_at" = some (some (.ref f_p_word_at))) (l_p_word_at : K.lookup f_p_word_at = some ⟨oc_p_word_at, od_p_word_at, .func (PySem.W.fnOf "word_at" "word_at" (defArgs s_p_word_at) (defBody s_p_word_at) (defScope s_p_word_at) .none kV_p_word_at dc_p_word_at pm_p_word_at an_p_word_at cd_p_word_at ct_p_word_at), sl_p_word_at⟩) (e_p_word_at : PySem.W.codeIn K cd_p_word_at "word_at" = true) (k_p_word_at : PySem.W.keepIn K (.ref f_p_word_at) = true)
    {f_p_leaf_at : Addr} {od_p_leaf_at an_p_leaf_at : Option Addr} {sl_p_leaf_at : Array (Option Value)} {oc_p_leaf_at kV_p_leaf_at dc_p_leaf_at pm_p_leaf_at cd_p_leaf_at ct_p_leaf_at : Value} (a_p_leaf_at : PySem.W.nsIn K mainGlobals "leaf_at" = some (some (.ref f_p_leaf_at))) (l_p_leaf_at : K.lookup f_p_leaf_at = some ⟨oc_p_leaf_at, od_p_leaf_at, .func (PySem.W.fnOf "leaf_at" "leaf_at" (defArgs s_p_leaf_at) (defBody s_p_leaf_at) (defScope s_p_leaf_at) .none kV_p_leaf_at dc_p_leaf_at pm_p_leaf_at an_p_leaf_at cd_p_leaf_at ct_p_leaf_at), sl_p_leaf_at⟩) (e_p_leaf_at : PySem.W.codeIn K cd_p_leaf_at "leaf_at" = true) (k_p_leaf_at : PySem.W.keepIn K (.ref f_p_leaf_at) = true)
    {f_p_atom_at : Addr} {od_p_atom_at an_p_atom_at : Option Addr} {sl_p_atom_at : Array (Option Value)} {oc_p_atom_at kV_p_atom_at dc_p_atom_at pm_p_atom_at cd_p_atom_at ct_p_atom_at : Value} (a_p_atom_at : PySem.W.nsIn K mainGlobals "atom_at" = some (some (.ref f_p_atom_at))) (l_p_atom_at : K.lookup f_p_atom_at = some ⟨oc_p_atom_at, od_p_atom_at, .func (PySem.W.fnOf "atom_at" "atom_at" (defArgs s_p_atom_at) (defBody s_p_atom_at) (defScope s_p_atom_at) .none kV_p_atom_at dc_p_atom_at pm_p_atom_at an_p_atom_at cd_p_atom_at ct_p_atom_at), sl_p_atom_at⟩) (e_p_atom_at : PySem.W.codeIn K cd_p_atom_at "atom_at" = true) (k_p_atom_at : PySem.W.keepIn K (.ref f_p_atom_at) = true)
    {f_p_gap_at : Addr} {od_p_gap_at an_p_gap_at : Option Addr} {sl_p_gap_at : Array (Option Value)} {oc_p_gap_at kV_p_gap_at dc_p_gap_at pm_p_gap_at cd_p_gap_at ct_p_gap_at : Value} (a_p_gap_at : PySem.W.nsIn K mainGlobals "gap_at" = some (some (.ref f_p_gap_at))) (l_p_gap_at : K.lookup f_p_gap_at = some ⟨oc_p_gap_at, od_p_gap_at, .func (PySem.W.fnOf "gap_at" "gap_at" (defArgs s_p_gap_at) (defBody s_p_gap_at) (defScope s_p_gap_at) .none kV_p_gap_at dc_p_gap_at pm_p_gap_at an_p_gap_at cd_p_gap_at ct_p_gap_at), sl_p_gap_at⟩) (e_p_gap_at : PySem.W.codeIn K cd_p_gap_at "gap_at" = true) (k_p_gap_at : PySem.W.keepIn K (.ref f_p_gap_at) = true)
    {f_p_let_at : Addr} {od_p_let_at an_p_let_at : Option Addr} {sl_p_let_at : Array (Option Value)} {oc_p_let_at kV_p_let_at dc_p_let_at pm_p_let_at cd_p_let_at ct_p_let_at : Value} (a_p_let_at : PySem.W.nsIn K mainGlobals "let_at" = some (some (.ref f_p_let_at))) (l_p_let_at : K.lookup f_p_let_at = some ⟨oc_p_let_at, od_p_let_at, .func (PySem.W.fnOf "let_at" "let_at" (defArgs s_p_let_at) (defBody s_p_let_at) (defScope s_p_let_at) .none kV_p_let_at dc_p_let_at pm_p_let_at an_p_let_at cd_p_let_at ct_p_let_at), sl_p_let_at⟩) (e_p_let_at : PySem.W.codeIn K cd_p_let_at "let_at" = true) (k_p_let_at : PySem.W.keepIn K (.ref f_p_let_at) = true)
    {f_p_choice_at : Addr} {od_p_choice_at an_p_choice_at : Option Addr} {sl_p_choice_at : Array (Option Value)} {oc_p_choice_at kV_p_choice_at dc_p_choice_at pm_p_choice_at cd_p_choice_at ct_p_choice_at : Value} (a_p_choice_at : PySem.W.nsIn K mainGlobals "choice_at" = some (some (.ref f_p_choice_at))) (l_p_choice_at : K.lookup f_p_choice_at = some ⟨oc_p_choice_at, od_p_choice_at, .func (PySem.W.fnOf "choice_at" "choice_at" (defArgs s_p_choice_at) (defBody s_p_choice_at) (defScope s_p_choice_at) .none kV_p_choice_at dc_p_choice_at pm_p_choice_at an_p_choice_at cd_p_choice_at ct_p_choice_at), sl_p_choice_at⟩) (e_p_choice_at : PySem.W.codeIn K cd_p_choice_at "choice_at" = true) (k_p_choice_at : PySem.W.keepIn K (.ref f_p_choice_at) = true)
    {f_p_inner_at : Addr} {od_p_inner_at an_p_inner_at : Option Addr} {sl_p_inner_at : Array (Option Value)} {oc_p_inner_at kV_p_inner_at dc_p_inner_at pm_p_inner_at cd_p_inner_at ct_p_inner_at : Value} (a_p_inner_at : PySem.W.nsIn K mainGlobals "inner_at" = some (some (.ref f_p_inner_at))) (l_p_inner_at : K.lookup f_p_inner_at = some ⟨oc_p_inner_at, od_p_inner_at, .func (PySem.W.fnOf "inner_at" "inner_at" (defArgs s_p_inner_at) (defBody s_p_inner_at) (defScope s_p_inner_at) .none kV_p_inner_at dc_p_inner_at pm_p_inner_at an_p_inner_at cd_p_inner_at ct_p_inner_at), sl_p_inner_at⟩) (e_p_inner_at : PySem.W.codeIn K cd_p_inner_at "inner_at" = true) (k_p_inner_at : PySem.W.keepIn K (.ref f_p_inner_at) = true)
    {f_p_tree_at : Addr} {od_p_tree_at an_p_tree_at : Option Addr} {sl_p_tree_at : Array (Option Value)} {oc_p_tree_at kV_p_tree_at dc_p_tree_at pm_p_tree_at cd_p_tree_at ct_p_tree_at : Value} (a_p_tree_at : PySem.W.nsIn K mainGlobals "tree_at" = some (some (.ref f_p_tree_at))) (l_p_tree_at : K.lookup f_p_tree_at = some ⟨oc_p_tree_at, od_p_tree_at, .func (PySem.W.fnOf "tree_at" "tree_at" (defArgs s_p_tree_at) (defBody s_p_tree_at) (defScope s_p_tree_at) .none kV_p_tree_at dc_p_tree_at pm_p_tree_at an_p_tree_at cd_p_tree_at ct_p_tree_at), sl_p_tree_at⟩) (e_p_tree_at : PySem.W.codeIn K cd_p_tree_at "tree_at" = true) (k_p_tree_at : PySem.W.keepIn K (.ref f_p_tree_at) = true)
    {f_p_whole : Addr} {od_p_whole an_p_whole : Option Addr} {sl_p_whole : Array (Option Value)} {oc_p_whole kV_p_whole dc_p_whole pm_p_whole cd_p_whole ct_p_whole : Value} (a_p_whole : PySem.W.nsIn K mainGlobals "whole" = some (some (.ref f_p_whole))) (l_p_whole : K.lookup f_p_whole = some ⟨oc_p_whole, od_p_whole, .func (PySem.W.fnOf "whole" "whole" (defArgs s_p_whole) (defBody s_p_whole) (defScope s_p_whole) .none kV_p_whole dc_p_whole pm_p_whole an_p_whole cd_p_whole ct_p_whole), sl_p_whole⟩) (e_p_whole : PySem.W.codeIn K cd_p_whole "whole" = true) (k_p_whole : PySem.W.keepIn K (.ref f_p_whole) = true)
    {f_p_read : Addr} {od_p_read an_p_read : Option Addr} {sl_p_read : Array (Option Value)} {oc_p_read kV_p_read dc_p_read pm_p_read cd_p_read ct_p_read : Value} (a_p_read : PySem.W.nsIn K mainGlobals "read" = some (some (.ref f_p_read))) (l_p_read : K.lookup f_p_read = some ⟨oc_p_read, od_p_read, .func (PySem.W.fnOf "read" "read" (defArgs s_p_read) (defBody s_p_read) (defScope s_p_read) .none kV_p_read dc_p_read pm_p_read an_p_read cd_p_read ct_p_read), sl_p_read⟩) (e_p_read : PySem.W.codeIn K cd_p_read "read" = true) (k_p_read : PySem.W.keepIn K (.ref f_p_read) = true)
    {f_p_shown_leaf : Addr} {od_p_shown_leaf an_p_shown_leaf : Option Addr} {sl_p_shown_leaf : Array (Option Value)} {oc_p_shown_leaf kV_p_shown_leaf dc_p_shown_leaf pm_p_shown_leaf cd_p_shown_leaf ct_p_shown_leaf : Value} (a_p_shown_leaf : PySem.W.nsIn K mainGlobals "shown_leaf" = some (some (.ref f_p_shown_leaf))) (l_p_shown_leaf : K.lookup f_p_shown_leaf = some ⟨oc_p_shown_leaf, od_p_shown_leaf, .func (PySem.W.fnOf "shown_leaf" "shown_leaf" (defArgs s_p_shown_leaf) (defBody s_p_shown_leaf) (defScope s_p_shown_leaf) .none kV_p_shown_leaf dc_p_shown_leaf pm_p_shown_leaf an_p_shown_leaf cd_p_shown_leaf ct_p_shown_leaf), sl_p_shown_leaf⟩) (e_p_shown_leaf : PySem.W.codeIn K cd_p_shown_leaf "shown_leaf" = true) (k_p_shown_leaf : PySem.W.keepIn K (.ref f_p_shown_leaf) = true)
    {f_p_shown : Addr} {od_p_shown an_p_shown : Option Addr} {sl_p_shown : Array (Option Value)} {oc_p_shown kV_p_shown dc_p_shown pm_p_shown cd_p_shown ct_p_shown : Value} (a_p_shown : PySem.W.nsIn K mainGlobals "shown" = some (some (.ref f_p_shown))) (l_p_shown : K.lookup f_p_shown = some ⟨oc_p_shown, od_p_shown, .func (PySem.W.fnOf "shown" "shown" (defArgs s_p_shown) (defBody s_p_shown) (defScope s_p_shown) .none kV_p_shown dc_p_shown pm_p_shown an_p_shown cd_p_shown ct_p_shown), sl_p_shown⟩) (e_p_shown : PySem.W.codeIn K cd_p_shown "shown" = true) (k_p_shown : PySem.W.keepIn K (.ref f_p_shown) = true)
    {f_l_cell_at : Addr} {od_l_cell_at an_l_cell_at : Option Addr} {sl_l_cell_at : Array (Option Value)} {oc_l_cell_at kV_l_cell_at dc_l_cell_at pm_l_cell_at cd_l_cell_at ct_l_cell_at : Value} (a_l_cell_at : PySem.W.nsIn K mainGlobals "_law_cell_at" = some (some (.ref f_l_cell_at))) (l_l_cell_at : K.lookup f_l_cell_at = some ⟨oc_l_cell_at, od_l_cell_at, .func (PySem.W.fnOf "_law_cell_at" "_law_cell_at" (defArgs s_l_cell_at) (defBody s_l_cell_at) (defScope s_l_cell_at) .none kV_l_cell_at dc_l_cell_at pm_l_cell_at an_l_cell_at cd_l_cell_at ct_l_cell_at), sl_l_cell_at⟩) (e_l_cell_at : PySem.W.codeIn K cd_l_cell_at "_law_cell_at" = true) (k_l_cell_at : PySem.W.keepIn K (.ref f_l_cell_at) = true)
    {f_l_word : Addr} {od_l_word an_l_word : Option Addr} {sl_l_word : Array (Option Value)} {oc_l_word kV_l_word dc_l_word pm_l_word cd_l_word ct_l_word : Value} (a_l_word : PySem.W.nsIn K mainGlobals "_law_word" = some (some (.ref f_l_word))) (l_l_word : K.lookup f_l_word = some ⟨oc_l_word, od_l_word, .func (PySem.W.fnOf "_law_word" "_law_word" (defArgs s_l_word) (defBody s_l_word) (defScope s_l_word) .none kV_l_word dc_l_word pm_l_word an_l_word cd_l_word ct_l_word), sl_l_word⟩) (e_l_word : PySem.W.codeIn K cd_l_word "_law_word" = true) (k_l_word : PySem.W.keepIn K (.ref f_l_word) = true)
    {f_l_leaf : Addr} {od_l_leaf an_l_leaf : Option Addr} {sl_l_leaf : Array (Option Value)} {oc_l_leaf kV_l_leaf dc_l_leaf pm_l_leaf cd_l_leaf ct_l_leaf : Value} (a_l_leaf : PySem.W.nsIn K mainGlobals "_law_leaf" = some (some (.ref f_l_leaf))) (l_l_leaf : K.lookup f_l_leaf = some ⟨oc_l_leaf, od_l_leaf, .func (PySem.W.fnOf "_law_leaf" "_law_leaf" (defArgs s_l_leaf) (defBody s_l_leaf) (defScope s_l_leaf) .none kV_l_leaf dc_l_leaf pm_l_leaf an_l_leaf cd_l_leaf ct_l_leaf), sl_l_leaf⟩) (e_l_leaf : PySem.W.codeIn K cd_l_leaf "_law_leaf" = true) (k_l_leaf : PySem.W.keepIn K (.ref f_l_leaf) = true)
    {f_l_tree : Addr} {od_l_tree an_l_tree : Option Addr} {sl_l_tree : Array (Option Value)} {oc_l_tree kV_l_tree dc_l_tree pm_l_tree cd_l_tree ct_l_tree : Value} (a_l_tree : PySem.W.nsIn K mainGlobals "_law_tree" = some (some (.ref f_l_tree))) (l_l_tree : K.lookup f_l_tree = some ⟨oc_l_tree, od_l_tree, .func (PySem.W.fnOf "_law_tree" "_law_tree" (defArgs s_l_tree) (defBody s_l_tree) (defScope s_l_tree) .none kV_l_tree dc_l_tree pm_l_tree an_l_tree cd_l_tree ct_l_tree), sl_l_tree⟩) (e_l_tree : PySem.W.codeIn K cd_l_tree "_law_tree" = true) (k_l_tree : PySem.W.keepIn K (.ref f_l_tree) = true)
    {f_l_great : Addr} {od_l_great an_l_great : Option Addr} {sl_l_great : Array (Option Value)} {oc_l_great kV_l_great dc_l_great pm_l_great cd_l_great ct_l_great : Value} (a_l_great : PySem.W.nsIn K mainGlobals "_law_great" = some (some (.ref f_l_great))) (l_l_great : K.lookup f_l_great = some ⟨oc_l_great, od_l_great, .func (PySem.W.fnOf "_law_great" "_law_great" (defArgs s_l_great) (defBody s_l_great) (defScope s_l_great) .none kV_l_great dc_l_great pm_l_great an_l_great cd_l_great ct_l_great), sl_l_great⟩) (e_l_great : PySem.W.codeIn K cd_l_great "_law_great" = true) (k_l_great : PySem.W.keepIn K (.ref f_l_great) = true)
    {f_l_nested : Addr} {od_l_nested an_l_nested : Option Addr} {sl_l_nested : Array (Option Value)} {oc_l_nested kV_l_nested dc_l_nested pm_l_nested cd_l_nested ct_l_nested : Value} (a_l_nested : PySem.W.nsIn K mainGlobals "_law_nested" = some (some (.ref f_l_nested))) (l_l_nested : K.lookup f_l_nested = some ⟨oc_l_nested, od_l_nested, .func (PySem.W.fnOf "_law_nested" "_law_nested" (defArgs s_l_nested) (defBody s_l_nested) (defScope s_l_nested) .none kV_l_nested dc_l_nested pm_l_nested an_l_nested cd_l_nested ct_l_nested), sl_l_nested⟩) (e_l_nested : PySem.W.codeIn K cd_l_nested "_law_nested" = true) (k_l_nested : PySem.W.keepIn K (.ref f_l_nested) = true)
    {f_l_leaf_written : Addr} {od_l_leaf_written an_l_leaf_written : Option Addr} {sl_l_leaf_written : Array (Option Value)} {oc_l_leaf_written kV_l_leaf_written dc_l_leaf_written pm_l_leaf_written cd_l_leaf_written ct_l_leaf_written : Value} (a_l_leaf_written : PySem.W.nsIn K mainGlobals "_law_leaf_written" = some (some (.ref f_l_leaf_written))) (l_l_leaf_written : K.lookup f_l_leaf_written = some ⟨oc_l_leaf_written, od_l_leaf_written, .func (PySem.W.fnOf "_law_leaf_written" "_law_leaf_written" (defArgs s_l_leaf_written) (defBody s_l_leaf_written) (defScope s_l_leaf_written) .none kV_l_leaf_written dc_l_leaf_written pm_l_leaf_written an_l_leaf_written cd_l_leaf_written ct_l_leaf_written), sl_l_leaf_written⟩) (e_l_leaf_written : PySem.W.codeIn K cd_l_leaf_written "_law_leaf_written" = true) (k_l_leaf_written : PySem.W.keepIn K (.ref f_l_leaf_written) = true)
    {f_l_written : Addr} {od_l_written an_l_written : Option Addr} {sl_l_written : Array (Option Value)} {oc_l_written kV_l_written dc_l_written pm_l_written cd_l_written ct_l_written : Value} (a_l_written : PySem.W.nsIn K mainGlobals "_law_written" = some (some (.ref f_l_written))) (l_l_written : K.lookup f_l_written = some ⟨oc_l_written, od_l_written, .func (PySem.W.fnOf "_law_written" "_law_written" (defArgs s_l_written) (defBody s_l_written) (defScope s_l_written) .none kV_l_written dc_l_written pm_l_written an_l_written cd_l_written ct_l_written), sl_l_written⟩) (e_l_written : PySem.W.codeIn K cd_l_written "_law_written" = true) (k_l_written : PySem.W.keepIn K (.ref f_l_written) = true)
    {f_l_same : Addr} {od_l_same an_l_same : Option Addr} {sl_l_same : Array (Option Value)} {oc_l_same kV_l_same dc_l_same pm_l_same cd_l_same ct_l_same : Value} (a_l_same : PySem.W.nsIn K mainGlobals "_law_same" = some (some (.ref f_l_same))) (l_l_same : K.lookup f_l_same = some ⟨oc_l_same, od_l_same, .func (PySem.W.fnOf "_law_same" "_law_same" (defArgs s_l_same) (defBody s_l_same) (defScope s_l_same) .none kV_l_same dc_l_same pm_l_same an_l_same cd_l_same ct_l_same), sl_l_same⟩) (e_l_same : PySem.W.codeIn K cd_l_same "_law_same" = true) (k_l_same : PySem.W.keepIn K (.ref f_l_same) = true)
    {f_law : Addr} {od_law an_law : Option Addr} {sl_law : Array (Option Value)} {oc_law kV_law dc_law pm_law cd_law ct_law : Value} (a_law : PySem.W.nsIn K mainGlobals "law" = some (some (.ref f_law))) (l_law : K.lookup f_law = some ⟨oc_law, od_law, .func (PySem.W.fnOf "law" "law" (defArgs s_law) (defBody s_law) (defScope s_law) .none kV_law dc_law pm_law an_law cd_law ct_law), sl_law⟩) (e_law : PySem.W.codeIn K cd_law "law" = true) (k_law : PySem.W.keepIn K (.ref f_law) = true)
    (z_bool : PySem.W.nsIn K mainGlobals "bool" = some none)
    (z_int : PySem.W.nsIn K mainGlobals "int" = some none)
    (z_isinstance : PySem.W.nsIn K mainGlobals "isinstance" = some none)
    (z_len : PySem.W.nsIn K mainGlobals "len" = some none)
    (z_max : PySem.W.nsIn K mainGlobals "max" = some none)
    (z_min : PySem.W.nsIn K mainGlobals "min" = some none)
    (z_range : PySem.W.nsIn K mainGlobals "range" = some none)
    (z_str : PySem.W.nsIn K mainGlobals "str" = some none)
    (z_tuple : PySem.W.nsIn K mainGlobals "tuple" = some none)
    (z_zip : PySem.W.nsIn K mainGlobals "zip" = some none) :
    ∃ fd : FuncData, (∀ (s : Shared) (v : Value), BindsTo s fd ⟨[v], []⟩ [("_law_script", v)]) ∧ ∀ base : Heap, K.In base → base.Ns mainGlobals mg → FnOk l.prog w K mg base (L2.CX l.prog w) 150 fa fd ["_law_script"] (spLaw K) := by
  have e := hfa.symm.trans (PySem.W.mg_of X G a_law)
  cases e
  have c_FIGURES : MgC K mg "FIGURES" c_FIGURES := ⟨.str "0123456789", _, PySem.W.mg_of X G ca_FIGURES, ⟨_, rfl⟩, fun ρ H => by simp [c_FIGURES, RV]⟩
  have c_LEAVES : MgC K mg "LEAVES" c_LEAVES := ⟨.ref a_LEAVES, _, PySem.W.mg_of X G ca_LEAVES, rfl, fun ρ H => by
    simp only [c_LEAVES, RV]
    refine ⟨a_LEAVES, [V.str "num", V.str "name", V.str "ask", V.str "stop", V.str "gap"], rfl, .inr ⟨_, _, _, cl_LEAVES, rfl, rfl, (by show 5 ≤ sizeLine; decide), ?_⟩, ?_⟩
    · exact .cons ⟨_, rfl⟩ (.cons ⟨_, rfl⟩ (.cons ⟨_, rfl⟩ (.cons ⟨_, rfl⟩ (.cons ⟨_, rfl⟩ (.nil)))))
    · simp [RVs, RV]⟩
  have c_LETTERS : MgC K mg "LETTERS" c_LETTERS := ⟨.str "abcdefghijklmnopqrstuvwxyz", _, PySem.W.mg_of X G ca_LETTERS, ⟨_, rfl⟩, fun ρ H => by simp [c_LETTERS, RV]⟩
  have c_WORDS : MgC K mg "WORDS" c_WORDS := ⟨.ref a_WORDS, _, PySem.W.mg_of X G ca_WORDS, rfl, fun ρ H => by
    simp only [c_WORDS, RV]
    refine ⟨a_WORDS, [V.str "let", V.str "in", V.str "if", V.str "then", V.str "else", V.str "say", V.str "ask", V.str "stop", V.str "where", V.str "quiet", V.str "number"], rfl, .inr ⟨_, _, _, cl_WORDS, rfl, rfl, (by show 11 ≤ sizeLine; decide), ?_⟩, ?_⟩
    · exact .cons ⟨_, rfl⟩ (.cons ⟨_, rfl⟩ (.cons ⟨_, rfl⟩ (.cons ⟨_, rfl⟩ (.cons ⟨_, rfl⟩ (.cons ⟨_, rfl⟩ (.cons ⟨_, rfl⟩ (.cons ⟨_, rfl⟩ (.cons ⟨_, rfl⟩ (.cons ⟨_, rfl⟩ (.cons ⟨_, rfl⟩ (.nil)))))))))))
    · simp [RVs, RV]⟩
  have k_BETWEEN : MgD K w mg "BETWEEN" kd_BETWEEN := mgd_of [(("add" : Str), tBETWEEN_0, (" + " : Str), tBETWEEN_1), (("sub" : Str), tBETWEEN_2, (" - " : Str), tBETWEEN_3), (("mul" : Str), tBETWEEN_4, (" * " : Str), tBETWEEN_5), (("then" : Str), tBETWEEN_6, (" ; " : Str), tBETWEEN_7)] (PySem.W.mg_of X G ca_BETWEEN) cl_BETWEEN ke_BETWEEN lo_BETWEEN rfl
  have k_SIGNS : MgD K w mg "SIGNS" kd_SIGNS := mgd_of [((" + " : Str), tSIGNS_0, ("add" : Str), tSIGNS_1), ((" - " : Str), tSIGNS_2, ("sub" : Str), tSIGNS_3), ((" * " : Str), tSIGNS_4, ("mul" : Str), tSIGNS_5), ((" ; " : Str), tSIGNS_6, ("then" : Str), tSIGNS_7)] (PySem.W.mg_of X G ca_SIGNS) cl_SIGNS ke_SIGNS lo_SIGNS rfl
  have F_p_parts := fun_mk (st := s_p_parts) l_p_parts e_p_parts k_p_parts
  have b_p_parts := F_p_parts.binds (ps := ["tree"]) fun _ _ _ _ _ _ us hl => match us, hl with | [_], _ => rfl
  have F_p_bounded := fun_mk (st := s_p_bounded) l_p_bounded e_p_bounded k_p_bounded
  have b_p_bounded := F_p_bounded.binds (ps := ["text"]) fun _ _ _ _ _ _ us hl => match us, hl with | [_], _ => rfl
  have F_p_place_past := fun_mk (st := s_p_place_past) l_p_place_past e_p_place_past k_p_place_past
  have b_p_place_past := F_p_place_past.binds (ps := ["text", "at", "words"]) fun _ _ _ _ _ _ us hl => match us, hl with | [_, _, _], _ => rfl
  have F_p_run_of := fun_mk (st := s_p_run_of) l_p_run_of e_p_run_of k_p_run_of
  have b_p_run_of := F_p_run_of.binds (ps := ["text", "at", "signs"]) fun _ _ _ _ _ _ us hl => match us, hl with | [_, _, _], _ => rfl
  have F_p_word_at := fun_mk (st := s_p_word_at) l_p_word_at e_p_word_at k_p_word_at
  have b_p_word_at := F_p_word_at.binds (ps := ["text", "at"]) fun _ _ _ _ _ _ us hl => match us, hl with | [_, _], _ => rfl
  have F_p_leaf_at := fun_mk (st := s_p_leaf_at) l_p_leaf_at e_p_leaf_at k_p_leaf_at
  have b_p_leaf_at := F_p_leaf_at.binds (ps := ["text", "at"]) fun _ _ _ _ _ _ us hl => match us, hl with | [_, _], _ => rfl
  have F_p_atom_at := fun_mk (st := s_p_atom_at) l_p_atom_at e_p_atom_at k_p_atom_at
  have b_p_atom_at := F_p_atom_at.binds (ps := ["text", "at"]) fun _ _ _ _ _ _ us hl => match us, hl with | [_, _], _ => rfl
  have F_p_gap_at := fun_mk (st := s_p_gap_at) l_p_gap_at e_p_gap_at k_p_gap_at
  have b_p_gap_at := F_p_gap_at.binds (ps := ["text", "at"]) fun _ _ _ _ _ _ us hl => match us, hl with | [_, _], _ => rfl
  have F_p_let_at := fun_mk (st := s_p_let_at) l_p_let_at e_p_let_at k_p_let_at
  have b_p_let_at := F_p_let_at.binds (ps := ["text", "at"]) fun _ _ _ _ _ _ us hl => match us, hl with | [_, _], _ => rfl
  have F_p_choice_at := fun_mk (st := s_p_choice_at) l_p_choice_at e_p_choice_at k_p_choice_at
  have b_p_choice_at := F_p_choice_at.binds (ps := ["text", "at"]) fun _ _ _ _ _ _ us hl => match us, hl with | [_, _], _ => rfl
  have F_p_inner_at := fun_mk (st := s_p_inner_at) l_p_inner_at e_p_inner_at k_p_inner_at
  have b_p_inner_at := F_p_inner_at.binds (ps := ["text", "at"]) fun _ _ _ _ _ _ us hl => match us, hl with | [_, _], _ => rfl
  have F_p_tree_at := fun_mk (st := s_p_tree_at) l_p_tree_at e_p_tree_at k_p_tree_at
  have b_p_tree_at := F_p_tree_at.binds (ps := ["text", "at"]) fun _ _ _ _ _ _ us hl => match us, hl with | [_, _], _ => rfl
  have F_p_whole := fun_mk (st := s_p_whole) l_p_whole e_p_whole k_p_whole
  have b_p_whole := F_p_whole.binds (ps := ["text"]) fun _ _ _ _ _ _ us hl => match us, hl with | [_], _ => rfl
  have F_p_read := fun_mk (st := s_p_read) l_p_read e_p_read k_p_read
  have b_p_read := F_p_read.binds (ps := ["text"]) fun _ _ _ _ _ _ us hl => match us, hl with | [_], _ => rfl
  have F_p_shown_leaf := fun_mk (st := s_p_shown_leaf) l_p_shown_leaf e_p_shown_leaf k_p_shown_leaf
  have b_p_shown_leaf := F_p_shown_leaf.binds (ps := ["tree"]) fun _ _ _ _ _ _ us hl => match us, hl with | [_], _ => rfl
  have F_p_shown := fun_mk (st := s_p_shown) l_p_shown e_p_shown k_p_shown
  have b_p_shown := F_p_shown.binds (ps := ["tree"]) fun _ _ _ _ _ _ us hl => match us, hl with | [_], _ => rfl
  have F_l_cell_at := fun_mk (st := s_l_cell_at) l_l_cell_at e_l_cell_at k_l_cell_at
  have b_l_cell_at := F_l_cell_at.binds (ps := ["_law_script", "_law_k"]) fun _ _ _ _ _ _ us hl => match us, hl with | [_, _], _ => rfl
  have F_l_word := fun_mk (st := s_l_word) l_l_word e_l_word k_l_word
  have b_l_word := F_l_word.binds (ps := ["_law_cell"]) fun _ _ _ _ _ _ us hl => match us, hl with | [_], _ => rfl
  have F_l_leaf := fun_mk (st := s_l_leaf) l_l_leaf e_l_leaf k_l_leaf
  have b_l_leaf := F_l_leaf.binds (ps := ["_law_cell", "_law_gaps"]) fun _ _ _ _ _ _ us hl => match us, hl with | [_, _], _ => rfl
  have F_l_tree := fun_mk (st := s_l_tree) l_l_tree e_l_tree k_l_tree
  have b_l_tree := F_l_tree.binds (ps := ["_law_cells", "_law_deep", "_law_gaps"]) fun _ _ _ _ _ _ us hl => match us, hl with | [_, _, _], _ => rfl
  have F_l_great := fun_mk (st := s_l_great) l_l_great e_l_great k_l_great
  have b_l_great := F_l_great.binds (ps := ["_law_cell"]) fun _ _ _ _ _ _ us hl => match us, hl with | [_], _ => rfl
  have F_l_nested := fun_mk (st := s_l_nested) l_l_nested e_l_nested k_l_nested
  have b_l_nested := F_l_nested.binds (ps := ["_law_cell", "_law_more"]) fun _ _ _ _ _ _ us hl => match us, hl with | [_, _], _ => rfl
  have F_l_leaf_written := fun_mk (st := s_l_leaf_written) l_l_leaf_written e_l_leaf_written k_l_leaf_written
  have b_l_leaf_written := F_l_leaf_written.binds (ps := ["_law_tree_here"]) fun _ _ _ _ _ _ us hl => match us, hl with | [_], _ => rfl
  have F_l_written := fun_mk (st := s_l_written) l_l_written e_l_written k_l_written
  have b_l_written := F_l_written.binds (ps := ["_law_tree_here"]) fun _ _ _ _ _ _ us hl => match us, hl with | [_], _ => rfl
  have F_l_same := fun_mk (st := s_l_same) l_l_same e_l_same k_l_same
  have b_l_same := F_l_same.binds (ps := ["_law_found", "_law_due"]) fun _ _ _ _ _ _ us hl => match us, hl with | [_, _], _ => rfl
  have F_law := fun_mk (st := s_law) l_law e_law k_law
  have b_law := F_law.binds (ps := ["_law_script"]) fun _ _ _ _ _ _ us hl => match us, hl with | [_], _ => rfl
  have Tx : Txt w K mg := ⟨PySem.W.mg_none_of X G z_bool, PySem.W.mg_none_of X G z_int, PySem.W.mg_none_of X G z_isinstance, PySem.W.mg_none_of X G z_len, PySem.W.mg_none_of X G z_max, PySem.W.mg_none_of X G z_min, PySem.W.mg_none_of X G z_range, PySem.W.mg_none_of X G z_str, PySem.W.mg_none_of X G z_tuple, PySem.W.mg_none_of X G z_zip, c_FIGURES, c_LEAVES, c_LETTERS, c_WORDS, k_BETWEEN, k_SIGNS, ⟨_, _, PySem.W.mg_of X G a_p_parts, F_p_parts, b_p_parts⟩, ⟨_, _, PySem.W.mg_of X G a_p_bounded, F_p_bounded, b_p_bounded⟩, ⟨_, _, PySem.W.mg_of X G a_p_place_past, F_p_place_past, b_p_place_past⟩, ⟨_, _, PySem.W.mg_of X G a_p_run_of, F_p_run_of, b_p_run_of⟩, ⟨_, _, PySem.W.mg_of X G a_p_word_at, F_p_word_at, b_p_word_at⟩, ⟨_, _, PySem.W.mg_of X G a_p_leaf_at, F_p_leaf_at, b_p_leaf_at⟩, ⟨_, _, PySem.W.mg_of X G a_p_atom_at, F_p_atom_at, b_p_atom_at⟩, ⟨_, _, PySem.W.mg_of X G a_p_gap_at, F_p_gap_at, b_p_gap_at⟩, ⟨_, _, PySem.W.mg_of X G a_p_let_at, F_p_let_at, b_p_let_at⟩, ⟨_, _, PySem.W.mg_of X G a_p_choice_at, F_p_choice_at, b_p_choice_at⟩, ⟨_, _, PySem.W.mg_of X G a_p_inner_at, F_p_inner_at, b_p_inner_at⟩, ⟨_, _, PySem.W.mg_of X G a_p_tree_at, F_p_tree_at, b_p_tree_at⟩, ⟨_, _, PySem.W.mg_of X G a_p_whole, F_p_whole, b_p_whole⟩, ⟨_, _, PySem.W.mg_of X G a_p_read, F_p_read, b_p_read⟩, ⟨_, _, PySem.W.mg_of X G a_p_shown_leaf, F_p_shown_leaf, b_p_shown_leaf⟩, ⟨_, _, PySem.W.mg_of X G a_p_shown, F_p_shown, b_p_shown⟩, ⟨_, _, PySem.W.mg_of X G a_l_cell_at, F_l_cell_at, b_l_cell_at⟩, ⟨_, _, PySem.W.mg_of X G a_l_word, F_l_word, b_l_word⟩, ⟨_, _, PySem.W.mg_of X G a_l_leaf, F_l_leaf, b_l_leaf⟩, ⟨_, _, PySem.W.mg_of X G a_l_tree, F_l_tree, b_l_tree⟩, ⟨_, _, PySem.W.mg_of X G a_l_great, F_l_great, b_l_great⟩, ⟨_, _, PySem.W.mg_of X G a_l_nested, F_l_nested, b_l_nested⟩, ⟨_, _, PySem.W.mg_of X G a_l_leaf_written, F_l_leaf_written, b_l_leaf_written⟩, ⟨_, _, PySem.W.mg_of X G a_l_written, F_l_written, b_l_written⟩, ⟨_, _, PySem.W.mg_of X G a_l_same, F_l_same, b_l_same⟩, ⟨_, _, PySem.W.mg_of X G a_law, F_law, b_law⟩⟩
  exact ⟨_, fun s v => .of_eq rfl, fun base _ _ => law_ok L Tx F_law⟩
theorem walk {l : PySem.W.OpenLaw} {q : Program} {loose : List Str} {XP : (Str → Option Value) → Heap → Prop} {YP : World → Heap → Prop} {d : DefRec} {K : Params → PySem.W.Frag} (hn : l.most = some 63) (hdf : d.params.defaults = [])
    (hY : ∀ (w : World) (h : Heap), YP w h → (K w.params).In h)
    (F : ∀ (w : World) (mg : Str → Option Value) (fa : Addr) (h : Heap), (K w.params).In h → h.Ns mainGlobals mg → mg d.name = some (.ref fa) →
      ∃ fd : FuncData, (∀ (s : Shared) (u : Value), BindsTo s fd ⟨[u], []⟩ [("_law_script", u)]) ∧ ∀ base : Heap, (K w.params).In base → base.Ns mainGlobals mg → FnOk l.prog w (K w.params) mg base (L2.CX l.prog w) 150 fa fd ["_law_script"] (spLaw (K w.params))) :
    PySem.W.WalkO q loose XP YP l.row.toRowW d [] (fun f vs => PySem.call f vs) :=
  L2.walk_of (n := 63) (k := 150) (x := "_law_script") (CX := fun w => L2.CX l.prog w) (sp := fun w => spLaw (K w.params)) hn (by decide) hdf ⟨rfl, by decide, by decide⟩ hY F (fun _ _ a ns hl _ hS => ⟨a, ns, rfl, hS, hl, fun _ => rfl⟩) fun w H s e s' z => by
    obtain ⟨_, _, _, _, _, _, _, _, _, _, _, _, z⟩ := z
    exact z.elim
end Y
open PySem PySem.W PyProof.Rows
set_option maxRecDepth 100000 in
set_option maxHeartbeats 0 in
theorem PySem.Challenge.cw_recastle_k06_texts_read_again_holds : PySem.Challenge.rw_recastle_k06_texts_read_again.Holds := by
  w_on; o_law; k_head; (case hw => w_witness2)
  k_fill
  refine Y.walk (l := PySem.Challenge.rw_recastle_k06_texts_read_again) rfl rfl (fun w h Y => PySem.W.kIn_of Y) ?F
  case F =>
    intro w mg fa h KX G hmg
    refine' Y.all_mk Y.law_true KX G hmg ?ca_FIGURES ?ca_LEAVES ?cl_LEAVES ?ca_LETTERS ?ca_WORDS ?cl_WORDS ?ca_BETWEEN ?cl_BETWEEN ?ke_BETWEEN ?lo_BETWEEN ?ca_SIGNS ?cl_SIGNS ?ke_SIGNS ?lo_SIGNS ?a_p_parts ?l_p_parts ?e_p_parts ?k_p_parts ?a_p_bounded ?l_p_bounded ?e_p_bounded ?k_p_bounded ?a_p_place_past ?l_p_place_past ?e_p_place_past ?k_p_place_past ?a_p_run_of ?l_p_run_of ?e_p_run_of ?k_p_run_of ?a_p_word_at ?l_p_word_at ?e_p_word_at ?k_p_word_at ?a_p_leaf_at ?l_p_leaf_at ?e_p_leaf_at ?k_p_leaf_at ?a_p_atom_at ?l_p_atom_at ?e_p_atom_at ?k_p_atom_at ?a_p_gap_at ?l_p_gap_at ?e_p_gap_at ?k_p_gap_at ?a_p_let_at ?l_p_let_at ?e_p_let_at ?k_p_let_at ?a_p_choice_at ?l_p_choice_at ?e_p_choice_at ?k_p_choice_at ?a_p_inner_at ?l_p_inner_at ?e_p_inner_at ?k_p_inner_at ?a_p_tree_at ?l_p_tree_at ?e_p_tree_at ?k_p_tree_at ?a_p_whole ?l_p_whole ?e_p_whole ?k_p_whole ?a_p_read ?l_p_read ?e_p_read ?k_p_read ?a_p_shown_leaf ?l_p_shown_leaf ?e_p_shown_leaf ?k_p_shown_leaf ?a_p_shown ?l_p_shown ?e_p_shown ?k_p_shown ?a_l_cell_at ?l_l_cell_at ?e_l_cell_at ?k_l_cell_at ?a_l_word ?l_l_word ?e_l_word ?k_l_word ?a_l_leaf ?l_l_leaf ?e_l_leaf ?k_l_leaf ?a_l_tree ?l_l_tree ?e_l_tree ?k_l_tree ?a_l_great ?l_l_great ?e_l_great ?k_l_great ?a_l_nested ?l_l_nested ?e_l_nested ?k_l_nested ?a_l_leaf_written ?l_l_leaf_written ?e_l_leaf_written ?k_l_leaf_written ?a_l_written ?l_l_written ?e_l_written ?k_l_written ?a_l_same ?l_l_same ?e_l_same ?k_l_same ?a_law ?l_law ?e_law ?k_law ?z_bool ?z_int ?z_isinstance ?z_len ?z_max ?z_min ?z_range ?z_str ?z_tuple ?z_zip
    (case ca_FIGURES => k_is)
    (case ca_LEAVES => k_is)
    (case cl_LEAVES => k_is)
    (case ca_LETTERS => k_is)
    (case ca_WORDS => k_is)
    (case cl_WORDS => k_is)
    (case ca_BETWEEN => k_is)
    (case cl_BETWEEN => k_is)
    (case ke_BETWEEN => rfl)
    (case lo_BETWEEN => rfl)
    (case ca_SIGNS => k_is)
    (case cl_SIGNS => k_is)
    (case ke_SIGNS => rfl)
    (case lo_SIGNS => rfl)
    (case a_p_parts => k_is)
    (case l_p_parts => k_is)
    (case e_p_parts => k_is)
    (case k_p_parts => k_is)
    (case a_p_bounded => k_is)
    (case l_p_bounded => k_is)
    (case e_p_bounded => k_is)
    (case k_p_bounded => k_is)
    (case a_p_place_past => k_is)
    (case l_p_place_past => k_is)
    (case e_p_place_past => k_is)
    (case k_p_place_past => k_is)
    (case a_p_run_of => k_is)
    (case l_p_run_of => k_is)
    (case e_p_run_of => k_is)
    (case k_p_run_of => k_is)
    (case a_p_word_at => k_is)
    (case l_p_word_at => k_is)
    (case e_p_word_at => k_is)
    (case k_p_word_at => k_is)
    (case a_p_leaf_at => k_is)
    (case l_p_leaf_at => k_is)
    (case e_p_leaf_at => k_is)
    (case k_p_leaf_at => k_is)
    (case a_p_atom_at => k_is)
    (case l_p_atom_at => k_is)
    (case e_p_atom_at => k_is)
    (case k_p_atom_at => k_is)
    (case a_p_gap_at => k_is)
    (case l_p_gap_at => k_is)
    (case e_p_gap_at => k_is)
    (case k_p_gap_at => k_is)
    (case a_p_let_at => k_is)
    (case l_p_let_at => k_is)
    (case e_p_let_at => k_is)
    (case k_p_let_at => k_is)
    (case a_p_choice_at => k_is)
    (case l_p_choice_at => k_is)
    (case e_p_choice_at => k_is)
    (case k_p_choice_at => k_is)
    (case a_p_inner_at => k_is)
    (case l_p_inner_at => k_is)
    (case e_p_inner_at => k_is)
    (case k_p_inner_at => k_is)
    (case a_p_tree_at => k_is)
    (case l_p_tree_at => k_is)
    (case e_p_tree_at => k_is)
    (case k_p_tree_at => k_is)
    (case a_p_whole => k_is)
    (case l_p_whole => k_is)
    (case e_p_whole => k_is)
    (case k_p_whole => k_is)
    (case a_p_read => k_is)
    (case l_p_read => k_is)
    (case e_p_read => k_is)
    (case k_p_read => k_is)
    (case a_p_shown_leaf => k_is)
    (case l_p_shown_leaf => k_is)
    (case e_p_shown_leaf => k_is)
    (case k_p_shown_leaf => k_is)
    (case a_p_shown => k_is)
    (case l_p_shown => k_is)
    (case e_p_shown => k_is)
    (case k_p_shown => k_is)
    (case a_l_cell_at => k_is)
    (case l_l_cell_at => k_is)
    (case e_l_cell_at => k_is)
    (case k_l_cell_at => k_is)
    (case a_l_word => k_is)
    (case l_l_word => k_is)
    (case e_l_word => k_is)
    (case k_l_word => k_is)
    (case a_l_leaf => k_is)
    (case l_l_leaf => k_is)
    (case e_l_leaf => k_is)
    (case k_l_leaf => k_is)
    (case a_l_tree => k_is)
    (case l_l_tree => k_is)
    (case e_l_tree => k_is)
    (case k_l_tree => k_is)
    (case a_l_great => k_is)
    (case l_l_great => k_is)
    (case e_l_great => k_is)
    (case k_l_great => k_is)
    (case a_l_nested => k_is)
    (case l_l_nested => k_is)
    (case e_l_nested => k_is)
    (case k_l_nested => k_is)
    (case a_l_leaf_written => k_is)
    (case l_l_leaf_written => k_is)
    (case e_l_leaf_written => k_is)
    (case k_l_leaf_written => k_is)
    (case a_l_written => k_is)
    (case l_l_written => k_is)
    (case e_l_written => k_is)
    (case k_l_written => k_is)
    (case a_l_same => k_is)
    (case l_l_same => k_is)
    (case e_l_same => k_is)
    (case k_l_same => k_is)
    (case a_law => k_is)
    (case l_law => k_is)
    (case e_law => k_is)
    (case k_law => k_is)
    (case z_bool => k_is)
    (case z_int => k_is)
    (case z_isinstance => k_is)
    (case z_len => k_is)
    (case z_max => k_is)
    (case z_min => k_is)
    (case z_range => k_is)
    (case z_str => k_is)
    (case z_tuple => k_is)
    (case z_zip => k_is)
