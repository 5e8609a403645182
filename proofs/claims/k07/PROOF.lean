import PyProof.Rows.All
import Wide.All
import OpenK.AllK
import Wide.FinOn
import HandS.Base
import HandS.Call
import HandS.List
import HandS.Comp
import HandS.Ends
import HandS.TupMul
import HandS.IsInst
import HandS.Deep
import HandS.TupAny
import HandS.Conv
import HandS.Words
import HandS.Dict
import HandS.SortInts
import PyProof.Rows.FactsT1
import PyProof.Rows.FactsN_isinstance
import HandS.SetFor
import HandS.Strs
import HandS.Exc
import HandS.ExcOwn
import HandS.CallSlots
import HandS.Iter
import KE.GoesNew
import HandS.Zip
import KE.SortData
import KE.KIndexOf
import KE.SortLaws
import HandS.WordsExc
import HandS.Style
import HandS.Small
import HandS.Star
import HandS.Defaults
import HandS.HeadEnd
import HandS.HeadHook1
import HandS.HeadHook2
import HandS.Head0
import HandS.Head1
import HandS.Head2
import KE.KStateDown
import Lean
import PySem.Challenge.RW_standgates_k07_whole_orders
set_option Elab.async false
set_option linter.all false
set_option maxRecDepth 100000
/-! A small core language over plain data, and what it computes. -/
namespace Ip
open PySem L2

abbrev D := PyData
/-- a slot: nothing known, data, an own list or dict, one handed in to be changed, one handed in to be read -/
inductive Sl where
  | no | dat (d : D) | own (d : D) | io (d : D) | bor (d : D)
/-- what an expression gives: data, a new list or dict, the thing that a slot holds -/
inductive Rs where
  | dat (d : D) | fresh (d : D) | var (i : Nat)
abbrev Ev := List Sl
inductive Res (α : Type) where
  | ok (a : α) (r : Ev)
  | exc (c : Nat) (fs : List D) (r : Ev)
  | stuck
abbrev M (α : Type) := Ev → Res α
def stuck {α : Type} : M α := fun _ => .stuck
def lift {α : Type} : Option α → M α
  | some a => fun r => .ok a r
  | none => stuck

/-- what a slot's own or handed list is -/
def held : Option Sl → Option D
  | some (.own d) => some d
  | some (.io d) => some d
  | some (.bor d) => some d
  | _ => none
/-- the value, to be looked at now -/
def look : Rs → M D
  | .dat d => fun r => .ok d r
  | .fresh d => fun r => .ok d r
  | .var i => fun r => lift (held r[i]?) r
def ownAt : Option Sl → Option D
  | some (.own d) => some d
  | _ => none
/-- the value, to be kept: a slot's own list is changed no more -/
def keep : Rs → M D
  | .dat d => fun r => .ok d r
  | .fresh d => fun r => .ok d r
  | .var i => fun r => match ownAt r[i]? with
    | some d => .ok d (r.set i (.dat d))
    | none => .stuck
/-- a new list is data from now on -/
def hold : Rs → M Rs
  | .fresh d => fun r => .ok (.dat d) r
  | .dat d => fun r => .ok (.dat d) r
  | .var i => fun r => .ok (.var i) r

/-- what an operation on values gives -/
inductive Ro where
  | dat (d : D) | fresh (d : D)
def Ro.rs : Ro → Rs
  | .dat d => .dat d
  | .fresh d => .fresh d
def liftR : Option Ro → M Rs
  | some x => fun r => .ok x.rs r
  | none => stuck
/-- arguments, from the left -/
def args : List (M Rs) → M (List Rs)
  | [] => fun r => .ok [] r
  | m :: ms => fun r => match m r with
    | .ok x r => match hold x r with
      | .ok x r => match args ms r with
        | .ok xs r => .ok (x :: xs) r
        | .exc c fs r => .exc c fs r
        | .stuck => .stuck
      | .exc c fs r => .exc c fs r
      | .stuck => .stuck
    | .exc c fs r => .exc c fs r
    | .stuck => .stuck
def looks : List Rs → M (List D)
  | [] => fun r => .ok [] r
  | x :: xs => fun r => match look x r with
    | .ok d r => match looks xs r with
      | .ok ds r => .ok (d :: ds) r
      | .exc c fs r => .exc c fs r
      | .stuck => .stuck
    | .exc c fs r => .exc c fs r
    | .stuck => .stuck
def keeps : List Rs → M (List D)
  | [] => fun r => .ok [] r
  | x :: xs => fun r => match keep x r with
    | .ok d r => match keeps xs r with
      | .ok ds r => .ok (d :: ds) r
      | .exc c fs r => .exc c fs r
      | .stuck => .stuck
    | .exc c fs r => .exc c fs r
    | .stuck => .stuck
/-- an operation on values -/
def prim (f : List D → Option Ro) (ms : List (M Rs)) : M Rs := fun r => match args ms r with
  | .ok xs r => match looks xs r with
    | .ok ds r => liftR (f ds) r
    | .exc c fs r => .exc c fs r
    | .stuck => .stuck
  | .exc c fs r => .exc c fs r
  | .stuck => .stuck
def kst (d : D) : M Rs := fun r => .ok (.dat d) r
/-- the name in a slot -/
def named (i : Nat) : Option Sl → Option Rs
  | some (.dat d) => some (.dat d)
  | some (.own _) => some (.var i)
  | some (.io _) => some (.var i)
  | some (.bor _) => some (.var i)
  | _ => none
def nm (i : Nat) : M Rs := fun r => lift (named i r[i]?) r
def boolOf : Rs → Option Bool
  | .dat (.bool b) => some b
  | _ => none
/-- a test: True or False -/
def tst (m : M Rs) : M Bool := fun r => match m r with
  | .ok x r => lift (boolOf x) r
  | .exc c fs r => .exc c fs r
  | .stuck => .stuck
def cond {α : Type} (c : M Bool) (a b : M α) : M α := fun r => match c r with
  | .ok true r => a r
  | .ok false r => b r
  | .exc c fs r => .exc c fs r
  | .stuck => .stuck
def kb (b : Bool) : M Bool := fun r => .ok b r
def notB (c : M Bool) : M Bool := cond c (kb false) (kb true)
def asV (c : M Bool) : M Rs := fun r => match c r with
  | .ok b r => .ok (.dat (.bool b)) r
  | .exc c fs r => .exc c fs r
  | .stuck => .stuck
def tupV (ms : List (M Rs)) : M Rs := fun r => match args ms r with
  | .ok xs r => match keeps xs r with
    | .ok ds r => if ds.length ≤ sizeLine then .ok (.dat (.tuple ds)) r else .stuck
    | .exc c fs r => .exc c fs r
    | .stuck => .stuck
  | .exc c fs r => .exc c fs r
  | .stuck => .stuck
def lstV (ms : List (M Rs)) : M Rs := fun r => match args ms r with
  | .ok xs r => match keeps xs r with
    | .ok ds r => if ds.length ≤ sizeLine then .ok (.fresh (.list ds)) r else .stuck
    | .exc c fs r => .exc c fs r
    | .stuck => .stuck
  | .exc c fs r => .exc c fs r
  | .stuck => .stuck

/-- a result to be stored or handed back -/
def toRo : Rs → M Ro
  | .dat d => fun r => .ok (.dat d) r
  | .fresh d => fun r => .ok (.fresh d) r
  | .var i => fun r => match ownAt r[i]? with
    | some d => .ok (.dat d) (r.set i (.dat d))
    | none => .stuck
def val1 (m : M Rs) : M Ro := fun r => match m r with
  | .ok x r => toRo x r
  | .exc c fs r => .exc c fs r
  | .stuck => .stuck
/-- a result handed back: an own list goes with it -/
def toRet : Rs → M Ro
  | .dat d => fun r => .ok (.dat d) r
  | .fresh d => fun r => .ok (.fresh d) r
  | .var i => fun r => match ownAt r[i]? with
    | some d => .ok (.fresh d) (r.set i .no)
    | none => .stuck
def val1' (m : M Rs) : M Ro := fun r => match m r with
  | .ok x r => toRet x r
  | .exc c fs r => .exc c fs r
  | .stuck => .stuck
def valN : List (M Rs) → M (List Ro)
  | [] => fun r => .ok [] r
  | m :: ms => fun r => match val1 m r with
    | .ok x r => match valN ms r with
      | .ok xs r => .ok (x :: xs) r
      | .exc c fs r => .exc c fs r
      | .stuck => .stuck
    | .exc c fs r => .exc c fs r
    | .stuck => .stuck
/-- a slot that may be stored to -/
def setOk : Option Sl → Bool
  | none => false
  | some (.io _) => false
  | _ => true
def Ro.sl : Ro → Sl
  | .dat d => .dat d
  | .fresh d => .own d
def put1 (i : Nat) (x : Ro) : M Unit := fun r => if setOk r[i]? then .ok () (r.set i x.sl) else .stuck
def putN : List Nat → List Ro → M Unit
  | [], [] => fun r => .ok () r
  | i :: is, x :: xs => fun r => match put1 i x r with
    | .ok _ r => putN is xs r
    | .exc c fs r => .exc c fs r
    | .stuck => .stuck
  | _, _ => stuck
/-! ### calls -/
inductive CR where
  | ok (x : Ro) (outs : List (Option D))
  | exc (c : Nat) (fs : List D)
  | stuck
/-- an argument as the callee's slot; mu: the callee changes it -/
def slArg : Bool → Rs → Ev → Option Sl
  | _, .dat d, _ => some (.dat d)
  | true, .var i, r => match r[i]? with
    | some (.own d) => some (.io d)
    | some (.io d) => some (.io d)
    | _ => none
  | false, .var i, r => (held r[i]?).map .bor
  | _, _, _ => none
def slArgs : List Bool → List Rs → Ev → Option (List Sl)
  | [], [], _ => some []
  | m :: ms, x :: xs, r => match slArg m x r with
    | some s => match slArgs ms xs r with
      | some ss => some (s :: ss)
      | none => none
    | none => none
  | _, _, _ => none
/-- two arguments: one that is changed is no other's -/
def sep1 (m : Bool) (i : Nat) : List Bool → List Rs → Bool
  | m' :: ms, .var j :: xs => (decide (i ≠ j) || (!m && !m')) && sep1 m i ms xs
  | _ :: ms, _ :: xs => sep1 m i ms xs
  | _, _ => true
def sepOk : List Bool → List Rs → Bool
  | m :: ms, .var i :: xs => sep1 m i ms xs && sepOk ms xs
  | _ :: ms, _ :: xs => sepOk ms xs
  | _, _ => true
def back1 : Bool → Rs → Option D → Ev → Option Ev
  | true, .var i, some d, r => match r[i]? with
    | some (.own _) => some (r.set i (.own d))
    | some (.io _) => some (r.set i (.io d))
    | _ => none
  | true, .var _, none, _ => none
  | _, _, _, r => some r
def putBack : List Bool → List Rs → List (Option D) → Ev → Option Ev
  | [], [], _, r => some r
  | m :: ms, x :: xs, o :: os, r => match back1 m x o r with
    | some r => putBack ms xs os r
    | none => none
  | _, _, _, _ => none
def noMu (ms : List Bool) : Bool := !ms.any id
/-- a call of one's own def -/
def callV (f : List Sl → CR) (mu : List Bool) (ms : List (M Rs)) : M Rs := fun r => match args ms r with
  | .ok xs r => match slArgs mu xs r with
    | some ss => if sepOk mu xs then match f ss with
        | .ok x outs => match putBack mu xs outs r with
          | some r => .ok x.rs r
          | none => .stuck
        | .exc c fs => if noMu mu then .exc c fs r else .stuck
        | .stuck => .stuck
      else .stuck
    | none => .stuck
  | .exc c fs r => .exc c fs r
  | .stuck => .stuck
/-! ### statements -/
inductive Fl where
  | next | brk | cont | ret (x : Ro)
def nextS : M Fl := fun r => .ok .next r
def setS (i : Nat) (m : M Rs) : M Fl := fun r => match val1 m r with
  | .ok x r => match put1 i x r with
    | .ok _ r => .ok .next r
    | .exc c fs r => .exc c fs r
    | .stuck => .stuck
  | .exc c fs r => .exc c fs r
  | .stuck => .stuck
def setsS (is : List Nat) (ms : List (M Rs)) : M Fl := fun r => match valN ms r with
  | .ok xs r => match putN is xs r with
    | .ok _ r => .ok .next r
    | .exc c fs r => .exc c fs r
    | .stuck => .stuck
  | .exc c fs r => .exc c fs r
  | .stuck => .stuck
def retS (m : M Rs) : M Fl := fun r => match val1' m r with
  | .ok x r => .ok (.ret x) r
  | .exc c fs r => .exc c fs r
  | .stuck => .stuck
def dropS (m : M Rs) : M Fl := fun r => match m r with
  | .ok _ r => .ok .next r
  | .exc c fs r => .exc c fs r
  | .stuck => .stuck
def seqS (a b : M Fl) : M Fl := fun r => match a r with
  | .ok .next r => b r
  | .ok f r => .ok f r
  | .exc c fs r => .exc c fs r
  | .stuck => .stuck

/-! ### loops -/
def items : D → Option (List D)
  | .list xs => some xs
  | .tuple xs => some xs
  | _ => none
def forget1 : Sl → Sl → Sl
  | .no, _ => .no
  | _, s => s
/-- what stood for nothing ahead of the loop stands for nothing behind it -/
def forget : Ev → Ev → Ev
  | s0 :: r0, s :: r => forget1 s0 s :: forget r0 r
  | _, r => r
def forL (r0 : Ev) (tg : D → M Unit) (body : M Fl) : List D → M Fl
  | [] => nextS
  | d :: ds => fun r => match tg d r with
    | .ok _ r => match body r with
      | .ok .next r => forL r0 tg body ds (forget r0 r)
      | .ok .cont r => forL r0 tg body ds (forget r0 r)
      | .ok .brk r => .ok .next r
      | .ok (.ret x) r => .ok (.ret x) r
      | .exc c fs r => .exc c fs r
      | .stuck => .stuck
    | .exc c fs r => .exc c fs r
    | .stuck => .stuck
def forS (src : M (List D)) (tg : D → M Unit) (body : M Fl) : M Fl := fun r => match src r with
  | .ok ds r => forL r tg body ds r
  | .exc c fs r => .exc c fs r
  | .stuck => .stuck
/-- what enumerate and zip hand out: a pair to be taken apart, nothing else -/
def pairD (a b : D) : D := .dict [(.dict [], .tuple [a, b])]
def isPair : D → Bool
  | .dict [(.dict [], .tuple [_, _])] => true
  | _ => false
def tgOne (i : Nat) (d : D) : M Unit := if isPair d then stuck else put1 i (.dat d)
def tgMany (is : List Nat) : D → M Unit
  | .tuple ds => putN is (ds.map .dat)
  | .dict [(.dict [], .tuple [a, b])] => putN is [.dat a, .dat b]
  | _ => stuck
def whlL (r0 : Ev) (c : M Bool) (body : M Fl) : Nat → M Fl
  | 0 => fun _ => .stuck
  | n + 1 => fun r => match c r with
    | .ok true r => match body r with
      | .ok .next r => whlL r0 c body n (forget r0 r)
      | .ok .cont r => whlL r0 c body n (forget r0 r)
      | .ok .brk r => .ok .next r
      | .ok (.ret x) r => .ok (.ret x) r
      | .exc c fs r => .exc c fs r
      | .stuck => .stuck
    | .ok false r => .ok .next r
    | .exc c fs r => .exc c fs r
    | .stuck => .stuck
def whlS (n : Nat) (c : M Bool) (body : M Fl) : M Fl := fun r => whlL r c body n r
/-- the source of a for: its items -/
def srcP (m : M Rs) : M (List D) := fun r => match m r with
  | .ok x r => match keep x r with
    | .ok d r => lift (items d) r
    | .exc c fs r => .exc c fs r
    | .stuck => .stuck
  | .exc c fs r => .exc c fs r
  | .stuck => .stuck

/-! ### comprehensions -/
def toBor : Sl → Sl
  | .own d => .bor d
  | s => s
/-- the comprehension's own names stand for nothing, what it walks is read alone -/
def hideFrom (own hid : List Nat) : Nat → Ev → Ev
  | _, [] => []
  | i, s :: r => (if own.contains i then .no else if hid.contains i then toBor s else s) :: hideFrom own hid (i + 1) r
/-- behind it: what was hidden stands as it stood -/
def showFrom (own hid : List Nat) : Nat → Ev → Ev → Ev
  | i, s1 :: r1, s :: r => (if own.contains i || hid.contains i then s1 else s) :: showFrom own hid (i + 1) r1 r
  | _, _, r => r
def isIo : Option Sl → Bool
  | some (.io _) => true
  | _ => false
def lcL (own : List Nat) (tg : D → M Unit) (test : M Bool) (elt : M Rs) : List D → M (List D)
  | [] => fun r => .ok [] r
  | d :: ds => fun r => match tg d r with
    | .ok _ r => match test r with
      | .ok true r => match elt r with
        | .ok x r => match hold x r with
          | .ok x r => match keep x r with
            | .ok y r => match lcL own tg test elt ds (hideFrom own [] 0 r) with
              | .ok ys r => .ok (y :: ys) r
              | _ => .stuck
            | _ => .stuck
          | _ => .stuck
        | _ => .stuck
      | .ok false r => lcL own tg test elt ds (hideFrom own [] 0 r)
      | _ => .stuck
    | _ => .stuck
def lcV (own : List Nat) (src : M (List D × List Nat)) (tg : D → M Unit) (test : M Bool) (elt : M Rs) : M Rs := fun r => match src r with
  | .ok (ds, hid) r => if own.any (fun i => isIo r[i]?) then .stuck else match lcL own tg test elt ds (hideFrom own hid 0 r) with
    | .ok ys r' => .ok (.fresh (.list ys)) (showFrom own hid 0 r r')
    | _ => .stuck
  | .exc c fs r => .exc c fs r
  | .stuck => .stuck
def seeC : Rs → Ev → Option (D × List Nat)
  | .dat d, _ => some (d, [])
  | .fresh d, _ => some (d, [])
  | .var i, r => match r[i]? with
    | some (.own d) => some (d, [i])
    | some (.bor d) => some (d, [])
    | _ => none
def srcC (m : M Rs) : M (List D × List Nat) := fun r => match m r with
  | .ok x r => match seeC x r with
    | some (d, h) => match items d with
      | some ds => .ok (ds, h) r
      | none => .stuck
    | none => .stuck
  | .exc c fs r => .exc c fs r
  | .stuck => .stuck
def noHid (m : M (List D)) : M (List D × List Nat) := fun r => match m r with
  | .ok ds r => .ok (ds, []) r
  | .exc c fs r => .exc c fs r
  | .stuck => .stuck

/-- the lists that a for walks are changed no more -/
def demoteL : List Nat → Ev → Ev
  | [], r => r
  | i :: is, r => match ownAt r[i]? with
    | some d => demoteL is (r.set i (.dat d))
    | none => demoteL is r
def unhid (m : M (List D × List Nat)) : M (List D) := fun r => match m r with
  | .ok x r => .ok x.1 (demoteL x.2 r)
  | .exc c fs r => .exc c fs r
  | .stuck => .stuck
def intOf : D → Option Int
  | .int i => some i
  | _ => none
/-- numbers, from the left -/
def intsM (ms : List (M Rs)) : M (List Int) := fun r => match args ms r with
  | .ok xs r => match looks xs r with
    | .ok ds r => lift (ds.mapM intOf) r
    | .exc c fs r => .exc c fs r
    | .stuck => .stuck
  | .exc c fs r => .exc c fs r
  | .stuck => .stuck
def rangeL (lo c : Int) (n : Nat) : List D := (List.range n).map fun i => .int (lo + (i : Nat) * c)
def inside (i : Int) : Bool := decide (-16777216 ≤ i) && decide (i ≤ 16777216)
/-- range(..) -/
def rangeOf : List Int → Option (List D)
  | [j] => if inside j && decide (j ≤ 16777216) then some (rangeL 0 1 j.toNat) else none
  | [i, j] => if inside i && inside j && decide (j - i ≤ 16777216) then some (rangeL i 1 (j - i).toNat) else none
  | [i, j, c] => if inside i && inside j && decide (i - j ≤ 16777216) && decide (c = -1) then some (rangeL i (-1) (i - j).toNat) else none
  | _ => none
def srcR (ms : List (M Rs)) : M (List D × List Nat) := fun r => match intsM ms r with
  | .ok is r => match rangeOf is with
    | some ds => .ok (ds, []) r
    | none => .stuck
  | .exc c fs r => .exc c fs r
  | .stuck => .stuck
def enumL : Nat → List D → List D
  | _, [] => []
  | i, d :: ds => pairD (.int (i : Nat)) d :: enumL (i + 1) ds
/-- enumerate(..) -/
def srcE (m : M Rs) : M (List D × List Nat) := fun r => match srcC m r with
  | .ok x r => .ok (enumL 0 x.1, x.2) r
  | .exc c fs r => .exc c fs r
  | .stuck => .stuck

/-! ### defs -/
def outs1 : Sl → Option D
  | .io d => some d
  | _ => none
def outs (k : Nat) (r : Ev) : List (Option D) := (r.take k).map outs1
/-- a def of k parameters and n names -/
def runBody (k n : Nat) (body : M Fl) (ss : List Sl) : CR :=
  if ss.length = k then match body (ss ++ List.replicate (n - k) .no) with
    | .ok .next r => .ok (.dat .none) (outs k r)
    | .ok (.ret x) r => .ok x (outs k r)
    | .ok _ _ => .stuck
    | .exc c fs _ => .exc c fs
    | .stuck => .stuck
  else .stuck

/-! ### data -/

inductive Ty where
  | int | bool | str | tuple | list
  deriving DecidableEq
def shp (d : D) : Bool := SeqAt.shaped d
def tyOf : Ty → D → Bool
  | .int, .int _ => true
  | .int, .bool _ => true
  | .bool, .bool _ => true
  | .str, .str _ => true
  | .tuple, .tuple _ => true
  | .list, .list _ => true
  | _, _ => false
def lookKv (k : D) : List (D × D) → Option D
  | [] => none
  | (a, b) :: r => if PyData.eqv a k then some b else lookKv k r
def putKv (k v : D) (kvs : List (D × D)) : List (D × D) :=
  if kvs.any (fun p => PyData.eqv p.1 k) = true then kvs.map fun p => if PyData.eqv p.1 k = true then (p.1, v) else p else kvs ++ [(k, v)]
def cutL {α : Type} (xs : List α) (lo hi : Option Int) : List α := (xs.drop (HT.sIx xs.length 0 lo)).take (HT.sIx xs.length xs.length hi - HT.sIx xs.length 0 lo)
def intsOf : List D → Option (List Int)
  | [] => some []
  | .int i :: r => (intsOf r).map (i :: ·)
  | _ :: _ => none
def boolsOf : List D → Option (List Bool)
  | [] => some []
  | .bool i :: r => (boolsOf r).map (i :: ·)
  | _ :: _ => none
/-! ### the operations -/
abbrev Op := List D → Option Ro
def oAdd : Op
  | [.int i, .int j] => some (.dat (.int (i + j)))
  | [.str x, .str y] => if x.length + y.length ≤ sizeLine then some (.dat (.str (x ++ y))) else none
  | [.tuple x, .tuple y] => if x.length + y.length ≤ sizeLine then some (.dat (.tuple (x ++ y))) else none
  | [.list x, .list y] => if x.length + y.length ≤ sizeLine then some (.fresh (.list (x ++ y))) else none
  | _ => none
def oSub : Op
  | [.int i, .int j] => some (.dat (.int (i - j)))
  | _ => none
def oMod : Op
  | [.int i, .int j] => if 0 < j then some (.dat (.int (i % j))) else none
  | _ => none
def oFdiv : Op
  | [.int i, .int j] => if 0 < j ∧ j < 1073741824 then some (.dat (.int (i / j))) else none
  | _ => none
def oPow : Op
  | [.int i, .int j] => if 0 ≤ j ∧ j ≤ 1000000 ∧ i.natAbs < 2 ^ 64 then some (.dat (.int (i ^ j.toNat))) else none
  | _ => none
def oMul : Op
  | [.int i, .int j] => if (-(2 ^ 64) < i ∧ i < 2 ^ 64) ∨ (-(2 ^ 64) < j ∧ j < 2 ^ 64) then some (.dat (.int (i * j))) else none
  | _ => none
def oNeg : Op
  | [.int i] => some (.dat (.int (-i)))
  | _ => none
def oEq : Op
  | [a, b] => if shp a && shp b then some (.dat (.bool (PyData.eqv a b))) else none
  | _ => none
def oNe : Op
  | [a, b] => if shp a && shp b then some (.dat (.bool (!PyData.eqv a b))) else none
  | _ => none
def oLt : Op
  | [.int i, .int j] => some (.dat (.bool (decide (i < j))))
  | _ => none
def oLe : Op
  | [.int i, .int j] => some (.dat (.bool (decide (i ≤ j))))
  | _ => none
def oGt : Op
  | [.int i, .int j] => some (.dat (.bool (decide (j < i))))
  | _ => none
def oGe : Op
  | [.int i, .int j] => some (.dat (.bool (decide (j ≤ i))))
  | _ => none
def isNone : D → Bool
  | .none => true
  | _ => false
def oIsN : Op
  | [a, .none] => some (.dat (.bool (isNone a)))
  | _ => none
def oNotN : Op
  | [a, .none] => some (.dat (.bool (!isNone a)))
  | _ => none
def oLen : Op
  | [.list x] => some (.dat (.int x.length))
  | [.tuple x] => some (.dat (.int x.length))
  | _ => none
def oIsi (t : Ty) : Op
  | [a] => some (.dat (.bool (tyOf t a)))
  | _ => none
def oList : Op
  | [.list x] => some (.fresh (.list x))
  | [.tuple x] => some (.fresh (.list x))
  | _ => none
def oTuple : Op
  | [.list x] => some (.dat (.tuple x))
  | [.tuple x] => some (.dat (.tuple x))
  | _ => none
def oInt : Op
  | [.int i] => some (.dat (.int i))
  | [.bool b] => some (.dat (.int (if b then 1 else 0)))
  | _ => none
def oSum : Op
  | [.list x] => (intsOf x).map fun ns => .dat (.int ns.sum)
  | _ => none
def maxI : List Int → Option Int
  | [] => none
  | x :: r => some (r.foldl max x)
def oMax : Op
  | [.list x] => ((intsOf x).bind maxI).map fun n => .dat (.int n)
  | _ => none
def oAny : Op
  | [.list x] => (boolsOf x).map fun ns => .dat (.bool (ns.any id))
  | _ => none
def oAll : Op
  | [.list x] => (boolsOf x).map fun ns => .dat (.bool (ns.all id))
  | _ => none
def oIx : Op
  | [.list x, .int i] => (atI x i).map .dat
  | [.tuple x, .int i] => (atI x i).map .dat
  | _ => none
end Ip

set_option Elab.async false
set_option linter.all false
set_option maxRecDepth 100000
/-! What it means that data stand in the heap. -/
namespace Ip
open PySem PySem.Spec PyProof.Rows L2
abbrev St := L2.St

/-- a dict at a, its keys and values -/
def DictAt (K : PySem.W.Frag) (H : Hp) (a : Addr) (kvv : List (V × V)) : Prop :=
  ∃ kk : List (Key × V), H a = some (.dK kk) ∧ kvv = kk.map fun p => (kV p.1, p.2)

/-- a list, tracked and not in O, or the written part's own -/
def LsO (K : PySem.W.Frag) (O : Addr → Prop) (H : Hp) (a : Addr) (vs : List V) : Prop :=
  (¬ O a ∧ Rd H a (.lst vs)) ∨
    ∃ (o : Obj) (its : Array Value) (n : Nat), K.lookup a = some o ∧ o.cls = .type "list" ∧ o.dict = none ∧ o.data = .seq its n ∧ its.size ≤ sizeLine ∧ Vals vs its.toList
theorem LsO.sq {K : PySem.W.Frag} {O : Addr → Prop} {H : Hp} {a : Addr} {vs : List V} (h : LsO K O H a vs) : SqL K H a vs := h.elim (fun z => .inl z.2) .inr
/-- a tuple's object -/
def tupO (its : List Value) : Obj := { cls := .type "tuple", data := .seq its.toArray }
/-- a tuple, frozen with its object -/
def frT (its : List Value) (xs : List V) : HO := .frz (tupO its) (.tup xs)
def newT (H : Hp) (xs : List V) (Q : V → Hp → Prop) : Prop := ∀ p its, H p = none → Q (.ref p) (upd H p (frT its xs))
/-- the object at a is known, and has no dict of its own -/
def Bare (H : Hp) (a : Addr) : Prop := ∃ o u, H a = some (.frz o u) ∧ o.dict = Option.none
def SqB (K : PySem.W.Frag) (H : Hp) (a : Addr) (vs : List V) : Prop := SqT K H a vs ∧ Bare H a
section
variable (K : PySem.W.Frag) (O : Addr → Prop) (H : Hp)
mutual
/-- the value v is the data; no list or dict in it stands at a place of O -/
def Rep : D → V → Prop
  | .none, v => v = .non
  | .bool b, v => v = .bl b
  | .int i, v => v = .int i
  | .str x, v => v = .str x
  | .list ds, v => ∃ a vs, v = .ref a ∧ LsO K O H a vs ∧ RepL ds vs
  | .tuple ds, v => ∃ a vs, v = .ref a ∧ SqB K H a vs ∧ RepL ds vs
  | .dict kvs, v => ∃ a kvv, v = .ref a ∧ ¬ O a ∧ DictAt K H a kvv ∧ RepK kvs kvv
def RepL : List D → List V → Prop
  | [], vs => vs = []
  | d :: ds, vs => ∃ w ws, vs = w :: ws ∧ Rep d w ∧ RepL ds ws
def RepK : List (D × D) → List (V × V) → Prop
  | [], vs => vs = []
  | (a, b) :: ds, vs => ∃ w z ws, vs = (w, z) :: ws ∧ Rep a w ∧ Rep b z ∧ RepK ds ws
end
/-- .. to be looked at now: the list or dict itself may stand anywhere -/
def View : D → V → Prop
  | .list ds, v => ∃ a vs, v = .ref a ∧ SqL K H a vs ∧ RepL K O H ds vs
  | .dict kvs, v => ∃ a kvv, v = .ref a ∧ DictAt K H a kvv ∧ RepK K O H kvs kvv
  | d, v => Rep K O H d v
/-- a list or dict that may be changed -/
def Cell : D → Addr → Prop
  | .list ds, a => ∃ vs, H a = some (.lst vs) ∧ RepL K O H ds vs
  | .dict kvs, a => ∃ kvv, DictAt K H a kvv ∧ RepK K O H kvs kvv
  | _, _ => False
end

/-- all that is tracked and not in M stays -/
def Ext (M : Addr → Prop) (H H' : Hp) : Prop := ∀ a o, H a = some o → ¬ M a → H' a = some o
theorem Ext.refl (M : Addr → Prop) (H : Hp) : Ext M H H := fun _ _ h _ => h
theorem Ext.trans {M M' : Addr → Prop} {H H1 H2 : Hp} (a : Ext M H H1) (b : Ext M' H1 H2) (s : ∀ x, M' x → M x) : Ext M H H2 := fun c o h n => b c o (a c o h n) fun z => n (s c z)
theorem Ext.mono {M M' : Addr → Prop} {H H1 : Hp} (a : Ext M H H1) (s : ∀ x, M x → M' x) : Ext M' H H1 := fun c o h n => a c o h fun z => n (s c z)
/-- what may be changed is a list or a dict -/
def Soft (M : Addr → Prop) (H : Hp) : Prop := ∀ a, M a → (∃ xs, H a = some (.lst xs)) ∨ ∃ kk, H a = some (.dK kk)

section
variable {K : PySem.W.Frag} {O O' M : Addr → Prop} {H H' : Hp}
theorem SqT.ext (s : Soft M H) (e : Ext M H H') {a : Addr} {vs : List V} (h : SqT K H a vs) : SqT K H' a vs := by
  rcases h with (h | ⟨o, h⟩) | h
  · refine .inl (.inl (e _ _ h fun z => ?_))
    rcases s a z with ⟨x, q⟩ | ⟨x, q⟩ <;> (rw [h] at q; cases q)
  · refine .inl (.inr ⟨o, e _ _ h fun z => ?_⟩)
    rcases s a z with ⟨x, q⟩ | ⟨x, q⟩ <;> (rw [h] at q; cases q)
  · exact .inr h
theorem SqB.ext (s : Soft M H) (e : Ext M H H') {a : Addr} {vs : List V} (h : SqB K H a vs) : SqB K H' a vs := by
  refine ⟨SqT.ext s e h.1, ?_⟩
  obtain ⟨o, u, q, d⟩ := h.2
  refine ⟨o, u, e _ _ q fun z => ?_, d⟩
  rcases s a z with ⟨x, q2⟩ | ⟨x, q2⟩ <;> (rw [q] at q2; cases q2)
theorem SqB.new {a : Addr} {its : List Value} {vs : List V} : SqB K (upd H a (frT its vs)) a vs := ⟨.inl (.inr ⟨_, upd_same⟩), _, _, upd_same, rfl⟩
theorem SqL.ext (e : Ext M H H') {a : Addr} {vs : List V} (n : ¬ M a) (h : SqL K H a vs) : SqL K H' a vs := by
  rcases h with (h | ⟨o, h⟩) | h
  · exact .inl (.inl (e _ _ h n))
  · exact .inl (.inr ⟨o, e _ _ h n⟩)
  · exact .inr h
theorem LsO.ext (e : Ext M H H') (hM : ∀ a, M a → O a) (hO : ∀ a o, H a = some o → O' a → O a) {a : Addr} {vs : List V} (h : LsO K O H a vs) : LsO K O' H' a vs := by
  rcases h with ⟨n, h | ⟨o, h⟩⟩ | h
  · exact .inl ⟨fun z => n (hO a _ h z), .inl (e _ _ h fun z => n (hM a z))⟩
  · exact .inl ⟨fun z => n (hO a _ h z), .inr ⟨o, e _ _ h fun z => n (hM a z)⟩⟩
  · exact .inr h
theorem DictAt.ext (e : Ext M H H') {a : Addr} {vs : List (V × V)} (n : ¬ M a) (h : DictAt K H a vs) : DictAt K H' a vs := by
  obtain ⟨kk, h, q⟩ := h
  exact ⟨kk, e _ _ h n, q⟩
mutual
theorem Rep.ext (s : Soft M H) (e : Ext M H H') (hM : ∀ a, M a → O a) (hO : ∀ a o, H a = some o → O' a → O a) : ∀ {d : D} {v : V}, Rep K O H d v → Rep K O' H' d v
  | .none, v, h => by simp only [Rep] at h ⊢; exact h
  | .bool b, v, h => by simp only [Rep] at h ⊢; exact h
  | .int i, v, h => by simp only [Rep] at h ⊢; exact h
  | .str x, v, h => by simp only [Rep] at h ⊢; exact h
  | .list ds, v, h => by
    simp only [Rep] at h ⊢
    obtain ⟨a, vs, e1, q, r⟩ := h
    exact ⟨a, vs, e1, LsO.ext e hM hO q, RepL.ext s e hM hO r⟩
  | .tuple ds, v, h => by
    simp only [Rep] at h ⊢
    obtain ⟨a, vs, e1, q, r⟩ := h
    exact ⟨a, vs, e1, SqB.ext s e q, RepL.ext s e hM hO r⟩
  | .dict ds, v, h => by
    simp only [Rep] at h ⊢
    obtain ⟨a, vs, e1, n, q, r⟩ := h
    exact ⟨a, vs, e1, fun z => n (q.elim fun kk y => hO a _ y.1 z), DictAt.ext e (fun z => n (hM a z)) q, RepK.ext s e hM hO r⟩
theorem RepL.ext (s : Soft M H) (e : Ext M H H') (hM : ∀ a, M a → O a) (hO : ∀ a o, H a = some o → O' a → O a) : ∀ {d : List D} {v : List V}, RepL K O H d v → RepL K O' H' d v
  | [], v, h => by simp only [RepL] at h ⊢; exact h
  | d :: ds, v, h => by
    simp only [RepL] at h ⊢
    obtain ⟨w, ws, e1, q, r⟩ := h
    exact ⟨w, ws, e1, Rep.ext s e hM hO q, RepL.ext s e hM hO r⟩
theorem RepK.ext (s : Soft M H) (e : Ext M H H') (hM : ∀ a, M a → O a) (hO : ∀ a o, H a = some o → O' a → O a) : ∀ {d : List (D × D)} {v : List (V × V)}, RepK K O H d v → RepK K O' H' d v
  | [], v, h => by simp only [RepK] at h ⊢; exact h
  | (a, b) :: ds, v, h => by
    simp only [RepK] at h ⊢
    obtain ⟨w, z, ws, e1, q, q2, r⟩ := h
    exact ⟨w, z, ws, e1, Rep.ext s e hM hO q, Rep.ext s e hM hO q2, RepK.ext s e hM hO r⟩
end
theorem Rep.view {d : D} {v : V} (h : Rep K O H d v) : View K O H d v := by
  cases d with
  | list ds => simp only [Rep] at h; obtain ⟨a, vs, e, q, r⟩ := h; exact ⟨a, vs, e, q.sq, r⟩
  | dict ds => simp only [Rep] at h; obtain ⟨a, vs, e, _, q, r⟩ := h; exact ⟨a, vs, e, q, r⟩
  | _ => exact h
theorem Cell.view {d : D} {a : Addr} (h : Cell K O H d a) : View K O H d (.ref a) := by
  cases d with
  | list ds => obtain ⟨vs, q, r⟩ := h; exact ⟨a, vs, rfl, SqL.of q, r⟩
  | dict ds => obtain ⟨vs, q, r⟩ := h; exact ⟨a, vs, rfl, q, r⟩
  | _ => exact False.elim h
theorem Cell.rep {d : D} {a : Addr} (h : Cell K O H d a) (n : ¬ O a) : Rep K O H d (.ref a) := by
  cases d with
  | list ds => obtain ⟨vs, q, r⟩ := h; simp only [Rep]; exact ⟨a, vs, rfl, .inl ⟨n, .inl q⟩, r⟩
  | dict ds => obtain ⟨vs, q, r⟩ := h; simp only [Rep]; exact ⟨a, vs, rfl, n, q, r⟩
  | _ => exact False.elim h
theorem Cell.soft {d : D} {a : Addr} (h : Cell K O H d a) : (∃ xs, H a = some (.lst xs)) ∨ ∃ kk, H a = some (.dK kk) := by
  cases d with
  | list ds => obtain ⟨vs, q, r⟩ := h; exact .inl ⟨_, q⟩
  | dict ds => obtain ⟨vs, ⟨kk, q, _⟩, r⟩ := h; exact .inr ⟨_, q⟩
  | _ => exact False.elim h
theorem Cell.ext (s : Soft M H) (e : Ext M H H') (hM : ∀ a, M a → O a) (hO : ∀ a o, H a = some o → O' a → O a) {d : D} {a : Addr} (n : ¬ M a) (h : Cell K O H d a) : Cell K O' H' d a := by
  cases d with
  | list ds => obtain ⟨vs, q, r⟩ := h; exact ⟨vs, e _ _ q n, RepL.ext s e hM hO r⟩
  | dict ds => obtain ⟨vs, q, r⟩ := h; exact ⟨vs, DictAt.ext e n q, RepK.ext s e hM hO r⟩
  | _ => exact False.elim h
/-- the address of a list is not in O, or it's a view -/
theorem View.ext (s : Soft M H) (e : Ext M H H') (hM : ∀ a, M a → O a) (hO : ∀ a o, H a = some o → O' a → O a) {d : D} {a : Addr} (n : ¬ M a) (h : View K O H d (.ref a)) : View K O' H' d (.ref a) := by
  cases d with
  | list ds => obtain ⟨b, vs, e1, q, r⟩ := h; cases e1; exact ⟨a, vs, rfl, SqL.ext e n q, RepL.ext s e hM hO r⟩
  | dict ds => obtain ⟨b, vs, e1, q, r⟩ := h; cases e1; exact ⟨a, vs, rfl, DictAt.ext e n q, RepK.ext s e hM hO r⟩
  | _ => exact Rep.ext s e hM hO h
theorem RepL.length : ∀ {ds : List D} {vs : List V}, RepL K O H ds vs → ds.length = vs.length
  | [], vs, h => by simp only [RepL] at h; rw [h]; rfl
  | d :: ds, vs, h => by
    simp only [RepL] at h
    obtain ⟨w, ws, e1, q, r⟩ := h
    rw [e1, List.length_cons, List.length_cons, RepL.length r]
theorem RepL.get : ∀ {ds : List D} {vs : List V} {i : Nat} {d : D}, RepL K O H ds vs → ds[i]? = some d → ∃ v, vs[i]? = some v ∧ Rep K O H d v
  | [], _, _, _, _, e => by simp at e
  | d :: ds, vs, 0, d', h, e => by
    simp only [RepL] at h
    obtain ⟨w, ws, e1, q, r⟩ := h
    simp at e
    subst e
    exact ⟨w, by rw [e1]; rfl, q⟩
  | d :: ds, vs, i + 1, d', h, e => by
    simp only [RepL] at h
    obtain ⟨w, ws, e1, q, r⟩ := h
    obtain ⟨v, e2, q2⟩ := RepL.get (i := i) r (by simpa using e)
    exact ⟨v, by rw [e1]; simpa using e2, q2⟩
theorem RepL.append : ∀ {ds es : List D} {vs ws : List V}, RepL K O H ds vs → RepL K O H es ws → RepL K O H (ds ++ es) (vs ++ ws)
  | [], _, vs, _, h, q => by simp only [RepL] at h; rw [h]; exact q
  | d :: ds, es, vs, ws, h, q => by
    simp only [RepL] at h
    obtain ⟨w, us, e1, q1, r⟩ := h
    rw [e1]
    simp only [List.cons_append, RepL]
    exact ⟨w, us ++ ws, rfl, q1, RepL.append r q⟩
/-- .. or a pair to be taken apart -/
def RepP (K : PySem.W.Frag) (O : Addr → Prop) (H : Hp) (d : D) (v : V) : Prop := Rep K O H d v ∨ ∃ a b p x y, d = pairD a b ∧ v = .ref p ∧ SqT K H p [x, y] ∧ Rep K O H a x ∧ Rep K O H b y
theorem pair_no {a b : D} {v : V} (h : Rep K O H (pairD a b) v) : False := by
  unfold pairD at h
  simp only [Rep, RepK] at h
  obtain ⟨p, kvv, _, _, ⟨kk, _, e⟩, w, z, ws, e2, ⟨q, _, e3, _⟩, _⟩ := h
  rw [e2] at e
  cases kk with
  | nil => cases e
  | cons k kk =>
    injection e with e _
    injection e with e _
    rw [e3] at e
    unfold kV at e
    split at e <;> cases e
end
end Ip

set_option Elab.async false
set_option linter.all false
set_option maxRecDepth 100000
set_option maxHeartbeats 1000000
/-! New tuples whose object is known: they have no dict of their own. -/
namespace Ip
open PySem PySem.Spec PyProof.Rows L2
section
variable {X : Cx} {pins : List (Addr × Obj)} {σ : L2.St} {H : Hp} {s : Shared}
theorem frT_ok {P : Program} {w : World} {h : Heap} {a : Addr} {its : List Value} {xs : List V} (hz : xs.length ≤ sizeLine) (r : Vals xs its) (e : h.get? a = some (tupO its)) : ObjOk P w H h a (frT its xs) :=
  ⟨e, hz, its, r, ⟨_, e, rfl, _, rfl⟩⟩
/-- the heap after a tuple was laid at its end -/
theorem laidT {t' : Nat} (I : Inv X pins σ H s) {its : List Value} {xs : List V} (r : Vals xs its) (hz : xs.length ≤ sizeLine) : Inv X pins σ (upd H s.heap.objs.size (frT its xs)) { s with heap := s.heap.push (tupO its), toks := t' } :=
  I.laid (t' := t') (fun _ _ e => Heap.get?_push_of_some _ e) (Nat.le_refl _) (frT_ok hz r (Heap.get?_push_size _ rfl))
def tTupB (t : TA) : TE := fun σ H Q => t σ H fun xs H1 => xs.length ≤ sizeLine ∧ newT H1 xs Q
theorem pe_tupB {es : List Expr} {t : TA} {x1 : Nat} {pos : Pos} (h : PA X es t) : PE X (.Tuple es x1 pos) (tTupB t) := by
  refine ⟨fun pins s σ H Q I hq => ?_⟩
  refine wpAny_Tuple_spliced (thn (h.run pos pins s σ H _ I hq) fun us s1 ⟨xs, H1, I1, r, z, q⟩ => ⟨by rw [← r.length]; exact z, ?_⟩)
  exact ⟨.ref s1.heap.objs.size, _, laidT (t' := s1.toks) I1 r z, rfl, q _ us (I1.hok.fresh (Nat.le_refl _))⟩
theorem call_tupleB : CallR X (.type "tuple") (fun xs H Q => ∃ p ys, xs = [.ref p] ∧ ((SqL X.K H p ys ∧ newT H ys Q) ∨ (SqT X.K H p ys ∧ Q (.ref p) H))) := by
  intro pins s σ H xs us Q I r h
  obtain ⟨p, ys, rfl, h⟩ := h
  obtain ⟨u, rfl, rx⟩ := vals1 r
  cases rx
  rcases h with ⟨hq, q⟩ | ⟨hq, q⟩
  · obtain ⟨its, r', pl, hz⟩ := I.list hq
    have hlen := r'.length
    refine call_tuple_list pl.isList (fun h' kp => ?_) (by simp only [List.size_toArray] <;> omega)
    have I1 : Inv X pins σ H { s with heap := h' } := I.kept (t' := s.toks) kp
    exact ⟨.ref h'.objs.size, _, laidT (t' := s.toks) I1 r' hz, rfl, q _ its (I1.hok.fresh (Nat.le_refl _))⟩
  · obtain ⟨its, r', pl, hz⟩ := I.tuple hq
    exact call_tuple_same pl ⟨.ref p, H, I, rfl, q⟩
def rCatB (K : PySem.W.Frag) : R2 := fun x y H Q => ∃ a b xs ys, x = .ref a ∧ y = .ref b ∧ SqT K H a xs ∧ SqT K H b ys ∧ xs.length + ys.length ≤ sizeLine ∧
  (xs = [] → Q (.ref b) H) ∧ (xs ≠ [] → ys = [] → Q (.ref a) H) ∧ (xs ≠ [] → ys ≠ [] → newT H (xs ++ ys) Q)
theorem op_catB : OpR X (binaryOp .Add) (rCatB X.K) := by
  intro pins s σ H x y v u Q I rx ry h
  obtain ⟨a, b, xs, ys, rfl, rfl, ha, hb, hz, q0, q1, q2⟩ := h
  cases rx
  cases ry
  obtain ⟨its, r1, p1, _⟩ := I.tuple ha
  obtain ⟨its2, r2, p2, _⟩ := I.tuple hb
  by_cases hx : xs = []
  · subst hx
    cases r1
    exact cat_tup0 p1 p2 ⟨.ref b, H, I, rfl, q0 rfl⟩
  · refine HT.cat_tup p1 p2 (fun z => hx (Vals.nil_iff r1 |>.mp z)) (fun z => ⟨.ref a, H, I, rfl, q1 hx (Vals.nil_iff r2 |>.mp z)⟩) (fun z => ?_) (by rw [← r1.length, ← r2.length]; exact hz)
    exact ⟨.ref s.heap.objs.size, _, laidT (t' := s.toks) I (Vals.append r1 r2) (by rw [List.length_append]; exact hz), rfl, q2 hx (fun w => z (Vals.nil_iff r2 |>.mpr w)) _ _ (I.hok.fresh (Nat.le_refl _))⟩
def rSlB (K : PySem.W.Frag) : V → Option Int → Option Int → Hp → VK → Prop := fun x lo hi H Q => ∃ a xs, x = .ref a ∧ SqT K H a xs ∧
  (HT.sIx xs.length 0 lo = 0 ∧ HT.sIx xs.length xs.length hi = xs.length → Q (.ref a) H) ∧ (¬ (HT.sIx xs.length 0 lo = 0 ∧ HT.sIx xs.length xs.length hi = xs.length) → newT H (cutV xs lo hi) Q)
theorem sl_tupB : SlR X (rSlB X.K) := by
  intro pins s σ H x v vl vu lo hi sl Q I rx hs pl pu h
  obtain ⟨a, xs, rfl, hx, q1, q2⟩ := h
  cases rx
  obtain ⟨its, r, ht, hz⟩ := I.tuple hx
  have hlen : its.toArray.size = xs.length := by rw [List.size_toArray]; exact r.length.symm
  refine ⟨"tuple", _, PyProof.Rows.slot_tuple_getitem.lookup, ht.typeIs, ?_⟩
  by_cases hw : HT.sIx xs.length 0 lo = 0 ∧ HT.sIx xs.length xs.length hi = xs.length
  · exact getItem_tuple_whole ht hs pl pu (by rw [hlen]; exact hw) ⟨.ref a, H, I, rfl, q1 hw⟩
  · refine HT.getItem_tuple_cut ht hs pl pu (by rw [hlen]; exact hw) ?_ (by rw [hlen]; exact hz)
    rw [hlen]
    exact ⟨.ref s.heap.objs.size, _, laidT (t' := s.toks) I ((r.drop (HT.sIx xs.length 0 lo)).take (HT.sIx xs.length xs.length hi - HT.sIx xs.length 0 lo)) (Nat.le_trans (cutV_length xs lo hi) hz), rfl, q2 hw _ _ (I.hok.fresh (Nat.le_refl _))⟩
end
end Ip

set_option Elab.async false
set_option linter.all false
set_option maxRecDepth 100000
/-! The state of a body, and what it means that an expression gives what the core says. -/
namespace Ip
open PySem PySem.Spec PyProof.Rows L2

abbrev Am := Nat → Option Addr
/-- the places of what a def is handed: to be changed, to be read -/
structure Fx where
  w : Am
  b : Am
/-- what may be changed -/
def Mu (io : Fx) (α : Am) : Addr → Prop := fun a => (∃ i, α i = some a) ∨ ∃ i, io.w i = some a
def Al (F : Addr → Prop) (io : Fx) (α : Am) : Addr → Prop := fun a => F a ∨ Mu io α a
def Plus (F : Addr → Prop) (p : Addr) : Addr → Prop := fun a => F a ∨ a = p

def SlOk (K : PySem.W.Frag) (F : Addr → Prop) (io : Fx) (α : Am) (σ : St) (H : Hp) (i : Nat) : Sl → Prop
  | .no => α i = none
  | .dat d => α i = none ∧ ∃ v, σ[i]? = some (some v) ∧ Rep K (Al F io α) H d v
  | .own d => ∃ a, α i = some a ∧ σ[i]? = some (some (.ref a)) ∧ Cell K (Al F io α) H d a
  | .io d => α i = none ∧ ∃ a, io.w i = some a ∧ σ[i]? = some (some (.ref a)) ∧ Cell K (Al F io α) H d a
  | .bor d => α i = none ∧ ∃ a, io.b i = some a ∧ σ[i]? = some (some (.ref a)) ∧ View K (Al F io α) H d (.ref a)

structure R (K : PySem.W.Frag) (F : Addr → Prop) (io : Fx) (α : Am) (r : Ev) (σ : St) (H : Hp) : Prop where
  len : r.length = σ.length
  slot : ∀ i s, r[i]? = some s → SlOk K F io α σ H i s
  out : ∀ i, r.length ≤ i → α i = none
  ios : ∀ i a, io.w i = some a → ∃ d, r[i]? = some (.io d)
  inj : ∀ i j a, α i = some a → α j = some a → i = j
  ioj : ∀ i j a, io.w i = some a → io.w j = some a → i = j
  aio : ∀ i j a, α i = some a → io.w j = some a → False
  boH : ∀ i a, io.b i = some a → (∃ o, H a = some o) ∧ ¬ Mu io α a
  aF : ∀ a, F a → Mu io α a → False
  FH : ∀ a, F a → ∃ o, H a = some o

section
variable {K : PySem.W.Frag} {F F' : Addr → Prop} {io : Fx} {α α' : Am} {r r' : Ev} {σ : St} {H H' : Hp}
theorem R.own_at (x : R K F io α r σ H) {i : Nat} {a : Addr} (h : α i = some a) : ∃ d, r[i]? = some (.own d) := by
  by_cases hi : i < r.length
  · have e := List.getElem?_eq_getElem hi
    have q := x.slot i r[i] e
    revert q e
    cases r[i] with
    | no => intro e q; have q : α i = none := q; rw [h] at q; cases q
    | dat d => intro e q; have q : α i = none := q.1; rw [h] at q; cases q
    | own d => intro e q; exact ⟨d, e⟩
    | io d => intro e q; have q : α i = none := q.1; rw [h] at q; cases q
    | bor d => intro e q; have q : α i = none := q.1; rw [h] at q; cases q
  · rw [x.out i (by omega)] at h; cases h
theorem R.own_cell (x : R K F io α r σ H) {i : Nat} {a : Addr} (h : α i = some a) : ∃ d, r[i]? = some (.own d) ∧ σ[i]? = some (some (.ref a)) ∧ Cell K (Al F io α) H d a := by
  obtain ⟨d, e⟩ := x.own_at h
  obtain ⟨b, e1, e2, c⟩ := x.slot i _ e
  rw [h] at e1; cases e1
  exact ⟨d, e, e2, c⟩
theorem R.io_cell (x : R K F io α r σ H) {i : Nat} {a : Addr} (h : io.w i = some a) : ∃ d, r[i]? = some (.io d) ∧ σ[i]? = some (some (.ref a)) ∧ Cell K (Al F io α) H d a := by
  obtain ⟨d, e⟩ := x.ios i a h
  obtain ⟨_, b, e1, e2, c⟩ := x.slot i _ e
  rw [h] at e1; cases e1
  exact ⟨d, e, e2, c⟩
theorem R.soft (x : R K F io α r σ H) : Soft (Mu io α) H := by
  rintro a (⟨i, h⟩ | ⟨i, h⟩)
  · obtain ⟨d, _, _, c⟩ := x.own_cell h
    exact c.soft
  · obtain ⟨d, _, _, c⟩ := x.io_cell h
    exact c.soft
theorem Al.mu {a : Addr} (h : Mu io α a) : Al F io α a := .inr h
theorem Soft.none (H : Hp) : Soft (fun _ => False) H := fun _ h => h.elim
/-- nothing of ours is changed: what is held is held, another set of foreign places -/
theorem SlOk.same {F : Addr → Prop} (e : Ext (fun _ => False) H H') (o : ∀ a o, H a = some o → F' a → F a) {i : Nat} {s : Sl} (q : SlOk K F io α σ H i s) : SlOk K F' io α σ H' i s := by
  have c : ∀ a, (fun _ => False : Addr → Prop) a → Al F io α a := fun _ z => z.elim
  have o' : ∀ a o, H a = some o → Al F' io α a → Al F io α a := fun a x h z => z.imp (o a x h) id
  cases s with
  | no => exact q
  | dat d => exact ⟨q.1, q.2.imp fun v z => ⟨z.1, Rep.ext (Soft.none H) e c o' z.2⟩⟩
  | own d => exact q.imp fun a z => ⟨z.1, z.2.1, Cell.ext (Soft.none H) e c o' (fun z => z) z.2.2⟩
  | io d => exact ⟨q.1, q.2.imp fun a z => ⟨z.1, z.2.1, Cell.ext (Soft.none H) e c o' (fun z => z) z.2.2⟩⟩
  | bor d => exact ⟨q.1, q.2.imp fun a z => ⟨z.1, z.2.1, View.ext (Soft.none H) e c o' (fun z => z) z.2.2⟩⟩
theorem R.same (x : R K F io α r σ H) (e : Ext (fun _ => False) H H') : R K F io α r σ H' :=
  ⟨x.len, fun i s hs => (x.slot i s hs).same e fun _ _ _ z => z, x.out, x.ios, x.inj, x.ioj, x.aio, fun i a h => ⟨(x.boH i a h).1.imp fun o q => e _ _ q fun z => z, (x.boH i a h).2⟩, x.aF, fun a h => (x.FH a h).imp fun o q => e _ _ q fun z => z⟩
theorem R.weak (x : R K F io α r σ H) (s : ∀ a, F' a → F a) : R K F' io α r σ H :=
  ⟨x.len, fun i sl hs => (x.slot i sl hs).same (Ext.refl _ _) fun a _ _ z => s a z, x.out, x.ios, x.inj, x.ioj, x.aio, x.boH, fun a h => x.aF a (s a h), fun a h => x.FH a (s a h)⟩
theorem plus_tr {p : Addr} (n : H p = none) : ∀ a o, H a = some o → Plus F p a → F a := fun a o h z => z.elim id fun e => by rw [e, n] at h; cases h
/-- a new object: all that we have is elsewhere -/
theorem R.plus {p : Addr} (x : R K F io α r σ H) (n : H p = none) (e : Ext (fun _ => False) H H') (hp : ∃ o, H' p = some o) : R K (Plus F p) io α r σ H' := by
  refine ⟨x.len, fun i sl hs => (x.slot i sl hs).same e (plus_tr n), x.out, x.ios, x.inj, x.ioj, x.aio, fun i a h => ⟨(x.boH i a h).1.imp fun o q => e _ _ q fun z => z, (x.boH i a h).2⟩, fun a h m => ?_, fun a h => ?_⟩
  · rcases h with h | h
    · exact x.aF a h m
    · subst h
      rcases x.soft a m with ⟨_, q⟩ | ⟨_, q⟩ <;> (rw [n] at q; cases q)
  · rcases h with h | h
    · obtain ⟨o, q⟩ := x.FH a h
      exact ⟨o, e _ _ q fun z => z⟩
    · subst h; exact hp
theorem Al.plus {p a : Addr} (h : Al (Plus F p) io α a) : Al F io α a ∨ a = p := by
  rcases h with (h | h) | h
  · exact .inl (.inl h)
  · exact .inr h
  · exact .inl (.inr h)
end

/-! ### what an expression gives -/
structure Par where
  K : PySem.W.Frag
  /-- an exception: its class by number, its fields, as a class, a dict, in the heap -/
  EC : Nat → List D → Value → Option Addr → Hp → Prop
abbrev WX := Value → Option Addr → St → Hp → Prop

/-- the value of a result, kept while other things are reckoned: a new list is data -/
def RV (K : PySem.W.Frag) (O : Addr → Prop) (σ : St) (H : Hp) (v : V) : Rs → Prop
  | .dat d => Rep K O H d v
  | .fresh d => False
  | .var i => σ[i]? = some (some v) ∧ ∃ a, v = .ref a
def RR (K : PySem.W.Frag) (F : Addr → Prop) (io : Fx) (α : Am) (r : Ev) (σ : St) (H0 H : Hp) (v : V) : Rs → Prop
  | .dat d => R K F io α r σ H ∧ Rep K (Al F io α) H d v
  | .fresh d => ∃ p, v = .ref p ∧ H0 p = none ∧ R K (Plus F p) io α r σ H ∧ ¬ F p ∧ ¬ Mu io α p ∧ Cell K (Al (Plus F p) io α) H d p
  | .var i => R K F io α r σ H ∧ σ[i]? = some (some v) ∧ ∃ a, v = .ref a
/-- from here on: what may be changed gets less, all else stays -/
structure On (io : Fx) (α α' : Am) (H H' : Hp) : Prop where
  sub : ∀ a o, H a = some o → Mu io α' a → Mu io α a
  ext : Ext (Mu io α) H H'
  there : ∀ a o, H a = some o → ∃ o', H' a = some o'
theorem On.refl (io : Fx) (α : Am) (H : Hp) : On io α α H H := ⟨fun _ _ _ z => z, Ext.refl _ _, fun _ o h => ⟨o, h⟩⟩
theorem On.trans {io : Fx} {α α' α2 : Am} {H H1 H2 : Hp} (a : On io α α' H H1) (b : On io α' α2 H1 H2) : On io α α2 H H2 := by
  refine ⟨fun x o h z => ?_, fun x o h n => ?_, fun x o h => ?_⟩
  · obtain ⟨o', h'⟩ := a.there x o h
    exact a.sub x o h (b.sub x o' h' z)
  · exact b.ext x o (a.ext x o h n) fun z => n (a.sub x o h z)
  · obtain ⟨o', h'⟩ := a.there x o h
    exact b.there x o' h'
theorem On.same {io : Fx} {α : Am} {H H1 : Hp} (a : Ext (fun _ => False) H H1) : On io α α H H1 := ⟨fun _ _ _ z => z, a.mono fun _ z => z.elim, fun x o h => ⟨o, a x o h fun z => z⟩⟩
theorem On.free {io : Fx} {α α' : Am} {H H1 : Hp} (a : On io α α' H H1) {p : Addr} (n : H1 p = none) : H p = none := by
  cases q : H p with
  | none => rfl
  | some o =>
    obtain ⟨o', h⟩ := a.there p o q
    rw [n] at h; cases h

/-- what an exception leaves -/
def Thrown (P : Par) (W : WX) (F : Addr → Prop) (io : Fx) (α : Am) (H : Hp) (c : Nat) (fs : List D) (r : Ev) : Prop :=
  ∀ cls d σ' H' α', On io α α' H H' → P.EC c fs cls d H' → R P.K F io α' r σ' H' → W cls d σ' H'
theorem Thrown.on {P : Par} {W : WX} {F : Addr → Prop} {io : Fx} {α α1 : Am} {H H1 : Hp} {c : Nat} {fs : List D} {r : Ev} (h : Thrown P W F io α H c fs r) (o : On io α α1 H H1) : Thrown P W F io α1 H1 c fs r :=
  fun cls d σ' H' α' o' e x => h cls d σ' H' α' (o.trans o') e x
def tEv (P : Par) (W : WX) (m : M Rs) : TE := fun σ H Q => ∃ F io α r, R P.K F io α r σ H ∧ match m r with
  | .ok x r' => ∀ v H' α', On io α α' H H' → RR P.K F io α' r' σ H H' v x → Q v H'
  | .exc c fs r' => Thrown P W F io α H c fs r'
  | .stuck => False
def tBv (P : Par) (W : WX) (m : M Bool) : TT := fun σ H Q => ∃ F io α r, R P.K F io α r σ H ∧ match m r with
  | .ok b r' => ∀ H' α', On io α α' H H' → R P.K F io α' r' σ H' → Q b H'
  | .exc c fs r' => Thrown P W F io α H c fs r'
  | .stuck => False
/-- the values of kept results -/
def RVs (K : PySem.W.Frag) (O : Addr → Prop) (σ : St) (H : Hp) : List V → List Rs → Prop
  | [], [] => True
  | v :: vs, x :: xs => RV K O σ H v x ∧ RVs K O σ H vs xs
  | _, _ => False
def tAv (P : Par) (W : WX) (ms : List (M Rs)) : TA := fun σ H Q => ∃ F io α r, R P.K F io α r σ H ∧ match args ms r with
  | .ok xs r' => ∀ vs H' α', On io α α' H H' → R P.K F io α' r' σ H' → RVs P.K (Al F io α') σ H' vs xs → Q vs H'
  | .exc c fs r' => Thrown P W F io α H c fs r'
  | .stuck => False

section
variable {K : PySem.W.Frag} {F : Addr → Prop} {io : Fx} {α α' : Am} {r : Ev} {σ : St} {H H' : Hp} {v : V} {P : Par} {W : WX}
theorem RV.on (s : Soft (Mu io α) H) (o : On io α α' H H') : ∀ {x : Rs}, RV K (Al F io α) σ H v x → RV K (Al F io α') σ H' v x
  | .dat d, h => Rep.ext s o.ext (fun _ z => .inr z) (fun _ o' q z => z.imp id (o.sub _ o' q)) h
  | .var i, h => h
theorem RVs.on (s : Soft (Mu io α) H) (o : On io α α' H H') : ∀ {vs : List V} {xs : List Rs}, RVs K (Al F io α) σ H vs xs → RVs K (Al F io α') σ H' vs xs
  | [], [], h => trivial
  | v :: vs, x :: xs, h => ⟨RV.on s o h.1, RVs.on s o h.2⟩
  | [], _ :: _, h => h
  | _ :: _, [], h => h
/-- a result is kept -/
theorem RR.held : ∀ {x : Rs}, RR K F io α r σ H' H v x → ∃ y, hold x r = .ok y r ∧ R K F io α r σ H ∧ RV K (Al F io α) σ H v y
  | .dat d, h => ⟨_, rfl, h.1, h.2⟩
  | .var i, h => ⟨_, rfl, h.1, h.2⟩
  | .fresh d, h => by
    obtain ⟨p, rfl, _, x, n1, n2, c⟩ := h
    refine ⟨_, rfl, x.weak fun _ z => .inl z, ?_⟩
    exact (c.ext (Soft.none H) (Ext.refl _ _) (fun _ z => z.elim) (fun a _ _ z => z.imp (fun q => .inl q) id) (fun z => z)).rep fun z => z.elim n1 n2
theorem RR.back {α0 : Am} {H0 : Hp} (o : On io α0 α H0 H) : ∀ {x : Rs}, RR K F io α' r σ H H' v x → RR K F io α' r σ H0 H' v x
  | .dat d, h => h
  | .var i, h => h
  | .fresh d, h => by
    obtain ⟨p, e, n, h⟩ := h
    exact ⟨p, e, o.free n, h⟩
theorem PE.weak {X : Cx} {e : Expr} {t t' : TE} (h : PE X e t) (i : ∀ σ H Q, t' σ H Q → t σ H Q) : PE X e t' := ⟨fun pins s σ H Q I q => h.run pins s σ H Q I (i σ H Q q)⟩
theorem PT.weak {X : Cx} {e : Expr} {t t' : TT} (h : PT X e t) (i : ∀ σ H Q, t' σ H Q → t σ H Q) : PT X e t' := ⟨fun pins s σ H Q I q => h.run pins s σ H Q I (i σ H Q q)⟩
theorem PA.weak {X : Cx} {es : List Expr} {t t' : TA} (h : PA X es t) (i : ∀ σ H Q, t' σ H Q → t σ H Q) : PA X es t' := ⟨fun pos pins s σ H Q I q => h.run pos pins s σ H Q I (i σ H Q q)⟩
/-- arguments, one more in front -/
theorem av_cons {m : M Rs} {ms : List (M Rs)} {σ : St} {H : Hp} {Q : List V → Hp → Prop} (h : tAv P W (m :: ms) σ H Q) :
    tEv P W m σ H fun x H1 => tAv P W ms σ H1 fun xs H2 => Q (x :: xs) H2 := by
  obtain ⟨F, io, α, r, x, h⟩ := h
  refine ⟨F, io, α, r, x, ?_⟩
  unfold args at h
  cases e : m r with
  | stuck => rw [e] at h; exact h
  | exc c fs r1 => rw [e] at h; exact h
  | ok y r1 =>
    rw [e] at h
    intro v H1 α1 o1 q1
    obtain ⟨z, e2, x1, q1⟩ := q1.held
    simp only [e2] at h
    refine ⟨F, io, α1, r1, x1, ?_⟩
    cases e3 : args ms r1 with
    | stuck => rw [e3] at h; exact h
    | exc c fs r2 => rw [e3] at h; exact Thrown.on h o1
    | ok ys r2 =>
      rw [e3] at h
      intro vs H2 α2 o2 x2 q2
      exact h (v :: vs) H2 α2 (o1.trans o2) x2 ⟨RV.on x1.soft o2 q1, q2⟩
theorem av_nil {σ : St} {H : Hp} {Q : List V → Hp → Prop} (h : tAv P W [] σ H Q) : Q [] H := by
  obtain ⟨F, io, α, r, x, h⟩ := h
  exact h [] H α (On.refl _ _ _) x trivial
theorem pa_nil' {X : Cx} : PA X [] (tAv P W []) := PA.weak pa_nil fun σ H Q h => av_nil h
theorem pa_cons' {X : Cx} {e : Expr} {es : List Expr} {m : M Rs} {ms : List (M Rs)} (ha : PE X e (tEv P W m)) (hr : PA X es (tAv P W ms)) (hs : starEach (e :: es) X.env = (false, eval e X.env) :: starEach es X.env) :
    PA X (e :: es) (tAv P W (m :: ms)) := PA.weak (pa_cons ha hr hs) fun σ H Q h => av_cons h
end

/-! ### operations on values -/
def Views (K : PySem.W.Frag) (O : Addr → Prop) (H : Hp) : List D → List V → Prop
  | [], vs => vs = []
  | d :: ds, vs => ∃ w ws, vs = w :: ws ∧ View K O H d w ∧ Views K O H ds ws
/-- what an operation gives: nothing of ours is changed -/
def Out (K : PySem.W.Frag) (O : Addr → Prop) (H : Hp) (v : V) (H' : Hp) : Ro → Prop
  | .dat d => Ext (fun _ => False) H H' ∧ Rep K O H' d v
  | .fresh d => Ext (fun _ => False) H H' ∧ ∃ p, v = .ref p ∧ H p = none ∧ Cell K (fun a => O a ∨ a = p) H' d p
/-- the rule r serves the operation f -/
def Prm (K : PySem.W.Frag) (f : List D → Option Ro) (r : List V → Hp → VK → Prop) : Prop :=
  ∀ (O : Addr → Prop) (H : Hp) (ds : List D) (vs : List V) (x : Ro) (Q : VK), f ds = some x → Views K O H ds vs → (∀ v H', Out K O H v H' x → Q v H') → r vs H Q
section
variable {K : PySem.W.Frag} {F : Addr → Prop} {io : Fx} {α α' : Am} {r r' : Ev} {σ : St} {H H' : Hp} {v : V} {P : Par} {W : WX}
theorem R.held (x : R K F io α r σ H) {i : Nat} {d : D} (e : held r[i]? = some d) (h : σ[i]? = some (some v)) : View K (Al F io α) H d v := by
  cases e1 : r[i]? with
  | none => rw [e1] at e; cases e
  | some s =>
    have q := x.slot i s e1
    rw [e1] at e
    cases s with
    | no => cases e
    | dat z => cases e
    | own z =>
      cases e
      obtain ⟨a, _, e2, c⟩ := q
      rw [h] at e2
      cases e2
      exact c.view
    | io z =>
      cases e
      obtain ⟨_, a, _, e2, c⟩ := q
      rw [h] at e2
      cases e2
      exact c.view
    | bor z =>
      cases e
      obtain ⟨_, a, _, e2, c⟩ := q
      rw [h] at e2
      cases e2
      exact c
theorem look_no (y : Rs) (r : Ev) : (∃ d, look y r = .ok d r) ∨ look y r = .stuck := by
  cases y with
  | dat z => exact .inl ⟨z, rfl⟩
  | fresh z => exact .inl ⟨z, rfl⟩
  | var i =>
    show (∃ d, lift (Ip.held r[i]?) r = .ok d r) ∨ lift (Ip.held r[i]?) r = .stuck
    cases Ip.held r[i]? with
    | none => exact .inr rfl
    | some d => exact .inl ⟨d, rfl⟩
theorem R.seen (x : R K F io α r σ H) {y : Rs} {d : D} (e : look y r = .ok d r') (h : RV K (Al F io α) σ H v y) : r' = r ∧ View K (Al F io α) H d v := by
  cases y with
  | dat z =>
    have e' : Res.ok z r = Res.ok d r' := e
    cases e'
    exact ⟨rfl, Rep.view h⟩
  | fresh z => exact False.elim h
  | var i =>
    obtain ⟨h, _⟩ := h
    have e' : lift (Ip.held r[i]?) r = Res.ok d r' := e
    cases e1 : Ip.held r[i]? with
    | none => rw [e1] at e'; cases e'
    | some z =>
      rw [e1] at e'
      have e2 : Res.ok z r = Res.ok d r' := e'
      cases e2
      exact ⟨rfl, x.held e1 h⟩
theorem looks_no : ∀ (xs : List Rs) (r : Ev), (∃ d, looks xs r = .ok d r) ∨ looks xs r = .stuck
  | [], r => .inl ⟨[], rfl⟩
  | x :: xs, r => by
    unfold looks
    rcases look_no x r with ⟨d, e⟩ | e
    · simp only [e]
      rcases looks_no xs r with ⟨ds, e2⟩ | e2
      · simp only [e2]; exact .inl ⟨_, rfl⟩
      · simp only [e2]; exact .inr trivial
    · simp only [e]; exact .inr trivial
theorem seens_of (x : R K F io α r σ H) : ∀ {ys : List Rs} {ds : List D} {vs : List V}, looks ys r = .ok ds r → RVs K (Al F io α) σ H vs ys → Views K (Al F io α) H ds vs
  | [], ds, [], e, _ => by
    unfold looks at e
    cases e
    rfl
  | [], ds, _ :: _, _, h => h.elim
  | _ :: _, ds, [], _, h => h.elim
  | y :: ys, ds, v :: vs, e, h => by
    unfold looks at e
    rcases look_no y r with ⟨d, e1⟩ | e1
    · rw [e1] at e
      rcases looks_no ys r with ⟨es, e2⟩ | e2
      · simp only [e2] at e
        cases e
        exact ⟨v, vs, rfl, (x.seen e1 h.1).2, seens_of x e2 h.2⟩
      · simp only [e2] at e; cases e
    · rw [e1] at e; cases e
/-- an operation's result in our state -/
theorem R.done (x : R K F io α r σ H) {y : Ro} (h : Out K (Al F io α) H v H' y) : On io α α H H' ∧ RR K F io α r σ H H' v y.rs := by
  cases y with
  | dat d => exact ⟨On.same h.1, x.same h.1, h.2⟩
  | fresh d =>
    obtain ⟨e, p, rfl, n, c⟩ := h
    have nF : ¬ F p := fun z => by
      obtain ⟨o, q⟩ := x.FH p z
      rw [n] at q; cases q
    have nM : ¬ Mu io α p := fun z => by
      rcases x.soft p z with ⟨_, q⟩ | ⟨_, q⟩ <;> (rw [n] at q; cases q)
    have hp : ∃ o, H' p = some o := by
      rcases c.soft with ⟨_, q⟩ | ⟨_, q⟩ <;> exact ⟨_, q⟩
    exact ⟨On.same e, p, rfl, n, x.plus n e hp, nF, nM, c.ext (Soft.none H') (Ext.refl _ _) (fun _ z => z.elim) (fun a _ _ z => z.plus) (fun z => z)⟩
end

section
variable {K : PySem.W.Frag} {P : Par} {W : WX} {X : Cx}
theorem prim_ok {f : List D → Option Ro} {ms : List (M Rs)} {r : List V → Hp → VK → Prop} {σ : St} {H : Hp} {Q : VK} (p : Prm P.K f r) (h : tEv P W (prim f ms) σ H Q) : tAv P W ms σ H fun vs H1 => r vs H1 Q := by
  obtain ⟨F, io, α, ρ, x, h⟩ := h
  refine ⟨F, io, α, ρ, x, ?_⟩
  unfold prim at h
  cases e : args ms ρ with
  | stuck => rw [e] at h; exact h
  | exc c fs r1 => rw [e] at h; exact h
  | ok ys r1 =>
    rw [e] at h
    intro vs H1 α1 o1 x1 q1
    rcases looks_no ys r1 with ⟨ds, e2⟩ | e2
    · simp only [e2] at h
      cases e3 : f ds with
      | none => rw [e3] at h; exact False.elim h
      | some y =>
        rw [e3] at h
        refine p (Al F io α1) H1 ds vs y Q e3 (seens_of x1 e2 q1) fun v H2 o => ?_
        obtain ⟨o2, q2⟩ := x1.done o
        exact h v H2 α1 (o1.trans o2) (q2.back o1)
    · simp only [e2] at h
/-- rules of one, two values -/
def r1 (r : V → Hp → VK → Prop) : List V → Hp → VK → Prop := fun vs H Q => ∃ v, vs = [v] ∧ r v H Q
def r2 (r : R2) : List V → Hp → VK → Prop := fun vs H Q => ∃ v w, vs = [v, w] ∧ r v w H Q
theorem ev_mono {m : M Rs} {σ : St} {H : Hp} {Q Q' : VK} (h : tEv P W m σ H Q) (i : ∀ v H, Q v H → Q' v H) : tEv P W m σ H Q' := by
  obtain ⟨F, io, α, ρ, x, h⟩ := h
  refine ⟨F, io, α, ρ, x, ?_⟩
  cases e : m ρ with
  | stuck => rw [e] at h; exact h
  | exc c fs r1 => rw [e] at h; exact h
  | ok z r2 =>
    rw [e] at h
    exact fun v H' α' o q => i _ _ (h v H' α' o q)
theorem one_ok {f : List D → Option Ro} {a : M Rs} {r : V → Hp → VK → Prop} {σ : St} {H : Hp} {Q : VK} (p : Prm P.K f (r1 r)) (h : tEv P W (prim f [a]) σ H Q) : tEv P W a σ H fun x H1 => r x H1 Q :=
  ev_mono (av_cons (prim_ok p h)) fun v H q => by
    obtain ⟨v', e, hr⟩ := av_nil q
    cases e
    exact hr
theorem two_ok {f : List D → Option Ro} {a b : M Rs} {r : R2} {σ : St} {H : Hp} {Q : VK} (p : Prm P.K f (r2 r)) (h : tEv P W (prim f [a, b]) σ H Q) : tEv P W a σ H fun x H1 => tEv P W b σ H1 fun y H2 => r x y H2 Q :=
  ev_mono (av_cons (prim_ok p h)) fun v H q => ev_mono (av_cons q) fun v2 H2 q2 => by
    obtain ⟨v', w', e, hr⟩ := av_nil q2
    cases e
    exact hr
/-- a two-place operator, a comparison, a built-in -/
theorem px_op {op : Operator} {a b : Expr} {ma mb : M Rs} {f : List D → Option Ro} {r : R2} {pos : Pos} (ho : OpR X (binaryOp op) r) (p : Prm P.K f (r2 r)) (ha : PE X a (tEv P W ma)) (hb : PE X b (tEv P W mb)) : PE X (.BinOp a op b pos) (tEv P W (prim f [ma, mb])) :=
  PE.weak (pe_op ho ha hb) fun σ H Q h => two_ok p h
theorem px_cmp {op : CmpOp} {a b : Expr} {ma mb : M Rs} {f : List D → Option Ro} {r : R2} {pos : Pos} (ho : OpR X (compareOp op) r) (p : Prm P.K f (r2 r)) (ha : PE X a (tEv P W ma)) (hb : PE X b (tEv P W mb)) (hm : behindInMarks op b = false) : PE X (.Compare a [op] [b] pos) (tEv P W (prim f [ma, mb])) :=
  PE.weak (pe_cmpR ho ha hb hm) fun σ H Q h => two_ok p h
/-- a test of a value -/
theorem tst_ok {m : M Rs} {σ : St} {H : Hp} {Q : Bool → Hp → Prop} (h : tBv P W (tst m) σ H Q) : tEv P W m σ H fun x H1 => ∃ c, x = .bl c ∧ Q c H1 := by
  obtain ⟨F, io, α, ρ, x, h⟩ := h
  refine ⟨F, io, α, ρ, x, ?_⟩
  unfold tst at h
  cases e : m ρ with
  | stuck => rw [e] at h; exact h
  | exc c fs r1 => rw [e] at h; exact h
  | ok y r1 =>
    rw [e] at h
    intro v H1 α1 o1 q1
    cases y with
    | fresh d => exact False.elim h
    | var i => exact False.elim h
    | dat d =>
      obtain ⟨q1, q2⟩ := q1
      cases d with
      | bool b =>
        simp only [Rep] at q2
        exact ⟨b, q2, h H1 α1 o1 q1⟩
      | _ => exact False.elim h
theorem pt_tst {e : Expr} {m : M Rs} (h : PE X e (tEv P W m)) (he : ∀ whole, isTrue e X.env whole = (do let v ← whole; standAt e.pos; holding [v] (truthy v))) : PT X e (tBv P W (tst m)) :=
  PT.weak (pt_val h he) fun σ H Q h => tst_ok h
theorem pt_cmp' {op : CmpOp} {a b : Expr} {ma mb : M Rs} {f : List D → Option Ro} {r : R2} {pos : Pos} (ho : OpR X (compareOp op) r) (p : Prm P.K f (r2 r)) (ha : PE X a (tEv P W ma)) (hb : PE X b (tEv P W mb)) (hm : behindInMarks op b = false) : PT X (.Compare a [op] [b] pos) (tBv P W (tst (prim f [ma, mb]))) :=
  PT.weak (pt_cmpR ho ha hb hm) fun σ H Q h => two_ok p (tst_ok h)
theorem bv_mono {m : M Bool} {σ : St} {H : Hp} {Q Q' : Bool → Hp → Prop} (h : tBv P W m σ H Q) (i : ∀ v H, Q v H → Q' v H) : tBv P W m σ H Q' := by
  obtain ⟨F, io, α, ρ, x, h⟩ := h
  refine ⟨F, io, α, ρ, x, ?_⟩
  cases e : m ρ with
  | stuck => rw [e] at h; exact h
  | exc c fs r1 => rw [e] at h; exact h
  | ok z r2 =>
    rw [e] at h
    exact fun H' α' o q => i _ _ (h H' α' o q)
theorem kb_ok {b : Bool} {σ : St} {H : Hp} {Q : Bool → Hp → Prop} (h : tBv P W (kb b) σ H Q) : Q b H := by
  obtain ⟨F, io, α, ρ, x, h⟩ := h
  exact h H α (On.refl _ _ _) x
/-- two ways -/
theorem cond_ok {c a b : M Bool} {σ : St} {H : Hp} {Q : Bool → Hp → Prop} (h : tBv P W (cond c a b) σ H Q) : tBv P W c σ H fun k H1 => if k = true then tBv P W a σ H1 Q else tBv P W b σ H1 Q := by
  obtain ⟨F, io, α, ρ, x, h⟩ := h
  refine ⟨F, io, α, ρ, x, ?_⟩
  unfold cond at h
  cases e : c ρ with
  | stuck => rw [e] at h; exact h
  | exc c fs r1 => rw [e] at h; exact h
  | ok k r1 =>
    rw [e] at h
    intro H1 α1 o1 x1
    cases k with
    | true =>
      simp only at h
      refine iteT ⟨F, io, α1, r1, x1, ?_⟩
      cases e2 : a r1 with
      | stuck => rw [e2] at h; exact h
      | exc c fs r1 => rw [e2] at h; exact Thrown.on h o1
      | ok k2 r2 =>
        rw [e2] at h
        exact fun H2 α2 o2 x2 => h H2 α2 (o1.trans o2) x2
    | false =>
      simp only at h
      refine iteF ⟨F, io, α1, r1, x1, ?_⟩
      cases e2 : b r1 with
      | stuck => rw [e2] at h; exact h
      | exc c fs r1 => rw [e2] at h; exact Thrown.on h o1
      | ok k2 r2 =>
        rw [e2] at h
        exact fun H2 α2 o2 x2 => h H2 α2 (o1.trans o2) x2
theorem condV_ok {c : M Bool} {a b : M Rs} {σ : St} {H : Hp} {Q : VK} (h : tEv P W (cond c a b) σ H Q) : tBv P W c σ H fun k H1 => if k = true then tEv P W a σ H1 Q else tEv P W b σ H1 Q := by
  obtain ⟨F, io, α, ρ, x, h⟩ := h
  refine ⟨F, io, α, ρ, x, ?_⟩
  unfold cond at h
  cases e : c ρ with
  | stuck => rw [e] at h; exact h
  | exc c fs r1 => rw [e] at h; exact h
  | ok k r1 =>
    rw [e] at h
    intro H1 α1 o1 x1
    cases k with
    | true =>
      simp only at h
      refine iteT ⟨F, io, α1, r1, x1, ?_⟩
      cases e2 : a r1 with
      | stuck => rw [e2] at h; exact h
      | exc c fs r1 => rw [e2] at h; exact Thrown.on h o1
      | ok k2 r2 =>
        rw [e2] at h
        exact fun v H2 α2 o2 x2 => h v H2 α2 (o1.trans o2) (x2.back o1)
    | false =>
      simp only at h
      refine iteF ⟨F, io, α1, r1, x1, ?_⟩
      cases e2 : b r1 with
      | stuck => rw [e2] at h; exact h
      | exc c fs r1 => rw [e2] at h; exact Thrown.on h o1
      | ok k2 r2 =>
        rw [e2] at h
        exact fun v H2 α2 o2 x2 => h v H2 α2 (o1.trans o2) (x2.back o1)
def andB (a b : M Bool) : M Bool := cond a b (kb false)
def orB (a b : M Bool) : M Bool := cond a (kb true) b
section
variable {a b : Expr} {rest : List Expr} {pos : Pos} {ca cb : M Bool}
theorem pt_not' (h : PT X a (tBv P W ca)) : PT X (.UnaryOp .Not a pos) (tBv P W (notB ca)) :=
  PT.weak (pt_not h) fun σ H Q h => bv_mono (cond_ok h) fun k H1 q => by
    cases k with
    | true => exact kb_ok (by simpa using q)
    | false => exact kb_ok (by simpa using q)
theorem pw_one' (h : PT X a (tBv P W ca)) : PW X (.BoolOp .And [a] pos) (tBv P W ca) := pw_and1 h
theorem pw_and' (ha : PT X a (tBv P W ca)) (hb : PW X (.BoolOp .And (b :: rest) pos) (tBv P W cb)) : PW X (.BoolOp .And (a :: b :: rest) pos) (tBv P W (andB ca cb)) := by
  have z := pw_and ha hb
  refine ⟨fun wh pins s σ H Q I h => z.run wh pins s σ H Q I (bv_mono (cond_ok h) fun k H1 q => ?_)⟩
  cases k with
  | true => exact iteT (by simpa using q)
  | false => exact iteF (kb_ok (by simpa using q))
theorem pw_oone' (h : PT X a (tBv P W ca)) : PW X (.BoolOp .Or [a] pos) (tBv P W ca) := pw_or1 h
theorem pw_or' (ha : PT X a (tBv P W ca)) (hb : PW X (.BoolOp .Or (b :: rest) pos) (tBv P W cb)) : PW X (.BoolOp .Or (a :: b :: rest) pos) (tBv P W (orB ca cb)) := by
  have z := pw_or ha hb
  refine ⟨fun wh pins s σ H Q I h => z.run wh pins s σ H Q I (bv_mono (cond_ok h) fun k H1 q => ?_)⟩
  cases k with
  | true => exact iteT (kb_ok (by simpa using q))
  | false => exact iteF (by simpa using q)
theorem px_ite {c : Expr} {ma mb : M Rs} (hc : PT X c (tBv P W ca)) (ha : PE X a (tEv P W ma)) (hb : PE X b (tEv P W mb)) : PE X (.IfExp c a b pos) (tEv P W (cond ca ma mb)) :=
  PE.weak (pe_ifExp hc ha hb) fun σ H Q h => condV_ok h
end
end
end Ip

set_option Elab.async false
set_option linter.all false
set_option maxRecDepth 100000
set_option maxHeartbeats 1000000
/-! The operations, one by one, over the rules of the layer. -/
namespace Ip
open PySem PySem.Spec PyProof.Rows L2
section
variable {K : PySem.W.Frag} {O : Addr → Prop} {H : Hp}
theorem Views.two {a b : D} {vs : List V} (h : Views K O H [a, b] vs) : ∃ v w, vs = [v, w] ∧ View K O H a v ∧ View K O H b w := by
  obtain ⟨v, ws, rfl, h1, w, us, rfl, h2, rfl⟩ := h
  exact ⟨v, w, rfl, h1, h2⟩
theorem Views.one {a : D} {vs : List V} (h : Views K O H [a] vs) : ∃ v, vs = [v] ∧ View K O H a v := by
  obtain ⟨v, ws, rfl, h1, rfl⟩ := h
  exact ⟨v, rfl, h1⟩
theorem View.int {i : Int} {v : V} (h : View K O H (.int i) v) : v = .int i := by simpa only [View, Rep] using h
theorem View.bool {i : Bool} {v : V} (h : View K O H (.bool i) v) : v = .bl i := by simpa only [View, Rep] using h
theorem View.str {i : Str} {v : V} (h : View K O H (.str i) v) : v = .str i := by simpa only [View, Rep] using h
theorem View.none {v : V} (h : View K O H .none v) : v = .non := by simpa only [View, Rep] using h
theorem View.tup {ds : List D} {v : V} (h : View K O H (.tuple ds) v) : ∃ a vs, v = .ref a ∧ SqT K H a vs ∧ RepL K O H ds vs := by
  simp only [View, Rep] at h
  obtain ⟨a, vs, e, q, r⟩ := h
  exact ⟨a, vs, e, q.1, r⟩
theorem View.tupB {ds : List D} {v : V} (h : View K O H (.tuple ds) v) : ∃ a vs, v = .ref a ∧ SqB K H a vs ∧ RepL K O H ds vs := by simpa only [View, Rep] using h
theorem View.lst {ds : List D} {v : V} (h : View K O H (.list ds) v) : ∃ a vs, v = .ref a ∧ SqL K H a vs ∧ RepL K O H ds vs := h
theorem Out.int {i : Int} : Out K O H (.int i) H (.dat (.int i)) := ⟨Ext.refl _ _, by simp only [Rep]⟩
theorem Out.bool {i : Bool} : Out K O H (.bl i) H (.dat (.bool i)) := ⟨Ext.refl _ _, by simp only [Rep]⟩
theorem Out.str {i : Str} : Out K O H (.str i) H (.dat (.str i)) := ⟨Ext.refl _ _, by simp only [Rep]⟩
theorem Out.same {d : D} {v : V} (h : Rep K O H d v) : Out K O H v H (.dat d) := ⟨Ext.refl _ _, h⟩
theorem ext_upd {p : Addr} {o : HO} (n : H p = Option.none) : Ext (fun _ => False) H (upd H p o) := fun a o h _ => by
  rw [upd_ne (ne_of_none h n)]; exact h
theorem Out.newT {p : Addr} {its : List Value} {ds : List D} {vs : List V} (n : H p = Option.none) (h : RepL K O H ds vs) : Out K O H (.ref p) (upd H p (frT its vs)) (.dat (.tuple ds)) := by
  refine ⟨ext_upd n, ?_⟩
  simp only [Rep]
  exact ⟨p, vs, rfl, SqB.new, RepL.ext (Soft.none H) (ext_upd n) (fun _ z => z.elim) (fun _ _ _ z => z) h⟩
theorem Out.newL {p : Addr} {ds : List D} {vs : List V} (n : H p = Option.none) (h : RepL K O H ds vs) : Out K O H (.ref p) (upd H p (.lst vs)) (.fresh (.list ds)) := by
  refine ⟨ext_upd n, p, rfl, n, vs, upd_same, ?_⟩
  exact RepL.ext (Soft.none H) (ext_upd n) (fun _ z => z.elim) (fun a o h z => z.elim id fun e => by rw [e, n] at h; cases h) h
theorem RepL.rep {ds : List D} {vs : List V} (h : RepL K O H ds vs) : ∀ n : Nat, RepL K O H (List.replicate n ds).flatten (List.replicate n vs).flatten
  | 0 => by simp [RepL]
  | n + 1 => by
    rw [List.replicate_succ, List.replicate_succ, List.flatten_cons, List.flatten_cons]
    exact RepL.append h (RepL.rep h n)
theorem RepL.drop : ∀ {ds : List D} {vs : List V} (n : Nat), RepL K O H ds vs → RepL K O H (ds.drop n) (vs.drop n)
  | _, _, 0, h => h
  | [], vs, n + 1, h => by simp only [RepL] at h; rw [h]; simp [RepL]
  | d :: ds, vs, n + 1, h => by
    simp only [RepL] at h
    obtain ⟨w, ws, rfl, _, r⟩ := h
    exact RepL.drop n r
theorem RepL.take : ∀ {ds : List D} {vs : List V} (n : Nat), RepL K O H ds vs → RepL K O H (ds.take n) (vs.take n)
  | _, _, 0, h => by simp [RepL]
  | [], vs, n + 1, h => by simp only [RepL] at h; rw [h]; simp [RepL]
  | d :: ds, vs, n + 1, h => by
    simp only [RepL] at h
    obtain ⟨w, ws, rfl, q, r⟩ := h
    simp only [List.take_succ_cons, RepL]
    exact ⟨w, ws.take n, rfl, q, RepL.take n r⟩
theorem RepL.nil_iff {ds : List D} {vs : List V} (h : RepL K O H ds vs) : vs = [] ↔ ds = [] := by
  have e := h.length
  constructor <;> intro q <;> subst q
  · exact List.eq_nil_of_length_eq_zero e
  · exact List.eq_nil_of_length_eq_zero e.symm
theorem RepL.ints : ∀ {ds : List D} {vs : List V} {ns : List Int}, RepL K O H ds vs → intsOf ds = some ns → vs = ns.map V.int
  | [], vs, ns, h, e => by
    simp only [RepL] at h
    simp only [intsOf, Option.some.injEq] at e
    rw [h, ← e]; rfl
  | d :: ds, vs, ns, h, e => by
    simp only [RepL] at h
    obtain ⟨w, ws, rfl, q, r⟩ := h
    cases d with
    | int i =>
      simp only [intsOf, Option.map_eq_some_iff] at e
      obtain ⟨ms, e1, rfl⟩ := e
      simp only [Rep] at q
      rw [q, RepL.ints r e1]; rfl
    | _ => simp [intsOf] at e
theorem RepL.bools : ∀ {ds : List D} {vs : List V} {ns : List Bool}, RepL K O H ds vs → boolsOf ds = some ns → vs = ns.map V.bl
  | [], vs, ns, h, e => by
    simp only [RepL] at h
    simp only [boolsOf, Option.some.injEq] at e
    rw [h, ← e]; rfl
  | d :: ds, vs, ns, h, e => by
    simp only [RepL] at h
    obtain ⟨w, ws, rfl, q, r⟩ := h
    cases d with
    | bool i =>
      simp only [boolsOf, Option.map_eq_some_iff] at e
      obtain ⟨ms, e1, rfl⟩ := e
      simp only [Rep] at q
      rw [q, RepL.bools r e1]; rfl
    | _ => simp [boolsOf] at e
mutual
theorem Rep.dp : ∀ {d : D} {v : V}, d.canLay0 = true → Rep K O H d v → Dp K H v d
  | .none, v, _, h => by simp only [Rep] at h; rw [h]; exact .non
  | .bool b, v, _, h => by simp only [Rep] at h; rw [h]; exact .bl b
  | .int i, v, _, h => by simp only [Rep] at h; rw [h]; exact .int i
  | .str x, v, _, h => by simp only [Rep] at h; rw [h]; exact .str x
  | .list ds, v, c, h => by
    simp only [Rep] at h
    obtain ⟨a, vs, rfl, q, r⟩ := h
    exact .lst q.sq (RepL.dp (by simpa only [PyData.canLay0] using c) r)
  | .tuple ds, v, c, h => by
    simp only [Rep] at h
    obtain ⟨a, vs, rfl, q, r⟩ := h
    exact .tup q.1 (RepL.dp (by simpa only [PyData.canLay0] using c) r)
  | .dict kvs, v, c, h => by simp [PyData.canLay0] at c
theorem RepL.dp : ∀ {d : List D} {v : List V}, PyData.canLayAll0 d = true → RepL K O H d v → DpAll K H v d
  | [], v, _, h => by simp only [RepL] at h; rw [h]; exact .nil
  | d :: ds, v, c, h => by
    simp only [RepL] at h
    simp only [PyData.canLayAll0, Bool.and_eq_true] at c
    obtain ⟨w, ws, rfl, q, r⟩ := h
    exact .cons (Rep.dp c.1 q) (RepL.dp c.2 r)
end
theorem shp_lay {d : D} (h : shp d = true) : d.canLay0 = true := by
  unfold shp SeqAt.shaped at h
  exact (Bool.and_eq_true _ _ ▸ h : _ ∧ _).1
theorem View.dp {d : D} {v : V} (c : shp d = true) (h : View K O H d v) : Dp K H v d := by
  have c' := shp_lay c
  cases d with
  | list ds =>
    obtain ⟨a, vs, rfl, q, r⟩ := h
    exact .lst q (RepL.dp (by simpa only [PyData.canLay0] using c') r)
  | dict ds => simp [PyData.canLay0] at c'
  | _ => exact Rep.dp (O := O) c' (by exact h)
end

section
variable {K : PySem.W.Frag}
/-- an operation on ints -/
theorem prm_int2 {f : List D → Option Ro} {r : R2} (g : Int → Int → D → Prop) (hf : ∀ ds x, f ds = some x → ∃ i j d, ds = [.int i, .int j] ∧ x = .dat d ∧ g i j d) (hr : ∀ i j d H Q, g i j d → (∀ v, Out K (fun _ => True) H v H (.dat d) → Q v H) → r (.int i) (.int j) H Q)
    (hd : ∀ i j d, g i j d → (∃ k, d = .int k) ∨ ∃ b, d = .bool b) : Prm K f (r2 r) := by
  intro O H ds vs x Q e hv q
  obtain ⟨i, j, d, rfl, rfl, hg⟩ := hf ds x e
  obtain ⟨v, w, rfl, h1, h2⟩ := hv.two
  rw [h1.int, h2.int]
  refine ⟨_, _, rfl, hr i j d H Q hg fun v o => q v H ?_⟩
  rcases hd i j d hg with ⟨k, rfl⟩ | ⟨b, rfl⟩
  · have z := o.2; simp only [Rep] at z; rw [z]; exact Out.int
  · have z := o.2; simp only [Rep] at z; rw [z]; exact Out.bool
theorem out_i {O : Addr → Prop} {H : Hp} (i : Int) : Out K O H (.int i) H (.dat (.int i)) := Out.int
theorem prm_sub : Prm K oSub (r2 (rI0 fun i j => .int (i - j))) :=
  prm_int2 (fun i j d => d = .int (i - j)) (fun ds x e => by
    unfold oSub at e
    split at e
    · cases e; exact ⟨_, _, _, rfl, rfl, rfl⟩
    · cases e) (fun i j d H Q hg q => ⟨i, j, rfl, rfl, q _ (by rw [hg]; exact Out.int)⟩) fun i j d hg => .inl ⟨_, hg⟩
theorem prm_mod : Prm K oMod (r2 (rI (fun _ j => 0 < j) fun i j => .int (i % j))) :=
  prm_int2 (fun i j d => 0 < j ∧ d = .int (i % j)) (fun ds x e => by
    unfold oMod at e
    split at e
    · split at e
      · rename_i h; cases e; exact ⟨_, _, _, rfl, rfl, h, rfl⟩
      · cases e
    · cases e) (fun i j d H Q hg q => ⟨i, j, rfl, rfl, hg.1, q _ (by rw [hg.2]; exact Out.int)⟩) fun i j d hg => .inl ⟨_, hg.2⟩
theorem prm_fdiv : Prm K oFdiv (r2 (rI CDiv fun i j => .int (i / j))) :=
  prm_int2 (fun i j d => (0 < j ∧ j < 1073741824) ∧ d = .int (i / j)) (fun ds x e => by
    unfold oFdiv at e
    split at e
    · split at e
      · rename_i h; cases e; exact ⟨_, _, _, rfl, rfl, h, rfl⟩
      · cases e
    · cases e) (fun i j d H Q hg q => ⟨i, j, rfl, rfl, hg.1, q _ (by rw [hg.2]; exact Out.int)⟩) fun i j d hg => .inl ⟨_, hg.2⟩
theorem prm_pow : Prm K oPow (r2 (rI CPow fun i j => .int (i ^ j.toNat))) :=
  prm_int2 (fun i j d => CPow i j ∧ d = .int (i ^ j.toNat)) (fun ds x e => by
    unfold oPow at e
    split at e
    · split at e
      · rename_i h; cases e; exact ⟨_, _, _, rfl, rfl, h, rfl⟩
      · cases e
    · cases e) (fun i j d H Q hg q => ⟨i, j, rfl, rfl, hg.1, q _ (by rw [hg.2]; exact Out.int)⟩) fun i j d hg => .inl ⟨_, hg.2⟩
theorem prm_lt : Prm K oLt (r2 (rI0 fun i j => .bl (decide (i < j)))) :=
  prm_int2 (fun i j d => d = .bool (decide (i < j))) (fun ds x e => by
    unfold oLt at e
    split at e
    · cases e; exact ⟨_, _, _, rfl, rfl, rfl⟩
    · cases e) (fun i j d H Q hg q => ⟨i, j, rfl, rfl, q _ (by rw [hg]; exact Out.bool)⟩) fun i j d hg => .inr ⟨_, hg⟩
theorem prm_le : Prm K oLe (r2 (rI0 fun i j => .bl (decide (i ≤ j)))) :=
  prm_int2 (fun i j d => d = .bool (decide (i ≤ j))) (fun ds x e => by
    unfold oLe at e
    split at e
    · cases e; exact ⟨_, _, _, rfl, rfl, rfl⟩
    · cases e) (fun i j d H Q hg q => ⟨i, j, rfl, rfl, q _ (by rw [hg]; exact Out.bool)⟩) fun i j d hg => .inr ⟨_, hg⟩
theorem prm_gt : Prm K oGt (r2 (rI0 fun i j => .bl (decide (j < i)))) :=
  prm_int2 (fun i j d => d = .bool (decide (j < i))) (fun ds x e => by
    unfold oGt at e
    split at e
    · cases e; exact ⟨_, _, _, rfl, rfl, rfl⟩
    · cases e) (fun i j d H Q hg q => ⟨i, j, rfl, rfl, q _ (by rw [hg]; exact Out.bool)⟩) fun i j d hg => .inr ⟨_, hg⟩
theorem prm_ge : Prm K oGe (r2 (rI0 fun i j => .bl (decide (j ≤ i)))) :=
  prm_int2 (fun i j d => d = .bool (decide (j ≤ i))) (fun ds x e => by
    unfold oGe at e
    split at e
    · cases e; exact ⟨_, _, _, rfl, rfl, rfl⟩
    · cases e) (fun i j d H Q hg q => ⟨i, j, rfl, rfl, q _ (by rw [hg]; exact Out.bool)⟩) fun i j d hg => .inr ⟨_, hg⟩
theorem prm_eq : Prm K oEq (r2 (rEqD K)) := by
  intro O H ds vs x Q e hv q
  unfold oEq at e
  split at e
  · rename_i a b
    split at e
    · rename_i c
      cases e
      rw [Bool.and_eq_true] at c
      obtain ⟨v, w, rfl, h1, h2⟩ := hv.two
      exact ⟨v, w, rfl, a, b, h1.dp c.1, h2.dp c.2, c.1, c.2, q _ _ Out.bool⟩
    · cases e
  · cases e
theorem prm_ne : Prm K oNe (r2 (rNeD K)) := by
  intro O H ds vs x Q e hv q
  unfold oNe at e
  split at e
  · rename_i a b
    split at e
    · rename_i c
      cases e
      rw [Bool.and_eq_true] at c
      obtain ⟨v, w, rfl, h1, h2⟩ := hv.two
      exact ⟨v, w, rfl, a, b, h1.dp c.1, h2.dp c.2, c.1, c.2, q _ _ Out.bool⟩
    · cases e
  · cases e
theorem isNone_iff {O : Addr → Prop} {H : Hp} {a : D} {v : V} (h : View K O H a v) : isNone a = decide (v = .non) := by
  cases a with
  | none => rw [h.none]; simp [isNone]
  | bool b => rw [h.bool]; simp [isNone]
  | int b => rw [h.int]; simp [isNone]
  | str b => rw [h.str]; simp [isNone]
  | list ds => obtain ⟨a, vs, rfl, _⟩ := h; simp [isNone]
  | tuple ds => obtain ⟨a, vs, rfl, _⟩ := h.tup; simp [isNone]
  | dict ds => obtain ⟨a, vs, rfl, _⟩ := h; simp [isNone]
theorem prm_isN : Prm K oIsN (r2 fun x y H Q => y = .non ∧ Q (.bl (decide (x = .non))) H) := by
  intro O H ds vs x Q e hv q
  unfold oIsN at e
  split at e
  · cases e
    obtain ⟨v, w, rfl, h1, h2⟩ := hv.two
    exact ⟨v, w, rfl, h2.none, by rw [← isNone_iff h1]; exact q _ _ Out.bool⟩
  · cases e
theorem prm_notN : Prm K oNotN (r2 fun x y H Q => y = .non ∧ Q (.bl (!decide (x = .non))) H) := by
  intro O H ds vs x Q e hv q
  unfold oNotN at e
  split at e
  · cases e
    obtain ⟨v, w, rfl, h1, h2⟩ := hv.two
    exact ⟨v, w, rfl, h2.none, by rw [← isNone_iff h1]; exact q _ _ Out.bool⟩
  · cases e
theorem prm_neg : Prm K oNeg (r1 (rU fun i => .int (-i))) := by
  intro O H ds vs x Q e hv q
  unfold oNeg at e
  split at e
  · cases e
    obtain ⟨v, rfl, h1⟩ := hv.one
    exact ⟨v, rfl, _, h1.int, q _ _ Out.int⟩
  · cases e
theorem prm_len : Prm K oLen (fun xs H Q => ∃ p ys, xs = [.ref p] ∧ (SqL K H p ys ∨ SqT K H p ys) ∧ Q (.int ys.length) H) := by
  intro O H ds vs x Q e hv q
  unfold oLen at e
  split at e
  · cases e
    obtain ⟨v, rfl, h1⟩ := hv.one
    obtain ⟨a, us, rfl, hs, r⟩ := h1.lst
    exact ⟨a, us, rfl, .inl hs, by rw [← r.length]; exact q _ _ Out.int⟩
  · cases e
    obtain ⟨v, rfl, h1⟩ := hv.one
    obtain ⟨a, us, rfl, hs, r⟩ := h1.tup
    exact ⟨a, us, rfl, .inr hs, by rw [← r.length]; exact q _ _ Out.int⟩
  · cases e
theorem prm_list : Prm K oList (fun xs H Q => ∃ p ys, xs = [.ref p] ∧ (SqL K H p ys ∨ SqT K H p ys) ∧ ∀ l, H l = none → Q (.ref l) (upd H l (.lst ys))) := by
  intro O H ds vs x Q e hv q
  unfold oList at e
  split at e
  · cases e
    obtain ⟨v, rfl, h1⟩ := hv.one
    obtain ⟨a, us, rfl, hs, r⟩ := h1.lst
    exact ⟨a, us, rfl, .inl hs, fun l n => q _ _ (Out.newL n r)⟩
  · cases e
    obtain ⟨v, rfl, h1⟩ := hv.one
    obtain ⟨a, us, rfl, hs, r⟩ := h1.tup
    exact ⟨a, us, rfl, .inr hs, fun l n => q _ _ (Out.newL n r)⟩
  · cases e
theorem prm_tuple : Prm K oTuple (fun xs H Q => ∃ p ys, xs = [.ref p] ∧ ((SqL K H p ys ∧ newT H ys Q) ∨ (SqT K H p ys ∧ Q (.ref p) H))) := by
  intro O H ds vs x Q e hv q
  unfold oTuple at e
  split at e
  · cases e
    obtain ⟨v, rfl, h1⟩ := hv.one
    obtain ⟨a, us, rfl, hs, r⟩ := h1.lst
    exact ⟨a, us, rfl, .inl ⟨hs, fun l its n => q _ _ (Out.newT n r)⟩⟩
  · cases e
    obtain ⟨v, rfl, h1⟩ := hv.one
    obtain ⟨a, us, rfl, hs, r⟩ := h1.tup
    exact ⟨a, us, rfl, .inr ⟨hs, q _ _ (Out.same h1)⟩⟩
  · cases e
theorem prm_int : Prm K oInt (fun xs H Q => (∃ i, xs = [.int i] ∧ Q (.int i) H) ∨ ∃ k, xs = [.bl k] ∧ Q (.int (if k then 1 else 0)) H) := by
  intro O H ds vs x Q e hv q
  unfold oInt at e
  split at e
  · cases e
    obtain ⟨v, rfl, h1⟩ := hv.one
    exact .inl ⟨_, by rw [h1.int], q _ _ Out.int⟩
  · cases e
    obtain ⟨v, rfl, h1⟩ := hv.one
    exact .inr ⟨_, by rw [h1.bool], q _ _ Out.int⟩
  · cases e
theorem prm_sum : Prm K oSum (rSum K) := by
  intro O H ds vs x Q e hv q
  unfold oSum at e
  split at e
  · rename_i xs
    obtain ⟨ns, e1, rfl⟩ := Option.map_eq_some_iff.mp e
    obtain ⟨v, rfl, h1⟩ := hv.one
    obtain ⟨a, us, rfl, hs, r⟩ := h1.lst
    exact ⟨a, ns, rfl, by rw [← r.ints e1]; exact hs, q _ _ Out.int⟩
  · cases e
theorem foldl_max_mem : ∀ (r : List Int) (x : Int), r.foldl max x ∈ x :: r ∧ ∀ y ∈ x :: r, y ≤ r.foldl max x
  | [], x => by simp
  | y :: r, x => by
    have ih := foldl_max_mem r (max x y)
    simp only [List.foldl_cons]
    refine ⟨?_, fun z hz => ?_⟩
    · rcases List.mem_cons.mp ih.1 with h | h
      · rw [h]
        rcases Int.le_total x y with q | q
        · rw [Int.max_eq_right q]; simp
        · rw [Int.max_eq_left q]; simp
      · simp [h]
    · have h0 := ih.2 (max x y) List.mem_cons_self
      rcases List.mem_cons.mp hz with h | h
      · subst h; exact Int.le_trans (Int.le_max_left _ _) h0
      · rcases List.mem_cons.mp h with h | h
        · subst h; exact Int.le_trans (Int.le_max_right _ _) h0
        · exact ih.2 z (List.mem_cons_of_mem _ h)
theorem prm_max : Prm K oMax (rMax K) := by
  intro O H ds vs x Q e hv q
  unfold oMax at e
  split at e
  · rename_i xs
    obtain ⟨m, e1, rfl⟩ := Option.map_eq_some_iff.mp e
    obtain ⟨ns, e2, e3⟩ := Option.bind_eq_some_iff.mp e1
    obtain ⟨v, rfl, h1⟩ := hv.one
    obtain ⟨a, us, rfl, hs, r⟩ := h1.lst
    refine ⟨a, ns, rfl, by rw [← r.ints e2]; exact hs, ?_, fun m' h1 h2 => ?_⟩
    · cases ns with
      | nil => cases e3
      | cons => simp
    · cases ns with
      | nil => cases e3
      | cons n r =>
        have e4 : r.foldl max n = m := Option.some.inj e3
        have z := foldl_max_mem r n
        rw [e4] at z
        have e5 : m' = m := Int.le_antisymm (z.2 m' h1) (h2 m z.1)
        rw [e5]
        exact q _ _ Out.int
  · cases e
theorem prm_any : Prm K oAny (rAny K) := by
  intro O H ds vs x Q e hv q
  unfold oAny at e
  split at e
  · rename_i xs
    obtain ⟨ns, e1, rfl⟩ := Option.map_eq_some_iff.mp e
    obtain ⟨v, rfl, h1⟩ := hv.one
    obtain ⟨a, us, rfl, hs, r⟩ := h1.lst
    exact ⟨a, ns, rfl, by rw [← r.bools e1]; exact hs, q _ _ Out.bool⟩
  · cases e
theorem prm_all : Prm K oAll (rAll K) := by
  intro O H ds vs x Q e hv q
  unfold oAll at e
  split at e
  · rename_i xs
    obtain ⟨ns, e1, rfl⟩ := Option.map_eq_some_iff.mp e
    obtain ⟨v, rfl, h1⟩ := hv.one
    obtain ⟨a, us, rfl, hs, r⟩ := h1.lst
    exact ⟨a, ns, rfl, by rw [← r.bools e1]; exact hs, q _ _ Out.bool⟩
  · cases e
theorem RepL.at {O : Addr → Prop} {H : Hp} {ds : List D} {vs : List V} {i : Int} {d : D} (h : RepL K O H ds vs) (e : atI ds i = some d) : ∃ v, atI vs i = some v ∧ Rep K O H d v := by
  unfold atI at e ⊢
  rw [← h.length]
  obtain ⟨j, e1, e2⟩ := Option.bind_eq_some_iff.mp e
  obtain ⟨v, e3, q⟩ := h.get e2
  exact ⟨v, by rw [e1]; exact e3, q⟩
theorem prm_ix : Prm K oIx (r2 fun x y H Q => rIxL K x y H Q ∨ rIxT K x y H Q) := by
  intro O H ds vs x Q e hv q
  unfold oIx at e
  split at e
  · obtain ⟨d, e1, rfl⟩ := Option.map_eq_some_iff.mp e
    obtain ⟨v, w, rfl, h1, h2⟩ := hv.two
    obtain ⟨a, us, rfl, hs, r⟩ := h1.lst
    obtain ⟨v, e2, rv⟩ := r.at e1
    exact ⟨_, _, rfl, .inl ⟨a, us, _, v, rfl, h2.int, hs, e2, q _ _ (Out.same rv)⟩⟩
  · obtain ⟨d, e1, rfl⟩ := Option.map_eq_some_iff.mp e
    obtain ⟨v, w, rfl, h1, h2⟩ := hv.two
    obtain ⟨a, us, rfl, hs, r⟩ := h1.tup
    obtain ⟨v, e2, rv⟩ := r.at e1
    exact ⟨_, _, rfl, .inr ⟨a, us, _, v, rfl, h2.int, hs, e2, q _ _ (Out.same rv)⟩⟩
  · cases e
end
end Ip

set_option Elab.async false
set_option linter.all false
set_option maxRecDepth 100000
set_option maxHeartbeats 4000000
/-! Sums, repetitions. -/
namespace Ip
open PySem PySem.Spec PyProof.Rows L2
/-! ### the machine's own steps -/
theorem timesList (l : Addr) (its : Array Value) (n : Nat) (dd : Option Addr) (sl : Array (Option Value)) (x : Int) (u : Tok) (g0 : ¬(!Builtin.List.listFitsIndex x) = true) (g1 : ¬its.size * x.toNat > (2 ^ 63 - 1) / 8) (g2 : ¬Builtin.List.listTooLong (its.size * x.toNat) = true) :
    Meets (Builtin.«list.__mul__» ⟨[.ref l, .int x u], []⟩) (fun _ R s => s.heap.get? l = some ⟨.type "list", dd, .seq its n, sl⟩ ∧
      R (.ok (.ret (Value.ref s.heap.objs.size))) { s with heap := s.heap.push { cls := Value.type "list", data := Data.seq (List.foldl (fun a b => a ++ b) #[] (List.replicate (if its.isEmpty = true then 0 else x.toNat) its)) }, toks := s.toks }) :=
  .of_wp fun prog w A R s h => by
    obtain ⟨hp, g, d, tk, os⟩ := s
    obtain ⟨hl, h⟩ := h
    have hsz := AutoListH.joined_fits g2
    wp_walk using wpAny_loadPart' hl
    refine wpAny_ite_false (decide_eq_false (Nat.not_lt.mpr hsz)) ?_
    wp_walk using wpAny_loadPart' hl
    exact ⟨_, rfl, h⟩
theorem rtimesList (a : Int) (t : Tok) (l : Addr) (its : Array Value) (n : Nat) (dd : Option Addr) (sl : Array (Option Value)) :
    Meets (Builtin.«int.__rmul__» ⟨[.int a t, .ref l], []⟩) (fun _ R s => s.heap.get? l = some ⟨.type "list", dd, .seq its n, sl⟩ ∧ R (.ok (.ret Value.notImplemented)) s) :=
  .of_wp fun prog w A R s h => by
    obtain ⟨hp, g, d, tk, os⟩ := s
    obtain ⟨hl, h⟩ := h
    wp_walk using wpAny_loadPart' hl
    exact ⟨_, rfl, h⟩
theorem timesTup1 (l : Addr) (its : Array Value) (n : Nat) (dd : Option Addr) (sl : Array (Option Value)) (x : Int) (u : Tok) (c0 : (decide (x < -(2 ^ 63)) || decide (x ≥ 2 ^ 63)) = false) (c1 : (its.isEmpty || x == 1) = true) :
    Meets (Builtin.«tuple.__mul__» ⟨[.ref l, .int x u], []⟩) (fun _ R s => s.heap.get? l = some ⟨.type "tuple", dd, .seq its n, sl⟩ ∧ R (.ok (.ret (Value.ref l))) s) :=
  .of_wp fun prog w A R s h => by
    obtain ⟨hp, g, d, tk, os⟩ := s
    obtain ⟨hl, h⟩ := h
    have f1 := AutoSeq1.idx_int
    wp_walk using wpAny_loadPart' hl
    repeat (first
      | (refine wpAny_ite_false (decide_eq_false (by rw [c0]; exact Bool.false_ne_true)) ?_; wp_walk using wpAny_loadPart' hl)
      | (refine wpAny_ite_true (decide_eq_true c1) ?_; wp_walk using wpAny_loadPart' hl))
    exact ⟨_, rfl, h⟩
theorem timesTup0 (l : Addr) (its : Array Value) (n : Nat) (dd : Option Addr) (sl : Array (Option Value)) (x : Int) (u : Tok) (c0 : (decide (x < -(2 ^ 63)) || decide (x ≥ 2 ^ 63)) = false) (c1 : (its.isEmpty || x == 1) = false) (c2 : (decide (x ≤ 0) || its.isEmpty) = true) :
    Meets (Builtin.«tuple.__mul__» ⟨[.ref l, .int x u], []⟩) (fun _ R s => s.heap.get? l = some ⟨.type "tuple", dd, .seq its n, sl⟩ ∧
      R (.ok (.ret (Value.ref s.heap.objs.size))) { s with heap := s.heap.push { cls := Value.type "tuple", data := Data.seq #[] }, toks := s.toks }) :=
  .of_wp fun prog w A R s h => by
    obtain ⟨hp, g, d, tk, os⟩ := s
    obtain ⟨hl, h⟩ := h
    have f1 := AutoSeq1.idx_int
    wp_walk using wpAny_loadPart' hl
    repeat (first
      | (refine wpAny_ite_false (decide_eq_false (by rw [c0]; exact Bool.false_ne_true)) ?_; wp_walk using wpAny_loadPart' hl)
      | (refine wpAny_ite_false (decide_eq_false (by rw [c1]; exact Bool.false_ne_true)) ?_; wp_walk using wpAny_loadPart' hl)
      | (refine wpAny_ite_true (decide_eq_true c2) ?_; wp_walk using wpAny_loadPart' hl))
    exact ⟨_, rfl, h⟩
section
variable {X : Cx}
/-- a sum of two lists, wherever they stand -/
def rCatL (K : PySem.W.Frag) : R2 := fun x y H Q => ∃ l b xs zs, x = .ref l ∧ y = .ref b ∧ SqL K H l xs ∧ SqL K H b zs ∧ xs.length + zs.length ≤ sizeLine ∧ ∀ p, H p = none → Q (.ref p) (upd H p (.lst (xs ++ zs)))
theorem op_catL : OpR X (binaryOp .Add) (rCatL X.K) := by
  intro pins s σ H x y v u Q I rx ry h
  obtain ⟨l, b, xs, zs, rfl, rfl, hl, hb, hz, q⟩ := h
  cases rx
  cases ry
  obtain ⟨its, r, ⟨⟨cls, dd, data, sl⟩, n, ho, hc, _, hd⟩, z⟩ := I.list hl
  obtain ⟨its2, r2, ⟨⟨cls2, dd2, data2, sl2⟩, n2, ho2, hc2, _, hd2⟩, z2⟩ := I.list hb
  simp only at hc hd hc2 hd2
  subst hc hd hc2 hd2
  refine concat_meets ⟨_, ho, rfl⟩ ⟨_, ho2, rfl⟩ noFill_list_add seq_list_add PySem.F.slot_list_add PySem.F.entry_list_add (PySem.F.args_list_add_2 _ _) (list_addW l b its.toArray its2.toArray n n2 dd dd2 sl sl2 (by
    rw [List.size_toArray, List.size_toArray, ← r.length, ← r2.length]; exact hz)) ⟨ho, ho2, ?_⟩
  rw [show its.toArray ++ its2.toArray = (its ++ its2).toArray by simp]
  exact ⟨.ref _, _, I.lnew (t' := s.toks) (r.append r2) (by rw [List.length_append]; exact hz), rfl, q _ I.fresh⟩
theorem foldl_flat (its : List Value) (m : Nat) : List.foldl (fun a b => a ++ b) #[] (List.replicate m its.toArray) = (List.replicate m its).flatten.toArray := by
  have := foldl_rep its m []
  rw [List.nil_append] at this
  exact this
def rTimesL (K : PySem.W.Frag) : R2 := fun x y H Q => ∃ l k xs, x = .ref l ∧ y = .int k ∧ SqL K H l xs ∧ -(2 ^ 63) ≤ k ∧ k < 2 ^ 63 ∧ xs.length * k.toNat ≤ sizeLine ∧
  ∀ p, H p = none → Q (.ref p) (upd H p (.lst (List.replicate k.toNat xs).flatten))
theorem op_timesL : OpR X (binaryOp .Mult) (rTimesL X.K) := by
  intro pins s σ H x y v u Q I rx ry h
  obtain ⟨l, k, xs, rfl, rfl, hL, h1, h2, hz, q⟩ := h
  cases rx
  obtain ⟨t, rfl⟩ := ry
  obtain ⟨its, r, ⟨⟨cls, dd, data, sl⟩, n, ho, hc, _, hd⟩, z⟩ := I.list hL
  simp only at hc hd
  subst hc hd
  have hlen : its.toArray.size * k.toNat ≤ sizeLine := by rw [List.size_toArray, ← r.length]; exact hz
  have hcap : ¬ its.toArray.size * k.toNat > (2 ^ 63 - 1) / 8 := by
    have : (sizeLine : Nat) ≤ (2 ^ 63 - 1) / 8 := by decide
    omega
  have hfit : ¬ (!Builtin.List.listFitsIndex k) = true := by
    rw [fitsIndex_both h1 h2]
    exact Bool.false_ne_true
  have hlong : ¬ Builtin.List.listTooLong (its.toArray.size * k.toNat) = true := by
    rw [notLongL hlen]
    exact Bool.false_ne_true
  have hnew : List.foldl (fun a b => a ++ b) #[] (List.replicate (if its.toArray.isEmpty = true then 0 else k.toNat) its.toArray) = (List.replicate k.toNat its).flatten.toArray := by
    rw [foldl_flat]
    cases its with
    | nil => simp
    | cons a r' => rw [if_neg (by simp)]
  refine wpAny_binaryOp_repeat_ref (T := "list") (U := "int") (by decide) ⟨_, ho, rfl⟩ (fun s' => typeIs_int s' k t) noFill_list_mul F.fills_int_mul F.slot_int_rmul repeat_list F.slot_int_index.lookup
    (call_meets F.slot_int_rmul (typeIs_int s k t) F.entry_int_rmul (F.args_int_rmul_2 _ _) (rtimesList k t l its.toArray n dd sl)
      ⟨ho, rfl, ⟨_, ho, rfl⟩, call_meets F.slot_list_mul ⟨_, ho, rfl⟩ F.entry_list_mul (F.args_list_mul_2 _ _) (timesList l its.toArray n dd sl k t hfit hcap hlong) ⟨ho, ?_⟩⟩)
  rw [hnew]
  exact ⟨.ref _, _, I.lnew (t' := s.toks) (r.rep k.toNat) (by rw [PyProof.Rows.lm_len_rep_flat, Nat.mul_comm]; exact hz), rfl, q _ I.fresh⟩
def rTimesT (K : PySem.W.Frag) : R2 := fun x y H Q => ∃ l k xs, x = .ref l ∧ y = .int k ∧ SqT K H l xs ∧ -1000 ≤ k ∧ k ≤ 1000 ∧ xs.length ≤ 1000 ∧
  ((xs = [] ∨ k = 1) → Q (.ref l) H) ∧ (xs ≠ [] → k ≠ 1 → newT H (List.replicate k.toNat xs).flatten Q)
theorem op_timesT : OpR X (binaryOp .Mult) (rTimesT X.K) := by
  intro pins s σ H x y v u Q I rx ry h
  obtain ⟨l, k, xs, rfl, rfl, hT, hk0, hk, hxl, q1, q2⟩ := h
  by_cases hb : xs ≠ [] ∧ 2 ≤ k
  · obtain ⟨hne, hk2⟩ := hb
    cases rx
    obtain ⟨t, rfl⟩ := ry
    obtain ⟨its, r, ⟨⟨cls, dd, data, sl⟩, ho, hc, n, hd⟩, hs⟩ := I.tuple hT
    simp only at hc hd
    subst hc hd
    have hle : its.length = xs.length := r.length.symm
    have hi : its.toArray.isEmpty = false := by
      cases its with
      | nil => exact absurd (r.nil_iff.mp rfl) hne
      | cons a b => rfl
    have hz0 : its.toArray.size = xs.length := by rw [List.size_toArray, hle]
    have hm : ((its.toArray.size : Nat) : Int) * k ≤ 1000000 := by
      rw [hz0]
      have a1 : ((xs.length : Nat) : Int) * k ≤ 1000 * k := Int.mul_le_mul_of_nonneg_right (by omega) (by omega)
      omega
    have fl : (List.replicate k.toNat xs).flatten.length ≤ sizeLine := by
      rw [PyProof.Rows.lm_len_rep_flat, sizeLine_eq]
      have a1 : k.toNat * xs.length ≤ 1000 * 1000 := Nat.mul_le_mul (by omega) hxl
      omega
    have fl2 : (List.replicate k.toNat its).flatten.length ≤ sizeLine := by
      rw [PyProof.Rows.lm_len_rep_flat] at fl ⊢
      rw [hle]; exact fl
    have c0 : (decide (k < -(2 ^ 63)) || decide (k ≥ 2 ^ 63)) = false := by
      rw [decide_eq_false (by omega), decide_eq_false (by omega)] <;> rfl
    have c1 : (its.toArray.isEmpty || k == 1) = false := by
      rw [hi, Bool.false_or]
      exact beq_eq_false_iff_ne.mpr (by omega)
    have c2 : (decide (k ≤ 0) || its.toArray.isEmpty) = false := by
      rw [hi, Bool.or_false]
      exact decide_eq_false (by omega)
    have c4 : Builtin.Tuple.tupleTooMany (((its.toArray.size : Nat) : Int) * k) = false := by
      unfold Builtin.Tuple.tupleTooMany
      rw [sizeLine_eq]
      exact decide_eq_false (by omega)
    refine wpAny_binaryOp_repeat_ref (T := "tuple") (U := "int") (by decide) ⟨_, ho, rfl⟩ (fun s' => typeIs_int s' k t) noFill_tuple_mul F.fills_int_mul F.slot_int_rmul repeat_tuple F.slot_int_index.lookup
      (call_meets F.slot_int_rmul (typeIs_int s k t) F.entry_int_rmul (F.args_int_rmul_2 _ _) (int_rmul_tuple k t l its.toArray n dd sl)
        ⟨ho, rfl, ⟨_, ho, rfl⟩, call_meets F.slot_tuple_mul ⟨_, ho, rfl⟩ F.entry_tuple_mul (F.args_tuple_mul_2 _ _) (tuple_mulW l its.toArray n dd sl k t c0 c1 c2 (by omega) c4 (by rw [size_rep, List.size_toArray]; exact fl2)) ⟨ho, ?_⟩⟩)
    rw [size_rep]
    exact ⟨.ref s.heap.objs.size, _, laidT (t' := s.toks) I (r.rep k.toNat) fl, rfl, q2 hne (by omega) _ _ (I.hok.fresh (Nat.le_refl _))⟩
  · cases rx
    obtain ⟨t, rfl⟩ := ry
    obtain ⟨its, r, ⟨⟨cls, dd, data, sl⟩, ho, hc, n, hd⟩, hs⟩ := I.tuple hT
    simp only at hc hd
    subst hc hd
    have c0 : (decide (k < -(2 ^ 63)) || decide (k ≥ 2 ^ 63)) = false := by
      rw [decide_eq_false (by omega), decide_eq_false (by omega)] <;> rfl
    by_cases h1 : xs = [] ∨ k = 1
    · have c1 : (its.toArray.isEmpty || k == 1) = true := by
        rcases h1 with h1 | h1
        · rw [r.nil_iff.mpr h1]; rfl
        · rw [h1]; simp
      exact wpAny_binaryOp_repeat_ref (T := "tuple") (U := "int") (by decide) ⟨_, ho, rfl⟩ (fun s' => typeIs_int s' k t) noFill_tuple_mul F.fills_int_mul F.slot_int_rmul repeat_tuple F.slot_int_index.lookup
        (call_meets F.slot_int_rmul (typeIs_int s k t) F.entry_int_rmul (F.args_int_rmul_2 _ _) (int_rmul_tuple k t l its.toArray n dd sl)
          ⟨ho, rfl, ⟨_, ho, rfl⟩, call_meets F.slot_tuple_mul ⟨_, ho, rfl⟩ F.entry_tuple_mul (F.args_tuple_mul_2 _ _) (timesTup1 l its.toArray n dd sl k t c0 c1) ⟨ho, ⟨.ref l, H, I, rfl, q1 h1⟩⟩⟩)
    · have hx : xs ≠ [] := fun e => h1 (.inl e)
      have hk1 : k ≠ 1 := fun e => h1 (.inr e)
      have hk2 : k ≤ 0 := by
        by_cases q : 2 ≤ k
        · exact (hb ⟨hx, q⟩).elim
        · omega
      have hi : its.toArray.isEmpty = false := by
        cases its with
        | nil => exact absurd (r.nil_iff.mp rfl) hx
        | cons a b => rfl
      have c1 : (its.toArray.isEmpty || k == 1) = false := by
        rw [hi, Bool.false_or]
        exact beq_eq_false_iff_ne.mpr hk1
      have c2 : (decide (k ≤ 0) || its.toArray.isEmpty) = true := by
        rw [decide_eq_true hk2]; rfl
      refine wpAny_binaryOp_repeat_ref (T := "tuple") (U := "int") (by decide) ⟨_, ho, rfl⟩ (fun s' => typeIs_int s' k t) noFill_tuple_mul F.fills_int_mul F.slot_int_rmul repeat_tuple F.slot_int_index.lookup
        (call_meets F.slot_int_rmul (typeIs_int s k t) F.entry_int_rmul (F.args_int_rmul_2 _ _) (int_rmul_tuple k t l its.toArray n dd sl)
          ⟨ho, rfl, ⟨_, ho, rfl⟩, call_meets F.slot_tuple_mul ⟨_, ho, rfl⟩ F.entry_tuple_mul (F.args_tuple_mul_2 _ _) (timesTup0 l its.toArray n dd sl k t c0 c1 c2) ⟨ho, ?_⟩⟩)
      refine ⟨.ref s.heap.objs.size, _, laidT (t' := s.toks) I (its := []) (xs := []) .nil (Nat.zero_le _), rfl, ?_⟩
      have := q2 hx hk1 _ [] (I.hok.fresh (Nat.le_refl s.heap.objs.size))
      rw [show k.toNat = 0 by omega] at this
      exact this
end
end Ip

set_option Elab.async false
set_option linter.all false
set_option maxRecDepth 100000
set_option maxHeartbeats 1000000
/-! Sums, products, what stands in what. -/
namespace Ip
open PySem PySem.Spec PyProof.Rows L2
def oMulA : Op
  | [.int i, .int j] => oMul [.int i, .int j]
  | [.list xs, .int k] => if -1000 ≤ k ∧ k ≤ 1000 ∧ xs.length ≤ 1000 then some (.fresh (.list (List.replicate k.toNat xs).flatten)) else none
  | [.tuple xs, .int k] => if -1000 ≤ k ∧ k ≤ 1000 ∧ xs.length ≤ 1000 then some (.dat (.tuple (List.replicate k.toNat xs).flatten)) else none
  | _ => none
def anyEq (d : D) (ds : List D) : Bool := ds.any fun z => PyData.eqv z d
def keyD : D → Bool
  | .int _ => true
  | .str _ => true
  | _ => false
def inOf : D → D → Option Bool
  | d, .list ds => if shp d && shp (.list ds) then some (anyEq d ds) else none
  | d, .tuple ds => if shp d && shp (.tuple ds) then some (anyEq d ds) else none
  | d, .dict kvs => if keyD d then some (lookKv d kvs).isSome else none
  | .str x, .str y => some (!(Builtin.Str.occurrences y x 0 y.length 1).isEmpty)
  | _, _ => none
def oIn : Op
  | [d, c] => (inOf d c).map fun b => .dat (.bool b)
  | _ => none
def oNotIn : Op
  | [d, c] => (inOf d c).map fun b => .dat (.bool (!b))
  | _ => none
section
variable {K : PySem.W.Frag} {X : Cx}
def rAddA (K : PySem.W.Frag) : R2 := fun x y H Q => rI0 (fun i j => .int (i + j)) x y H Q ∨ rCatB K x y H Q ∨ rCatL K x y H Q ∨ ∃ i j, x = .str i ∧ y = .str j ∧ i.length + j.length ≤ sizeLine ∧ Q (.str (i ++ j)) H
theorem op_addA : OpR X (binaryOp .Add) (rAddA X.K) := op_add.or (op_catB.or (op_catL.or op_add_str))
def oAdd' : Op
  | [.int i, .int j] => some (.dat (.int (i + j)))
  | [.tuple x, .tuple y] => if x.length + y.length ≤ sizeLine then some (.dat (.tuple (x ++ y))) else none
  | [.list x, .list y] => if x.length + y.length ≤ sizeLine then some (.fresh (.list (x ++ y))) else none
  | [.str x, .str y] => if x.length + y.length ≤ sizeLine then some (.dat (.str (x ++ y))) else none
  | _ => none
theorem prm_add : Prm K oAdd' (r2 (rAddA K)) := by
  intro O H ds vs x Q e hv q
  unfold oAdd' at e
  split at e
  · rename_i i j
    cases e
    obtain ⟨v, w, rfl, h1, h2⟩ := hv.two
    exact ⟨v, w, rfl, .inl ⟨i, j, h1.int, h2.int, q _ _ Out.int⟩⟩
  · rename_i a b
    split at e
    · rename_i hz
      cases e
      obtain ⟨v, w, rfl, h1, h2⟩ := hv.two
      obtain ⟨p, xs, rfl, s1, r1⟩ := h1.tupB
      obtain ⟨p2, ys, rfl, s2, r2⟩ := h2.tupB
      refine ⟨_, _, rfl, .inr (.inl ⟨p, p2, xs, ys, rfl, rfl, s1.1, s2.1, by rw [← r1.length, ← r2.length]; exact hz, fun z => q _ _ (Out.same ?_), fun _ z => q _ _ (Out.same ?_), fun _ _ p' its n => q _ _ (Out.newT n (r1.append r2))⟩)⟩
      · rw [r1.nil_iff.mp z, List.nil_append]
        simp only [Rep]
        exact ⟨_, _, rfl, s2, r2⟩
      · rw [r2.nil_iff.mp z, List.append_nil]
        simp only [Rep]
        exact ⟨_, _, rfl, s1, r1⟩
    · cases e
  · rename_i a b
    split at e
    · rename_i hz
      cases e
      obtain ⟨v, w, rfl, h1, h2⟩ := hv.two
      obtain ⟨p, xs, rfl, s1, r1⟩ := h1.lst
      obtain ⟨p2, ys, rfl, s2, r2⟩ := h2.lst
      exact ⟨_, _, rfl, .inr (.inr (.inl ⟨p, p2, xs, ys, rfl, rfl, s1, s2, by rw [← r1.length, ← r2.length]; exact hz, fun p' n => q _ _ (Out.newL n (r1.append r2))⟩))⟩
    · cases e
  · rename_i a b
    split at e
    · rename_i hz
      cases e
      obtain ⟨v, w, rfl, h1, h2⟩ := hv.two
      exact ⟨v, w, rfl, .inr (.inr (.inr ⟨a, b, h1.str, h2.str, hz, q _ _ Out.str⟩))⟩
    · cases e
  · cases e
def rMulA (K : PySem.W.Frag) : R2 := fun x y H Q => rI CMul (fun i j => .int (i * j)) x y H Q ∨ rTimesL K x y H Q ∨ rTimesT K x y H Q
theorem op_mulA : OpR X (binaryOp .Mult) (rMulA X.K) := op_mul.or (op_timesL.or op_timesT)
theorem prm_mul : Prm K oMulA (r2 (rMulA K)) := by
  intro O H ds vs x Q e hv q
  unfold oMulA at e
  split at e
  · rename_i i j
    unfold oMul at e
    simp only at e
    split at e
    · rename_i hc
      cases e
      obtain ⟨v, w, rfl, h1, h2⟩ := hv.two
      exact ⟨v, w, rfl, .inl ⟨i, j, h1.int, h2.int, hc, q _ _ Out.int⟩⟩
    · cases e
  · rename_i xs k
    split at e
    · rename_i hz
      cases e
      obtain ⟨v, w, rfl, h1, h2⟩ := hv.two
      obtain ⟨p, ys, rfl, s1, r1⟩ := h1.lst
      cases h2.int
      refine ⟨_, _, rfl, .inr (.inl ⟨p, k, ys, rfl, rfl, s1, by omega, by omega, ?_, fun p' n => q _ _ (Out.newL n (r1.rep _))⟩)⟩
      rw [← r1.length]
      have h1 : xs.length * k.toNat ≤ 1000 * 1000 := Nat.mul_le_mul hz.2.2 (by omega)
      have h2 := sizeLine_eq
      omega
    · cases e
  · rename_i xs k
    split at e
    · rename_i hz
      cases e
      obtain ⟨v, w, rfl, h1, h2⟩ := hv.two
      obtain ⟨p, ys, rfl, s1, r1⟩ := h1.tupB
      cases h2.int
      refine ⟨_, _, rfl, .inr (.inr ⟨p, k, ys, rfl, rfl, s1.1, hz.1, hz.2.1, by rw [← r1.length]; exact hz.2.2, fun z => q _ _ (Out.same ?_), fun _ _ p' its n => q _ _ (Out.newT n (r1.rep _))⟩)⟩
      have e : (List.replicate k.toNat xs).flatten = xs := by
        rcases z with z | z
        · rw [r1.nil_iff.mp z]; simp
        · rw [z]; simp
      rw [e]
      simp only [Rep]
      exact ⟨_, _, rfl, s1, r1⟩
    · cases e
  · cases e
/-! ### in -/
def rInT (K : PySem.W.Frag) : R2 := fun x y H Q => ∃ d ds, Dp K H x d ∧ Dp K H y (.tuple ds) ∧ SeqAt.shaped d = true ∧ SeqAt.shaped (.tuple ds) = true ∧ Q (.bl (anyEq d ds)) H
def rNotInT (K : PySem.W.Frag) : R2 := fun x y H Q => ∃ d ds, Dp K H x d ∧ Dp K H y (.tuple ds) ∧ SeqAt.shaped d = true ∧ SeqAt.shaped (.tuple ds) = true ∧ Q (.bl (!anyEq d ds)) H
theorem op_inT (hu : X.A.units + 65 < cLine) : OpR X (compareOp .In) (rInT X.K) := by
  intro pins s σ H x y v u Q I rx ry h
  obtain ⟨d, ds, hd, he, sd, se, q⟩ := h
  obtain ⟨_, t1⟩ := Dp.reads I d x v hd rx
  obtain ⟨_, t2⟩ := Dp.reads I (.tuple ds) y u he ry
  exact SeqAt.in_tuple_reads t2 t1 (SeqAt.canLay_of_shaped se) (SeqAt.canLay_of_shaped sd) (room_in_shaped sd hu) ⟨.bl _, H, I, rfl, q⟩
theorem op_notInT (hu : X.A.units + 65 < cLine) : OpR X (compareOp .NotIn) (rNotInT X.K) := by
  intro pins s σ H x y v u Q I rx ry h
  obtain ⟨d, ds, hd, he, sd, se, q⟩ := h
  obtain ⟨_, t1⟩ := Dp.reads I d x v hd rx
  obtain ⟨_, t2⟩ := Dp.reads I (.tuple ds) y u he ry
  exact SeqAt.notIn_tuple_reads t2 t1 (SeqAt.canLay_of_shaped se) (SeqAt.canLay_of_shaped sd) (room_in_shaped sd hu) ⟨.bl _, H, I, rfl, q⟩
def rInK : R2 := fun x y H Q => ∃ a o, y = .ref a ∧ DGet H a x o ∧ Q (.bl o.isSome) H
def rNotInK : R2 := fun x y H Q => ∃ a o, y = .ref a ∧ DGet H a x o ∧ Q (.bl (!o.isSome)) H
theorem op_inK (hu : X.A.units + 65 < cLine) : OpR X (compareOp .In) rInK := by
  intro pins s σ H x y v u Q I rx ry h
  obtain ⟨a, o, rfl, g, q⟩ := h
  cases ry
  exact d_in (by omega) I g rx fun s3 I3 => ⟨.bl o.isSome, H, I3, rfl, q⟩
theorem op_notInK (hu : X.A.units + 65 < cLine) : OpR X (compareOp .NotIn) rNotInK := by
  intro pins s σ H x y v u Q I rx ry h
  obtain ⟨a, o, rfl, g, q⟩ := h
  cases ry
  exact d_notIn (by omega) I g rx fun s3 I3 => ⟨.bl (!o.isSome), H, I3, rfl, q⟩
/-- a dict's data, looked up -/
def KeyIs : D → Key → Prop
  | .int i, k => k = .inl i
  | .str x, k => k = .inr x
  | _, _ => False
theorem keyD_of {d : D} (h : keyD d = true) : ∃ k, KeyIs d k := by
  cases d with
  | int i => exact ⟨_, rfl⟩
  | str i => exact ⟨_, rfl⟩
  | _ => cases h
theorem KeyIs.v {d : D} {k : Key} (h : KeyIs d k) {O : Addr → Prop} {H : Hp} {v : V} (r : View K O H d v) : v = kV k := by
  cases d with
  | int i => have h : k = .inl i := h; subst h; exact r.int
  | str i => have h : k = .inr i := h; subst h; exact r.str
  | _ => exact h.elim
theorem rep_key {O : Addr → Prop} {H : Hp} {d : D} {k : Key} (h : Rep K O H d (kV k)) : KeyIs d k := by
  cases k with
  | inl i =>
    cases d with
    | int j => simp only [Rep, kV] at h; cases h; rfl
    | none => simp only [Rep, kV] at h; cases h
    | bool b => simp only [Rep, kV] at h; cases h
    | str b => simp only [Rep, kV] at h; cases h
    | list b => simp only [Rep, kV] at h; obtain ⟨_, _, h, _⟩ := h; cases h
    | tuple b => simp only [Rep, kV] at h; obtain ⟨_, _, h, _⟩ := h; cases h
    | dict b => simp only [Rep, kV] at h; obtain ⟨_, _, h, _⟩ := h; cases h
  | inr i =>
    cases d with
    | str j => simp only [Rep, kV] at h; cases h; rfl
    | none => simp only [Rep, kV] at h; cases h
    | bool b => simp only [Rep, kV] at h; cases h
    | int b => simp only [Rep, kV] at h; cases h
    | list b => simp only [Rep, kV] at h; obtain ⟨_, _, h, _⟩ := h; cases h
    | tuple b => simp only [Rep, kV] at h; obtain ⟨_, _, h, _⟩ := h; cases h
    | dict b => simp only [Rep, kV] at h; obtain ⟨_, _, h, _⟩ := h; cases h
theorem key_eqv {a b : D} {j k : Key} (h1 : KeyIs a j) (h2 : KeyIs b k) : PyData.eqv a b = true ↔ j = k := by
  cases a with
  | int i =>
    have h1 : j = .inl i := h1
    subst h1
    cases b with
    | int i2 =>
      have h2 : k = .inl i2 := h2
      subst h2
      simp [PyData.eqv]
    | str i2 =>
      have h2 : k = .inr i2 := h2
      subst h2
      simp [PyData.eqv]
    | _ => exact h2.elim
  | str i =>
    have h1 : j = .inr i := h1
    subst h1
    cases b with
    | int i2 =>
      have h2 : k = .inl i2 := h2
      subst h2
      simp [PyData.eqv]
    | str i2 =>
      have h2 : k = .inr i2 := h2
      subst h2
      simp [PyData.eqv]
    | _ => exact h2.elim
  | _ => exact h1.elim
theorem look_rep {O : Addr → Prop} {H : Hp} {d : D} {k : Key} (hk : KeyIs d k) : ∀ {kvs : List (D × D)} {kk : List (Key × V)}, RepK K O H kvs (kk.map fun p => (kV p.1, p.2)) →
    (lookKv d kvs = none ∧ valV kk k = none) ∨ ∃ z v, lookKv d kvs = some z ∧ valV kk k = some v ∧ Rep K O H z v
  | [], kk, h => by
    simp only [RepK] at h
    cases kk with
    | nil => exact .inl ⟨rfl, rfl⟩
    | cons a b => cases h
  | (a, b) :: r, kk, h => by
    simp only [RepK] at h
    obtain ⟨w, z, ws, e, ra, rb, rr⟩ := h
    cases kk with
    | nil => cases e
    | cons p kk =>
      rw [List.map_cons] at e
      injection e with e1 e2
      injection e1 with e3 e4
      subst e3 e4 e2
      have ka := rep_key ra
      have eq := key_eqv ka hk
      unfold lookKv
      by_cases q : p.1 = k
      · rw [if_pos (eq.mpr q)]
        exact .inr ⟨b, p.2, rfl, valV_pos q, rb⟩
      · rw [if_neg (fun z => q (eq.mp z))]
        rw [valV_neg q]
        exact look_rep hk rr
theorem View.dic {O : Addr → Prop} {H : Hp} {kvs : List (D × D)} {v : V} (h : View K O H (.dict kvs) v) : ∃ a kvv, v = .ref a ∧ DictAt K H a kvv ∧ RepK K O H kvs kvv := h
theorem inOf_ok {O : Addr → Prop} {H : Hp} {d c : D} {b : Bool} {v w : V} (e : inOf d c = some b) (h1 : View K O H d v) (h2 : View K O H c w) {Q : VK} (q : Q (.bl b) H) :
    (rInD K v w H Q ∨ rInT K v w H Q ∨ rInK v w H Q) ∨ ∃ i j, v = .str i ∧ w = .str j ∧ Q (.bl (!(Builtin.Str.occurrences j i 0 j.length 1).isEmpty)) H := by
  unfold inOf at e
  split at e
  · rename_i ds
    split at e
    · rename_i hs
      simp only [Bool.and_eq_true] at hs
      cases e
      exact .inl (.inl ⟨d, ds, h1.dp hs.1, h2.dp hs.2, hs.1, hs.2, q⟩)
    · cases e
  · rename_i ds
    split at e
    · rename_i hs
      simp only [Bool.and_eq_true] at hs
      cases e
      exact .inl (.inr (.inl ⟨d, ds, h1.dp hs.1, h2.dp hs.2, hs.1, hs.2, q⟩))
    · cases e
  · rename_i kvs
    split at e
    · rename_i hs
      cases e
      obtain ⟨k, hk⟩ := keyD_of hs
      obtain ⟨a, kvv, rfl, ⟨kk, ha, rfl⟩, rp⟩ := h2.dic
      rw [hk.v h1]
      refine .inl (.inr (.inr ⟨a, _, rfl, DGet.k ha, ?_⟩))
      rcases look_rep hk rp with ⟨z1, z2⟩ | ⟨z, u, z1, z2, _⟩
      · rw [z2]; rw [z1] at q; exact q
      · rw [z2]; rw [z1] at q; exact q
    · cases e
  · cases e
    exact .inr ⟨_, _, h1.str, h2.str, q⟩
  · cases e
def rInA (K : PySem.W.Frag) : R2 := fun x y H Q => (rInD K x y H Q ∨ rInT K x y H Q ∨ rInK x y H Q) ∨ ∃ i j, x = .str i ∧ y = .str j ∧ Q (.bl (!(Builtin.Str.occurrences j i 0 j.length 1).isEmpty)) H
theorem op_inA (hu : X.A.units + 65 < cLine) : OpR X (compareOp .In) (rInA X.K) := ((op_inD hu).or ((op_inT hu).or (op_inK hu))).or op_in_str
theorem prm_in : Prm K oIn (r2 (rInA K)) := by
  intro O H ds vs x Q e hv q
  unfold oIn at e
  split at e
  · rename_i d c
    obtain ⟨b, e1, rfl⟩ := Option.map_eq_some_iff.mp e
    obtain ⟨v, w, rfl, h1, h2⟩ := hv.two
    exact ⟨v, w, rfl, inOf_ok e1 h1 h2 (q _ _ Out.bool)⟩
  · cases e
def rNotInA (K : PySem.W.Frag) : R2 := fun x y H Q => (rNotInD K x y H Q ∨ rNotInT K x y H Q ∨ rNotInK x y H Q) ∨ ∃ i j, x = .str i ∧ y = .str j ∧ Q (.bl (!(!(Builtin.Str.occurrences j i 0 j.length 1).isEmpty))) H
theorem op_notInA (hu : X.A.units + 65 < cLine) : OpR X (compareOp .NotIn) (rNotInA X.K) := ((op_notInD hu).or ((op_notInT hu).or (op_notInK hu))).or op_notin_str
theorem prm_notIn : Prm K oNotIn (r2 (rNotInA K)) := by
  intro O H ds vs x Q e hv q
  unfold oNotIn at e
  split at e
  · rename_i d c
    obtain ⟨b, e1, rfl⟩ := Option.map_eq_some_iff.mp e
    obtain ⟨v, w, rfl, h1, h2⟩ := hv.two
    refine ⟨v, w, rfl, ?_⟩
    have := inOf_ok (Q := fun z H' => ∃ b, z = .bl b ∧ Q (.bl (!b)) H') e1 h1 h2 ⟨b, rfl, q _ _ Out.bool⟩
    rcases this with (⟨d, ds, a1, a2, a3, a4, b, e, qq⟩ | ⟨d, ds, a1, a2, a3, a4, b, e, qq⟩ | ⟨a, o, e1, g, b, e, qq⟩) | ⟨i, j, e1, e2, b, e, qq⟩
    · cases e; exact .inl (.inl ⟨d, ds, a1, a2, a3, a4, qq⟩)
    · cases e; exact .inl (.inr (.inl ⟨d, ds, a1, a2, a3, a4, qq⟩))
    · cases e; exact .inl (.inr (.inr ⟨a, o, e1, g, qq⟩))
    · cases e; exact .inr ⟨i, j, e1, e2, qq⟩
  · cases e
end
end Ip

set_option Elab.async false
set_option linter.all false
set_option maxRecDepth 100000
set_option maxHeartbeats 1000000
/-! Names, displays, statements. -/
namespace Ip
open PySem PySem.Spec PyProof.Rows L2

def upd1 (α : Am) (i : Nat) (o : Option Addr) : Am := fun j => if j = i then o else α j
theorem upd1_ne {α : Am} {i j : Nat} {o : Option Addr} (h : j ≠ i) : upd1 α i o j = α j := if_neg h
theorem upd1_eq {α : Am} {i : Nat} {o : Option Addr} : upd1 α i o i = o := if_pos rfl
theorem upd1_no {α : Am} {i j : Nat} {a : Addr} (h : upd1 α i none j = some a) : α j = some a := by
  by_cases e : j = i
  · subst e; rw [upd1_eq] at h; cases h
  · rwa [upd1_ne e] at h
section
variable {K : PySem.W.Frag} {F F' : Addr → Prop} {io : Fx} {α α' : Am} {r r' : Ev} {σ σ' : St} {H H' H0 : Hp} {v : V} {P : Par} {W : WX}
theorem mu_less {i : Nat} {a : Addr} (h : Mu io (upd1 α i none) a) : Mu io α a := h.imp (fun ⟨j, z⟩ => ⟨j, upd1_no z⟩) id
theorem al_less {i : Nat} {a : Addr} (h : Al F io (upd1 α i none) a) : Al F io α a := h.imp id mu_less
theorem On.less {i : Nat} : On io α (upd1 α i none) H H := ⟨fun _ _ _ z => mu_less z, Ext.refl _ _, fun _ o h => ⟨o, h⟩⟩
/-- another slot, fewer places of ours -/
theorem SlOk.less {F : Addr → Prop} (hAl : ∀ a o, H a = some o → Al F' io α' a → Al F io α a) {j : Nat} (hj : α' j = α j) (hs : σ'[j]? = σ[j]?) {s : Sl} (q : SlOk K F io α σ H j s) : SlOk K F' io α' σ' H j s := by
  have e := Ext.refl (fun _ => False : Addr → Prop) H
  have c : ∀ a, (fun _ => False : Addr → Prop) a → Al F io α a := fun _ z => z.elim
  cases s with
  | no => exact hj.trans q
  | dat d => exact ⟨hj.trans q.1, q.2.imp fun v z => ⟨hs.trans z.1, Rep.ext (Soft.none H) e c hAl z.2⟩⟩
  | own d => exact q.imp fun a z => ⟨hj.trans z.1, hs.trans z.2.1, Cell.ext (Soft.none H) e c hAl (fun z => z) z.2.2⟩
  | io d => exact ⟨hj.trans q.1, q.2.imp fun a z => ⟨z.1, hs.trans z.2.1, Cell.ext (Soft.none H) e c hAl (fun z => z) z.2.2⟩⟩
  | bor d => exact ⟨hj.trans q.1, q.2.imp fun a z => ⟨z.1, hs.trans z.2.1, View.ext (Soft.none H) e c hAl (fun z => z) z.2.2⟩⟩
theorem R.lt (x : R K F io α r σ H) {i : Nat} {s : Sl} (h : r[i]? = some s) : i < r.length := (List.getElem?_eq_some_iff.mp h).1
theorem R.io_none (x : R K F io α r σ H) {i : Nat} (h : setOk r[i]? = true) : io.w i = none := by
  cases e : io.w i with
  | none => rfl
  | some a =>
    obtain ⟨d, q⟩ := x.ios i a e
    rw [q] at h; cases h
theorem setOk_lt {i : Nat} (h : setOk r[i]? = true) : i < r.length := by
  by_cases q : i < r.length
  · exact q
  · rw [List.getElem?_eq_none (by omega)] at h; cases h
/-- a slot loses what it held -/
theorem R.put_no (x : R K F io α r σ H) {i : Nat} (hi : setOk r[i]? = true) (s : Sl) (v : Option V) (hs : SlOk K F io (upd1 α i none) (σ.set i v) H i s) : R K F io (upd1 α i none) (r.set i s) (σ.set i v) H := by
  have hlt := setOk_lt hi
  refine ⟨by simpa using x.len, fun j sl hj => ?_, fun j hj => ?_, fun j a h => ?_, fun j k a h1 h2 => x.inj j k a (upd1_no h1) (upd1_no h2), x.ioj, fun j k a h1 h2 => x.aio j k a (upd1_no h1) h2, fun j a h => ⟨(x.boH j a h).1, fun z => (x.boH j a h).2 (mu_less z)⟩, fun a h z => x.aF a h (mu_less z), x.FH⟩
  · by_cases e : j = i
    · subst e
      rw [List.getElem?_set_self hlt] at hj
      cases hj
      exact hs
    · rw [List.getElem?_set_ne (Ne.symm e)] at hj
      exact (x.slot j sl hj).less (fun _ _ _ z => al_less z) (upd1_ne e) (List.getElem?_set_ne (Ne.symm e))
  · have hj' : r.length ≤ j := by simpa using hj
    rw [upd1_ne (by omega)]
    exact x.out j hj'
  · obtain ⟨d, q⟩ := x.ios j a h
    have e : i ≠ j := fun e => by
      subst e
      rw [x.io_none hi] at h; cases h
    exact ⟨d, by rw [List.getElem?_set_ne e]; exact q⟩
theorem R.put_dat (x : R K F io α r σ H) {i : Nat} (hi : setOk r[i]? = true) {d : D} (h : Rep K (Al F io (upd1 α i none)) H d v) : R K F io (upd1 α i none) (r.set i (.dat d)) (σ.set i (some v)) H :=
  x.put_no hi _ _ ⟨upd1_eq, v, List.getElem?_set_self (by rw [← x.len]; exact setOk_lt hi), h⟩
theorem Rep.less {i : Nat} {d : D} (h : Rep K (Al F io α) H d v) : Rep K (Al F io (upd1 α i none)) H d v :=
  Rep.ext (Soft.none H) (Ext.refl _ _) (fun _ z => z.elim) (fun _ _ _ z => al_less z) h
/-- the slot keeps its value, its list is data from now on -/
theorem R.demote (x : R K F io α r σ H) {i : Nat} {d : D} (h : ownAt r[i]? = some d) : ∃ a, σ[i]? = some (some (.ref a)) ∧ α i = some a ∧ R K F io (upd1 α i none) (r.set i (.dat d)) σ H ∧ Cell K (Al F io (upd1 α i none)) H d a ∧ ¬ Al F io (upd1 α i none) a := by
  cases e : r[i]? with
  | none => rw [e] at h; cases h
  | some s =>
    rw [e] at h
    cases s with
    | own z =>
      cases h
      obtain ⟨a, e1, e2, c⟩ := x.slot i _ e
      have nA : ¬ Al F io (upd1 α i none) a := by
        rintro (z | ⟨j, z⟩ | ⟨j, z⟩)
        · exact x.aF a z (.inl ⟨i, e1⟩)
        · have e3 := x.inj j i a (upd1_no z) e1
          subst e3
          rw [upd1_eq] at z; cases z
        · exact x.aio i j a e1 z
      have c' : Cell K (Al F io (upd1 α i none)) H d a := c.ext (Soft.none H) (Ext.refl _ _) (fun _ z => z.elim) (fun _ _ _ z => al_less z) (fun z => z)
      have hi : setOk r[i]? = true := by rw [e]; rfl
      have y := x.put_dat hi (c'.rep nA)
      rw [show σ.set i (some (V.ref a)) = σ from List.ext_getElem? fun j => by
        by_cases q : i = j
        · subst q
          rw [List.getElem?_set_self (by rw [← x.len]; exact x.lt e), e2]
        · rw [List.getElem?_set_ne q]] at y
      exact ⟨a, e2, e1, y, c', nA⟩
    | _ => cases h
theorem toRo_ok {x : Rs} (h : RR K F io α r σ H0 H v x) {y : Ro} (e : toRo x r = .ok y r') : ∃ α', On io α α' H H ∧ RR K F io α' r' σ H0 H v y.rs := by
  cases x with
  | dat d => cases e; exact ⟨α, On.refl _ _ _, h⟩
  | fresh d => cases e; exact ⟨α, On.refl _ _ _, h⟩
  | var i =>
    obtain ⟨x, hv, a, rfl⟩ := h
    have e' : (match ownAt r[i]? with | some d => Res.ok (Ro.dat d) (r.set i (.dat d)) | none => .stuck) = .ok y r' := e
    cases q : ownAt r[i]? with
    | none => rw [q] at e'; cases e'
    | some d =>
      rw [q] at e'
      obtain ⟨b, e1, e2, x', c, n⟩ := x.demote q
      rw [hv] at e1
      cases e1
      cases e'
      exact ⟨_, On.less, x', c.rep n⟩
theorem toRo_no (x : Rs) (r : Ev) : (∃ y r', toRo x r = .ok y r') ∨ toRo x r = .stuck := by
  cases x with
  | dat z => exact .inl ⟨_, _, rfl⟩
  | fresh z => exact .inl ⟨_, _, rfl⟩
  | var i =>
    show (∃ y r', (match ownAt r[i]? with | some d => Res.ok (Ro.dat d) (r.set i (.dat d)) | none => .stuck) = .ok y r') ∨ (match ownAt r[i]? with | some d => Res.ok (Ro.dat d) (r.set i (.dat d)) | none => .stuck) = .stuck
    cases ownAt r[i]? with
    | none => exact .inr rfl
    | some d => exact .inl ⟨_, _, rfl⟩
/-- a new list is stored -/
theorem R.put_own {p : Addr} (x : R K (Plus F p) io α r σ H) {i : Nat} (hi : setOk r[i]? = true) {d : D} (nF : ¬ F p) (nM : ¬ Mu io α p) (c : Cell K (Al (Plus F p) io α) H d p) (hb : ∀ j a, io.b j = some a → a ≠ p) :
    R K F io (upd1 α i (some p)) (r.set i (.own d)) (σ.set i (some (.ref p))) H := by
  have hlt := setOk_lt hi
  have al : ∀ a, Al F io (upd1 α i (some p)) a → Al (Plus F p) io α a := by
    rintro a (z | ⟨j, z⟩ | z)
    · exact .inl (.inl z)
    · by_cases e : j = i
      · subst e; rw [upd1_eq] at z; cases z; exact .inl (.inr rfl)
      · rw [upd1_ne e] at z; exact .inr (.inl ⟨j, z⟩)
    · exact .inr (.inr z)
  have mu : ∀ a, Mu io (upd1 α i (some p)) a → Mu io α a ∨ a = p := by
    rintro a (⟨j, z⟩ | z)
    · by_cases e : j = i
      · subst e; rw [upd1_eq] at z; cases z; exact .inr rfl
      · rw [upd1_ne e] at z; exact .inl (.inl ⟨j, z⟩)
    · exact .inl (.inr z)
  have np : ∀ j, α j ≠ some p := fun j z => nM (.inl ⟨j, z⟩)
  refine ⟨by simpa using x.len, fun j sl hj => ?_, fun j hj => ?_, fun j a h => ?_, fun j k a h1 h2 => ?_, x.ioj, fun j k a h1 h2 => ?_, fun j a h => ⟨(x.boH j a h).1, fun z => ?_⟩, fun a h z => ?_, fun a h => x.FH a (.inl h)⟩
  · by_cases e : j = i
    · subst e
      rw [List.getElem?_set_self hlt] at hj
      cases hj
      exact ⟨p, upd1_eq, List.getElem?_set_self (by rw [← x.len]; exact hlt), c.ext (Soft.none H) (Ext.refl _ _) (fun _ z => z.elim) (fun a _ _ z => al a z) (fun z => z)⟩
    · rw [List.getElem?_set_ne (Ne.symm e)] at hj
      exact (x.slot j sl hj).less (fun a _ _ z => al a z) (upd1_ne e) (List.getElem?_set_ne (Ne.symm e))
  · have hj' : r.length ≤ j := by simpa using hj
    rw [upd1_ne (by omega)]
    exact x.out j hj'
  · obtain ⟨d, q⟩ := x.ios j a h
    have e : i ≠ j := fun e => by
      subst e
      rw [x.io_none hi] at h; cases h
    exact ⟨d, by rw [List.getElem?_set_ne e]; exact q⟩
  · by_cases e1 : j = i
    · subst e1
      rw [upd1_eq] at h1; cases h1
      by_cases e2 : k = j
      · exact e2.symm
      · rw [upd1_ne e2] at h2; exact absurd h2 (np k)
    · rw [upd1_ne e1] at h1
      by_cases e2 : k = i
      · subst e2; rw [upd1_eq] at h2; cases h2; exact absurd h1 (np j)
      · rw [upd1_ne e2] at h2; exact x.inj j k a h1 h2
  · by_cases e1 : j = i
    · subst e1; rw [upd1_eq] at h1; cases h1; exact nM (.inr ⟨k, h2⟩)
    · rw [upd1_ne e1] at h1; exact x.aio j k a h1 h2
  · rcases mu a z with z | z
    · exact (x.boH j a h).2 z
    · exact hb j a h z
  · rcases mu a z with z | z
    · exact x.aF a (.inl h) z
    · subst z; exact nF h
/-- from the state at the beginning: the borrowed stand not where something new stands -/
theorem R.bo_ne (x : R K F io α r σ H) {p : Addr} (n : H p = none) : ∀ j a, io.b j = some a → a ≠ p := fun j a h e => by
  subst e
  obtain ⟨o, q⟩ := (x.boH j a h).1
  rw [n] at q; cases q
/-- stored -/
theorem put1_ok {y : Ro} (x0 : ∀ p, H0 p = none → ∀ j a, io.b j = some a → a ≠ p) (h : RR K F io α r σ H0 H v y.rs) {i : Nat} (e : put1 i y r = .ok () r') : ∃ α', (∀ a o, H0 a = some o → Mu io α' a → Mu io α a) ∧ R K F io α' r' (σ.set i (some v)) H := by
  unfold put1 at e
  split at e
  · rename_i hi
    cases e
    cases y with
    | dat d => exact ⟨_, fun _ _ _ z => mu_less z, h.1.put_dat hi h.2.less⟩
    | fresh d =>
      obtain ⟨p, rfl, n, x, nF, nM, c⟩ := h
      refine ⟨_, fun a o ha => ?_, x.put_own hi nF nM c (x0 p n)⟩
      rintro (⟨j, z⟩ | z)
      · by_cases e : j = i
        · subst e; rw [upd1_eq] at z; cases z; rw [n] at ha; cases ha
        · rw [upd1_ne e] at z; exact .inl ⟨j, z⟩
      · exact .inr z
  · cases e
/-- a result that is handed back: a new list, or an own one -/
def RRet (K : PySem.W.Frag) (F : Addr → Prop) (io : Fx) (α0 α : Am) (r : Ev) (σ : St) (H0 H : Hp) (v : V) : Ro → Prop
  | .dat d => R K F io α r σ H ∧ Rep K (Al F io α) H d v
  | .fresh d => ∃ p, v = .ref p ∧ (∀ o, H0 p = some o → Mu io α0 p) ∧ R K (Plus F p) io α r σ H ∧ ¬ F p ∧ ¬ Mu io α p ∧ Cell K (Al (Plus F p) io α) H d p
theorem RRet.back {α0 α1 : Am} (o : On io α0 α1 H0 H) : ∀ {x : Ro}, RRet K F io α1 α' r' σ H H' v x → RRet K F io α0 α' r' σ H0 H' v x
  | .dat d, h => h
  | .fresh d, h => by
    obtain ⟨p, e, n, h⟩ := h
    refine ⟨p, e, fun ob q => ?_, h⟩
    obtain ⟨o', q'⟩ := o.there p ob q
    exact o.sub p ob q (n o' q')
/-- what a statement reaches -/
def Flown (P : Par) (F : Addr → Prop) (io : Fx) (α : Am) (H : Hp) (D : Ends) (r' : Ev) : Fl → Prop
  | .next => ∀ σ' H' α', On io α α' H H' → R P.K F io α' r' σ' H' → D.nx σ' H'
  | .brk => ∀ σ' H' α', On io α α' H H' → R P.K F io α' r' σ' H' → D.bk σ' H'
  | .cont => ∀ σ' H' α', On io α α' H H' → R P.K F io α' r' σ' H' → D.ct σ' H'
  | .ret x => ∀ v σ' H' α', On io α α' H H' → RRet P.K F io α α' r' σ' H H' v x → D.rt v H'
def tEx (P : Par) (W : WX) (m : M Fl) : TS := fun D σ H => ∃ F io α r, R P.K F io α r σ H ∧ match m r with
  | .ok f r' => Flown P F io α H D r' f
  | .exc c fs r' => Thrown P W F io α H c fs r'
  | .stuck => False
/-- a value that is to be stored -/
def tVv (P : Par) (W : WX) (m : M Ro) : TE := fun σ H Q => ∃ F io α r, R P.K F io α r σ H ∧ match m r with
  | .ok x r' => ∀ v H' α', On io α α' H H' → RR P.K F io α' r' σ H H' v x.rs → Q v H'
  | .exc c fs r' => Thrown P W F io α H c fs r'
  | .stuck => False
theorem PS.weak {X : Cx} {st : Stmt} {t t' : TS} (h : PS X st t) (i : ∀ D σ H, t' D σ H → t D σ H) : PS X st t' := ⟨fun pins s σ H D I q => h.run pins s σ H D I (i D σ H q)⟩
theorem PSs.weak {X : Cx} {st : List Stmt} {t t' : TS} (h : PSs X st t) (i : ∀ D σ H, t' D σ H → t D σ H) : PSs X st t' := ⟨fun pins s σ H D I q => h.run pins s σ H D I (i D σ H q)⟩
theorem set_ok {i : Nat} {m : M Rs} {D : Ends} {σ : St} {H : Hp} (h : tEx P W (setS i m) D σ H) : tEv P W m σ H fun x H1 => D.nx (σ.set i (some x)) H1 := by
  obtain ⟨F, io, α, r, x, h⟩ := h
  refine ⟨F, io, α, r, x, ?_⟩
  unfold setS val1 at h
  cases e : m r with
  | stuck => rw [e] at h; exact h
  | exc c fs r1 => rw [e] at h; exact h
  | ok y r1 =>
    rw [e] at h
    intro v H1 α1 o1 q1
    rcases toRo_no y r1 with ⟨z, r2, e2⟩ | e2
    · simp only [e2] at h
      obtain ⟨α2, o2, q2⟩ := toRo_ok q1 e2
      cases e3 : put1 i z r2 with
      | stuck => simp only [e3] at h
      | exc c fs r3 => unfold put1 at e3; split at e3 <;> cases e3
      | ok u r3 =>
        simp only [e3] at h
        obtain ⟨α3, o3, q3⟩ := put1_ok (fun p n => x.bo_ne n) q2 e3
        have o12 := o1.trans o2
        exact h _ _ α3 ⟨fun a o ha z => o12.sub a o ha (o3 a o ha z), o12.ext, o12.there⟩ q3
    · simp only [e2] at h
theorem ps_set' {X : Cx} {i : Nat} {x : Str} {e : Expr} {m : M Rs} {pos pos' : Pos} (hN : X.N.Nodup) (hi : X.N[i]? = some x) (hx : Loc X.env.scope x) (he : PE X e (tEv P W m)) (hs : swapsWith e (some (.Name x pos')) pos.line X.env = pure false) (hf : X.fn x = true ∨ X.env.scope.names.lookup x = some .local) :
    PS X (.Assign [.Name x pos'] e pos) (tEx P W (setS i m)) := PS.weak (ps_set hN hi hx he hs hf) fun D σ H h => set_ok h
theorem seq_ok {a b : M Fl} {D : Ends} {σ : St} {H : Hp} (h : tEx P W (seqS a b) D σ H) : tEx P W a { D with nx := tEx P W b D } σ H := by
  obtain ⟨F, io, α, r, x, h⟩ := h
  refine ⟨F, io, α, r, x, ?_⟩
  unfold seqS at h
  cases e : a r with
  | stuck => rw [e] at h; exact h
  | exc c fs r1 => rw [e] at h; exact h
  | ok f r1 =>
    rw [e] at h
    cases f with
    | next =>
      intro σ1 H1 α1 o1 x1
      refine ⟨F, io, α1, r1, x1, ?_⟩
      simp only at h
      cases e2 : b r1 with
      | stuck => rw [e2] at h; exact h
      | exc c fs r2 => rw [e2] at h; exact Thrown.on h o1
      | ok f2 r2 =>
        rw [e2] at h
        cases f2 with
        | next => exact fun σ2 H2 α2 o2 x2 => h σ2 H2 α2 (o1.trans o2) x2
        | brk => exact fun σ2 H2 α2 o2 x2 => h σ2 H2 α2 (o1.trans o2) x2
        | cont => exact fun σ2 H2 α2 o2 x2 => h σ2 H2 α2 (o1.trans o2) x2
        | ret y => exact fun v σ2 H2 α2 o2 x2 => h v σ2 H2 α2 (o1.trans o2) (x2.back o1)
    | brk => exact h
    | cont => exact h
    | ret y => exact h
theorem pss_cons' {X : Cx} {st : Stmt} {rest : List Stmt} {a b : M Fl} (h1 : PS X st (tEx P W a)) (h2 : PSs X rest (tEx P W b)) : PSs X (st :: rest) (tEx P W (seqS a b)) := PSs.weak (pss_cons h1 h2) fun D σ H h => seq_ok h
theorem next_ok {D : Ends} {σ : St} {H : Hp} (h : tEx P W nextS D σ H) : D.nx σ H := by
  obtain ⟨F, io, α, r, x, h⟩ := h
  exact h σ H α (On.refl _ _ _) x
theorem pss_nil' {X : Cx} : PSs X [] (tEx P W nextS) := PSs.weak pss_nil fun D σ H h => next_ok h
theorem ps_doc' {X : Cx} {x j pos pos'} : PS X (.Expr (.Constant (.str x) j pos) pos') (tEx P W nextS) := PS.weak ps_doc fun D σ H h => next_ok h
theorem ps_pass' {X : Cx} {pos} : PS X (.Pass pos) (tEx P W nextS) := PS.weak ps_pass fun D σ H h => next_ok h
theorem drop_ok {m : M Rs} {D : Ends} {σ : St} {H : Hp} (h : tEx P W (dropS m) D σ H) : tEv P W m σ H fun _ H1 => D.nx σ H1 := by
  obtain ⟨F, io, α, r, x, h⟩ := h
  refine ⟨F, io, α, r, x, ?_⟩
  unfold dropS at h
  cases e : m r with
  | stuck => rw [e] at h; exact h
  | exc c fs r1 => rw [e] at h; exact h
  | ok y r1 =>
    rw [e] at h
    intro v H1 α1 o1 q1
    cases y with
    | dat d => exact h σ H1 α1 o1 q1.1
    | var i => exact h σ H1 α1 o1 q1.1
    | fresh d =>
      obtain ⟨p, _, _, x1, _⟩ := q1
      exact h σ H1 α1 o1 (x1.weak fun _ z => .inl z)
theorem ps_expr' {X : Cx} {e : Expr} {m : M Rs} {pos : Pos} (he : PE X e (tEv P W m)) (hs : swapsWith e none pos.line X.env = pure false) : PS X (.Expr e pos) (tEx P W (dropS m)) := PS.weak (ps_expr he hs) fun D σ H h => drop_ok h
theorem toRet_ok {x : Rs} (h : RR K F io α r σ H0 H v x) {α0 : Am} (o0 : On io α0 α H0 H) {y : Ro} (e : toRet x r = .ok y r') : ∃ α', On io α α' H H ∧ ∃ σ', RRet K F io α0 α' r' σ' H0 H v y := by
  cases x with
  | dat d => cases e; exact ⟨α, On.refl _ _ _, σ, h⟩
  | fresh d =>
    cases e
    obtain ⟨p, e, n, h⟩ := h
    exact ⟨α, On.refl _ _ _, σ, p, e, (fun o q => by rw [n] at q; cases q), h⟩
  | var i =>
    obtain ⟨x, hv, a, rfl⟩ := h
    have e' : (match ownAt r[i]? with | some d => Res.ok (Ro.fresh d) (r.set i .no) | none => .stuck) = .ok y r' := e
    cases q : ownAt r[i]? with
    | none => rw [q] at e'; cases e'
    | some d =>
      rw [q] at e'
      obtain ⟨b, e1, e2, x1, c, n⟩ := x.demote q
      rw [hv] at e1
      cases e1
      cases e'
      have hi : setOk r[i]? = true := by
        revert q
        cases r[i]? with
        | none => intro q; cases q
        | some s => cases s <;> intro q <;> first | rfl | cases q
      have x2 : R K F io (upd1 α i none) (r.set i .no) (σ.set i none) H := x.put_no hi .no none upd1_eq
      have nF : ¬ F a := fun z => n (.inl z)
      have nM : ¬ Mu io (upd1 α i none) a := fun z => n (.inr z)
      refine ⟨_, On.less, σ.set i none, a, rfl, fun o q2 => o0.sub a o q2 (.inl ⟨i, e2⟩), ?_, nF, nM, ?_⟩
      · have hA : ∀ b o, H b = some o → Al (Plus F a) io (upd1 α i none) b → Al F io α b := fun b o _ z => by
          rcases z.plus with z | z
          · exact al_less z
          · subst z; exact .inr (.inl ⟨i, e2⟩)
        have hlt := setOk_lt hi
        refine ⟨x2.len, fun j sl hj => ?_, x2.out, x2.ios, x2.inj, x2.ioj, x2.aio, x2.boH, fun b hb hm => ?_, fun b hb => ?_⟩
        · by_cases q3 : j = i
          · subst q3
            rw [List.getElem?_set_self hlt] at hj
            cases hj
            exact upd1_eq
          · rw [List.getElem?_set_ne (Ne.symm q3)] at hj
            exact (x.slot j sl hj).less hA (upd1_ne q3) (List.getElem?_set_ne (Ne.symm q3))
        · rcases hb with hb | hb
          · exact x2.aF b hb hm
          · subst hb; exact nM hm
        · rcases hb with hb | hb
          · exact x.FH b hb
          · subst hb
            obtain ⟨d', _, _, c'⟩ := x.own_cell e2
            rcases c'.soft with ⟨_, z⟩ | ⟨_, z⟩ <;> exact ⟨_, z⟩
      · have ⟨d', e3, _, c'⟩ := x.own_cell e2
        have e4 : d' = d := by rw [e3] at q; exact Option.some.inj q
        subst e4
        exact c'.ext (Soft.none H) (Ext.refl _ _) (fun _ z => z.elim) (fun b _ _ z => by
          rcases z.plus with z | z
          · exact al_less z
          · subst z; exact .inr (.inl ⟨i, e2⟩)) (fun z => z)
theorem toRet_no (x : Rs) (r : Ev) : (∃ y r', toRet x r = .ok y r') ∨ toRet x r = .stuck := by
  cases x with
  | dat z => exact .inl ⟨_, _, rfl⟩
  | fresh z => exact .inl ⟨_, _, rfl⟩
  | var i =>
    show (∃ y r', (match ownAt r[i]? with | some d => Res.ok (Ro.fresh d) (r.set i .no) | none => .stuck) = .ok y r') ∨ (match ownAt r[i]? with | some d => Res.ok (Ro.fresh d) (r.set i .no) | none => .stuck) = .stuck
    cases ownAt r[i]? with
    | none => exact .inr rfl
    | some d => exact .inl ⟨_, _, rfl⟩
theorem ret_ok {m : M Rs} {D : Ends} {σ : St} {H : Hp} (h : tEx P W (retS m) D σ H) : tEv P W m σ H D.rt := by
  obtain ⟨F, io, α, r, x, h⟩ := h
  refine ⟨F, io, α, r, x, ?_⟩
  unfold retS val1' at h
  cases e : m r with
  | stuck => rw [e] at h; exact h
  | exc c fs r1 => rw [e] at h; exact h
  | ok y r1 =>
    rw [e] at h
    intro v H1 α1 o1 q1
    rcases toRet_no y r1 with ⟨z, r2, e2⟩ | e2
    · simp only [e2] at h
      obtain ⟨α2, o2, σ', q2⟩ := toRet_ok q1 o1 e2
      exact h v σ' H1 α2 (o1.trans o2) q2
    · simp only [e2] at h
theorem ps_ret' {X : Cx} {e : Expr} {m : M Rs} {pos : Pos} (he : PE X e (tEv P W m)) : PS X (.Return (some e) pos) (tEx P W (retS m)) := PS.weak (ps_ret he) fun D σ H h => ret_ok h
def retN : M Fl := fun r => .ok (.ret (.dat .none)) r
theorem ps_retN' {X : Cx} {pos : Pos} : PS X (.Return none pos) (tEx P W retN) := PS.weak ps_retN fun D σ H h => by
  obtain ⟨F, io, α, r, x, h⟩ := h
  exact h .non σ H α (On.refl _ _ _) ⟨x, by simp only [Rep]⟩
def stuckS : M Fl := fun _ => .stuck
theorem ps_never' {X : Cx} {st : Stmt} : PS X st (tEx P W stuckS) := PS.weak ps_never fun D σ H h => by
  obtain ⟨F, io, α, r, x, h⟩ := h
  exact h
theorem condS_ok {c : M Bool} {a b : M Fl} {D : Ends} {σ : St} {H : Hp} (h : tEx P W (cond c a b) D σ H) : tBv P W c σ H fun k H1 => if k = true then tEx P W a D σ H1 else tEx P W b D σ H1 := by
  obtain ⟨F, io, α, r, x, h⟩ := h
  refine ⟨F, io, α, r, x, ?_⟩
  have fin : ∀ {f : M Fl} {r1 : Ev} {H1 : Hp} {α1 : Am}, On io α α1 H H1 → R P.K F io α1 r1 σ H1 → (match f r1 with
      | .ok f r' => Flown P F io α H D r' f
      | .exc c fs r' => Thrown P W F io α H c fs r'
      | .stuck => False) → tEx P W f D σ H1 := fun {f r1 H1 α1} o1 x1 h => by
    refine ⟨F, io, α1, r1, x1, ?_⟩
    cases e2 : f r1 with
    | stuck => rw [e2] at h; exact h
    | exc c fs r1 => rw [e2] at h; exact Thrown.on h o1
    | ok f2 r2 =>
      rw [e2] at h
      cases f2 with
      | next => exact fun σ2 H2 α2 o2 x2 => h σ2 H2 α2 (o1.trans o2) x2
      | brk => exact fun σ2 H2 α2 o2 x2 => h σ2 H2 α2 (o1.trans o2) x2
      | cont => exact fun σ2 H2 α2 o2 x2 => h σ2 H2 α2 (o1.trans o2) x2
      | ret y => exact fun v σ2 H2 α2 o2 x2 => h v σ2 H2 α2 (o1.trans o2) (x2.back o1)
  unfold cond at h
  cases e : c r with
  | stuck => rw [e] at h; exact h
  | exc c fs r1 => rw [e] at h; exact h
  | ok k r1 =>
    rw [e] at h
    intro H1 α1 o1 x1
    cases k with
    | true => exact iteT (fin o1 x1 h)
    | false => exact iteF (fin o1 x1 h)
theorem ps_if' {X : Cx} {c : Expr} {a b : List Stmt} {mc : M Bool} {ma mb : M Fl} {pos : Pos} (hc : PT X c (tBv P W mc)) (ha : PSs X a (tEx P W ma)) (hb : PSs X b (tEx P W mb)) : PS X (.If c a b pos) (tEx P W (cond mc ma mb)) :=
  PS.weak (ps_if hc ha hb) fun D σ H h => condS_ok h
end
end Ip

set_option Elab.async false
set_option linter.all false
set_option maxRecDepth 100000
set_option maxHeartbeats 1000000
/-! Names, constants, displays, and, or. -/
namespace Ip
open PySem PySem.Spec PyProof.Rows L2
section
variable {K : PySem.W.Frag} {F F' : Addr → Prop} {io : Fx} {α α' : Am} {r r' : Ev} {σ σ' : St} {H H' H0 : Hp} {v : V} {P : Par} {W : WX} {X : Cx}
/-- a name -/
theorem nm_ok {i : Nat} {σ : St} {H : Hp} {Q : VK} (h : tEv P W (nm i) σ H Q) : tVar i σ H Q := by
  obtain ⟨F, io, α, r, x, h⟩ := h
  unfold nm at h
  cases e : r[i]? with
  | none => rw [e] at h; exact h.elim
  | some s =>
    rw [e] at h
    have q := x.slot i s e
    cases s with
    | no => exact h.elim
    | dat d =>
      obtain ⟨_, v, hv, rv⟩ := q
      exact ⟨v, hv, h v H α (On.refl _ _ _) ⟨x, rv⟩⟩
    | own d =>
      obtain ⟨a, _, hv, _⟩ := q
      exact ⟨_, hv, h _ H α (On.refl _ _ _) ⟨x, hv, a, rfl⟩⟩
    | io d =>
      obtain ⟨_, a, _, hv, _⟩ := q
      exact ⟨_, hv, h _ H α (On.refl _ _ _) ⟨x, hv, a, rfl⟩⟩
    | bor d =>
      obtain ⟨_, a, _, hv, _⟩ := q
      exact ⟨_, hv, h _ H α (On.refl _ _ _) ⟨x, hv, a, rfl⟩⟩
theorem px_nm {i : Nat} {x : Str} {pos : Pos} (hN : X.N[i]? = some x) (hv : Vis X.env.scope x) (hd : (x == ("__debug__" : Str)) = false) (hcd : (x == ("__classdict__" : Str)) = false) : PE X (.Name x pos) (tEv P W (nm i)) :=
  PE.weak (pe_var hN hv hd hcd) fun σ H Q h => nm_ok h
/-- a value that hangs on nothing -/
theorem kst_ok {d : D} {v : V} (hr : ∀ O H, Rep P.K O H d v) {σ : St} {H : Hp} {Q : VK} (h : tEv P W (kst d) σ H Q) : Q v H := by
  obtain ⟨F, io, α, r, x, h⟩ := h
  exact h v H α (On.refl _ _ _) ⟨x, hr _ _⟩
theorem px_int {i j pos} : PE X (.Constant (.int i) j pos) (tEv P W (kst (.int i))) := PE.weak pe_int fun σ H Q h => kst_ok (fun _ _ => by simp only [Rep]) h
theorem px_bool {i j pos} : PE X (.Constant (.bool i) j pos) (tEv P W (kst (.bool i))) := PE.weak pe_bl fun σ H Q h => kst_ok (fun _ _ => by simp only [Rep]) h
theorem px_none {j pos} : PE X (.Constant .none j pos) (tEv P W (kst .none)) := PE.weak pe_non fun σ H Q h => kst_ok (fun _ _ => by simp only [Rep]) h
theorem px_str {i j pos} : PE X (.Constant (.str i) j pos) (tEv P W (kst (.str i))) := PE.weak pe_str fun σ H Q h => kst_ok (fun _ _ => by simp only [Rep]) h
/-- a constant of the module -/
theorem px_glob {x : Str} {d : D} {v : V} {u : Value} {pos : Pos} (hg : Gl X x) (hm : X.mg x = some u) (rv : RelV v u) (hr : ∀ O H, Rep P.K O H d v) (hd : (x == ("__debug__" : Str)) = false) : PE X (.Name x pos) (tEv P W (kst d)) :=
  PE.weak (pe_glob hg hm rv hd) fun σ H Q h => kst_ok hr h
/-! ### and, or, not, as values -/
def andV (a b : M Rs) : M Rs := cond (tst a) b (kst (.bool false))
def orV (a b : M Rs) : M Rs := cond (tst a) (kst (.bool true)) b
theorem tst_ev {m : M Rs} {σ : St} {H : Hp} {Q : VK} (h : tBv P W (tst m) σ H fun c H1 => Q (.bl c) H1) : tEv P W m σ H fun x H1 => ∃ c, x = .bl c ∧ Q (.bl c) H1 := tst_ok h
theorem px_and {a b : Expr} {rest : List Expr} {ma mb : M Rs} {pos : Pos} (ha : PE X a (tEv P W ma)) (hb : PE X (.BoolOp .And (b :: rest) pos) (tEv P W mb)) : PE X (.BoolOp .And (a :: b :: rest) pos) (tEv P W (andV ma mb)) :=
  PE.weak (pe_and ha hb) fun σ H Q h => ev_mono (tst_ok (condV_ok h)) fun v H1 q => by
    obtain ⟨c, e, q⟩ := q
    refine ⟨c, e, ?_⟩
    cases c with
    | true => exact iteT (by simpa using q)
    | false => exact iteF (kst_ok (d := .bool false) (v := .bl false) (fun _ _ => by simp only [Rep]) (by simpa using q))
theorem px_or {a b : Expr} {rest : List Expr} {ma mb : M Rs} {pos : Pos} (ha : PE X a (tEv P W ma)) (hb : PE X (.BoolOp .Or (b :: rest) pos) (tEv P W mb)) : PE X (.BoolOp .Or (a :: b :: rest) pos) (tEv P W (orV ma mb)) :=
  PE.weak (pe_or ha hb) fun σ H Q h => ev_mono (tst_ok (condV_ok h)) fun v H1 q => by
    obtain ⟨c, e, q⟩ := q
    refine ⟨c, e, ?_⟩
    cases c with
    | true => exact iteT (kst_ok (d := .bool true) (v := .bl true) (fun _ _ => by simp only [Rep]) (by simpa using q))
    | false => exact iteF (by simpa using q)
def oNot : Op
  | [.bool b] => some (.dat (.bool (!b)))
  | _ => none
theorem px_not {a : Expr} {ma : M Rs} {pos : Pos} (ha : PE X a (tEv P W ma)) : PE X (.UnaryOp .Not a pos) (tEv P W (prim oNot [ma])) :=
  PE.weak (pe_not ha) fun σ H Q h => one_ok (r := fun x H Q => ∃ c, x = .bl c ∧ Q (.bl (!c)) H) (fun O H ds vs x Q e hv q => by
    unfold oNot at e
    split at e
    · cases e
      obtain ⟨v, rfl, h1⟩ := hv.one
      exact ⟨v, rfl, _, h1.bool, q _ _ Out.bool⟩
    · cases e) h
/-! ### displays -/
theorem keep_no (x : Rs) (r : Ev) : (∃ y r', keep x r = .ok y r') ∨ keep x r = .stuck := by
  cases x with
  | dat z => exact .inl ⟨_, _, rfl⟩
  | fresh z => exact .inl ⟨_, _, rfl⟩
  | var i =>
    show (∃ y r', (match ownAt r[i]? with | some d => Res.ok d (r.set i (.dat d)) | none => .stuck) = .ok y r') ∨ (match ownAt r[i]? with | some d => Res.ok d (r.set i (.dat d)) | none => .stuck) = .stuck
    cases ownAt r[i]? with
    | none => exact .inr rfl
    | some d => exact .inl ⟨_, _, rfl⟩
theorem keep_ok (x : R K F io α r σ H) {y : Rs} {d : D} (h : RV K (Al F io α) σ H v y) (e : keep y r = .ok d r') : ∃ α', On io α α' H H ∧ R K F io α' r' σ H ∧ Rep K (Al F io α') H d v ∧ ∀ a, Al F io α' a → Al F io α a := by
  cases y with
  | dat z => cases e; exact ⟨α, On.refl _ _ _, x, h, fun _ z => z⟩
  | fresh z => exact h.elim
  | var i =>
    obtain ⟨hv, a, rfl⟩ := h
    have e' : (match ownAt r[i]? with | some d => Res.ok d (r.set i (.dat d)) | none => .stuck) = .ok d r' := e
    cases q : ownAt r[i]? with
    | none => rw [q] at e'; cases e'
    | some z =>
      rw [q] at e'
      obtain ⟨b, e1, e2, x', c, n⟩ := x.demote q
      rw [hv] at e1
      cases e1
      cases e'
      exact ⟨_, On.less, x', c.rep n, fun a z => al_less z⟩
theorem keeps_no : ∀ (xs : List Rs) (r : Ev), (∃ y r', keeps xs r = .ok y r') ∨ keeps xs r = .stuck
  | [], r => .inl ⟨_, _, rfl⟩
  | x :: xs, r => by
    unfold keeps
    rcases keep_no x r with ⟨d, r1, e⟩ | e
    · simp only [e]
      rcases keeps_no xs r1 with ⟨ds, r2, e2⟩ | e2
      · simp only [e2]; exact .inl ⟨_, _, rfl⟩
      · simp only [e2]; exact .inr trivial
    · simp only [e]; exact .inr trivial
theorem keeps_ok : ∀ {ys : List Rs} {ds : List D} {vs : List V} {r r' : Ev} {α : Am}, R K F io α r σ H → RVs K (Al F io α) σ H vs ys → keeps ys r = .ok ds r' → ∃ α', On io α α' H H ∧ R K F io α' r' σ H ∧ RepL K (Al F io α') H ds vs ∧ ∀ a, Al F io α' a → Al F io α a
  | [], ds, [], r, r', α, x, _, e => by
    unfold keeps at e
    cases e
    exact ⟨α, On.refl _ _ _, x, by simp only [RepL], fun _ z => z⟩
  | [], ds, _ :: _, _, _, _, _, h, _ => h.elim
  | _ :: _, ds, [], _, _, _, _, h, _ => h.elim
  | y :: ys, ds, v :: vs, r, r', α, x, h, e => by
    unfold keeps at e
    rcases keep_no y r with ⟨d, r1, e1⟩ | e1
    · simp only [e1] at e
      obtain ⟨α1, o1, x1, q1, s1⟩ := keep_ok x h.1 e1
      rcases keeps_no ys r1 with ⟨es, r2, e2⟩ | e2
      · simp only [e2] at e
        obtain ⟨α2, o2, x2, q2, s2⟩ := keeps_ok x1 (RVs.on x.soft o1 h.2) e2
        cases e
        refine ⟨α2, o1.trans o2, x2, ?_, fun a z => s1 a (s2 a z)⟩
        simp only [RepL]
        exact ⟨v, vs, rfl, Rep.ext (Soft.none H) (Ext.refl _ _) (fun _ z => z.elim) (fun a _ _ z => s2 a z) q1, q2⟩
      · simp only [e2] at e; cases e
    · simp only [e1] at e; cases e
theorem tup_ok {ms : List (M Rs)} {σ : St} {H : Hp} {Q : VK} (h : tEv P W (tupV ms) σ H Q) : tAv P W ms σ H fun xs H1 => xs.length ≤ sizeLine ∧ newT H1 xs Q := by
  obtain ⟨F, io, α, r, x, h⟩ := h
  refine ⟨F, io, α, r, x, ?_⟩
  unfold tupV at h
  cases e : args ms r with
  | stuck => rw [e] at h; exact h
  | exc c fs r1 => rw [e] at h; exact h
  | ok ys r1 =>
    rw [e] at h
    intro vs H1 α1 o1 x1 q1
    rcases keeps_no ys r1 with ⟨ds, r2, e2⟩ | e2
    · simp only [e2] at h
      obtain ⟨α2, o2, x2, q2, _⟩ := keeps_ok x1 q1 e2
      split at h
      · rename_i r3 hl
        split at hl
        · rename_i hlen
          cases hl
          refine ⟨by rw [← q2.length]; exact hlen, fun p its n => ?_⟩
          obtain ⟨o3, q3⟩ := x2.done (Out.newT n q2)
          exact h _ _ α2 ((o1.trans o2).trans o3) (q3.back (o1.trans o2))
        · cases hl
      · rename_i hl; split at hl <;> cases hl
      · exact h.elim
    · simp only [e2] at h
theorem lst_ok {ms : List (M Rs)} {σ : St} {H : Hp} {Q : VK} (h : tEv P W (lstV ms) σ H Q) : tAv P W ms σ H fun xs H1 => xs.length ≤ sizeLine ∧ ∀ p, H1 p = none → Q (.ref p) (upd H1 p (.lst xs)) := by
  obtain ⟨F, io, α, r, x, h⟩ := h
  refine ⟨F, io, α, r, x, ?_⟩
  unfold lstV at h
  cases e : args ms r with
  | stuck => rw [e] at h; exact h
  | exc c fs r1 => rw [e] at h; exact h
  | ok ys r1 =>
    rw [e] at h
    intro vs H1 α1 o1 x1 q1
    rcases keeps_no ys r1 with ⟨ds, r2, e2⟩ | e2
    · simp only [e2] at h
      obtain ⟨α2, o2, x2, q2, _⟩ := keeps_ok x1 q1 e2
      split at h
      · rename_i r3 hl
        split at hl
        · rename_i hlen
          cases hl
          refine ⟨by rw [← q2.length]; exact hlen, fun p n => ?_⟩
          obtain ⟨o3, q3⟩ := x2.done (Out.newL n q2)
          exact h _ _ α2 ((o1.trans o2).trans o3) (q3.back (o1.trans o2))
        · cases hl
      · rename_i hl; split at hl <;> cases hl
      · exact h.elim
    · simp only [e2] at h
theorem px_tup {es : List Expr} {ms : List (M Rs)} {k : Nat} {pos : Pos} (h : PA X es (tAv P W ms)) : PE X (.Tuple es k pos) (tEv P W (tupV ms)) := PE.weak (pe_tupB h) fun σ H Q h => tup_ok h
theorem px_lst {es : List Expr} {ms : List (M Rs)} {pos : Pos} (h : PA X es (tAv P W ms)) : PE X (.List es pos) (tEv P W (lstV ms)) := PE.weak (pe_lst h) fun σ H Q h => lst_ok h
/-- a built-in function, a built-in class, called -/
theorem px_blt {id : String} {f : Op} {rr : List V → Hp → VK → Prop} {x : Str} {p pos : Pos} {e : Expr} {es : List Expr} {m : M Rs} {ms : List (M Rs)} (hc : CallR X (.builtin id) rr) (pr : Prm P.K f rr) (hg : Gl X x) (hm : X.mg x = none) (hv : bootBuiltins x = some (.builtin id)) (ha : PA X (e :: es) (tAv P W (m :: ms)))
    (hn : x ≠ "__name__") (hdb : (x == ("__debug__" : Str)) = false) (he : starEach (e :: es) X.env = (false, eval e X.env) :: starEach es X.env) (hpl : (backTo pos (starEach es X.env)).any (·.1) = false) :
    PE X (.Call (.Name x p) (e :: es) [] pos) (tEv P W (prim f (m :: ms))) :=
  PE.weak (pe_callB hc hg hm hv ha hn hdb he hpl) fun σ H Q h => prim_ok pr h
theorem px_ty {T : String} {f : Op} {rr : List V → Hp → VK → Prop} {x : Str} {p pos : Pos} {e : Expr} {es : List Expr} {m : M Rs} {ms : List (M Rs)} (hc : CallR X (.type T) rr) (pr : Prm P.K f rr) (hg : Gl X x) (hm : X.mg x = none) (hv : bootBuiltins x = some (.type T)) (ha : PA X (e :: es) (tAv P W (m :: ms)))
    (hn : x ≠ "__name__") (hdb : (x == ("__debug__" : Str)) = false) (he : starEach (e :: es) X.env = (false, eval e X.env) :: starEach es X.env) (hpl : (backTo pos (starEach es X.env)).any (·.1) = false) :
    PE X (.Call (.Name x p) (e :: es) [] pos) (tEv P W (prim f (m :: ms))) :=
  PE.weak (pe_callTy hc hg hm hv ha hn hdb he hpl) fun σ H Q h => prim_ok pr h
end
end Ip

set_option Elab.async false
set_option linter.all false
set_option maxRecDepth 100000
set_option maxHeartbeats 1000000
/-! isinstance, chains of comparisons. -/
namespace Ip
open PySem PySem.Spec PyProof.Rows L2
theorem bt_int : bootBuiltins "int" = some (.type "int") := by decide +kernel
theorem bt_bool : bootBuiltins "bool" = some (.type "bool") := by decide +kernel
theorem bt_str : bootBuiltins "str" = some (.type "str") := by decide +kernel
theorem bt_tuple : bootBuiltins "tuple" = some (.type "tuple") := by decide +kernel
theorem bt_list : bootBuiltins "list" = some (.type "list") := by decide +kernel
theorem bt_isinstance : bootBuiltins "isinstance" = some (.builtin "isinstance") := by decide +kernel
theorem bt_len : bootBuiltins "len" = some (.builtin "len") := by decide +kernel
theorem bt_sum : bootBuiltins "sum" = some (.builtin "sum") := by decide +kernel
theorem bt_max : bootBuiltins "max" = some (.builtin "max") := by decide +kernel
theorem bt_min : bootBuiltins "min" = some (.builtin "min") := by decide +kernel
theorem bt_any : bootBuiltins "any" = some (.builtin "any") := by decide +kernel
theorem bt_all : bootBuiltins "all" = some (.builtin "all") := by decide +kernel
theorem bt_sorted : bootBuiltins "sorted" = some (.builtin "sorted") := by decide +kernel
theorem bt_set : bootBuiltins "set" = some (.type "set") := by decide +kernel
def dS : D → String
  | .none => "NoneType"
  | .bool _ => "bool"
  | .int _ => "int"
  | .str _ => "str"
  | .list _ => "list"
  | .tuple _ => "tuple"
  | .dict _ => "dict"
def tyS : Ty → String
  | .int => "int"
  | .bool => "bool"
  | .str => "str"
  | .tuple => "tuple"
  | .list => "list"
theorem kit_ok (t : Ty) (d : D) : kitB (dS d) (tyS t) = some (tyOf t d) := by
  cases d <;> cases t <;> simp only [dS, tyS, tyOf] <;> decide +kernel
def oIsiA (ts : List Ty) : Op
  | [d] => some (.dat (.bool (ts.any fun t => tyOf t d)))
  | _ => none
section
variable {K : PySem.W.Frag} {O : Addr → Prop} {H : Hp} {X : Cx} {P : Par} {W : WX}
theorem View.tyx {d : D} {v : V} (h : View K O H d v) : TyX K H v (.type (dS d)) := by
  cases d with
  | none => rw [h.none]; exact .base .non
  | bool b => rw [h.bool]; exact .base (.bl b)
  | int b => rw [h.int]; exact .base (.int b)
  | str b => rw [h.str]; exact .base (.str b)
  | list ds =>
    obtain ⟨a, vs, rfl, s, _⟩ := h.lst
    rcases s with (s | ⟨o, s⟩) | ⟨o, its, n, hk, hc, _⟩
    · exact .base (.lst s)
    · exact .base (.frz s)
    · exact .kList hk hc
  | tuple ds =>
    obtain ⟨a, vs, rfl, s, _⟩ := h.tup
    rcases s with (s | ⟨o, s⟩) | ⟨o, its, n, hk, hc, _⟩
    · exact .base (.tup s)
    · exact .fTuple s
    · exact .kTuple hk hc
  | dict kvs =>
    obtain ⟨a, kvv, rfl, ⟨kk, s, _⟩, _⟩ := h.dic
    exact .base (.dK s)
theorem kits_ok (d : D) : ∀ ts : List Ty, PySem.W.kitAny K (.type (dS d)) (ts.map fun t => .type (tyS t)) = some (ts.any fun t => tyOf t d)
  | [] => kitAny_nil
  | t :: ts => by
    rw [List.map_cons, List.any_cons]
    refine kitAny_cons (b := tyOf t d) (kit_ty (kit_ok t d)) (fun e => ?_) (fun e => ?_)
    · rw [e, Bool.false_or]; exact kits_ok d ts
    · rw [e, Bool.true_or]
theorem prm_isi (t : Ty) : Prm K (oIsiA [t]) (r1 fun x H Q => rIsi K [x, .ty (tyS t)] H Q) := by
  intro O H ds vs x Q e hv q
  unfold oIsiA at e
  split at e
  · rename_i d
    cases e
    obtain ⟨v, rfl, h⟩ := hv.one
    refine ⟨v, rfl, v, _, _, _, _, rfl, .ty _, h.tyx, kit_ty (kit_ok t d), ?_⟩
    have := q _ _ (Out.bool (i := ([t].any fun t => tyOf t d)))
    simpa using this
  · cases e
theorem paired_ty : ∀ ts : List Ty, Paired ClsV (ts.map fun t => V.ty (tyS t)) (ts.map fun t => Value.type (tyS t))
  | [] => .nil
  | t :: ts => .cons (.ty _) (paired_ty ts)
theorem prm_isiT (ts : List Ty) : Prm K (oIsiA ts) (r1 fun x H Q => ∀ p, H p = none → rIsiT K [x, .ref p] (upd H p (.tup (ts.map fun t => V.ty (tyS t)))) Q) := by
  intro O H ds vs x Q e hv q
  unfold oIsiA at e
  split at e
  · rename_i d
    cases e
    obtain ⟨v, rfl, h⟩ := hv.one
    refine ⟨v, rfl, fun p n => ⟨v, p, _, _, _, _, rfl, upd_same, paired_ty ts, ?_, kits_ok d ts, q _ _ ⟨ext_upd n, by simp only [Rep]⟩⟩⟩
    have hx : View K O (upd H p (.tup (ts.map fun t => V.ty (tyS t)))) d v := by
      cases v with
      | ref a =>
        exact View.ext (Soft.none H) (ext_upd n) (fun _ z => z.elim) (fun _ _ _ z => z) (fun z => z) h
      | _ => cases d <;> first
        | exact Rep.ext (Soft.none H) (ext_upd n) (fun _ z => z.elim) (fun _ _ _ z => z) h
        | (obtain ⟨_, _, z, _⟩ := h; cases z)
    exact hx.tyx
  · cases e
end
section
variable {X : Cx} {P : Par} {W : WX}
/-- a built-in class's name -/
def tyNm (x : Str) : Option Ty :=
  if x = "int" then some .int else if x = "bool" then some .bool else if x = "str" then some .str else if x = "tuple" then some .tuple else if x = "list" then some .list else none
theorem tyNm_boot {x : Str} {t : Ty} (h : tyNm x = some t) : bootBuiltins x = some (.type (tyS t)) := by
  unfold tyNm at h
  split at h
  · rename_i e; cases h; rw [e]; exact bt_int
  split at h
  · rename_i e; cases h; rw [e]; exact bt_bool
  split at h
  · rename_i e; cases h; rw [e]; exact bt_str
  split at h
  · rename_i e; cases h; rw [e]; exact bt_tuple
  split at h
  · rename_i e; cases h; rw [e]; exact bt_list
  cases h
theorem tyNm_ok {x : Str} {t : Ty} (h : tyNm x = some t) : x ≠ "__name__" ∧ (x == ("__debug__" : Str)) = false := by
  unfold tyNm at h
  split at h
  · rename_i e; subst e; exact ⟨by decide, by decide⟩
  split at h
  · rename_i e; subst e; exact ⟨by decide, by decide⟩
  split at h
  · rename_i e; subst e; exact ⟨by decide, by decide⟩
  split at h
  · rename_i e; subst e; exact ⟨by decide, by decide⟩
  split at h
  · rename_i e; subst e; exact ⟨by decide, by decide⟩
  cases h
theorem pe_tyN {x : Str} {t : Ty} {pos : Pos} (h : tyNm x = some t) (hg : Gl X x) (hm : X.mg x = none) : PE X (.Name x pos) (tC (.ty (tyS t))) :=
  pe_bltn hg hm (tyNm_boot h) (by rfl) (tyNm_ok h).1 (tyNm_ok h).2
theorem px_isi (hK : P.K = X.K) {a : Expr} {m : M Rs} {x : Str} {t : Ty} {p p2 pos : Pos} (ha : PE X a (tEv P W m)) (h : tyNm x = some t) (hg : Gl X "isinstance") (hm : X.mg "isinstance" = none) (hg2 : Gl X x) (hm2 : X.mg x = none) (hs : starEach [a, .Name x p2] X.env = (false, eval a X.env) :: starEach [.Name x p2] X.env) :
    PE X (.Call (.Name "isinstance" p) [a, .Name x p2] [] pos) (tEv P W (prim (oIsiA [t]) [m])) := by
  refine PE.weak (pe_callB call_isi hg hm bt_isinstance (pa_cons ha (pa_cons (pe_tyN h hg2 hm2) pa_nil) hs) (he := hs) (hpl := by rfl)) fun σ H Q q => ?_
  rw [← hK]
  exact one_ok (prm_isi t) q
def tyNms : List Expr → Option (List Ty)
  | [] => some []
  | .Name x _ :: es => match tyNm x with
    | some t => (tyNms es).map (t :: ·)
    | none => none
  | _ => none
def nmsOf : List Expr → List Str
  | .Name x _ :: es => x :: nmsOf es
  | _ => []
theorem pa_tys : ∀ {es : List Expr} {ts : List Ty}, tyNms es = some ts → (∀ x ∈ nmsOf es, Gl X x ∧ X.mg x = none) → PA X es (fun _ H Q => Q (ts.map fun t => V.ty (tyS t)) H)
  | [], ts, h, _ => by
    simp only [tyNms, Option.some.injEq] at h
    subst h
    exact pa_nil
  | e :: es, ts, h, hx => by
    cases e with
    | Name x p =>
      unfold tyNms at h
      cases q : tyNm x with
      | none => simp only [q] at h; cases h
      | some t =>
        simp only [q] at h
        obtain ⟨ts', h1, rfl⟩ := Option.map_eq_some_iff.mp h
        have hx1 := hx x (by unfold nmsOf; exact List.mem_cons_self)
        exact pa_cons (pe_tyN q hx1.1 hx1.2) (pa_tys h1 fun y hy => hx y (by unfold nmsOf; exact List.mem_cons_of_mem _ hy)) (by rfl)
    | _ => cases h
theorem px_isiT (hK : P.K = X.K) {a : Expr} {m : M Rs} {es : List Expr} {k : Nat} {ts : List Ty} {p p2 pos : Pos} (ha : PE X a (tEv P W m)) (h : tyNms es = some ts) (hz : ts.length ≤ sizeLine) (hg : Gl X "isinstance") (hm : X.mg "isinstance" = none) (hx : ∀ x ∈ nmsOf es, Gl X x ∧ X.mg x = none)
    (hs : starEach [a, .Tuple es k p2] X.env = (false, eval a X.env) :: starEach [.Tuple es k p2] X.env) :
    PE X (.Call (.Name "isinstance" p) [a, .Tuple es k p2] [] pos) (tEv P W (prim (oIsiA ts) [m])) := by
  refine PE.weak (pe_callB call_isiT hg hm bt_isinstance (pa_cons ha (pa_cons (pe_tup (pa_tys h hx)) pa_nil) hs) (he := hs) (hpl := by rfl)) fun σ H Q q => ?_
  rw [← hK]
  refine ev_mono (one_ok (prm_isiT ts) q) fun v H1 z => ?_
  exact ⟨by rw [List.length_map]; exact hz, fun p n => z p n⟩
/-- a < b < c -/
def chain2 (g : Op) (y : Rs) (c : M Rs) : M Rs := fun r => match c r with
  | .ok z r => match hold z r with
    | .ok z r => match looks [y, z] r with
      | .ok ds r => liftR (g ds) r
      | .exc c fs r => .exc c fs r
      | .stuck => .stuck
    | .exc c fs r => .exc c fs r
    | .stuck => .stuck
  | .exc c fs r => .exc c fs r
  | .stuck => .stuck
def chain1 (f g : Op) (c : M Rs) : List Rs → List D → M Rs
  | [_, y], ds => fun r => match f ds with
    | some (.dat (.bool true)) => chain2 g y c r
    | some (.dat (.bool false)) => .ok (.dat (.bool false)) r
    | _ => .stuck
  | _, _ => stuck
def chainV (f g : Op) (a b c : M Rs) : M Rs := fun r => match args [a, b] r with
  | .ok xs r => match looks xs r with
    | .ok ds r => chain1 f g c xs ds r
    | .exc c fs r => .exc c fs r
    | .stuck => .stuck
  | .exc c fs r => .exc c fs r
  | .stuck => .stuck
theorem chain_ok {f g : Op} {a b c : M Rs} {r r' : R2} {σ : St} {H : Hp} {Q : VK} (p : Prm P.K f (r2 r)) (p' : Prm P.K g (r2 r')) (h : tEv P W (chainV f g a b c) σ H Q) : tChain r r' (tEv P W a) (tEv P W b) (tEv P W c) σ H Q := by
  have key : tAv P W [a, b] σ H fun vs H1 => ∃ v w, vs = [v, w] ∧ r v w H1 fun z H3 => ∃ k, z = .bl k ∧ if k = true then tEv P W c σ H3 (fun u H4 => r' w u H4 Q) else Q (.bl false) H3 := by
    obtain ⟨F, io, α, ρ, x, h⟩ := h
    refine ⟨F, io, α, ρ, x, ?_⟩
    unfold chainV at h
    cases e : args [a, b] ρ with
    | stuck => rw [e] at h; exact h
    | exc c fs r1 => rw [e] at h; exact h
    | ok xs r1 =>
      rw [e] at h
      intro vs H1 α1 o1 x1 q1
      rcases looks_no xs r1 with ⟨ds, e2⟩ | e2
      · simp only [e2] at h
        rcases xs with _ | ⟨x0, _ | ⟨y, _ | ⟨z, zs⟩⟩⟩
        · exact False.elim h
        · exact False.elim h
        · unfold chain1 at h
          cases e3 : f ds with
          | none => simp only [e3] at h
          | some z =>
            simp only [e3] at h
            obtain ⟨v, w, rfl⟩ : ∃ v w, vs = [v, w] := by
              match vs, q1 with
              | [v, w], _ => exact ⟨v, w, rfl⟩
            refine ⟨v, w, rfl, ?_⟩
            have := p (Al F io α1) H1 ds [v, w] z (fun z H3 => ∃ k, z = .bl k ∧ if k = true then tEv P W c σ H3 (fun u H4 => r' w u H4 Q) else Q (.bl false) H3) e3 (seens_of x1 e2 q1) fun u H2 o => ?_
            · obtain ⟨v', w', e4, q⟩ := this
              cases e4
              exact q
            · cases z with
              | fresh d => exact False.elim h
              | dat d =>
                cases d with
                | bool k =>
                  cases k with
                  | false =>
                    obtain ⟨ext, rp⟩ := o
                    simp only [Rep] at rp
                    exact ⟨false, rp, iteF (h _ H2 α1 (o1.trans (On.same ext)) ⟨x1.same ext, by simp only [Rep]⟩)⟩
                  | true =>
                    obtain ⟨ext, rp⟩ := o
                    simp only [Rep] at rp
                    refine ⟨true, rp, iteT ⟨F, io, α1, r1, x1.same ext, ?_⟩⟩
                    have o12 : On io α1 α1 H1 H2 := On.same ext
                    have q2 := RVs.on x1.soft o12 q1
                    unfold chain2 at h
                    cases e6 : c r1 with
                    | stuck => rw [e6] at h; exact h
                    | exc c fs r1 => rw [e6] at h; exact Thrown.on h (o1.trans o12)
                    | ok zz r3 =>
                      rw [e6] at h
                      intro u3 H3 α3 o3 q3
                      obtain ⟨z3, e7, x3, q3⟩ := q3.held
                      simp only [e7] at h
                      have q4 : RVs P.K (Al F io α3) σ H3 [w, u3] [y, z3] := ⟨(RVs.on (x1.same ext).soft o3 q2).2.1, q3, trivial⟩
                      rcases looks_no [y, z3] r3 with ⟨ds2, e8⟩ | e8
                      · simp only [e8] at h
                        cases e9 : g ds2 with
                        | none => rw [e9] at h; exact False.elim h
                        | some yy =>
                          rw [e9] at h
                          have := p' (Al F io α3) H3 ds2 [w, u3] yy Q e9 (seens_of x3 e8 q4) fun v4 H4 o4 => by
                            obtain ⟨o5, q5⟩ := x3.done o4
                            exact h v4 H4 α3 (((o1.trans o12).trans o3).trans o5) (q5.back ((o1.trans o12).trans o3))
                          obtain ⟨v', w', e4, q⟩ := this
                          cases e4
                          exact q
                      · simp only [e8] at h
                | _ => exact False.elim h
        · exact False.elim h
      · simp only [e2] at h
  refine ev_mono (av_cons key) fun v H1 q => ev_mono (av_cons q) fun w H2 q => ?_
  obtain ⟨v', w', e, q⟩ := av_nil q
  cases e
  exact q
theorem px_chain {op op' : CmpOp} {a b c : Expr} {ma mb mc : M Rs} {f g : Op} {r r' : R2} {pos : Pos} (ho : OpR X (compareOp op) r) (p : Prm P.K f (r2 r)) (ho' : OpR X (compareOp op') r') (p' : Prm P.K g (r2 r')) (ha : PE X a (tEv P W ma)) (hb : PE X b (tEv P W mb)) (hc : PE X c (tEv P W mc)) (hm : lastMarks [op, op'] [b, c] = false) :
    PE X (.Compare a [op, op'] [b, c] pos) (tEv P W (chainV f g ma mb mc)) := PE.weak (pe_chain ho ho' ha hb hc hm) fun σ H Q h => chain_ok p p' h
theorem pt_chain' {op op' : CmpOp} {a b c : Expr} {ma mb mc : M Rs} {f g : Op} {r r' : R2} {pos : Pos} (ho : OpR X (compareOp op) r) (p : Prm P.K f (r2 r)) (ho' : OpR X (compareOp op') r') (p' : Prm P.K g (r2 r')) (ha : PE X a (tEv P W ma)) (hb : PE X b (tEv P W mb)) (hc : PE X c (tEv P W mc)) (hm : lastMarks [op, op'] [b, c] = false) :
    PT X (.Compare a [op, op'] [b, c] pos) (tBv P W (tst (chainV f g ma mb mc))) := PT.weak (pt_chain ho ho' ha hb hc hm) fun σ H Q h => chain_ok p p' (tst_ok h)
end
end Ip

set_option Elab.async false
set_option linter.all false
set_option maxRecDepth 100000
set_option maxHeartbeats 1000000
/-! Sorted lists of ints, a dict's keys, new dicts. -/
namespace Ip
open PySem PySem.Spec PyProof.Rows L2
def insI (x : Int) : List Int → List Int
  | [] => [x]
  | y :: r => if x ≤ y then x :: y :: r else y :: insI x r
def isort : List Int → List Int
  | [] => []
  | x :: r => insI x (isort r)
theorem insI_perm (x : Int) : ∀ l : List Int, (insI x l).Perm (x :: l)
  | [] => .refl _
  | y :: r => by
    unfold insI
    split
    · exact .refl _
    · exact ((insI_perm x r).cons y).trans (.swap x y r)
theorem isort_perm : ∀ l : List Int, (isort l).Perm l
  | [] => .refl _
  | x :: r => (insI_perm x (isort r)).trans ((isort_perm r).cons x)
theorem insI_sorted (x : Int) : ∀ {l : List Int}, l.Pairwise (· ≤ ·) → (insI x l).Pairwise (· ≤ ·)
  | [], _ => by simp [insI]
  | y :: r, h => by
    unfold insI
    rw [List.pairwise_cons] at h
    split
    · rename_i hx
      rw [List.pairwise_cons]
      refine ⟨fun z hz => ?_, List.pairwise_cons.mpr h⟩
      rcases List.mem_cons.mp hz with e | e
      · rw [e]; exact hx
      · exact Int.le_trans hx (h.1 z e)
    · rename_i hx
      rw [List.pairwise_cons]
      refine ⟨fun z hz => ?_, insI_sorted x h.2⟩
      rcases List.mem_cons.mp ((insI_perm x r).mem_iff.mp hz) with e | e
      · rw [e]; omega
      · exact h.1 z e
theorem isort_sorted : ∀ l : List Int, (isort l).Pairwise (· ≤ ·)
  | [] => .nil
  | x :: r => insI_sorted x (isort_sorted r)
theorem sort_uniq {a b : List Int} (p : a.Perm b) (h1 : a.Pairwise (· ≤ ·)) (h2 : b.Pairwise (· ≤ ·)) : a = b :=
  List.Perm.eq_of_pairwise (le := fun x y : Int => x ≤ y) (fun x y _ _ h1 h2 => Int.le_antisymm h1 h2) h1 h2 p
/-- each once, from the least -/
def insU (x : Int) : List Int → List Int
  | [] => [x]
  | y :: r => if x < y then x :: y :: r else if x = y then y :: r else y :: insU x r
def usort : List Int → List Int
  | [] => []
  | x :: r => insU x (usort r)
theorem insU_mem (x : Int) : ∀ (l : List Int) (z : Int), z ∈ insU x l ↔ z = x ∨ z ∈ l
  | [], z => by simp [insU]
  | y :: r, z => by
    unfold insU
    split
    · simp
    · split
      · rename_i e
        subst e
        simp
      · rw [List.mem_cons, insU_mem x r, List.mem_cons]
        constructor
        · rintro (h | h | h)
          · exact .inr (.inl h)
          · exact .inl h
          · exact .inr (.inr h)
        · rintro (h | h | h)
          · exact .inr (.inl h)
          · exact .inl h
          · exact .inr (.inr h)
theorem usort_mem : ∀ (l : List Int) (z : Int), z ∈ usort l ↔ z ∈ l
  | [], z => by simp [usort]
  | x :: r, z => by
    unfold usort
    rw [insU_mem, usort_mem r, List.mem_cons]
theorem insU_sorted (x : Int) : ∀ {l : List Int}, l.Pairwise (· < ·) → (insU x l).Pairwise (· < ·)
  | [], _ => by simp [insU]
  | y :: r, h => by
    unfold insU
    rw [List.pairwise_cons] at h
    split
    · rename_i hx
      rw [List.pairwise_cons]
      refine ⟨fun z hz => ?_, List.pairwise_cons.mpr h⟩
      rcases List.mem_cons.mp hz with e | e
      · rw [e]; exact hx
      · have := h.1 z e; omega
    · split
      · exact List.pairwise_cons.mpr h
      · rename_i hx hy
        rw [List.pairwise_cons]
        refine ⟨fun z hz => ?_, insU_sorted x h.2⟩
        rcases (insU_mem x r z).mp hz with e | e
        · rw [e]; omega
        · exact h.1 z e
theorem usort_sorted : ∀ l : List Int, (usort l).Pairwise (· < ·)
  | [] => .nil
  | x :: r => insU_sorted x (usort_sorted r)
theorem strict_uniq : ∀ {a b : List Int}, (∀ z, z ∈ a ↔ z ∈ b) → a.Pairwise (· < ·) → b.Pairwise (· < ·) → a = b
  | [], [], _, _, _ => rfl
  | [], y :: b, h, _, _ => by have := (h y).mpr (by simp); simp at this
  | x :: a, [], h, _, _ => by have := (h x).mp (by simp); simp at this
  | x :: a, y :: b, h, h1, h2 => by
    rw [List.pairwise_cons] at h1 h2
    have e : x = y := by
      have a1 := (h x).mp (by simp)
      have a2 := (h y).mpr (by simp)
      rcases List.mem_cons.mp a1 with e | e
      · exact e
      · rcases List.mem_cons.mp a2 with e2 | e2
        · exact e2.symm
        · have := h1.1 y e2
          have := h2.1 x e
          omega
    subst e
    congr 1
    refine strict_uniq (fun z => ⟨fun hz => ?_, fun hz => ?_⟩) h1.2 h2.2
    · rcases List.mem_cons.mp ((h z).mp (List.mem_cons_of_mem _ hz)) with e | e
      · have := h1.1 z hz; omega
      · exact e
    · rcases List.mem_cons.mp ((h z).mpr (List.mem_cons_of_mem _ hz)) with e | e
      · have := h2.1 z hz; omega
      · exact e
def oSorted : Op
  | [.list xs] => (intsOf xs).map fun ns => .fresh (.list ((isort ns).map .int))
  | _ => none
def oSortSet : Op
  | [.tuple xs] => (intsOf xs).bind fun ns => if ns.length < 64 then some (.fresh (.list ((usort ns).map .int))) else none
  | _ => none
section
variable {K : PySem.W.Frag} {O : Addr → Prop} {H : Hp} {X : Cx} {P : Par} {W : WX}
theorem repInts : ∀ ns : List Int, RepL K O H (ns.map .int) (ns.map V.int)
  | [] => by simp [RepL]
  | n :: ns => by
    simp only [List.map_cons, RepL, Rep]
    exact ⟨_, _, rfl, rfl, repInts ns⟩
theorem prm_sorted : Prm K oSorted (rSortedI K) := by
  intro O H ds vs x Q e hv q
  unfold oSorted at e
  split at e
  · rename_i xs
    obtain ⟨ns, e1, rfl⟩ := Option.map_eq_some_iff.mp e
    obtain ⟨v, rfl, h⟩ := hv.one
    obtain ⟨a, ws, rfl, s, rp⟩ := h.lst
    have ew := rp.ints e1
    subst ew
    refine ⟨a, ns, rfl, s, fun ns' p hp hs n => ?_⟩
    rw [sort_uniq (hp.trans (isort_perm ns).symm) hs (isort_sorted ns)]
    exact q _ _ (Out.newL n (repInts _))
  · cases e
/-- set(t), t a tuple of ints -/
def rSetTI (K : PySem.W.Frag) (w : World) : List V → Hp → VK → Prop := fun xs H Q => ∃ (a : Addr) (ns : List Int), xs = [V.ref a] ∧ SqT K H a (ns.map V.int) ∧ ns.length < 64 ∧ ∀ p c, H p = none → c ≤ ns.length → Q (.ref p) (upd H p (SetO w p (fun j => decide (j ∈ ns)) c))
theorem cr_setTI (hc : X.calm = true) : CallR X (.type "set") (rSetTI X.K X.w) := by
  intro pins s σ H xs us Q I r h
  obtain ⟨a, ns, rfl, hT, h64, q⟩ := h
  rw [Vals.ref1 r]
  obtain ⟨its, rv, pl, hz⟩ := I.tuple hT
  have hn : H s.heap.objs.size = none := I.hok.fresh (Nat.le_refl _)
  refine call_set_tupI (P := X.prog) (w := X.w) ns (I.ok.hd hc) pl (by simpa using rv.ints) (by unfold scanBound; omega) fun h' tk c R hle k => ?_
  exact ⟨.ref s.heap.objs.size, upd H s.heap.objs.size (SetO X.w s.heap.objs.size (fun j => decide (j ∈ ns)) c), I.laid (t' := tk) k (Nat.le_refl _) (setO_new R), rfl, q _ c hn hle⟩
theorem prm_sset (w : World) : Prm K oSortSet (r1 fun x H Q => rSetTI K w [x] H fun y H1 => rSortedSet w [y] H1 Q) := by
  intro O H ds vs x Q e hv q
  unfold oSortSet at e
  split at e
  · rename_i xs
    obtain ⟨ns, e1, e⟩ := Option.bind_eq_some_iff.mp e
    split at e
    · rename_i h64
      cases e
      obtain ⟨v, rfl, h⟩ := hv.one
      obtain ⟨a, ws, rfl, s, rp⟩ := h.tup
      have ew := rp.ints e1
      subst ew
      refine ⟨_, rfl, a, ns, rfl, s, h64, fun p c n hle => ⟨p, _, c, rfl, upd_same, by omega, fun ns' p' hs hm hl n' => ?_⟩⟩
      have e2 : ns' = usort ns := strict_uniq (fun z => by rw [hm z, usort_mem]; simp) hs (usort_sorted ns)
      rw [e2]
      refine q _ _ ?_
      have ex : Ext (fun _ => False) H (upd (upd H p (SetO w p (fun j => decide (j ∈ ns)) c)) p' (.lst ((usort ns).map V.int))) := (ext_upd n).trans (ext_upd n') (fun _ z => z)
      have np : H p' = none := by
        by_cases e : p' = p
        · rw [e]; exact n
        · rw [upd_ne e] at n'; exact n'
      exact ⟨ex, p', rfl, np, _, upd_same, repInts _⟩
    · cases e
  · cases e
theorem bt_sorted' : bootBuiltins "sorted" = some (.builtin "sorted") := bt_sorted
theorem px_sset (hK : P.K = X.K) (hc : X.calm = true) {a : Expr} {m : M Rs} {p p2 pos pos2 : Pos} (ha : PE X a (tEv P W m)) (hg : Gl X "sorted") (hm : X.mg "sorted" = none) (hg2 : Gl X "set") (hm2 : X.mg "set" = none) (hs : starEach [a] X.env = (false, eval a X.env) :: starEach [] X.env) :
    PE X (.Call (.Name "sorted" p) [.Call (.Name "set" p2) [a] [] pos2] [] pos) (tEv P W (prim oSortSet [m])) := by
  refine PE.weak (pe_callB (cr_sortedSet hc) hg hm bt_sorted (pa_cons (pe_callTy (cr_setTI hc) hg2 hm2 bt_set (pa_cons ha pa_nil hs) (he := hs) (hpl := by rfl)) pa_nil)) fun σ H Q q => ?_
  rw [← hK]
  exact one_ok (prm_sset X.w) q
/-! ### dicts -/
def dicV0 : M Rs := fun r => .ok (.fresh (.dict [])) r
theorem px_dic0 {pos : Pos} : PE X (.Dict [] [] pos) (tEv P W dicV0) := PE.weak pe_dnewK fun σ H Q h => by
  obtain ⟨F, io, α, r, x, h⟩ := h
  intro p n
  obtain ⟨o, q⟩ := x.done (v := .ref p) (H' := upd H p (.dK [])) (y := .fresh (.dict [])) ⟨ext_upd n, p, rfl, n, [], ⟨[], upd_same, rfl⟩, by simp [RepK]⟩
  exact h _ _ α o q
def oListA : Op
  | [.list x] => some (.fresh (.list x))
  | [.tuple x] => some (.fresh (.list x))
  | [.dict kvs] => some (.fresh (.list (kvs.map (·.1))))
  | _ => none
theorem repK_keys : ∀ {kvs : List (D × D)} {ks : List (Key × V)}, RepK K O H kvs (ks.map fun p => (kV p.1, p.2)) → RepL K O H (kvs.map (·.1)) (ks.map fun p => kV p.1)
  | [], ks, h => by
    simp only [RepK] at h
    cases ks with
    | nil => simp [RepL]
    | cons a b => cases h
  | (a, b) :: t, ks, h => by
    simp only [RepK] at h
    obtain ⟨w, z, ws, e, ra, rb, rr⟩ := h
    cases ks with
    | nil => cases e
    | cons p ks =>
      rw [List.map_cons] at e
      injection e with e1 e2
      injection e1 with e3 e4
      subst e3 e4 e2
      simp only [List.map_cons, RepL]
      exact ⟨_, _, rfl, ra, repK_keys rr⟩
def rListA (K : PySem.W.Frag) : List V → Hp → VK → Prop := fun xs H Q => (∃ p ys, xs = [.ref p] ∧ (SqL K H p ys ∨ SqT K H p ys) ∧ ∀ l, H l = none → Q (.ref l) (upd H l (.lst ys))) ∨ rListD xs H Q
theorem cr_listA (hc : X.calm = true) : CallR X (.type "list") (rListA X.K) := call_list_of.or (call_list_dK hc)
theorem prm_listA : Prm K oListA (rListA K) := by
  intro O H ds vs x Q e hv q
  unfold oListA at e
  split at e
  · rename_i xs
    cases e
    obtain ⟨v, rfl, h⟩ := hv.one
    obtain ⟨a, ws, rfl, s, rp⟩ := h.lst
    exact .inl ⟨a, ws, rfl, .inl s, fun l n => q _ _ (Out.newL n rp)⟩
  · rename_i xs
    cases e
    obtain ⟨v, rfl, h⟩ := hv.one
    obtain ⟨a, ws, rfl, s, rp⟩ := h.tup
    exact .inl ⟨a, ws, rfl, .inr s, fun l n => q _ _ (Out.newL n rp)⟩
  · rename_i kvs
    cases e
    obtain ⟨v, rfl, h⟩ := hv.one
    obtain ⟨a, kvv, rfl, ⟨ks, hH, rfl⟩, rp⟩ := h.dic
    exact .inr ⟨a, ks, rfl, hH, fun l n => q _ _ (Out.newL n (repK_keys rp))⟩
  · cases e
end
end Ip

set_option Elab.async false
set_option linter.all false
set_option maxRecDepth 100000
set_option maxHeartbeats 1000000
/-! Calls of one's own defs. -/
namespace Ip
open PySem PySem.Spec PyProof.Rows L2
/-- what a def is promised to do: from its slots as the core says -/
def Ended (P : Par) (F : Addr → Prop) (io : Fx) (H : Hp) (outs : List (Option D)) (v : V) (H' : Hp) (x : Ro) : Prop :=
  ∃ F', (match x with
    | .dat d => (∀ a, F' a ↔ F a) ∧ Rep P.K (Al F' io (fun _ => none)) H' d v
    | .fresh d => ∃ p, v = .ref p ∧ H p = none ∧ (∀ a, F' a ↔ Plus F p a) ∧ Cell P.K (Al F' io (fun _ => none)) H' d p) ∧
    (∀ j a, io.w j = some a → ∃ d, outs[j]? = some (some d) ∧ Cell P.K (Al F' io (fun _ => none)) H' d a)
def Left (io : Fx) (H H' : Hp) : Prop := Ext (Mu io fun _ => none) H H' ∧ ∀ a o, H a = some o → ∃ o', H' a = some o'
def spOf (P : Par) (f : List Sl → CR) : Sp := fun vs H Q E => ∃ F io ss, R P.K F io (fun _ => none) ss (vs.map some) H ∧ match f ss with
  | .ok x outs => ∀ v H', Left io H H' → Ended P F io H outs v H' x → Q v H'
  | .exc c fs => ∀ cls d H', Left io H H' → P.EC c fs cls d H' → E cls d H'
  | .stuck => False

section
variable {K : PySem.W.Frag} {F F' : Addr → Prop} {io : Fx} {α α' : Am} {r r' : Ev} {σ σ' : St} {H H' H0 : Hp} {v : V} {P : Par} {W : WX} {X : Cx}
theorem slArgs_get : ∀ {ms : List Bool} {xs : List Rs} {ss : List Sl}, slArgs ms xs r = some ss → ss.length = xs.length ∧ ms.length = xs.length ∧ ∀ (j : Nat) (s : Sl), ss[j]? = some s → ∃ m x, ms[j]? = some m ∧ xs[j]? = some x ∧ slArg m x r = some s
  | [], [], ss, h => by
    simp only [slArgs, Option.some.injEq] at h
    subst h
    exact ⟨rfl, rfl, fun j s e => by simp at e⟩
  | [], _ :: _, _, h => by simp [slArgs] at h
  | _ :: _, [], _, h => by simp [slArgs] at h
  | m :: ms, x :: xs, ss, h => by
    unfold slArgs at h
    cases e1 : slArg m x r with
    | none => simp only [e1] at h; cases h
    | some s =>
      simp only [e1] at h
      cases e2 : slArgs ms xs r with
      | none => simp only [e2] at h; cases h
      | some ss' =>
        simp only [e2] at h
        cases h
        obtain ⟨l1, l2, g⟩ := slArgs_get e2
        refine ⟨by simp [l1], by simp [l2], fun j s' e => ?_⟩
        cases j with
        | zero =>
          simp at e
          subst e
          exact ⟨m, x, rfl, rfl, e1⟩
        | succ j => exact (g j s' (by simpa using e)).imp fun m h => h.imp fun x h => ⟨by simpa using h.1, by simpa using h.2.1, h.2.2⟩
theorem RVs.get {O : Addr → Prop} : ∀ {vs : List V} {xs : List Rs}, RVs K O σ H vs xs → vs.length = xs.length ∧ ∀ (j : Nat) (x : Rs), xs[j]? = some x → ∃ v, vs[j]? = some v ∧ RV K O σ H v x
  | [], [], _ => ⟨rfl, fun j x e => by simp at e⟩
  | v :: vs, x :: xs, h => by
    obtain ⟨l, g⟩ := RVs.get h.2
    refine ⟨by simp [l], fun j y e => ?_⟩
    cases j with
    | zero =>
      simp at e
      subst e
      exact ⟨v, rfl, h.1⟩
    | succ j => exact (g j y (by simpa using e)).imp fun v h => ⟨by simpa using h.1, h.2⟩
  | [], _ :: _, h => h.elim
  | _ :: _, [], h => h.elim
theorem sep1_get {m : Bool} {i : Nat} : ∀ {ms : List Bool} {xs : List Rs}, sep1 m i ms xs = true → ∀ (j : Nat) (m' : Bool), ms[j]? = some m' → xs[j]? = some (.var i) → m = false ∧ m' = false
  | [], _, _, j, m', e, _ => by simp at e
  | _ :: _, [], _, j, m', _, e => by simp at e
  | m1 :: ms, x :: xs, h, 0, m', e1, e2 => by
    simp at e1 e2
    subst e1 e2
    unfold sep1 at h
    simp only [Bool.and_eq_true, Bool.or_eq_true, decide_eq_true_eq, ne_eq, not_true_eq_false, false_or, Bool.not_eq_true'] at h
    exact h.1
  | m1 :: ms, x :: xs, h, j + 1, m', e1, e2 => by
    refine sep1_get (ms := ms) (xs := xs) ?_ j m' (by simpa using e1) (by simpa using e2)
    unfold sep1 at h
    cases x with
    | var k => simp only [Bool.and_eq_true] at h; exact h.2
    | dat d => exact h
    | fresh d => exact h
theorem sepOk_get : ∀ {ms : List Bool} {xs : List Rs}, sepOk ms xs = true → ∀ (j k : Nat) (m m' : Bool) (i : Nat), j ≠ k → ms[j]? = some m → ms[k]? = some m' → xs[j]? = some (.var i) → xs[k]? = some (.var i) → m = false ∧ m' = false
  | [], _, _, j, k, m, m', i, _, e, _, _, _ => by simp at e
  | _ :: _, [], _, j, k, m, m', i, _, _, _, e, _ => by simp at e
  | m1 :: ms, x :: xs, h, 0, 0, m, m', i, n, _, _, _, _ => absurd rfl n
  | m1 :: ms, x :: xs, h, 0, k + 1, m, m', i, _, e1, e2, e3, e4 => by
    simp at e1 e3
    subst e1 e3
    unfold sepOk at h
    simp only [Bool.and_eq_true] at h
    exact sep1_get h.1 k m' (by simpa using e2) (by simpa using e4)
  | m1 :: ms, x :: xs, h, j + 1, 0, m, m', i, _, e1, e2, e3, e4 => by
    simp at e2 e4
    subst e2 e4
    unfold sepOk at h
    simp only [Bool.and_eq_true] at h
    exact (sep1_get h.1 j m (by simpa using e1) (by simpa using e3)).symm
  | m1 :: ms, x :: xs, h, j + 1, k + 1, m, m', i, n, e1, e2, e3, e4 => by
    refine sepOk_get (ms := ms) (xs := xs) ?_ j k m m' i (fun q => n (by rw [q])) (by simpa using e1) (by simpa using e2) (by simpa using e3) (by simpa using e4)
    unfold sepOk at h
    cases x with
    | var k => simp only [Bool.and_eq_true] at h; exact h.2
    | dat d => exact h
    | fresh d => exact h
/-- the slot i is handed over to be changed -/
def Given (ms : List Bool) (xs : List Rs) (i : Nat) : Prop := ∃ j : Nat, ms[j]? = some true ∧ xs[j]? = some (.var i)
theorem back1_get {m : Bool} {x : Rs} {o : Option D} (h : back1 m x o r = some r') : r'.length = r.length ∧ (∀ (i : Nat), ¬ (m = true ∧ x = .var i) → r'[i]? = r[i]?) ∧
    ∀ (i : Nat), m = true → x = .var i → ∃ d, o = some d ∧ ((∃ z, r[i]? = some (.own z)) ∧ r'[i]? = some (.own d) ∨ (∃ z, r[i]? = some (.io z)) ∧ r'[i]? = some (.io d)) := by
  cases m with
  | false =>
    have e : some r = some r' := by cases x <;> exact h
    cases e
    exact ⟨rfl, fun _ _ => rfl, fun _ q => by cases q⟩
  | true =>
    cases x with
    | dat d => cases h; exact ⟨rfl, fun _ _ => rfl, fun _ _ q => by cases q⟩
    | fresh d => cases h; exact ⟨rfl, fun _ _ => rfl, fun _ _ q => by cases q⟩
    | var k =>
      cases o with
      | none => cases h
      | some d =>
        have h' : (match r[k]? with | some (.own _) => some (r.set k (.own d)) | some (.io _) => some (r.set k (.io d)) | _ => none) = some r' := h
        cases e : r[k]? with
        | none => rw [e] at h'; cases h'
        | some s =>
          have hlt : k < r.length := (List.getElem?_eq_some_iff.mp e).1
          rw [e] at h'
          cases s with
          | own z =>
            cases h'
            refine ⟨by simp, fun i n => List.getElem?_set_ne fun q => n ⟨rfl, by rw [q]⟩, fun i _ q => ?_⟩
            cases q
            exact ⟨d, rfl, .inl ⟨⟨z, e⟩, List.getElem?_set_self hlt⟩⟩
          | io z =>
            cases h'
            refine ⟨by simp, fun i n => List.getElem?_set_ne fun q => n ⟨rfl, by rw [q]⟩, fun i _ q => ?_⟩
            cases q
            exact ⟨d, rfl, .inr ⟨⟨z, e⟩, List.getElem?_set_self hlt⟩⟩
          | _ => cases h'
theorem putBack_get : ∀ {ms : List Bool} {xs : List Rs} {os : List (Option D)} {r r' : Ev}, sepOk ms xs = true → putBack ms xs os r = some r' → r'.length = r.length ∧ (∀ (i : Nat), ¬ Given ms xs i → r'[i]? = r[i]?) ∧
    ∀ (i j : Nat), ms[j]? = some true → xs[j]? = some (.var i) → ∃ d, os[j]? = some (some d) ∧ ((∃ z, r[i]? = some (.own z)) ∧ r'[i]? = some (.own d) ∨ (∃ z, r[i]? = some (.io z)) ∧ r'[i]? = some (.io d))
  | [], [], os, r, r', _, h => by
    unfold putBack at h
    cases h
    exact ⟨rfl, fun _ _ => rfl, fun i j e => by simp at e⟩
  | [], _ :: _, os, r, r', _, h => by simp [putBack] at h
  | _ :: _, [], os, r, r', _, h => by simp [putBack] at h
  | _ :: _, _ :: _, [], r, r', _, h => by simp [putBack] at h
  | m :: ms, x :: xs, o :: os, r, r', hs, h => by
    unfold putBack at h
    have hs2 : sepOk ms xs = true := by
      unfold sepOk at hs
      cases x with
      | var k => simp only [Bool.and_eq_true] at hs; exact hs.2
      | dat d => exact hs
      | fresh d => exact hs
    cases e : back1 m x o r with
    | none => simp only [e] at h; cases h
    | some r1 =>
      simp only [e] at h
      obtain ⟨l1, k1, g1⟩ := back1_get e
      obtain ⟨l2, k2, g2⟩ := putBack_get hs2 h
      refine ⟨l2.trans l1, fun i n => ?_, fun i j e1 e2 => ?_⟩
      · rw [k2 i fun ⟨j, q1, q2⟩ => n ⟨j + 1, by simpa using q1, by simpa using q2⟩]
        exact k1 i fun ⟨q1, q2⟩ => n ⟨0, by simp [q1], by simp [q2]⟩
      · cases j with
        | zero =>
          simp at e1 e2
          obtain ⟨d, q1, q2⟩ := g1 i e1 e2
          have n2 : ¬ Given ms xs i := fun ⟨j, z1, z2⟩ => by
            have := sepOk_get hs 0 (j + 1) m true i (by omega) (by simp) (by simpa using z1) (by simp [e2]) (by simpa using z2)
            cases this.2
          rw [← k2 i n2] at q2
          exact ⟨d, by simp [q1], q2⟩
        | succ j =>
          obtain ⟨d, q1, q2⟩ := g2 i j (by simpa using e1) (by simpa using e2)
          have n1 : ¬ (m = true ∧ x = .var i) := fun ⟨z1, z2⟩ => by
            have := sepOk_get hs 0 (j + 1) m true i (by omega) (by simp) (by simpa using e1) (by simp [z2]) (by simpa using e2)
            cases this.2
          rw [k1 i n1] at q2
          exact ⟨d, by simpa using q1, q2⟩
/-- the place of what is handed over -/
def Place (io : Fx) (α : Am) (i : Nat) (a : Addr) : Prop := α i = some a ∨ io.w i = some a
theorem Place.mu {i : Nat} {a : Addr} (h : Place io α i a) : Mu io α a := h.imp (fun z => ⟨i, z⟩) (fun z => ⟨i, z⟩)
theorem R.place_inj (x : R K F io α r σ H) {i j : Nat} {a : Addr} (h : Place io α i a) (k : Place io α j a) : i = j := by
  rcases h with h | h
  · rcases k with k | k
    · exact x.inj i j a h k
    · exact (x.aio i j a h k).elim
  · rcases k with k | k
    · exact (x.aio j i a k h).elim
    · exact x.ioj i j a h k
theorem R.mu_place (x : R K F io α r σ H) {a : Addr} (h : Mu io α a) : ∃ i, Place io α i a := by
  rcases h with ⟨i, h⟩ | ⟨i, h⟩
  · exact ⟨i, .inl h⟩
  · exact ⟨i, .inr h⟩
/-- what a slot that is handed over holds -/
theorem R.given (x : R K F io α r σ H) {i : Nat} {s : Sl} {v : V} (hv : σ[i]? = some (some v)) (h : slArg true (.var i) r = some s) : ∃ d a, s = .io d ∧ v = .ref a ∧ Place io α i a ∧ Cell K (Al F io α) H d a := by
  have h' : (match r[i]? with | some (.own d) => some (Sl.io d) | some (.io d) => some (.io d) | _ => none) = some s := h
  cases e : r[i]? with
  | none => rw [e] at h'; cases h'
  | some z =>
    rw [e] at h'
    have q := x.slot i z e
    cases z with
    | own d =>
      cases h'
      obtain ⟨a, e1, e2, c⟩ := q
      rw [hv] at e2
      cases e2
      exact ⟨d, a, rfl, rfl, .inl e1, c⟩
    | io d =>
      cases h'
      obtain ⟨_, a, e1, e2, c⟩ := q
      rw [hv] at e2
      cases e2
      exact ⟨d, a, rfl, rfl, .inr e1, c⟩
    | _ => cases h'
theorem R.lent (x : R K F io α r σ H) {i : Nat} {s : Sl} {v : V} (hv : σ[i]? = some (some v)) (h : slArg false (.var i) r = some s) : ∃ d a, s = .bor d ∧ v = .ref a ∧ (Place io α i a ∨ io.b i = some a) ∧ View K (Al F io α) H d (.ref a) := by
  have h' : (Ip.held r[i]?).map Sl.bor = some s := h
  obtain ⟨d, e1, rfl⟩ := Option.map_eq_some_iff.mp h'
  have w := x.held e1 hv
  cases e : r[i]? with
  | none => rw [e] at e1; cases e1
  | some z =>
    rw [e] at e1
    have q := x.slot i z e
    cases z with
    | no => cases e1
    | dat d => cases e1
    | own d =>
      cases e1
      obtain ⟨a, e1, e2, c⟩ := q
      rw [hv] at e2
      cases e2
      exact ⟨d, a, rfl, rfl, .inl (.inl e1), w⟩
    | io d =>
      cases e1
      obtain ⟨_, a, e1, e2, c⟩ := q
      rw [hv] at e2
      cases e2
      exact ⟨d, a, rfl, rfl, .inl (.inr e1), w⟩
    | bor d =>
      cases e1
      obtain ⟨_, a, e1, e2, c⟩ := q
      rw [hv] at e2
      cases e2
      exact ⟨d, a, rfl, rfl, .inr e1, w⟩
def adrAt (b : Bool) (mu : List Bool) (xs : List Rs) (vs : List V) : Am := fun j => match mu[j]?, xs[j]?, vs[j]? with
  | some m, some (.var _), some (.ref a) => if m = b then some a else none
  | _, _, _ => none
theorem adrAt_get {b : Bool} {mu : List Bool} {xs : List Rs} {vs : List V} {j : Nat} {a : Addr} (h : adrAt b mu xs vs j = some a) : mu[j]? = some b ∧ (∃ i, xs[j]? = some (.var i)) ∧ vs[j]? = some (.ref a) := by
  unfold adrAt at h
  split at h
  · rename_i m i a' e1 e2 e3
    split at h
    · rename_i hm
      cases h
      rw [← hm]
      exact ⟨e1, ⟨_, e2⟩, e3⟩
    · cases h
  · cases h
theorem adrAt_of {b : Bool} {mu : List Bool} {xs : List Rs} {vs : List V} {j i : Nat} {a : Addr} (h1 : mu[j]? = some b) (h2 : xs[j]? = some (.var i)) (h3 : vs[j]? = some (.ref a)) : adrAt b mu xs vs j = some a := by
  unfold adrAt
  rw [h1, h2, h3]
  simp
/-- the callee's state at its entry -/
theorem R.enter (x : R K F io α r σ H) {mu : List Bool} {xs : List Rs} {ss : List Sl} {vs : List V} (hs : slArgs mu xs r = some ss) (hv : RVs K (Al F io α) σ H vs xs) (sp : sepOk mu xs = true) :
    R K (fun a => (F a ∨ Mu io α a) ∧ ¬ ∃ j, adrAt true mu xs vs j = some a) ⟨adrAt true mu xs vs, adrAt false mu xs vs⟩ (fun _ => none) ss (vs.map some) H ∧
      (∀ j a, adrAt true mu xs vs j = some a → ∃ i, mu[j]? = some true ∧ xs[j]? = some (.var i) ∧ Place io α i a) := by
  obtain ⟨l1, l2, g⟩ := slArgs_get hs
  obtain ⟨l3, gv⟩ := hv.get
  have wp : ∀ j a, adrAt true mu xs vs j = some a → ∃ i d, mu[j]? = some true ∧ xs[j]? = some (.var i) ∧ ss[j]? = some (.io d) ∧ Place io α i a ∧ Cell K (Al F io α) H d a := fun j a h => by
    obtain ⟨h1, ⟨i, h2⟩, h3⟩ := adrAt_get h
    obtain ⟨v, e1, q⟩ := gv j _ h2
    rw [h3] at e1
    cases e1
    have hj : j < ss.length := by rw [l1]; exact (List.getElem?_eq_some_iff.mp h2).1
    obtain ⟨m, y, e2, e3, e4⟩ := g j ss[j] (List.getElem?_eq_getElem hj)
    rw [h1] at e2; cases e2
    rw [h2] at e3; cases e3
    obtain ⟨d, b, e5, e6, e7, e8⟩ := x.given q.1 e4
    cases e6
    exact ⟨i, d, h1, h2, by rw [List.getElem?_eq_getElem hj, e5], e7, e8⟩
  have bp : ∀ j a, adrAt false mu xs vs j = some a → ∃ i d, mu[j]? = some false ∧ xs[j]? = some (.var i) ∧ ss[j]? = some (.bor d) ∧ (Place io α i a ∨ io.b i = some a) ∧ View K (Al F io α) H d (.ref a) := fun j a h => by
    obtain ⟨h1, ⟨i, h2⟩, h3⟩ := adrAt_get h
    obtain ⟨v, e1, q⟩ := gv j _ h2
    rw [h3] at e1
    cases e1
    have hj : j < ss.length := by rw [l1]; exact (List.getElem?_eq_some_iff.mp h2).1
    obtain ⟨m, y, e2, e3, e4⟩ := g j ss[j] (List.getElem?_eq_getElem hj)
    rw [h1] at e2; cases e2
    rw [h2] at e3; cases e3
    obtain ⟨d, b, e5, e6, e7, e8⟩ := x.lent q.1 e4
    cases e6
    exact ⟨i, d, h1, h2, by rw [List.getElem?_eq_getElem hj, e5], e7, e8⟩
  have al : ∀ a, Al (fun a => (F a ∨ Mu io α a) ∧ ¬ ∃ j, adrAt true mu xs vs j = some a) ⟨adrAt true mu xs vs, adrAt false mu xs vs⟩ (fun _ => none) a → Al F io α a := by
    rintro a (z | ⟨j, z⟩ | ⟨j, z⟩)
    · exact z.1
    · cases z
    · obtain ⟨i, d, _, _, _, pl, _⟩ := wp j a z
      exact .inr pl.mu
  refine ⟨⟨by rw [l1, List.length_map, l3], fun j s hj => ?_, fun _ _ => rfl, fun j a h => ?_, (fun i j a h => by cases h), fun j k a h1 h2 => ?_, (fun i j a h => by cases h), fun j a h => ?_, fun a h m => ?_, fun a h => ?_⟩, fun j a h => ?_⟩
  · obtain ⟨m, y, e1, e2, e3⟩ := g j s hj
    obtain ⟨v, e4, q⟩ := gv j y e2
    have e5 : (vs.map some)[j]? = some (some v) := by rw [List.getElem?_map, e4]; rfl
    cases y with
    | dat d =>
      have e6 : some (Sl.dat d) = some s := by cases m <;> exact e3
      cases e6
      exact ⟨rfl, v, e5, Rep.ext (Soft.none H) (Ext.refl _ _) (fun _ z => z.elim) (fun a _ _ z => al a z) q⟩
    | fresh d => exact q.elim
    | var i =>
      cases m with
      | true =>
        obtain ⟨d, a, rfl, rfl, pl, c⟩ := x.given q.1 e3
        exact ⟨rfl, a, adrAt_of e1 e2 e4, e5, c.ext (Soft.none H) (Ext.refl _ _) (fun _ z => z.elim) (fun a _ _ z => al a z) (fun z => z)⟩
      | false =>
        obtain ⟨d, a, rfl, rfl, pl, c⟩ := x.lent q.1 e3
        exact ⟨rfl, a, adrAt_of e1 e2 e4, e5, c.ext (Soft.none H) (Ext.refl _ _) (fun _ z => z.elim) (fun a _ _ z => al a z) (fun z => z)⟩
  · obtain ⟨i, d, _, _, e, _⟩ := wp j a h
    exact ⟨d, e⟩
  · obtain ⟨i, d, m1, x1, _, p1, _⟩ := wp j a h1
    obtain ⟨i', d', m2, x2, _, p2, _⟩ := wp k a h2
    have e := x.place_inj p1 p2
    subst e
    by_cases q : j = k
    · exact q
    · have := sepOk_get sp j k true true i q m1 m2 x1 x2
      cases this.1
  · obtain ⟨i, d, m1, x1, _, p1, w⟩ := bp j a h
    refine ⟨?_, ?_⟩
    · rcases p1 with p1 | p1
      · rcases x.soft a p1.mu with ⟨_, q⟩ | ⟨_, q⟩ <;> exact ⟨_, q⟩
      · exact (x.boH i a p1).1
    · rintro (⟨k, z⟩ | ⟨k, z⟩)
      · cases z
      · obtain ⟨i', d', m2, x2, _, p2, _⟩ := wp k a z
        rcases p1 with p1 | p1
        · have e := x.place_inj p1 p2
          subst e
          by_cases q : j = k
          · subst q
            rw [m1] at m2; cases m2
          · have := sepOk_get sp j k false true i q m1 m2 x1 x2
            cases this.2
        · exact (x.boH i a p1).2 p2.mu
  · rcases m with ⟨j, z⟩ | ⟨j, z⟩
    · cases z
    · exact h.2 ⟨j, z⟩
  · rcases h.1 with z | z
    · exact x.FH a z
    · rcases x.soft a z with ⟨_, q⟩ | ⟨_, q⟩ <;> exact ⟨_, q⟩
  · obtain ⟨i, d, h1, h2, _, h3, _⟩ := wp j a h
    exact ⟨i, h1, h2, h3⟩

theorem SlOk.ext' {M : Addr → Prop} (s : Soft M H) (e : Ext M H H') (hM : ∀ a, M a → Al F io α a) (hO : ∀ a o, H a = some o → Al F' io α a → Al F io α a) {j : Nat} {sl : Sl} (n : ∀ a, (α j = some a ∨ io.w j = some a ∨ io.b j = some a) → ¬ M a) (q : SlOk K F io α σ H j sl) : SlOk K F' io α σ H' j sl := by
  cases sl with
  | no => exact q
  | dat d => exact ⟨q.1, q.2.imp fun v z => ⟨z.1, Rep.ext s e hM hO z.2⟩⟩
  | own d => exact q.imp fun a z => ⟨z.1, z.2.1, Cell.ext s e hM hO (n a (.inl z.1)) z.2.2⟩
  | io d => exact ⟨q.1, q.2.imp fun a z => ⟨z.1, z.2.1, Cell.ext s e hM hO (n a (.inr (.inl z.1))) z.2.2⟩⟩
  | bor d => exact ⟨q.1, q.2.imp fun a z => ⟨z.1, z.2.1, View.ext s e hM hO (n a (.inr (.inr z.1))) z.2.2⟩⟩
/-- behind a call -/
theorem R.leave (x : R K F io α r σ H) {mu : List Bool} {xs : List Rs} {ss : List Sl} {vs : List V} {outs : List (Option D)} (hs : slArgs mu xs r = some ss) (hv : RVs K (Al F io α) σ H vs xs) (sp : sepOk mu xs = true)
    (hb : putBack mu xs outs r = some r') {F1 F2 : Addr → Prop} (hF1 : ∀ a o, H a = some o → F1 a → F a) (hF1' : ∀ a, F1 a → (∃ o, H' a = some o) ∧ ¬ Mu io α a)
    (l : Left ⟨adrAt true mu xs vs, adrAt false mu xs vs⟩ H H')
    (c : ∀ j a, adrAt true mu xs vs j = some a → ∃ d, outs[j]? = some (some d) ∧ Cell K F2 H' d a) (hF2 : ∀ a, Al F1 io α a → F2 a) : R K F1 io α r' σ H' := by
  obtain ⟨x1, pl⟩ := x.enter hs hv sp
  obtain ⟨ll, kb, gb⟩ := putBack_get sp hb
  have S := x1.soft
  have mu1 : ∀ a, Mu ⟨adrAt true mu xs vs, adrAt false mu xs vs⟩ (fun _ => none) a → ∃ i j, mu[j]? = some true ∧ xs[j]? = some (.var i) ∧ adrAt true mu xs vs j = some a ∧ Place io α i a := fun a h => by
    rcases h with ⟨j, z⟩ | ⟨j, z⟩
    · cases z
    · obtain ⟨i, h1, h2, h3⟩ := pl j a z
      exact ⟨i, j, h1, h2, z, h3⟩
  have hM : ∀ a, Mu ⟨adrAt true mu xs vs, adrAt false mu xs vs⟩ (fun _ => none) a → Al F io α a := fun a h => by
    obtain ⟨i, j, _, _, _, p⟩ := mu1 a h
    exact .inr p.mu
  have hO : ∀ a o, H a = some o → Al F1 io α a → Al F io α a := fun a o h z => z.imp (hF1 a o h) id
  -- the given ones: their places
  have gp : ∀ i j, mu[j]? = some true → xs[j]? = some (.var i) → ∃ a, vs[j]? = some (.ref a) ∧ σ[i]? = some (some (.ref a)) ∧ Place io α i a ∧ adrAt true mu xs vs j = some a := fun i j h1 h2 => by
    obtain ⟨l1, l2, g⟩ := slArgs_get hs
    obtain ⟨v, e1, q⟩ := hv.get.2 j _ h2
    have hj : j < ss.length := by rw [l1]; exact (List.getElem?_eq_some_iff.mp h2).1
    obtain ⟨m, y, e2, e3, e4⟩ := g j ss[j] (List.getElem?_eq_getElem hj)
    rw [h1] at e2; cases e2
    rw [h2] at e3; cases e3
    obtain ⟨d, a, _, rfl, p, _⟩ := x.given q.1 e4
    exact ⟨a, e1, q.1, p, adrAt_of h1 h2 e1⟩
  refine ⟨ll.trans x.len, fun i s hi => ?_, fun i hi => x.out i (by omega), fun i a h => ?_, x.inj, x.ioj, x.aio, fun i a h => ⟨?_, (x.boH i a h).2⟩, fun a h => (hF1' a h).2, fun a h => (hF1' a h).1⟩
  · by_cases hg : Given mu xs i
    · obtain ⟨j, h1, h2⟩ := hg
      obtain ⟨a, e1, e2, p, e3⟩ := gp i j h1 h2
      obtain ⟨d, e4, q⟩ := gb i j h1 h2
      obtain ⟨d', e5, cc⟩ := c j a e3
      rw [e4] at e5
      cases e5
      have cc' : Cell K (Al F1 io α) H' d a := cc.ext (Soft.none H') (Ext.refl _ _) (fun _ z => z.elim) (fun a _ _ z => hF2 a z) (fun z => z)
      rcases q with ⟨⟨z, q1⟩, q2⟩ | ⟨⟨z, q1⟩, q2⟩
      · rw [q2] at hi
        cases hi
        obtain ⟨b, b1, b2, _⟩ := x.slot i _ q1
        rw [e2] at b2
        cases b2
        exact ⟨a, b1, e2, cc'⟩
      · rw [q2] at hi
        cases hi
        obtain ⟨b0, b, b1, b2, _⟩ := x.slot i _ q1
        rw [e2] at b2
        cases b2
        exact ⟨b0, a, b1, e2, cc'⟩
    · rw [kb i hg] at hi
      refine (x.slot i s hi).ext' S l.1 hM hO fun a h m => ?_
      obtain ⟨i', j, m1, x2, _, p⟩ := mu1 a m
      rcases h with h | h | h
      · have e := x.place_inj (.inl h) p
        subst e
        exact hg ⟨j, m1, x2⟩
      · have e := x.place_inj (.inr h) p
        subst e
        exact hg ⟨j, m1, x2⟩
      · exact (x.boH i a h).2 p.mu
  · obtain ⟨d, e⟩ := x.ios i a h
    by_cases hg : Given mu xs i
    · obtain ⟨j, h1, h2⟩ := hg
      obtain ⟨d', _, q⟩ := gb i j h1 h2
      rcases q with ⟨⟨z, q1⟩, q2⟩ | ⟨⟨z, q1⟩, q2⟩
      · rw [e] at q1; cases q1
      · exact ⟨d', q2⟩
    · exact ⟨d, by rw [kb i hg]; exact e⟩
  · obtain ⟨o, h'⟩ := (x.boH i a h).1
    exact l.2 a o h'
theorem call_ok {f : List Sl → CR} {mu : List Bool} {ms : List (M Rs)} {σ : St} {H : Hp} {Q : VK} (h : tEv P W (callV f mu ms) σ H Q) : tAv P W ms σ H fun vs H1 => spOf P f (vs ++ []) H1 Q fun cls d H' => W cls d σ H' := by
  obtain ⟨F, io, α, r, x, h⟩ := h
  refine ⟨F, io, α, r, x, ?_⟩
  unfold callV at h
  cases e : args ms r with
  | stuck => rw [e] at h; exact h
  | exc c fs r1 => rw [e] at h; exact h
  | ok xs r1 =>
    rw [e] at h
    intro vs H1 α1 o1 x1 q1
    rw [List.append_nil]
    cases e2 : slArgs mu xs r1 with
    | none => simp only [e2] at h
    | some ss =>
      simp only [e2] at h
      cases e3 : sepOk mu xs with
      | false => rw [e3] at h; simp at h
      | true =>
        rw [e3] at h
        simp only [if_true] at h
        obtain ⟨xc, pl⟩ := x1.enter e2 q1 e3
        refine ⟨_, _, ss, xc, ?_⟩
        cases e4 : f ss with
        | stuck => simp only [e4] at h
        | exc c fs =>
          simp only [e4] at h
          cases e5 : noMu mu with
          | false => rw [e5] at h; simp at h
          | true =>
            rw [e5] at h
            simp only [if_true] at h
            intro cls d H' l ec
            suffices e0 : Ext (fun _ => False) H1 H' from h cls d σ H' α1 (o1.trans (On.same e0)) ec (x1.same e0)
            refine fun a o q n => l.1 a o q fun m => ?_
            rcases m with ⟨j, z⟩ | ⟨j, z⟩
            · cases z
            · obtain ⟨i, m1, _⟩ := pl j a z
              have : mu.any id = true := List.any_eq_true.mpr ⟨true, List.mem_of_getElem? m1, rfl⟩
              unfold noMu at e5
              rw [this] at e5
              cases e5
        | ok y outs =>
          simp only [e4] at h
          cases e5 : putBack mu xs outs r1 with
          | none => simp only [e5] at h
          | some r2 =>
            simp only [e5] at h
            intro v H' l en
            obtain ⟨F', en, ce⟩ := en
            have o2 : On io α1 α1 H1 H' := by
              refine ⟨fun _ _ _ z => z, fun a o q n => l.1 a o q fun m => ?_, l.2⟩
              rcases m with ⟨j, z⟩ | ⟨j, z⟩
              · cases z
              · obtain ⟨i, _, _, p⟩ := pl j a z
                exact n p.mu
            cases y with
            | dat d =>
              obtain ⟨fF, rp⟩ := en
              have hA : ∀ a, Al F io α1 a → Al F' ⟨adrAt true mu xs vs, adrAt false mu xs vs⟩ (fun _ => none) a := fun a z => by
                by_cases hw : ∃ j, adrAt true mu xs vs j = some a
                · exact .inr (.inr hw)
                · exact .inl ((fF a).mpr ⟨z, hw⟩)
              have x2 : R P.K F io α1 r2 σ H' := x1.leave e2 q1 e3 e5 (fun _ _ _ z => z) (fun a z => ⟨(x1.FH a z).elim fun o q => l.2 a o q, x1.aF a z⟩) l ce hA
              exact h v H' α1 (o1.trans o2) ⟨x2, Rep.ext (Soft.none H') (Ext.refl _ _) (fun _ z => z.elim) (fun a _ _ z => hA a z) rp⟩
            | fresh d =>
              obtain ⟨p, rfl, n, fF, cc⟩ := en
              have nM : ¬ Mu io α1 p := fun z => by
                rcases x1.soft p z with ⟨_, q⟩ | ⟨_, q⟩ <;> (rw [n] at q; cases q)
              have nF : ¬ F p := fun z => by
                obtain ⟨o, q⟩ := x1.FH p z
                rw [n] at q; cases q
              have hA : ∀ a, Al (Plus F p) io α1 a → Al F' ⟨adrAt true mu xs vs, adrAt false mu xs vs⟩ (fun _ => none) a := fun a z => by
                by_cases hw : ∃ j, adrAt true mu xs vs j = some a
                · exact .inr (.inr hw)
                · refine .inl ((fF a).mpr ?_)
                  rcases z.plus with z | z
                  · exact .inl ⟨z, hw⟩
                  · exact .inr z
              have hp : ∃ o, H' p = some o := by rcases cc.soft with ⟨_, q⟩ | ⟨_, q⟩ <;> exact ⟨_, q⟩
              have x2 : R P.K (Plus F p) io α1 r2 σ H' := x1.leave e2 q1 e3 e5 (plus_tr n) (fun a z => by
                rcases z with z | z
                · exact ⟨(x1.FH a z).elim fun o q => l.2 a o q, x1.aF a z⟩
                · rw [z]; exact ⟨hp, nM⟩) l ce hA
              exact h _ H' α1 (o1.trans o2) ⟨p, rfl, o1.free n, x2, nF, nM, cc.ext (Soft.none H') (Ext.refl _ _) (fun _ z => z.elim) (fun a _ _ z => hA a z) (fun z => z)⟩
theorem px_call {CX : CXT} {k : Nat} {f : Addr} {fd : FuncData} {ps : List Str} {g : List Sl → CR} {mu : List Bool} {x : Str} {p pos : Pos} {e : Expr} {es : List Expr} {m : M Rs} {ms : List (M Rs)} (Fk : FnOk X.prog X.w X.K X.mg X.base CX k f fd ps (spOf P g)) (hr : Room k X.A) (hg : Gl X x) (hm : X.mg x = some (.ref f))
    (hk : PySem.W.keepIn X.K (.ref f) = true) (hb : Binds X.K fd ps []) (hx : ∀ σ, PassesAt CX X σ fun cls d H' => W cls d σ H')
    (ha : PA X (e :: es) (tAv P W (m :: ms))) (hdb : (x == ("__debug__" : Str)) = false) (he : starEach (e :: es) X.env = (false, eval e X.env) :: starEach es X.env) (hpl : (backTo pos (starEach es X.env)).any (·.1) = false) :
    PE X (.Call (.Name x p) (e :: es) [] pos) (tEv P W (callV g mu (m :: ms))) :=
  PE.weak (pe_callSD Fk hr hg hm hk hb .nil hx ha hdb he hpl) fun σ H Q h => call_ok h
end
end Ip

set_option Elab.async false
set_option linter.all false
set_option maxRecDepth 100000
set_option maxHeartbeats 1000000
/-! Loops. -/
namespace Ip
open PySem PySem.Spec PyProof.Rows L2
section
variable {K : PySem.W.Frag} {F F' : Addr → Prop} {io : Fx} {α α' α1 : Am} {r r' r0 : Ev} {σ σ' : St} {H H' H0 H1 : Hp} {v : V} {P : Par} {W : WX} {X : Cx} {D : Ends}
def Goes (P : Par) (W : WX) (F : Addr → Prop) (io : Fx) (α : Am) (H : Hp) (D : Ends) : Res Fl → Prop
  | .ok f r' => Flown P F io α H D r' f
  | .exc c fs r' => Thrown P W F io α H c fs r'
  | .stuck => False
theorem tEx_iff {m : M Fl} : tEx P W m D σ H ↔ ∃ F io α r, R P.K F io α r σ H ∧ Goes P W F io α H D (m r) := Iff.rfl
theorem Goes.back (o : On io α α1 H H1) : ∀ {x : Res Fl}, Goes P W F io α H D x → Goes P W F io α1 H1 D x
  | .stuck, h => h
  | .exc c fs r, h => Thrown.on h o
  | .ok f r', h => by
    cases f with
    | next => exact fun σ2 H2 α2 o2 x2 => h σ2 H2 α2 (o.trans o2) x2
    | brk => exact fun σ2 H2 α2 o2 x2 => h σ2 H2 α2 (o.trans o2) x2
    | cont => exact fun σ2 H2 α2 o2 x2 => h σ2 H2 α2 (o.trans o2) x2
    | ret y => exact fun v σ2 H2 α2 o2 x2 => h v σ2 H2 α2 (o.trans o2) (x2.back o)
theorem forget_len : ∀ (r0 r : Ev), (Ip.forget r0 r).length = r.length
  | [], r => by unfold Ip.forget; rfl
  | _ :: _, [] => by unfold Ip.forget; rfl
  | s0 :: r0, s :: r => by
    unfold Ip.forget
    rw [List.length_cons, List.length_cons, forget_len r0 r]
def isNo : Option Sl → Bool
  | some .no => true
  | _ => false
theorem forget_get : ∀ (r0 r : Ev) (i : Nat), (Ip.forget r0 r)[i]? = if isNo r0[i]? then (r[i]?).map fun _ => Sl.no else r[i]?
  | [], r, i => by unfold Ip.forget; simp [isNo]
  | _ :: _, [], i => by unfold Ip.forget; simp
  | s0 :: r0, s :: r, 0 => by
    unfold Ip.forget
    cases s0 <;> simp [isNo, forget1]
  | s0 :: r0, s :: r, i + 1 => by
    unfold Ip.forget
    simpa using forget_get r0 r i
theorem R.forgot (x : R K F io α r σ H) (x0 : R K F' io α1 r0 σ' H') : ∃ α2, On io α α2 H H ∧ R K F io α2 (Ip.forget r0 r) σ H := by
  have sub : ∀ i a, (if isNo r0[i]? then none else α i) = some a → α i = some a := fun i a h => by
    split at h
    · cases h
    · exact h
  have mu : ∀ a, Mu io (fun i => if isNo r0[i]? then none else α i) a → Mu io α a := fun a h => h.imp (fun ⟨i, z⟩ => ⟨i, sub i a z⟩) id
  have al : ∀ a, Al F io (fun i => if isNo r0[i]? then none else α i) a → Al F io α a := fun a h => h.imp id (mu a)
  refine ⟨fun i => if isNo r0[i]? then none else α i, ⟨fun a _ _ z => mu a z, Ext.refl _ _, fun _ o h => ⟨o, h⟩⟩, (forget_len r0 r).trans x.len, fun i s hi => ?_, fun i hi => ?_, fun i a h => ?_, fun i j a h1 h2 => x.inj i j a (sub _ _ h1) (sub _ _ h2), x.ioj, fun i j a h1 h2 => x.aio i j a (sub _ _ h1) h2, fun i a h => ⟨(x.boH i a h).1, fun z => (x.boH i a h).2 (mu a z)⟩, fun a h z => x.aF a h (mu a z), x.FH⟩
  · rw [forget_get] at hi
    cases e : isNo r0[i]? with
    | true =>
      rw [e] at hi
      simp only [if_true, Option.map_eq_some_iff] at hi
      obtain ⟨_, _, rfl⟩ := hi
      show (if isNo r0[i]? then none else α i) = none
      rw [e]; rfl
    | false =>
      rw [e] at hi
      exact (x.slot i s (by simpa using hi)).less (fun a _ _ z => al a z) (by rw [e]; rfl) rfl
  · show (if isNo r0[i]? then none else α i) = none
    split
    · rfl
    · rw [forget_len] at hi; exact x.out i hi
  · obtain ⟨d, q⟩ := x.ios i a h
    obtain ⟨d0, q0⟩ := x0.ios i a h
    exact ⟨d, by rw [forget_get, q0]; exact q⟩

/-- a branch's new names stand for nothing behind it -/
def fgt (m : M Fl) : M Fl := fun r => match m r with
  | .ok .next r' => .ok .next (Ip.forget r r')
  | .ok f r' => .ok f r'
  | .exc c fs r' => .exc c fs r'
  | .stuck => .stuck
theorem fgt_ok {m : M Fl} {D : Ends} {σ : St} {H : Hp} (h : tEx P W (fgt m) D σ H) : tEx P W m D σ H := by
  obtain ⟨F, io, α, r, x, h⟩ := h
  refine ⟨F, io, α, r, x, ?_⟩
  unfold fgt at h
  cases e : m r with
  | stuck => rw [e] at h; exact h
  | exc c fs r1 => rw [e] at h; exact h
  | ok f r1 =>
    rw [e] at h
    cases f with
    | next =>
      intro σ1 H1 α1 o1 x1
      obtain ⟨α2, o2, x2⟩ := x1.forgot x
      exact h σ1 H1 α2 (o1.trans o2) x2
    | brk => exact h
    | cont => exact h
    | ret y => exact h
/-! ### targets -/
def tTg (P : Par) (is : List Nat) (t : PyData → M Unit) : TG := fun v σ H Q => ∃ F io α r d, R P.K F io α r σ H ∧ RepP P.K (Al F io α) H d v ∧ match t d r with
  | .ok _ r' => ∀ σ' α', On io α α' H H → (∀ vs : List Nat, (∀ i ∈ is, i ∈ vs) → wipe σ' vs = wipe σ vs) → R P.K F io α' r' σ' H → Q σ' H
  | _ => False
theorem wipe_set (σ : St) (i : Nat) (v : Option V) : ∀ vs : List Nat, i ∈ vs → wipe (σ.set i v) vs = wipe σ vs
  | [], h => by simp at h
  | j :: vs, h => by
    unfold wipe
    by_cases e : i ∈ vs
    · rw [wipe_set σ i v vs e]
    · have e2 : i = j := by
        rcases List.mem_cons.mp h with h | h
        · exact h
        · exact absurd h e
      subst e2
      apply List.ext_getElem?
      intro k
      by_cases hk : i = k
      · subst hk
        by_cases hl : i < σ.length
        · rw [List.getElem?_set_self (by rw [wipe_length, List.length_set]; exact hl), List.getElem?_set_self (by rw [wipe_length]; exact hl)]
        · rw [List.getElem?_eq_none (by rw [List.length_set, wipe_length, List.length_set]; omega), List.getElem?_eq_none (by rw [List.length_set, wipe_length]; omega)]
      · rw [List.getElem?_set_ne hk, List.getElem?_set_ne hk]
        have : ∀ ws : List Nat, i ∉ ws → (wipe (σ.set i v) ws)[k]? = (wipe σ ws)[k]? := by
          intro ws
          induction ws with
          | nil => intro _; exact List.getElem?_set_ne hk
          | cons w ws ih =>
            intro hw
            simp only [List.mem_cons, not_or] at hw
            unfold wipe
            by_cases hwk : w = k
            · subst hwk
              by_cases hl : w < σ.length
              · rw [List.getElem?_set_self (by rw [wipe_length, List.length_set]; exact hl), List.getElem?_set_self (by rw [wipe_length]; exact hl)]
              · rw [List.getElem?_eq_none (by rw [List.length_set, wipe_length, List.length_set]; omega), List.getElem?_eq_none (by rw [List.length_set, wipe_length]; omega)]
            · rw [List.getElem?_set_ne hwk, List.getElem?_set_ne hwk]
              exact ih hw.2
        exact this vs e
theorem pg_one {i : Nat} {x : Str} {pos : Pos} (hN : X.N.Nodup) (hi : X.N[i]? = some x) (hx : Loc X.env.scope x) (hf : X.fn x = true ∨ X.env.scope.names.lookup x = some .local) : PG X (.Name x pos) (tTg P [i] (tgOne i)) := by
  have h := pg_name (pos := pos) hN hi hx hf
  refine ⟨fun pins s σ H v u Q I r q => h.run pins s σ H v u Q I r ?_⟩
  obtain ⟨F, io, α, ρ, d, x, rp, q⟩ := q
  show Q (σ.set i (some v)) H
  by_cases hp : isPair d = true
  · have e : tgOne i d ρ = .stuck := by unfold tgOne; rw [if_pos hp]; rfl
    rw [e] at q
    exact q.elim
  have e : tgOne i d ρ = put1 i (.dat d) ρ := by unfold tgOne; rw [if_neg hp]
  rw [e] at q
  have rp : Rep P.K (Al F io α) H d v := by
    rcases rp with rp | ⟨a, b, _, _, _, e, _⟩
    · exact rp
    · rw [e] at hp
      exact absurd rfl hp
  unfold put1 at q
  by_cases c : setOk ρ[i]? = true
  · simp only [c, if_true] at q
    exact q _ _ On.less (fun vs hv => wipe_set σ i _ vs (hv i List.mem_cons_self)) (x.put_dat c rp.less)
  · simp only [c] at q
    simp at q
/-- several names, a list of data -/
def tTgs (P : Par) (is : List Nat) : TGs := fun vs σ H Q => ∃ F io α r ds, R P.K F io α r σ H ∧ RepL P.K (Al F io α) H ds vs ∧ match putN is (ds.map .dat) r with
  | .ok _ r' => ∀ σ' α', On io α α' H H → (∀ vs : List Nat, (∀ i ∈ is, i ∈ vs) → wipe σ' vs = wipe σ vs) → R P.K F io α' r' σ' H → Q σ' H
  | _ => False
theorem pgs_nil' : PGs X [] (tTgs P []) := by
  have h := pgs_nil (X := X)
  refine ⟨fun pins s σ H vs us Q I r q => h.run pins s σ H vs us Q I r ?_⟩
  obtain ⟨F, io, α, ρ, ds, x, rp, q⟩ := q
  cases ds with
  | nil =>
    simp only [RepL] at rp
    exact ⟨rp, q σ α (On.refl _ _ _) (fun _ _ => rfl) x⟩
  | cons d ds => exact q.elim
theorem pgs_cons' {i : Nat} {is : List Nat} {x : Str} {pos : Pos} {es : List Expr} (hN : X.N.Nodup) (hi : X.N[i]? = some x) (hx : Loc X.env.scope x) (hf : X.fn x = true ∨ X.env.scope.names.lookup x = some .local) (hr : PGs X es (tTgs P is)) : PGs X (.Name x pos :: es) (tTgs P (i :: is)) := by
  have h := pgs_cons (pg_name (pos := pos) hN hi hx hf) hr rfl
  refine ⟨fun pins s σ H vs us Q I r q => h.run pins s σ H vs us Q I r ?_⟩
  obtain ⟨F, io, α, ρ, ds, x, rp, q⟩ := q
  cases ds with
  | nil => exact q.elim
  | cons d ds =>
    simp only [RepL] at rp
    obtain ⟨w, ws, rfl, r1, r2⟩ := rp
    refine ⟨w, ws, rfl, ?_⟩
    show tTgs P is ws (σ.set i (some w)) H Q
    simp only [List.map_cons] at q
    unfold putN put1 at q
    by_cases c : setOk ρ[i]? = true
    · simp only [c, if_true] at q
      refine ⟨F, io, _, _, ds, x.put_dat c r1.less, RepL.ext (Soft.none H) (Ext.refl _ _) (fun _ z => z.elim) (fun a _ _ z => al_less z) r2, ?_⟩
      cases e : putN is (ds.map .dat) (ρ.set i (.dat d)) with
      | stuck => simp only [Ro.sl, e] at q
      | exc c fs r' => simp only [Ro.sl, e] at q
      | ok u r' =>
        simp only [Ro.sl, e] at q
        exact fun σ' α' o hw x' => q σ' α' (On.less.trans o) (fun vs hv => (hw vs fun j hj => hv j (List.mem_cons_of_mem _ hj)).trans (wipe_set σ i _ vs (hv i List.mem_cons_self))) x'
    · simp only [c] at q
      simp at q
theorem tgMany_cases (is : List Nat) (d : PyData) : (∃ ds, d = .tuple ds) ∨ (∃ a b, d = pairD a b) ∨ tgMany is d = stuck := by
  unfold tgMany
  split
  · exact .inl ⟨_, rfl⟩
  · exact .inr (.inl ⟨_, _, rfl⟩)
  · exact .inr (.inr rfl)
theorem pg_many {is : List Nat} {es : List Expr} {k : Nat} {pos : Pos} (hK : P.K = X.K) (hc : X.calm = true) (h : PGs X es (tTgs P is)) (hl : is.length = es.length) (hn : (assignEach es X.env).length = es.length) (hst : (assignEach es X.env).findIdx? (·.1) = none) : PG X (.Tuple es k pos) (tTg P is (tgMany is)) := by
  have z := pg_tup (k := k) (pos := pos) hc h hn hst
  refine ⟨fun pins s σ H v u Q I r q => z.run pins s σ H v u Q I r ?_⟩
  obtain ⟨F, io, α, ρ, d, x, rp, q⟩ := q
  have sh : ∃ a vs ds, v = .ref a ∧ SqT P.K H a vs ∧ RepL P.K (Al F io α) H ds vs ∧ (match putN is (ds.map .dat) ρ with
      | .ok _ r' => ∀ σ' α', On io α α' H H → (∀ vs : List Nat, (∀ i ∈ is, i ∈ vs) → wipe σ' vs = wipe σ vs) → R P.K F io α' r' σ' H → Q σ' H
      | _ => False) := by
    rcases rp with rp | ⟨a, b, p, y1, y2, e, ev, sq, r1, r2⟩
    · rcases tgMany_cases is d with ⟨ds, e⟩ | ⟨a, b, e⟩ | e
      · subst e
        simp only [Rep] at rp
        obtain ⟨a, vs, e, q1, q2⟩ := rp
        exact ⟨a, vs, ds, e, q1.1, q2, q⟩
      · subst e
        exact (pair_no rp).elim
      · have e2 : tgMany is d ρ = .stuck := by rw [e]; rfl
        rw [e2] at q
        exact q.elim
    · subst e
      refine ⟨p, _, [a, b], ev, sq, ?_, q⟩
      simp only [RepL]
      exact ⟨y1, [y2], rfl, r1, y2, [], rfl, r2, rfl⟩
  obtain ⟨a, vs, ds, rfl, q1, q2, q⟩ := sh
  refine ⟨a, vs, rfl, hK ▸ q1, ?_, F, io, α, ρ, ds, x, q2, q⟩
  have key : ∀ (is : List Nat) (ds : List Ro) (ρ : Ev), (∃ r', putN is ds ρ = .ok () r') → is.length = ds.length := by
    intro is
    induction is with
    | nil =>
      intro ds ρ h
      cases ds with
      | nil => rfl
      | cons => obtain ⟨_, h⟩ := h; cases h
    | cons i is ih =>
      intro ds ρ h
      cases ds with
      | nil => obtain ⟨_, h⟩ := h; cases h
      | cons d ds =>
        obtain ⟨r', h⟩ := h
        unfold putN at h
        cases e : put1 i d ρ with
        | ok u r1 => simp only [e] at h; simp [ih ds r1 ⟨r', h⟩]
        | exc c fs r1 => simp only [e] at h; cases h
        | stuck => simp only [e] at h; cases h
  have q' : match putN is (ds.map .dat) ρ with
    | .ok _ r' => ∀ σ' α', On io α α' H H → (∀ vs : List Nat, (∀ i ∈ is, i ∈ vs) → wipe σ' vs = wipe σ vs) → R P.K F io α' r' σ' H → Q σ' H
    | _ => False := q
  cases e : putN is (ds.map .dat) ρ with
  | ok u r' =>
    have := key is _ ρ ⟨r', e⟩
    rw [List.length_map] at this
    rw [← q2.length, ← this, hl]
  | exc c fs r' => rw [e] at q'; exact q'.elim
  | stuck => rw [e] at q'; exact q'.elim

/-! ### what is walked -/
structure Feed (K : PySem.W.Frag) (O M : Addr → Prop) (J : It) (ds : List PyData) (H : Hp) : Prop where
  size : ds.length ≤ sizeLine
  go : ∀ i H', i < ds.length → Ext M H H' → J.go i H'
  stop : ∀ H', Ext M H H' → J.stop ds.length H'
  yld : ∀ i d H1 x H2, ds[i]? = some d → Ext M H H1 → J.yld i H1 x H2 → Ext (fun _ => False) H1 H2 ∧ ∀ O' : Addr → Prop, (∀ a o, H a = some o → O' a → O a) → (∀ a, O' a → ∃ o, H1 a = some o) → RepP K O' H2 d x
def tSv (P : Par) (W : WX) (m : M (List PyData)) : TI := fun σ H Q => ∃ F io α r, R P.K F io α r σ H ∧ match m r with
  | .ok ds r' => ∀ J H' α', On io α α' H H' → R P.K F io α' r' σ H' → Feed P.K (Al F io α') (Mu io α') J ds H' → Q J H'
  | .exc c fs r' => Thrown P W F io α H c fs r'
  | .stuck => False
theorem R.tracked (x : R K F io α r σ H) {a : Addr} (h : Al F io α a) : ∃ o, H a = some o := by
  rcases h with h | h
  · exact x.FH a h
  · rcases x.soft a h with ⟨_, q⟩ | ⟨_, q⟩ <;> exact ⟨_, q⟩
theorem for_ok {src : M (List PyData)} {is : List Nat} {tg : PyData → M Unit} {body : M Fl} {σ : St} {H : Hp} (htg : ∀ d r c fs r', tg d r ≠ .exc c fs r') (h : tEx P W (forS src tg body) D σ H) : tFor (tSv P W src) (tTg P is tg) (tEx P W body) D σ H := by
  obtain ⟨F, io, α, r, x, h⟩ := h
  refine ⟨F, io, α, r, x, ?_⟩
  unfold forS at h
  cases e : src r with
  | stuck => rw [e] at h; exact h
  | exc c fs r1 => rw [e] at h; exact h
  | ok ds r1 =>
    rw [e] at h
    intro J H1 α1 o1 x1 fd
    have h : Goes P W F io α1 H1 D (forL r1 tg body ds r1) := Goes.back o1 h
    refine ⟨fun i m σ2 H2 => m = ds.length - i ∧ i ≤ ds.length ∧ ∃ α2 r2, On io α1 α2 H1 H2 ∧ R P.K F io α2 r2 σ2 H2 ∧ Goes P W F io α1 H1 D (forL r1 tg body (ds.drop i) r2),
      ⟨ds.length, by simp, Nat.zero_le _, α1, r1, On.refl _ _ _, x1, by simpa using h⟩, ?_⟩
    rintro i m σ2 H2 ⟨rfl, hi, α2, r2, o2, x2, g⟩
    by_cases hlt : i < ds.length
    · refine .inr ⟨fd.go i H2 hlt o2.ext, fun σ3 H3 => ∃ α3 r3, On io α1 α3 H1 H3 ∧ R P.K F io α3 r3 σ3 H3 ∧ Goes P W F io α1 H1 D (forL r1 tg body (ds.drop (i + 1)) r3), ?_, ?_⟩
      · rintro σ3 H3 ⟨α3, r3, o3, x3, g3⟩
        exact ⟨ds.length - (i + 1), by omega, rfl, hlt, α3, r3, o3, x3, g3⟩
      · intro v H3 y
        have hd : ds[i]? = some ds[i] := List.getElem?_eq_getElem hlt
        obtain ⟨e3, rp⟩ := fd.yld i ds[i] H2 v H3 hd o2.ext y
        have x3 := x2.same e3
        rw [List.drop_eq_getElem_cons hlt] at g
        refine ⟨F, io, α2, r2, ds[i], x3, rp _ (fun a o q z => z.imp id (o2.sub a o q)) (fun a z => x2.tracked z), ?_⟩
        unfold forL at g
        cases e4 : tg ds[i] r2 with
        | stuck => simp only [e4] at g; exact g
        | exc c fs r4 => exact absurd e4 (htg _ _ _ _ _)
        | ok u r4 =>
          simp only [e4] at g
          intro σ4 α4 o4 _ x4
          refine ⟨F, io, α4, r4, x4, ?_⟩
          have o14 : On io α1 α4 H1 H3 := (o2.trans (On.same e3)).trans o4
          have again : ∀ {r5 : Ev} {σ5 : St} {H5 : Hp} {α5 : Am}, Goes P W F io α1 H1 D (forL r1 tg body (ds.drop (i + 1)) (forget r1 r5)) → On io α4 α5 H3 H5 → R P.K F io α5 r5 σ5 H5 →
              ∃ α3 r3, On io α1 α3 H1 H5 ∧ R P.K F io α3 r3 σ5 H5 ∧ Goes P W F io α1 H1 D (forL r1 tg body (ds.drop (i + 1)) r3) := fun {r5 σ5 H5 α5} g5 o5 x5 => by
            obtain ⟨α6, o6, x6⟩ := x5.forgot x1
            exact ⟨α6, _, (o14.trans o5).trans o6, x6, g5⟩
          cases e5 : body r4 with
          | stuck => simp only [e5] at g; exact g
          | exc c fs r5 => simp only [e5] at g; exact Thrown.on g o14
          | ok f r5 =>
            cases f with
            | next => simp only [e5] at g; exact fun σ5 H5 α5 o5 x5 => again g o5 x5
            | cont => simp only [e5] at g; exact fun σ5 H5 α5 o5 x5 => again g o5 x5
            | brk => simp only [e5] at g; exact fun σ5 H5 α5 o5 x5 => g σ5 H5 α5 (o14.trans o5) x5
            | ret y => simp only [e5] at g; exact fun v σ5 H5 α5 o5 x5 => g v σ5 H5 α5 (o14.trans o5) (x5.back o14)
    · have e2 : i = ds.length := by omega
      subst e2
      refine .inl ⟨fd.stop H2 o2.ext, ?_⟩
      rw [List.drop_length] at g
      exact g σ2 H2 α2 o2 x2
theorem ps_for' {src : M (List PyData)} {is : List Nat} {tg : PyData → M Unit} {body : M Fl} {target iter : Expr} {sts : List Stmt} {pos : Pos} (htg : ∀ d r c fs r', tg d r ≠ .exc c fs r') (hp : PassesOwn (model X.prog X.w) X.A X.env X.xe) (hc : X.calm = true)
    (hi : PI X target iter (tSv P W src)) (hg : PG X target (tTg P is tg)) (hb : PSs X sts (tEx P W body)) (hs : ∀ x, foldedSetIterable iter X.env x = pure x) : PS X (.For target iter sts [] pos) (tEx P W (forS src tg body)) :=
  PS.weak (ps_for hp hc hi hg hb hs) fun D σ H h => for_ok htg h
theorem put1_noexc {i : Nat} {x : Ro} {r : Ev} {c : Nat} {fs : List PyData} {r' : Ev} : put1 i x r ≠ .exc c fs r' := by
  unfold put1
  split <;> (intro h; cases h)
theorem putN_noexc : ∀ {is : List Nat} {xs : List Ro} {r : Ev} {c : Nat} {fs : List PyData} {r' : Ev}, putN is xs r ≠ .exc c fs r'
  | [], [], r, c, fs, r' => by unfold putN; intro h; cases h
  | [], _ :: _, r, c, fs, r' => by unfold putN; intro h; cases h
  | _ :: _, [], r, c, fs, r' => by unfold putN; intro h; cases h
  | i :: is, x :: xs, r, c, fs, r' => by
    unfold putN
    cases e : put1 i x r with
    | ok u r1 => exact putN_noexc
    | exc c fs r1 => exact absurd e put1_noexc
    | stuck => intro h; cases h
theorem tgOne_noexc {i : Nat} : ∀ (d : PyData) (r : Ev) (c : Nat) (fs : List PyData) (r' : Ev), tgOne i d r ≠ .exc c fs r' := fun d r c fs r' => by
  by_cases hp : isPair d = true
  · have e : tgOne i d r = .stuck := by unfold tgOne; rw [if_pos hp]; rfl
    rw [e]
    intro h
    cases h
  · have e : tgOne i d r = put1 i (.dat d) r := by unfold tgOne; rw [if_neg hp]
    rw [e]
    exact put1_noexc
theorem tgMany_noexc {is : List Nat} : ∀ (d : PyData) (r : Ev) (c : Nat) (fs : List PyData) (r' : Ev), tgMany is d r ≠ .exc c fs r' := fun d r c fs r' => by
  rcases tgMany_cases is d with ⟨ds, e⟩ | ⟨a, b, e⟩ | e
  · subst e
    exact putN_noexc
  · subst e
    exact putN_noexc
  · rw [e]
    intro h
    cases h
/-- a while -/
theorem whl_ok {n : Nat} {c : M Bool} {body : M Fl} {σ : St} {H : Hp} (h : tEx P W (whlS n c body) D σ H) : tWhile (tBv P W c) (tEx P W body) D σ H := by
  obtain ⟨F, io, α, r, x, h⟩ := h
  have h : Goes P W F io α H D (whlL r c body n r) := h
  refine ⟨fun m σ2 H2 => ∃ α2 r2, On io α α2 H H2 ∧ R P.K F io α2 r2 σ2 H2 ∧ Goes P W F io α H D (whlL r c body m r2), ⟨n, α, r, On.refl _ _ _, x, h⟩, ?_⟩
  rintro m σ2 H2 ⟨α2, r2, o2, x2, g⟩
  refine ⟨F, io, α2, r2, x2, ?_⟩
  cases m with
  | zero => exact g.elim
  | succ m =>
    unfold whlL at g
    cases e : c r2 with
    | stuck => simp only [e] at g; exact g
    | exc cc fs r3 => simp only [e] at g; exact Thrown.on g o2
    | ok b r3 =>
      intro H3 α3 o3 x3
      cases b with
      | false =>
        simp only [e] at g
        exact iteF (g σ2 H3 α3 (o2.trans o3) x3)
      | true =>
        simp only [e] at g
        refine iteT ⟨fun σ4 H4 => ∃ α4 r4, On io α α4 H H4 ∧ R P.K F io α4 r4 σ4 H4 ∧ Goes P W F io α H D (whlL r c body m r4), fun σ4 H4 q => ⟨m, Nat.lt_succ_self m, q⟩, F, io, α3, r3, x3, ?_⟩
        have again : ∀ {r5 : Ev} {σ5 : St} {H5 : Hp} {α5 : Am}, Goes P W F io α H D (whlL r c body m (Ip.forget r r5)) → On io α3 α5 H3 H5 → R P.K F io α5 r5 σ5 H5 →
            ∃ α4 r4, On io α α4 H H5 ∧ R P.K F io α4 r4 σ5 H5 ∧ Goes P W F io α H D (whlL r c body m r4) := fun {r5 σ5 H5 α5} g5 o5 x5 => by
          obtain ⟨α6, o6, x6⟩ := x5.forgot x
          exact ⟨α6, _, ((o2.trans o3).trans o5).trans o6, x6, g5⟩
        cases e5 : body r3 with
        | stuck => simp only [e5] at g; exact g
        | exc cc fs r5 => simp only [e5] at g; exact Thrown.on g (o2.trans o3)
        | ok f r5 =>
          cases f with
          | next => simp only [e5] at g; exact fun σ5 H5 α5 o5 x5 => again g o5 x5
          | cont => simp only [e5] at g; exact fun σ5 H5 α5 o5 x5 => again g o5 x5
          | brk => simp only [e5] at g; exact fun σ5 H5 α5 o5 x5 => g σ5 H5 α5 ((o2.trans o3).trans o5) x5
          | ret y => simp only [e5] at g; exact fun v σ5 H5 α5 o5 x5 => g v σ5 H5 α5 ((o2.trans o3).trans o5) (x5.back (o2.trans o3))
theorem ps_while' {n : Nat} {c : Expr} {sts : List Stmt} {mc : M Bool} {body : M Fl} {pos : Pos} (hp : PassesOwn (model X.prog X.w) X.A X.env X.xe) (hc : PT X c (tBv P W mc)) (hb : PSs X sts (tEx P W body)) : PS X (.While c sts [] pos) (tEx P W (whlS n mc body)) :=
  PS.weak (ps_while hp hc hb) fun D σ H h => whl_ok h
end
end Ip

set_option Elab.async false
set_option linter.all false
set_option maxRecDepth 100000
set_option maxHeartbeats 1000000
/-! Comprehensions. -/
namespace Ip
open PySem PySem.Spec PyProof.Rows L2
section
variable {K : PySem.W.Frag} {F F' : Addr → Prop} {io io' : Fx} {α α' α1 : Am} {r r' r0 : Ev} {σ σ' : St} {H H' H0 H1 : Hp} {v : V} {P : Par} {W : WX} {X : Cx} {D : Ends}
theorem SlOk.move {M : Addr → Prop} (s : Soft M H) (e : Ext M H H') (hM : ∀ a, M a → Al F io α a) (hO : ∀ a o, H a = some o → Al F' io' α' a → Al F io α a) {j : Nat} {sl : Sl} (hα : α' j = α j) (hσ : σ'[j]? = σ[j]?) (hw : io'.w j = io.w j) (hb : io'.b j = io.b j)
    (n : ∀ a, (α j = some a ∨ io.w j = some a ∨ io.b j = some a) → ¬ M a) (q : SlOk K F io α σ H j sl) : SlOk K F' io' α' σ' H' j sl := by
  cases sl with
  | no => exact hα.trans q
  | dat d => exact ⟨hα.trans q.1, q.2.imp fun v z => ⟨hσ.trans z.1, Rep.ext s e hM hO z.2⟩⟩
  | own d => exact q.imp fun a z => ⟨hα.trans z.1, hσ.trans z.2.1, Cell.ext s e hM hO (n a (.inl z.1)) z.2.2⟩
  | io d => exact ⟨hα.trans q.1, q.2.imp fun a z => ⟨hw.trans z.1, hσ.trans z.2.1, Cell.ext s e hM hO (n a (.inr (.inl z.1))) z.2.2⟩⟩
  | bor d => exact ⟨hα.trans q.1, q.2.imp fun a z => ⟨hb.trans z.1, hσ.trans z.2.1, View.ext s e hM hO (n a (.inr (.inr z.1))) z.2.2⟩⟩
theorem hideFrom_len (own hid : List Nat) : ∀ (k : Nat) (r : Ev), (hideFrom own hid k r).length = r.length
  | _, [] => rfl
  | k, s :: r => by unfold hideFrom; rw [List.length_cons, List.length_cons, hideFrom_len own hid (k + 1) r]
theorem hideFrom_get (own hid : List Nat) : ∀ (k : Nat) (r : Ev) (i : Nat), (hideFrom own hid k r)[i]? = (r[i]?).map fun s => if own.contains (k + i) then Sl.no else if hid.contains (k + i) then toBor s else s
  | k, [], i => by unfold hideFrom; simp
  | k, s :: r, 0 => by unfold hideFrom; simp
  | k, s :: r, i + 1 => by
    unfold hideFrom
    have := hideFrom_get own hid (k + 1) r i
    rw [show k + 1 + i = k + (i + 1) by omega] at this
    simpa using this
theorem showFrom_len (own hid : List Nat) : ∀ (k : Nat) (r1 r : Ev), (showFrom own hid k r1 r).length = r.length
  | _, [], r => by unfold showFrom; rfl
  | _, _ :: _, [] => by unfold showFrom; rfl
  | k, s1 :: r1, s :: r => by unfold showFrom; rw [List.length_cons, List.length_cons, showFrom_len own hid (k + 1) r1 r]
theorem showFrom_get (own hid : List Nat) : ∀ (k : Nat) (r1 r : Ev) (i : Nat), r1.length = r.length → (showFrom own hid k r1 r)[i]? = if own.contains (k + i) || hid.contains (k + i) then r1[i]? else r[i]?
  | k, [], r, i, h => by
    have : r = [] := List.eq_nil_of_length_eq_zero (by rw [← h]; rfl)
    subst this
    unfold showFrom
    simp
  | k, s1 :: r1, [], i, h => by simp at h
  | k, s1 :: r1, s :: r, 0, h => by
    unfold showFrom
    simp only [List.getElem?_cons_zero, Nat.add_zero]
    split <;> rfl
  | k, s1 :: r1, s :: r, i + 1, h => by
    unfold showFrom
    have := showFrom_get own hid (k + 1) r1 r i (by simpa using h)
    rw [show k + 1 + i = k + (i + 1) by omega] at this
    simpa using this
theorem wipe_get (σ : St) : ∀ (vs : List Nat) (i : Nat), (wipe σ vs)[i]? = if vs.contains i then (σ[i]?).map fun _ => none else σ[i]?
  | [], i => by simp [wipe]
  | v :: vs, i => by
    unfold wipe
    by_cases e : v = i
    · subst e
      by_cases h : v < σ.length
      · rw [List.getElem?_set_self (by rw [wipe_length]; exact h), List.getElem?_eq_getElem h]
        simp
      · rw [List.getElem?_eq_none (by rw [List.length_set, wipe_length]; omega), List.getElem?_eq_none (by omega)]
        simp
    · rw [List.getElem?_set_ne e, wipe_get σ vs i]
      have : ¬ i = v := fun q => e q.symm
      simp [this]
abbrev Hd (own hid : List Nat) (i : Nat) : Prop := i ∈ own ∨ i ∈ hid
def αH (own hid : List Nat) (α : Am) : Am := fun i => if own.contains i || hid.contains i then none else α i
def ioH (own hid : List Nat) (io : Fx) (α : Am) : Fx := ⟨io.w, fun i => if hid.contains i && !own.contains i then α i else io.b i⟩
def FH' (own hid : List Nat) (F : Addr → Prop) (α : Am) : Addr → Prop := fun a => F a ∨ ∃ i, (own.contains i || hid.contains i) = true ∧ α i = some a
theorem αH_some {own hid : List Nat} {i : Nat} {a : Addr} (h : αH own hid α i = some a) : α i = some a ∧ (own.contains i || hid.contains i) = false := by
  unfold αH at h
  split at h
  · cases h
  · rename_i n; exact ⟨h, by simpa using n⟩
theorem αH_mu {own hid : List Nat} {b : Am} {a : Addr} (h : Mu ⟨io.w, b⟩ (αH own hid α) a) : Mu io α a := h.imp (fun ⟨i, z⟩ => ⟨i, (αH_some z).1⟩) id
/-- the state within a comprehension -/
theorem R.hide (x : R K F io α r σ H) {own hid : List Nat} (hio : ∀ i ∈ own, isIo r[i]? = false) (hh : ∀ i ∈ hid, ∃ d, r[i]? = some (.own d)) :
    R K (FH' own hid F α) (ioH own hid io α) (αH own hid α) (hideFrom own hid 0 r) (wipe σ own) H := by
  have al : ∀ a o, H a = some o → Al (FH' own hid F α) (ioH own hid io α) (αH own hid α) a → Al F io α a := by
    rintro a o _ ((z | ⟨i, _, z⟩) | z)
    · exact .inl z
    · exact .inr (.inl ⟨i, z⟩)
    · exact .inr (αH_mu z)
  have E := Ext.refl (fun _ => False : Addr → Prop) H
  have c : ∀ a, (fun _ => False : Addr → Prop) a → Al F io α a := fun _ z => z.elim
  refine ⟨by rw [hideFrom_len, wipe_length]; exact x.len, fun i s hi => ?_, fun i hi => ?_, fun i a h => ?_, fun i j a h1 h2 => x.inj i j a (αH_some h1).1 (αH_some h2).1, x.ioj, fun i j a h1 h2 => x.aio i j a (αH_some h1).1 h2, fun i a h => ?_, fun a h m => ?_, fun a h => ?_⟩
  · rw [hideFrom_get, Nat.zero_add] at hi
    obtain ⟨s0, e0, hi⟩ := Option.map_eq_some_iff.mp hi
    have q := x.slot i s0 e0
    by_cases ho : own.contains i = true
    · rw [if_pos ho] at hi
      subst hi
      show αH own hid α i = none
      unfold αH; rw [ho]; rfl
    · rw [if_neg ho] at hi
      have wσ : (wipe σ own)[i]? = σ[i]? := by rw [wipe_get, if_neg ho]
      by_cases hd : hid.contains i = true
      · rw [if_pos hd] at hi
        obtain ⟨d, e1⟩ := hh i (by simpa using hd)
        rw [e0] at e1
        cases e1
        subst hi
        obtain ⟨a, e1, e2, cc⟩ := q
        refine ⟨?_, a, ?_, wσ.trans e2, (cc.view).ext (Soft.none H) E c al (fun z => z)⟩
        · unfold αH; rw [hd, Bool.or_true]; rfl
        · show (if hid.contains i && !own.contains i then α i else io.b i) = some a
          simp only [Bool.not_eq_true] at ho
          rw [hd, ho]; exact e1
      · rw [if_neg hd] at hi
        subst hi
        simp only [Bool.not_eq_true] at ho hd
        refine q.move (Soft.none H) E c al ?_ wσ rfl ?_ fun a _ z => z
        · unfold αH; rw [ho, hd]; rfl
        · show (if hid.contains i && !own.contains i then α i else io.b i) = io.b i
          rw [hd]; rfl
  · unfold αH
    split
    · rfl
    · rw [hideFrom_len] at hi; exact x.out i hi
  · obtain ⟨d, e⟩ := x.ios i a h
    refine ⟨d, ?_⟩
    rw [hideFrom_get, Nat.zero_add, e]
    have ho : own.contains i = false := by
      cases q : own.contains i with
      | false => rfl
      | true =>
        have := hio i (by simpa using q)
        rw [e] at this; cases this
    have hd : hid.contains i = false := by
      cases q : hid.contains i with
      | false => rfl
      | true =>
        obtain ⟨d', e'⟩ := hh i (by simpa using q)
        rw [e] at e'; cases e'
    simp only [Option.map_some, ho, hd, Bool.false_eq_true, if_false]
  · have h' : (if hid.contains i && !own.contains i then α i else io.b i) = some a := h
    split at h'
    · rename_i hc
      simp only [Bool.and_eq_true] at hc
      obtain ⟨d, _, _, cc⟩ := x.own_cell h'
      refine ⟨?_, fun m => ?_⟩
      · rcases cc.soft with ⟨_, q⟩ | ⟨_, q⟩ <;> exact ⟨_, q⟩
      · rcases m with ⟨j, z⟩ | ⟨j, z⟩
        · obtain ⟨z1, z2⟩ := αH_some z
          have e := x.inj i j a h' z1
          subst e
          rw [hc.1, Bool.or_true] at z2; cases z2
        · exact x.aio i j a h' z
    · exact ⟨(x.boH i a h').1, fun m => (x.boH i a h').2 (αH_mu m)⟩
  · rcases h with h | ⟨i, hi, h⟩
    · exact x.aF a h (αH_mu m)
    · rcases m with ⟨j, z⟩ | ⟨j, z⟩
      · obtain ⟨z1, z2⟩ := αH_some z
        have e := x.inj i j a h z1
        subst e
        rw [hi] at z2; cases z2
      · exact x.aio i j a h z
  · rcases h with h | ⟨i, hi, h⟩
    · exact x.FH a h
    · obtain ⟨d, _, _, cc⟩ := x.own_cell h
      rcases cc.soft with ⟨_, q⟩ | ⟨_, q⟩ <;> exact ⟨_, q⟩
/-- a comprehension's names stand for nothing again -/
theorem R.wiped (x : R K F io α r σ H) {own : List Nat} (hio : ∀ i ∈ own, io.w i = none) : ∃ α2, On io α α2 H H ∧ R K F io α2 (hideFrom own [] 0 r) (wipe σ own) H := by
  have sub : ∀ i a, αH own [] α i = some a → α i = some a := fun i a h => (αH_some h).1
  have mu : ∀ a, Mu io (αH own [] α) a → Mu io α a := fun a h => h.imp (fun ⟨i, z⟩ => ⟨i, sub i a z⟩) id
  have al : ∀ a, Al F io (αH own [] α) a → Al F io α a := fun a h => h.imp id (mu a)
  refine ⟨αH own [] α, ⟨fun a _ _ z => mu a z, Ext.refl _ _, fun _ o h => ⟨o, h⟩⟩, by rw [hideFrom_len, wipe_length]; exact x.len, fun i s hi => ?_, fun i hi => ?_, fun i a h => ?_, fun i j a h1 h2 => x.inj i j a (sub _ _ h1) (sub _ _ h2), x.ioj, fun i j a h1 h2 => x.aio i j a (sub _ _ h1) h2, fun i a h => ⟨(x.boH i a h).1, fun z => (x.boH i a h).2 (mu a z)⟩, fun a h z => x.aF a h (mu a z), x.FH⟩
  · rw [hideFrom_get, Nat.zero_add] at hi
    obtain ⟨s0, e0, hi⟩ := Option.map_eq_some_iff.mp hi
    by_cases ho : own.contains i = true
    · rw [if_pos ho] at hi
      subst hi
      show αH own [] α i = none
      unfold αH; rw [ho]; rfl
    · rw [if_neg ho] at hi
      have hi' : s0 = s := by simpa using hi
      subst hi'
      refine (x.slot i s0 e0).less (fun a _ _ z => al a z) ?_ (by rw [wipe_get, if_neg ho])
      unfold αH
      simp only [Bool.not_eq_true] at ho
      rw [ho]; rfl
  · unfold αH
    split
    · rfl
    · rw [hideFrom_len] at hi; exact x.out i hi
  · obtain ⟨d, e⟩ := x.ios i a h
    refine ⟨d, ?_⟩
    rw [hideFrom_get, Nat.zero_add, e]
    have ho : own.contains i = false := by
      cases q : own.contains i with
      | false => rfl
      | true =>
        rw [hio i (by simpa using q)] at h; cases h
    simp only [Option.map_some, ho]
    rfl
/-- behind a comprehension -/
theorem R.shown (x : R K F io α r σ H) {own hid : List Nat} (hio : ∀ i ∈ own, isIo r[i]? = false) (hh : ∀ i ∈ hid, ∃ d, r[i]? = some (.own d)) {p : Addr} (n : H p = none) {αe : Am} {re : Ev}
    (xe : R K (Plus (FH' own hid F α) p) (ioH own hid io α) αe re (wipe σ own) H') (o : On (ioH own hid io α) (αH own hid α) αe H H') :
    ∃ α2, On io α α2 H H' ∧ R K (Plus F p) io α2 (showFrom own hid 0 r re) σ H' ∧ (∀ a, Al (Plus F p) io α2 a → Al (Plus (FH' own hid F α) p) (ioH own hid io α) αe a) := by
  have hlen : r.length = re.length := by rw [x.len, xe.len, wipe_length]
  have sl : (showFrom own hid 0 r re).length = re.length := showFrom_len _ _ _ _ _
  have m1 : ∀ a, Mu (ioH own hid io α) (αH own hid α) a → Mu io α a := fun a h => αH_mu h
  -- the new places
  have hm : ∀ a, Mu io (fun i => if own.contains i || hid.contains i then α i else αe i) a → (∃ i, (own.contains i || hid.contains i) = true ∧ α i = some a) ∨ Mu (ioH own hid io α) αe a := by
    rintro a (⟨i, z⟩ | z)
    · cases q : (own.contains i || hid.contains i) with
      | true => simp only [q, if_true] at z; exact .inl ⟨i, q, z⟩
      | false => simp only [q] at z; exact .inr (.inl ⟨i, by simpa using z⟩)
    · exact .inr (.inr z)
  have hm2 : ∀ a ob, H a = some ob → Mu io (fun i => if own.contains i || hid.contains i then α i else αe i) a → Mu io α a := fun a ob h z => by
    rcases hm a z with ⟨i, _, z⟩ | z
    · exact .inl ⟨i, z⟩
    · exact m1 a (o.sub a ob h z)
  have al : ∀ a, Al (Plus F p) io (fun i => if own.contains i || hid.contains i then α i else αe i) a → Al (Plus (FH' own hid F α) p) (ioH own hid io α) αe a := by
    rintro a ((z | z) | z)
    · exact .inl (.inl (.inl z))
    · exact .inl (.inr z)
    · rcases hm a z with z | z
      · exact .inl (.inl (.inr z))
      · exact .inr z
  have np : ∀ i, α i ≠ some p := fun i z => by
    obtain ⟨d, _, _, cc⟩ := x.own_cell z
    rcases cc.soft with ⟨_, q⟩ | ⟨_, q⟩ <;> (rw [n] at q; cases q)
  refine ⟨fun i => if own.contains i || hid.contains i then α i else αe i, ⟨hm2, fun a ob h nm => o.ext a ob h fun z => nm (m1 a z), o.there⟩, ⟨sl.trans (hlen.symm.trans x.len), fun i s hi => ?_, fun i hi => ?_, fun i a h => ?_, fun i j a h1 h2 => ?_, x.ioj, fun i j a h1 h2 => ?_, fun i a h => ?_, fun a h z => ?_, fun a h => ?_⟩, al⟩
  · rw [showFrom_get _ _ _ _ _ _ hlen, Nat.zero_add] at hi
    cases q : (own.contains i || hid.contains i) with
    | true =>
      rw [q] at hi
      simp only [if_true] at hi
      have q0 := x.slot i s hi
      have hM : ∀ a, Mu (ioH own hid io α) (αH own hid α) a → Al F io α a := fun a z => .inr (m1 a z)
      have hO : ∀ a ob, H a = some ob → Al (Plus F p) io (fun i => if own.contains i || hid.contains i then α i else αe i) a → Al F io α a := fun a ob h z => by
        rcases z with (z | z) | z
        · exact .inl z
        · rw [z, n] at h; cases h
        · exact .inr (hm2 a ob h z)
      have S : Soft (Mu (ioH own hid io α) (αH own hid α)) H := fun a z => x.soft a (m1 a z)
      refine q0.move S o.ext hM hO (by simp only [q, if_true]) rfl rfl rfl fun a ha z => ?_
      rcases ha with ha | ha | ha
      · rcases z with ⟨j, z⟩ | ⟨j, z⟩
        · obtain ⟨z1, z2⟩ := αH_some z
          have e := x.inj i j a ha z1
          subst e
          rw [q] at z2; cases z2
        · exact x.aio i j a ha z
      · obtain ⟨d, e⟩ := x.ios i a ha
        simp only [Bool.or_eq_true] at q
        rcases q with q | q
        · have := hio i (by simpa using q)
          rw [e] at this; cases this
        · obtain ⟨d', e'⟩ := hh i (by simpa using q)
          rw [e] at e'; cases e'
      · exact (x.boH i a ha).2 (m1 a z)
    | false =>
      rw [q] at hi
      simp only [Bool.false_eq_true, if_false] at hi
      have q' : own.contains i = false ∧ hid.contains i = false := by simpa [Bool.or_eq_false_iff] using q
      refine (xe.slot i s hi).move (Soft.none H') (Ext.refl _ _) (fun _ z => z.elim) (fun a _ _ z => al a z) (by simp only [q]; rfl) (by rw [wipe_get, q'.1]; rfl) rfl ?_ fun a _ z => z
      show io.b i = (if hid.contains i && !own.contains i then α i else io.b i)
      rw [q'.2]; rfl
  · split
    · exact x.out i (by omega)
    · exact xe.out i (by omega)
  · obtain ⟨d, e⟩ := x.ios i a h
    obtain ⟨d2, e2⟩ := xe.ios i a h
    refine ⟨d2, ?_⟩
    rw [showFrom_get _ _ _ _ _ _ hlen, Nat.zero_add]
    cases q : (own.contains i || hid.contains i) with
    | true =>
      simp only [Bool.or_eq_true] at q
      rcases q with q | q
      · have := hio i (by simpa using q)
        rw [e] at this; cases this
      · obtain ⟨d', e'⟩ := hh i (by simpa using q)
        rw [e] at e'; cases e'
    | false => exact e2
  · cases q1 : (own.contains i || hid.contains i) <;> cases q2 : (own.contains j || hid.contains j) <;> simp only [q1, q2, if_true, Bool.false_eq_true, if_false] at h1 h2
    · exact xe.inj i j a h1 h2
    · exact (xe.aF a (.inl (.inr ⟨j, q2, h2⟩)) (.inl ⟨i, h1⟩)).elim
    · exact (xe.aF a (.inl (.inr ⟨i, q1, h1⟩)) (.inl ⟨j, h2⟩)).elim
    · exact x.inj i j a h1 h2
  · cases q1 : (own.contains i || hid.contains i) <;> simp only [q1, if_true, Bool.false_eq_true, if_false] at h1
    · exact xe.aio i j a h1 h2
    · exact x.aio i j a h1 h2
  · obtain ⟨⟨ob, hob⟩, nm⟩ := x.boH i a h
    exact ⟨o.there a ob hob, fun z => nm (hm2 a ob hob z)⟩
  · rcases h with h | h
    · obtain ⟨ob, hob⟩ := x.FH a h
      exact x.aF a h (hm2 a ob hob z)
    · subst h
      rcases hm a z with ⟨i, _, z⟩ | z
      · exact np i z
      · exact xe.aF a (.inr rfl) z
  · rcases h with h | h
    · obtain ⟨ob, hob⟩ := x.FH a h
      exact o.there a ob hob
    · exact xe.FH a (.inr h)

/-! ### the comprehension itself -/
def MuX (io : Fx) (α : Am) (hid : List Nat) : Addr → Prop := fun a => (∃ i, hid.contains i = false ∧ α i = some a) ∨ ∃ i, io.w i = some a
def tCv (P : Par) (W : WX) (m : M (List PyData × List Nat)) : TI := fun σ H Q => ∃ F io α r, R P.K F io α r σ H ∧ match m r with
  | .ok x r' => ∀ J H' α', On io α α' H H' → R P.K F io α' r' σ H' → (∀ i ∈ x.2, ∃ d, r'[i]? = some (.own d)) → Feed P.K (Al F io α') (MuX io α' x.2) J x.1 H' → Q J H'
  | .exc c fs r' => Thrown P W F io α H c fs r'
  | .stuck => False
abbrev W0 : WX := fun _ _ _ _ => False
theorem lc_ok {own : List Nat} {src : M (List PyData × List Nat)} {is : List Nat} {tg : PyData → M Unit} {test : M Bool} {elt : M Rs} {σ : St} {H : Hp} {Q : VK} (his : ∀ i ∈ is, i ∈ own) (h : tEv P W (lcV own src tg test elt) σ H Q) :
    tLc (tCv P W src) (tTg P is tg) (tBv P W0 test) (tEv P W0 elt) own σ H Q := by
  obtain ⟨F, io, α, r, x, h⟩ := h
  refine ⟨F, io, α, r, x, ?_⟩
  unfold lcV at h
  cases e : src r with
  | stuck => rw [e] at h; exact h
  | exc c fs r1 => rw [e] at h; exact h
  | ok dh r1 =>
    obtain ⟨ds, hid⟩ := dh
    rw [e] at h
    intro J H1 α1 o1 x1 hh fd D nD
    simp only at h
    cases eio : own.any (fun i => isIo r1[i]?) with
    | true => rw [eio] at h; simp at h
    | false =>
      rw [eio] at h
      simp only [Bool.false_eq_true, if_false] at h
      have hio : ∀ i ∈ own, isIo r1[i]? = false := fun i hi => by
        cases q : isIo r1[i]? with
        | false => rfl
        | true =>
          have : own.any (fun i => isIo r1[i]?) = true := List.any_eq_true.mpr ⟨i, hi, q⟩
          rw [eio] at this; cases this
      have hiw : ∀ i ∈ own, io.w i = none := fun i hi => by
        cases q : io.w i with
        | none => rfl
        | some a =>
          obtain ⟨d, e⟩ := x1.ios i a q
          have := hio i hi
          rw [e] at this; cases this
      cases e2 : lcL own tg test elt ds (hideFrom own hid 0 r1) with
      | stuck => simp only [e2] at h
      | exc c fs r2 => simp only [e2] at h
      | ok ys re =>
        simp only [e2] at h
        have xh := x1.hide hio hh
        have eD := ext_upd (o := .lst []) nD
        have x2 := xh.plus nD eD ⟨_, upd_same⟩
        have oD : On (ioH own hid io α1) (αH own hid α1) (αH own hid α1) H1 (upd H1 D (.lst [])) := On.same eD
        have nMD : ∀ {α2 : Am} {H2 : Hp} {r2 : Ev} {σ2 : St}, R P.K (Plus (FH' own hid F α1) D) (ioH own hid io α1) α2 r2 σ2 H2 → ¬ Mu (ioH own hid io α1) α2 D := fun x2 z => x2.aF D (.inr rfl) z
        have feedM : ∀ a, Mu (ioH own hid io α1) (αH own hid α1) a → MuX io α1 hid a := fun a z => by
          rcases z with ⟨i, z⟩ | z
          · obtain ⟨z1, z2⟩ := αH_some z
            refine .inl ⟨i, ?_, z1⟩
            cases q : hid.contains i with
            | false => rfl
            | true => rw [q, Bool.or_true] at z2; cases z2
          · exact .inr z
        refine ⟨fun i m H2 => m = ds.length - i ∧ i ≤ ds.length ∧ ∃ α2 r2 acc y0 y1, On (ioH own hid io α1) (αH own hid α1) α2 H1 H2 ∧ R P.K (Plus (FH' own hid F α1) D) (ioH own hid io α1) α2 r2 (wipe σ own) H2 ∧ H2 D = some (.lst acc) ∧
          RepL P.K (Al (Plus (FH' own hid F α1) D) (ioH own hid io α1) α2) H2 y0 acc ∧ y0.length ≤ i ∧ lcL own tg test elt (ds.drop i) r2 = .ok y1 re ∧ ys = y0 ++ y1,
          ⟨ds.length, by simp, Nat.zero_le _, αH own hid α1, _, [], [], ys, oD, x2, upd_same, by simp only [RepL], Nat.zero_le _, by simpa using e2, rfl⟩, ?_⟩
        rintro i m H2 ⟨rfl, hi, α2, r2, acc, y0, y1, o2, x2, hD, ry, hy, g, ey⟩
        have oX : Ext (MuX io α1 hid) H1 H2 := o2.ext.mono feedM
        by_cases hlt : i < ds.length
        · refine .inr ⟨fd.go i H2 hlt oX, fun H3 => ∃ α2 r2 acc y0 y1, On (ioH own hid io α1) (αH own hid α1) α2 H1 H3 ∧ R P.K (Plus (FH' own hid F α1) D) (ioH own hid io α1) α2 r2 (wipe σ own) H3 ∧ H3 D = some (.lst acc) ∧
            RepL P.K (Al (Plus (FH' own hid F α1) D) (ioH own hid io α1) α2) H3 y0 acc ∧ y0.length ≤ i + 1 ∧ lcL own tg test elt (ds.drop (i + 1)) r2 = .ok y1 re ∧ ys = y0 ++ y1, ?_, ?_⟩
          · rintro H3 ⟨α3, r3, acc3, z0, z1, a1, a2, a3, a4, a5, a6, a7⟩
            exact ⟨ds.length - (i + 1), by omega, rfl, hlt, α3, r3, acc3, z0, z1, a1, a2, a3, a4, a5, a6, a7⟩
          · intro v H3 y
            have hd : ds[i]? = some ds[i] := List.getElem?_eq_getElem hlt
            obtain ⟨e3, rp⟩ := fd.yld i ds[i] H2 v H3 hd oX y
            have x3 := x2.same e3
            rw [List.drop_eq_getElem_cons hlt] at g
            have alO : ∀ a ob, H1 a = some ob → Al (Plus (FH' own hid F α1) D) (ioH own hid io α1) α2 a → Al F io α1 a := fun a ob q z => by
              rcases z with (z | z) | z
              · rcases z with z | ⟨j, _, z⟩
                · exact .inl z
                · exact .inr (.inl ⟨j, z⟩)
              · rw [z, nD] at q; cases q
              · exact .inr (αH_mu (o2.sub a ob q z))
            refine ⟨_, _, α2, r2, ds[i], x3, rp _ alO (fun a z => x2.tracked z), ?_⟩
            unfold lcL at g
            cases e4 : tg ds[i] r2 with
            | stuck => simp only [e4] at g; cases g
            | exc c fs r4 => simp only [e4] at g; cases g
            | ok u r4 =>
              simp only [e4] at g
              intro σ4 α4 o4 hw x4
              have hw4 : wipe σ4 own = wipe (wipe σ own) own := hw own his
              have ww : wipe (wipe σ own) own = wipe σ own := by
                apply List.ext_getElem?
                intro k
                rw [wipe_get, wipe_get]
                split
                · rename_i hk; cases σ[k]? <;> rfl
                · rfl
              refine ⟨hw4.trans ww, ?_⟩
              have o13 : On (ioH own hid io α1) (αH own hid α1) α4 H1 H3 := (o2.trans (On.same e3)).trans o4
              have hD3 : H3 D = some (.lst acc) := e3 _ _ hD fun z => z
              have ry3 : RepL P.K (Al (Plus (FH' own hid F α1) D) (ioH own hid io α1) α4) H3 y0 acc := RepL.ext (Soft.none H2) e3 (fun _ z => z.elim) (fun a ob q z => by
                obtain ⟨ob', q'⟩ : ∃ ob', H3 a = some ob' := ⟨_, e3 a ob q fun z => z⟩
                rcases z with z | z
                · exact .inl z
                · exact .inr (o4.sub a ob' q' z)) ry
              refine ⟨_, _, α4, r4, x4, ?_⟩
              -- again, from a state with the names wiped
              have again : ∀ {α5 : Am} {r5 : Ev} {H5 : Hp} {z0 z1 : List PyData} {acc5 : List V}, On (ioH own hid io α1) (αH own hid α1) α5 H1 H5 → R P.K (Plus (FH' own hid F α1) D) (ioH own hid io α1) α5 r5 σ4 H5 → H5 D = some (.lst acc5) →
                  RepL P.K (Al (Plus (FH' own hid F α1) D) (ioH own hid io α1) α5) H5 z0 acc5 → z0.length ≤ i + 1 → lcL own tg test elt (ds.drop (i + 1)) (hideFrom own [] 0 r5) = .ok z1 re → ys = z0 ++ z1 →
                  ∃ α2 r2 acc y0 y1, On (ioH own hid io α1) (αH own hid α1) α2 H1 H5 ∧ R P.K (Plus (FH' own hid F α1) D) (ioH own hid io α1) α2 r2 (wipe σ own) H5 ∧ H5 D = some (.lst acc) ∧
                    RepL P.K (Al (Plus (FH' own hid F α1) D) (ioH own hid io α1) α2) H5 y0 acc ∧ y0.length ≤ i + 1 ∧ lcL own tg test elt (ds.drop (i + 1)) r2 = .ok y1 re ∧ ys = y0 ++ y1 := fun {α5 r5 H5 z0 z1 acc5} p1 p2 p3 p4 p5 p6 p7 => by
                obtain ⟨α6, o6, x6⟩ := p2.wiped hiw
                rw [hw4.trans ww] at x6
                exact ⟨α6, _, acc5, z0, z1, p1.trans o6, x6, p3, RepL.ext (Soft.none H5) (Ext.refl _ _) (fun _ z => z.elim) (fun a ob q z => z.imp id (o6.sub a ob q)) p4, p5, p6, p7⟩
              cases e5 : test r4 with
              | stuck => simp only [e5] at g; cases g
              | exc c fs r5 => simp only [e5] at g; cases g
              | ok b r5 =>
                intro H5 α5 o5 x5
                have hD5 : H5 D = some (.lst acc) := o5.ext _ _ hD3 (nMD x4)
                have ry5 : RepL P.K (Al (Plus (FH' own hid F α1) D) (ioH own hid io α1) α5) H5 y0 acc := RepL.ext x4.soft o5.ext (fun a z => .inr z) (fun a ob q z => z.imp id (o5.sub a ob q)) ry3
                cases b with
                | false =>
                  simp only [e5] at g
                  exact iteF (again (o13.trans o5) x5 hD5 ry5 (by omega) g ey)
                | true =>
                  simp only [e5] at g
                  refine iteT ⟨_, _, α5, r5, x5, ?_⟩
                  cases e6 : elt r5 with
                  | stuck => simp only [e6] at g; cases g
                  | exc c fs r6 => simp only [e6] at g; cases g
                  | ok z r6 =>
                    simp only [e6] at g
                    intro yv H6 α6 o6 q6
                    obtain ⟨z2, e7, x6, q7⟩ := q6.held
                    simp only [e7] at g
                    rcases keep_no z2 r6 with ⟨yd, r7, e8⟩ | e8
                    · simp only [e8] at g
                      obtain ⟨α7, o7, x7, q8, s7⟩ := keep_ok x6 q7 e8
                      cases e9 : lcL own tg test elt (ds.drop (i + 1)) (hideFrom own [] 0 r7) with
                      | stuck => simp only [e9] at g; cases g
                      | exc c fs r8 => simp only [e9] at g; cases g
                      | ok zs r8 =>
                        simp only [e9] at g
                        cases g
                        have hD6 : H6 D = some (.lst acc) := o6.ext _ _ hD5 (nMD x5)
                        have ry7 : RepL P.K (Al (Plus (FH' own hid F α1) D) (ioH own hid io α1) α7) H6 y0 acc := RepL.ext x5.soft o6.ext (fun a z => .inr z) (fun a ob q z => by
                          obtain ⟨ob', q'⟩ := o6.there a ob q
                          rcases z with z | z
                          · exact .inl z
                          · exact .inr (o6.sub a ob q (o7.sub a ob' q' z))) ry5
                        have le : acc.length < sizeLine := by
                          have z1 := ry7.length
                          have z2 : ds.length ≤ sizeLine := fd.size
                          omega
                        refine ⟨acc, hD6, le, ?_⟩
                        -- the list grows
                        have eU : Ext (fun a => a = D) H6 (upd H6 D (.lst (acc ++ [yv]))) := fun a ob q n => by rw [upd_ne n]; exact q
                        have sU : Soft (fun a => a = D) H6 := fun a z => by rw [z]; exact .inl ⟨_, hD6⟩
                        have mU : ∀ a, a = D → Al (Plus (FH' own hid F α1) D) (ioH own hid io α1) α7 a := fun a z => .inl (.inr z)
                        have x8 : R P.K (Plus (FH' own hid F α1) D) (ioH own hid io α1) α7 r7 σ4 (upd H6 D (.lst (acc ++ [yv]))) := by
                          have thr : ∀ a ob, H6 a = some ob → ∃ ob', (upd H6 D (.lst (acc ++ [yv]))) a = some ob' := fun a ob q => by
                            by_cases n : a = D
                            · rw [n]; exact ⟨_, upd_same⟩
                            · exact ⟨_, eU a ob q n⟩
                          refine ⟨x7.len, fun j s hj => (x7.slot j s hj).ext' sU eU mU (fun _ _ _ z => z) fun a ha z => ?_, x7.out, x7.ios, x7.inj, x7.ioj, x7.aio, fun j a ha => ⟨(x7.boH j a ha).1.elim fun ob q => thr a ob q, (x7.boH j a ha).2⟩, x7.aF, fun a ha => (x7.FH a ha).elim fun ob q => thr a ob q⟩
                          subst z
                          rcases ha with ha | ha | ha
                          · exact nMD x7 (.inl ⟨j, ha⟩)
                          · exact nMD x7 (.inr ⟨j, ha⟩)
                          · obtain ⟨ob, q⟩ := (xh.boH j a ha).1
                            rw [nD] at q; cases q
                        have o8 : On (ioH own hid io α1) (αH own hid α1) α7 H1 (upd H6 D (.lst (acc ++ [yv]))) := by
                          have o17 := ((o13.trans o5).trans o6).trans o7
                          refine ⟨o17.sub, fun a ob q n => ?_, fun a ob q => ?_⟩
                          · rw [upd_ne (ne_of_none q nD)]; exact o17.ext a ob q n
                          · rw [upd_ne (ne_of_none q nD)]; exact o17.there a ob q
                        refine again (z0 := y0 ++ [yd]) o8 x8 upd_same ?_ (by rw [List.length_append]; simp; omega) e9 (by rw [ey, List.append_assoc]; rfl)
                        refine RepL.append (RepL.ext sU eU mU (fun _ _ _ z => z) ry7) ?_
                        simp only [RepL]
                        exact ⟨yv, [], rfl, Rep.ext sU eU mU (fun _ _ _ z => z) q8, rfl⟩
                    · simp only [e8] at g; cases g
        · have e3 : i = ds.length := by omega
          subst e3
          refine .inl ⟨fd.stop H2 oX, ?_⟩
          rw [List.drop_length] at g
          unfold lcL at g
          cases g
          rw [List.append_nil] at ey
          subst ey
          obtain ⟨α3, o3, x3, s3⟩ := x1.shown hio hh nD x2 o2
          refine h (.ref D) H2 α3 (o1.trans o3) ⟨D, rfl, o1.free nD, x3, ?_, ?_, acc, hD, RepL.ext (Soft.none H2) (Ext.refl _ _) (fun _ z => z.elim) (fun a _ _ z => s3 a z) ry⟩
          · intro z
            obtain ⟨ob, q⟩ := x1.FH D z
            rw [nD] at q; cases q
          · exact fun z => x3.aF D (.inr rfl) z
end
end Ip

set_option Elab.async false
set_option linter.all false
set_option maxRecDepth 100000
set_option maxHeartbeats 1000000
/-! What loops and comprehensions walk. -/
namespace Ip
open PySem PySem.Spec PyProof.Rows L2
section
variable {K : PySem.W.Frag} {F F' : Addr → Prop} {io io' : Fx} {α α' α1 : Am} {r r' r0 : Ev} {σ σ' : St} {H H' H0 H1 : Hp} {v : V} {P : Par} {W : WX} {X : Cx} {D : Ends}
theorem Feed.mono {O O' M M' : Addr → Prop} {J : It} {ds : List PyData} (h : Feed K O M J ds H) (hO : ∀ a, O' a → O a) (hM : ∀ a, M' a → M a) : Feed K O' M' J ds H :=
  ⟨h.size, fun i H' hi e => h.go i H' hi (e.mono hM), fun H' e => h.stop H' (e.mono hM), fun i d H1 x H2 hd e y => by
    obtain ⟨a, b⟩ := h.yld i d H1 x H2 hd (e.mono hM) y
    exact ⟨a, fun O2 q1 q2 => b O2 (fun a o h z => hO a (q1 a o h z)) q2⟩⟩
/-- lists that are walked by a for are data from now on -/
theorem R.demoteL : ∀ {is : List Nat} {r : Ev} {α : Am}, R K F io α r σ H → ∃ α2, On io α α2 H H ∧ R K F io α2 (Ip.demoteL is r) σ H ∧ (∀ a, Al F io α2 a → Al F io α a) ∧ ∀ j a, α2 j = some a → α j = some a ∧ j ∉ is
  | [], r, α, x => ⟨α, On.refl _ _ _, x, fun _ z => z, fun j a h => ⟨h, by simp⟩⟩
  | i :: is, r, α, x => by
    unfold Ip.demoteL
    cases e : ownAt r[i]? with
    | none =>
      obtain ⟨α2, o2, x2, l2, s2⟩ := R.demoteL (is := is) x
      refine ⟨α2, o2, x2, l2, fun j a h => ⟨(s2 j a h).1, fun z => ?_⟩⟩
      rcases List.mem_cons.mp z with z | z
      · subst z
        obtain ⟨d, q⟩ := x.own_at (s2 j a h).1
        rw [q] at e; cases e
      · exact (s2 j a h).2 z
    | some d =>
      obtain ⟨b, _, _, x1, _, _⟩ := x.demote e
      obtain ⟨α2, o2, x2, l2, s2⟩ := R.demoteL (is := is) x1
      refine ⟨α2, On.less.trans o2, x2, fun a z => al_less (l2 a z), fun j a h => ?_⟩
      obtain ⟨z1, z2⟩ := s2 j a h
      refine ⟨upd1_no z1, fun z => ?_⟩
      rcases List.mem_cons.mp z with z | z
      · subst z
        rw [upd1_eq] at z1; cases z1
      · exact z2 z
theorem unhid_ok {m : M (List PyData × List Nat)} {σ : St} {H : Hp} {Q : It → Hp → Prop} (h : tSv P W (unhid m) σ H Q) : tCv P W m σ H Q := by
  obtain ⟨F, io, α, r, x, h⟩ := h
  refine ⟨F, io, α, r, x, ?_⟩
  unfold unhid at h
  cases e : m r with
  | stuck => rw [e] at h; exact h
  | exc c fs r1 => rw [e] at h; exact h
  | ok y r1 =>
    rw [e] at h
    intro J H1 α1 o1 x1 hh fd
    obtain ⟨α2, o2, x2, l2, s2⟩ := x1.demoteL (is := y.2)
    refine h J H1 α2 (o1.trans o2) x2 (fd.mono l2 fun a z => ?_)
    rcases z with ⟨j, z⟩ | z
    · obtain ⟨z1, z2⟩ := s2 j a z
      exact .inl ⟨j, by simpa using z2, z1⟩
    · exact .inr z
/-- more lists are changed no more -/
def demM (ds : List Nat) (m : M (List PyData)) : M (List PyData) := fun r => match m r with
  | .ok x r => .ok x (demoteL ds r)
  | .exc c fs r => .exc c fs r
  | .stuck => .stuck
theorem demM_ok {ds : List Nat} {m : M (List PyData)} {σ : St} {H : Hp} {Q : It → Hp → Prop} (h : tSv P W (demM ds m) σ H Q) : tSv P W m σ H Q := by
  obtain ⟨F, io, α, r, x, h⟩ := h
  refine ⟨F, io, α, r, x, ?_⟩
  unfold demM at h
  cases e : m r with
  | stuck => rw [e] at h; exact h
  | exc c fs r1 => rw [e] at h; exact h
  | ok xs r1 =>
    rw [e] at h
    intro J H1 α1 o1 x1 fd
    obtain ⟨α2, o2, x2, sA, sM⟩ := x1.demoteL (is := ds)
    refine h J H1 α2 (o1.trans o2) x2 (fd.mono sA fun a z => ?_)
    exact z.imp (fun ⟨j, q⟩ => ⟨j, (sM j a q).1⟩) id
theorem PI.weak {tg iter : Expr} {t t' : TI} (h : PI X tg iter t) (i : ∀ σ H Q, t' σ H Q → t σ H Q) : PI X tg iter t' := ⟨fun pins s σ H Q I q => h.run pins s σ H Q I (i σ H Q q)⟩
theorem pi_unhid {tg iter : Expr} {m : M (List PyData × List Nat)} (h : PI X tg iter (tCv P W m)) : PI X tg iter (tSv P W (unhid m)) := PI.weak h fun σ H Q q => unhid_ok q

/-! ### a list, a tuple -/
/-- what is seen of a source: a list or tuple of data; where it stands -/
def SeenAt (K : PySem.W.Frag) (O M : Addr → Prop) (H : Hp) (v : V) (ds : List PyData) : Prop :=
  Soft M H ∧ (∀ a, M a → O a) ∧ ∃ a vs, v = .ref a ∧ RepL K O H ds vs ∧ ((∀ H', Ext M H H' → SqL K H' a vs) ∨ ∀ H', Ext M H H' → SqT K H' a vs)
theorem see_ok {y : Rs} {d : PyData} {hid : List Nat} {ds : List PyData} (h : RR K F io α r σ H0 H v y) (e : seeC y r = some (d, hid)) (ei : items d = some ds) :
    R K F io α r σ H ∧ SeenAt K (Al F io α) (MuX io α hid) H v ds ∧ ∀ i ∈ hid, ∃ d, r[i]? = some (.own d) := by
  have muX : ∀ a, MuX io α [] a → Mu io α a := fun a z => z.imp (fun ⟨i, _, z⟩ => ⟨i, z⟩) id
  have soft : R K F io α r σ H → Soft (MuX io α hid) H := fun x a z => x.soft a (z.imp (fun ⟨i, _, z⟩ => ⟨i, z⟩) id)
  have muA : ∀ a, MuX io α hid a → Al F io α a := fun a z => .inr (z.imp (fun ⟨i, _, z⟩ => ⟨i, z⟩) id)
  have fin : ∀ {a : Addr}, R K F io α r σ H → ¬ MuX io α hid a → View K (Al F io α) H d (.ref a) → SeenAt K (Al F io α) (MuX io α hid) H (.ref a) ds := fun {a} x n w => by
    cases d with
    | list xs =>
      cases ei
      obtain ⟨b, vs, eb, q, rp⟩ := w
      cases eb
      exact ⟨soft x, muA, a, vs, rfl, rp, .inl fun H' e => SqL.ext e n q⟩
    | tuple xs =>
      cases ei
      obtain ⟨b, vs, eb, q, rp⟩ := w.tup
      cases eb
      exact ⟨soft x, muA, a, vs, rfl, rp, .inr fun H' e => SqT.ext (soft x) e q⟩
    | _ => cases ei
  cases y with
  | dat d' =>
    cases e
    obtain ⟨x, rp⟩ := h
    refine ⟨x, ?_, fun i hi => by simp at hi⟩
    cases d with
    | list xs =>
      cases ei
      simp only [Rep] at rp
      obtain ⟨a, vs, rfl, q, rl⟩ := rp
      refine ⟨soft x, muA, a, vs, rfl, rl, .inl fun H' e => ?_⟩
      rcases q with ⟨q1, q2⟩ | q
      · exact SqL.ext e (fun z => q1 (.inr (muX a z))) (.inl q2)
      · exact .inr q
    | tuple xs =>
      cases ei
      simp only [Rep] at rp
      obtain ⟨a, vs, rfl, q, rl⟩ := rp
      exact ⟨soft x, muA, a, vs, rfl, rl, .inr fun H' e => SqT.ext (soft x) e q.1⟩
    | _ => cases ei
  | fresh d' =>
    cases e
    obtain ⟨p, rfl, _, x, nF, nM, c⟩ := h
    have c' : Cell K (Al F io α) H d p := c.ext (Soft.none H) (Ext.refl _ _) (fun _ z => z.elim) (fun a _ _ z => z.imp (fun q => .inl q) id) (fun z => z)
    exact ⟨x.weak fun _ z => .inl z, fin (x.weak fun _ z => .inl z) (fun z => nM (muX p z)) c'.view, fun i hi => by simp at hi⟩
  | var i =>
    obtain ⟨x, hv, a, rfl⟩ := h
    have e' : (match r[i]? with | some (.own d) => some (d, [i]) | some (.bor d) => some (d, []) | _ => none) = some (d, hid) := e
    cases q : r[i]? with
    | none => rw [q] at e'; cases e'
    | some s =>
      rw [q] at e'
      have qs := x.slot i s q
      cases s with
      | own z =>
        cases e'
        obtain ⟨b, e1, e2, c⟩ := qs
        rw [hv] at e2
        cases e2
        refine ⟨x, fin x ?_ c.view, fun j hj => ?_⟩
        · rintro (⟨j, n, z⟩ | ⟨j, z⟩)
          · have := x.inj i j a e1 z
            subst this
            simp at n
          · exact x.aio i j a e1 z
        · have : j = i := by simpa using hj
          subst this
          exact ⟨_, q⟩
      | bor z =>
        cases e'
        obtain ⟨_, b, e1, e2, c⟩ := qs
        rw [hv] at e2
        cases e2
        exact ⟨x, fin x (fun z => (x.boH i a e1).2 (muX a z)) c, fun j hj => by simp at hj⟩
      | _ => cases e'

/-- the source's value, seen -/
theorem srcC_ok {m : M Rs} {σ : St} {H : Hp} {Q : It → Hp → Prop} (h : tCv P W (srcC m) σ H Q) : tEv P W m σ H fun v H1 => ∃ F io α1 r1 ds hid O, R P.K F io α1 r1 σ H1 ∧ SeenAt P.K O (MuX io α1 hid) H1 v ds ∧ ∀ J, Feed P.K O (MuX io α1 hid) J ds H1 → Q J H1 := by
  obtain ⟨F, io, α, r, x, h⟩ := h
  refine ⟨F, io, α, r, x, ?_⟩
  unfold srcC at h
  cases e : m r with
  | stuck => rw [e] at h; exact h
  | exc c fs r1 => rw [e] at h; exact h
  | ok y r1 =>
    rw [e] at h
    intro v H1 α1 o1 q1
    cases e2 : seeC y r1 with
    | none => simp only [e2] at h
    | some dh =>
      obtain ⟨d, hid⟩ := dh
      simp only [e2] at h
      cases e3 : items d with
      | none => simp only [e3] at h
      | some ds =>
        simp only [e3] at h
        obtain ⟨x1, sn, hh⟩ := see_ok q1 e2 e3
        exact ⟨F, io, α1, r1, ds, hid, _, x1, sn, fun J fd => h J H1 α1 o1 x1 hh fd⟩
theorem feed_list {O M : Addr → Prop} {a : Addr} {vs : List V} {ds : List PyData} (hz : ds.length ≤ sizeLine) (rp : RepL K O H ds vs) (sf : Soft M H) (hM : ∀ a, M a → O a) (st : ∀ H', Ext M H H' → SqL K H' a vs) : Feed K O M (Itl K a) ds H := by
  have hl := rp.length
  refine ⟨hz, fun i H' hi e => ?_, fun H' e => ⟨vs, st H' e, by omega⟩, fun i d H1 x H2 hd e y => ?_⟩
  · exact ⟨vs, vs[i]'(by omega), st H' e, List.getElem?_eq_getElem _⟩
  · obtain ⟨rfl, y⟩ := y
    obtain ⟨w, hw, rw'⟩ := rp.get hd
    have := y vs (st _ e)
    rw [hw] at this
    cases this
    exact ⟨Ext.refl _ _, fun O' q1 q2 => .inl (Rep.ext sf e hM q1 rw')⟩
theorem feed_tup {O M : Addr → Prop} {a : Addr} {vs : List V} {ds : List PyData} (hz : ds.length ≤ sizeLine) (rp : RepL K O H ds vs) (sf : Soft M H) (hM : ∀ a, M a → O a) (st : ∀ H', Ext M H H' → SqT K H' a vs) : Feed K O M (Itt K a) ds H := by
  have hl := rp.length
  refine ⟨hz, fun i H' hi e => ?_, fun H' e => ⟨vs, st H' e, by omega⟩, fun i d H1 x H2 hd e y => ?_⟩
  · exact ⟨vs, vs[i]'(by omega), st H' e, List.getElem?_eq_getElem _⟩
  · obtain ⟨rfl, y⟩ := y
    obtain ⟨w, hw, rw'⟩ := rp.get hd
    have := y vs (st _ e)
    rw [hw] at this
    cases this
    exact ⟨Ext.refl _ _, fun O' q1 q2 => .inl (Rep.ext sf e hM q1 rw')⟩

/-- a new iterator of one record -/
theorem pie_one {pins : List (Addr × Obj)} {tg : Expr} {J : It} {tn : Nat → Heap → Prop} {s1 : Shared} {ob : Obj} {R' : It → Hp → Prop} (I1 : Inv X pins σ H1 s1) (T : Turn X.prog X.w X.K tg J [s1.heap.objs.size] s1.heap.objs.size tn) (t0 : tn 0 (s1.heap.push ob)) (q : R' J H1) :
    PIE X pins σ tg R' (.ref s1.heap.objs.size) { s1 with heap := s1.heap.push ob } := by
  refine ⟨_, [s1.heap.objs.size], tn, J, H1, rfl, I1.kept (t' := s1.toks) (fun b o z => Heap.get?_push_of_some _ z), T, t0, fun b hb => ?_, q⟩
  rw [show b = s1.heap.objs.size by simpa using hb]
  exact I1.fpOk (Nat.le_refl _) (I1.hok.fresh (Nat.le_refl _))
theorem pi_seq (hK : P.K = X.K) {tg l : Expr} {m : M Rs} (hl : PE X l (tEv P W m)) : PI X tg l (tCv P W (srcC m)) := by
  refine ⟨fun pins s σ H R' I h => thn (hl.run pins s σ H _ I (srcC_ok h)) fun u s1 ⟨x, H1, I1, r1, q1⟩ => ?_⟩
  obtain ⟨F, io, α1, ρ1, ds, hid, O, xR, ⟨sf, hM, a, vs, rfl, rp, st⟩, q⟩ := q1
  cases r1
  rw [hK] at rp st q
  rcases st with st | st
  · obtain ⟨us, rv, pl, hz⟩ := I1.list (st H1 (Ext.refl _ _))
    exact wpAny_pyIter_list pl.isList (pie_one I1 (turn_list a _) ⟨_, Heap.get?_push_size _ rfl, rfl, rfl⟩ (q _ (feed_list (by rw [rp.length]; exact hz) rp sf hM st)))
  · obtain ⟨us, rv, pl, hz⟩ := I1.tuple (st H1 (Ext.refl _ _))
    exact wpAny_pyIter_tuple (show s1.heap.IsTuple a us.toArray from pl) (pie_one I1 (turn_tuple a _) ⟨_, Heap.get?_push_size _ rfl, rfl, rfl⟩ (q _ (feed_tup (by rw [rp.length]; exact hz) rp sf hM st)))

/-! ### range -/
theorem mapM_ints : ∀ {ds : List PyData} {is : List Int}, ds.mapM intOf = some is → ds = is.map PyData.int
  | [], is, h => by
    simp at h
    rw [h]; rfl
  | d :: ds, is, h => by
    rw [List.mapM_cons] at h
    cases d with
    | int i =>
      simp only [intOf, Option.pure_def, Option.bind_eq_bind, Option.bind_some, Option.bind_eq_some_iff] at h
      obtain ⟨js, h1, h2⟩ := h
      cases h2
      rw [mapM_ints h1]; rfl
    | _ => simp [intOf] at h
theorem views_ints {O : Addr → Prop} : ∀ {is : List Int} {vs : List V}, Views K O H (is.map PyData.int) vs → vs = is.map V.int
  | [], vs, h => h
  | i :: is, vs, h => by
    obtain ⟨w, ws, rfl, h1, h2⟩ := h
    rw [h1.int, views_ints h2]; rfl
theorem srcR_ok {ms : List (M Rs)} {σ : St} {H : Hp} {Q : It → Hp → Prop} (h : tCv P W (srcR ms) σ H Q) : tAv P W ms σ H fun vs H1 => ∃ is ds, vs = is.map V.int ∧ rangeOf is = some ds ∧ ∃ O M, Soft M H1 ∧ ∀ J, Feed P.K O M J ds H1 → Q J H1 := by
  obtain ⟨F, io, α, r, x, h⟩ := h
  refine ⟨F, io, α, r, x, ?_⟩
  unfold srcR intsM at h
  cases e : args ms r with
  | stuck => rw [e] at h; exact h
  | exc c fs r1 => rw [e] at h; exact h
  | ok ys r1 =>
    rw [e] at h
    intro vs H1 α1 o1 x1 q1
    rcases looks_no ys r1 with ⟨ds, e2⟩ | e2
    · simp only [e2] at h
      cases e3 : ds.mapM intOf with
      | none => rw [e3] at h; exact h.elim
      | some is =>
        rw [e3] at h
        have h : (match (match rangeOf is with | some ds => Res.ok (ds, ([] : List Nat)) r1 | none => .stuck) with
          | .ok x r' => ∀ J H' α', On io α α' H H' → R P.K F io α' r' σ H' → (∀ i ∈ x.2, ∃ d, r'[i]? = some (.own d)) → Feed P.K (Al F io α') (MuX io α' x.2) J x.1 H' → Q J H'
          | .exc c fs r' => Thrown P W F io α H c fs r'
          | .stuck => False) := h
        have hv := seens_of x1 e2 q1
        rw [mapM_ints e3] at hv
        cases e4 : rangeOf is with
        | none => rw [e4] at h; exact h.elim
        | some js =>
          rw [e4] at h
          exact ⟨is, js, views_ints hv, e4, Al F io α1, MuX io α1 [], fun a z => x1.soft a (z.imp (fun ⟨i, _, z⟩ => ⟨i, z⟩) id), fun J fd => h J H1 α1 o1 x1 (fun i hi => by simp at hi) fd⟩
    · simp only [e2] at h
theorem rangeL_len (lo c : Int) (n : Nat) : (rangeL lo c n).length = n := by unfold rangeL; simp
theorem rangeL_get {lo c : Int} {n i : Nat} {d : PyData} (h : (rangeL lo c n)[i]? = some d) : d = .int (lo + (i : Nat) * c) := by
  unfold rangeL at h
  rw [List.getElem?_map] at h
  obtain ⟨j, h1, rfl⟩ := Option.map_eq_some_iff.mp h
  by_cases q : i < n
  · rw [List.getElem?_range q] at h1
    cases h1; rfl
  · rw [List.getElem?_eq_none (by simpa using q)] at h1; cases h1
theorem feed_range {O M : Addr → Prop} {lo : Int} {n : Nat} (hz : n ≤ sizeLine) : Feed K O M (Itr lo n) (rangeL lo 1 n) H := by
  have hl := rangeL_len lo 1 n
  refine ⟨by rw [hl]; exact hz, fun i H' hi e => by rw [hl] at hi; exact hi, fun H' e => by rw [hl]; exact Nat.le_refl _, fun i d H1 x H2 hd e y => ?_⟩
  obtain ⟨rfl, rfl⟩ := y
  rw [rangeL_get hd]
  exact ⟨Ext.refl _ _, fun O' q1 q2 => .inl (by simp only [Rep]; rw [Int.mul_one])⟩
theorem feed_rangeC {O M : Addr → Prop} {lo c : Int} {n : Nat} (hz : n ≤ sizeLine) : Feed K O M (Itc lo c n) (rangeL lo c n) H := by
  have hl := rangeL_len lo c n
  refine ⟨by rw [hl]; exact hz, fun i H' hi e => by rw [hl] at hi; exact hi, fun H' e => by rw [hl]; exact Nat.le_refl _, fun i d H1 x H2 hd e y => ?_⟩
  obtain ⟨rfl, rfl⟩ := y
  rw [rangeL_get hd]
  exact ⟨Ext.refl _ _, fun O' q1 q2 => .inl (by simp only [Rep])⟩
theorem toNat_size {i : Int} (h : i ≤ 16777216) : i.toNat ≤ sizeLine := by
  rw [sizeLine_eq]; omega
theorem inside_iff {i : Int} (h : inside i = true) : -16777216 ≤ i ∧ i ≤ 16777216 := by
  unfold inside at h
  simpa using h
theorem args_len : ∀ {ms : List (M Rs)} {r r' : Ev} {ys : List Rs}, args ms r = .ok ys r' → ys.length = ms.length
  | [], r, r', ys, h => by
    unfold args at h
    cases h; rfl
  | m :: ms, r, r', ys, h => by
    unfold args at h
    cases e : m r with
    | stuck => simp only [e] at h; cases h
    | exc c fs r1 => simp only [e] at h; cases h
    | ok y r1 =>
      simp only [e] at h
      cases e2 : hold y r1 with
      | stuck => simp only [e2] at h; cases h
      | exc c fs r2 => simp only [e2] at h; cases h
      | ok z r2 =>
        simp only [e2] at h
        cases e3 : args ms r2 with
        | stuck => simp only [e3] at h; cases h
        | exc c fs r3 => simp only [e3] at h; cases h
        | ok zs r3 =>
          simp only [e3] at h
          cases h
          simp [args_len e3]
theorem map_len {α β : Type} {f : α → β} {is : List α} {vs : List β} {n : Nat} (h : vs = is.map f) (l : vs.length = n) : is.length = n := by rw [h, List.length_map] at l; exact l
theorem pi_r1 {tg a : Expr} {m : M Rs} {p pos : Pos} (hg : Gl X "range") (hm : X.mg "range" = none) (ha : PA X [a] (tAv P W [m])) (hs : starEach [a] X.env = [(false, eval a X.env)]) : PI X tg (.Call (.Name "range" p) [a] [] pos) (tCv P W (srcR [m])) :=
  PI.weak (pi_range1 hg hm ha hs) fun σ H Q h => by
    obtain ⟨F, io, α, r, x, q⟩ := srcR_ok h
    refine ⟨F, io, α, r, x, ?_⟩
    cases e : args [m] r with
    | stuck => rw [e] at q; exact q
    | exc c fs r1 => rw [e] at q; exact q
    | ok ys r1 =>
      rw [e] at q
      intro vs H1 α1 o1 x1 q1
      obtain ⟨is, ds, e1, e2, O, M, _, k⟩ := q vs H1 α1 o1 x1 q1
      have l := map_len e1 ((RVs.get q1).1.trans (args_len e))
      obtain ⟨j, rfl⟩ : ∃ j, is = [j] := List.length_eq_one_iff.mp l
      have e2 : (if inside j && decide (j ≤ 16777216) then some (rangeL 0 1 j.toNat) else none) = some ds := e2
      split at e2
      · rename_i hc
        cases e2
        simp only [Bool.and_eq_true, decide_eq_true_eq] at hc
        obtain ⟨h1, h2⟩ := inside_iff hc.1
        exact ⟨j, e1, by omega, by omega, k _ (feed_range (toNat_size hc.2))⟩
      · cases e2
theorem two_of {is : List Int} (l : is.length = 2) : ∃ i j, is = [i, j] := by
  match is, l with
  | [i, j], _ => exact ⟨i, j, rfl⟩
theorem three_of {is : List Int} (l : is.length = 3) : ∃ i j k, is = [i, j, k] := by
  match is, l with
  | [i, j, k], _ => exact ⟨i, j, k, rfl⟩
theorem pi_r2 {tg a b : Expr} {m m2 : M Rs} {p pos : Pos} (hg : Gl X "range") (hm : X.mg "range" = none) (ha : PA X [a, b] (tAv P W [m, m2])) (hs : starEach [a, b] X.env = [(false, eval a X.env), (false, eval b X.env)]) (hs2 : starEach [b] X.env = [(false, eval b X.env)]) :
    PI X tg (.Call (.Name "range" p) [a, b] [] pos) (tCv P W (srcR [m, m2])) :=
  PI.weak (pi_range2 hg hm ha hs hs2) fun σ H Q h => by
    obtain ⟨F, io, α, r, x, q⟩ := srcR_ok h
    refine ⟨F, io, α, r, x, ?_⟩
    cases e : args [m, m2] r with
    | stuck => rw [e] at q; exact q
    | exc c fs r1 => rw [e] at q; exact q
    | ok ys r1 =>
      rw [e] at q
      intro vs H1 α1 o1 x1 q1
      obtain ⟨is, ds, e1, e2, O, M, _, k⟩ := q vs H1 α1 o1 x1 q1
      obtain ⟨i, j, rfl⟩ := two_of (map_len e1 ((RVs.get q1).1.trans (args_len e)))
      have e2 : (if inside i && inside j && decide (j - i ≤ 16777216) then some (rangeL i 1 (j - i).toNat) else none) = some ds := e2
      split at e2
      · rename_i hc
        cases e2
        simp only [Bool.and_eq_true, decide_eq_true_eq] at hc
        obtain ⟨h1, h2⟩ := inside_iff hc.1.1
        obtain ⟨h3, h4⟩ := inside_iff hc.1.2
        exact ⟨i, j, e1, ⟨by omega, by omega, by omega, by omega⟩, k _ (feed_range (toNat_size hc.2))⟩
      · cases e2
theorem pi_r3 {tg a b c : Expr} {m m2 m3 : M Rs} {p pos : Pos} (hg : Gl X "range") (hm : X.mg "range" = none) (ha : PA X [a, b, c] (tAv P W [m, m2, m3])) (hs : starEach [a, b, c] X.env = (false, eval a X.env) :: starEach [b, c] X.env) (hs2 : (backTo pos (starEach [b, c] X.env)).any (·.1) = false) :
    PI X tg (.Call (.Name "range" p) [a, b, c] [] pos) (tCv P W (srcR [m, m2, m3])) :=
  PI.weak (pi_range3 hg hm ha hs hs2) fun σ H Q h => by
    obtain ⟨F, io, α, r, x, q⟩ := srcR_ok h
    refine ⟨F, io, α, r, x, ?_⟩
    cases e : args [m, m2, m3] r with
    | stuck => rw [e] at q; exact q
    | exc c fs r1 => rw [e] at q; exact q
    | ok ys r1 =>
      rw [e] at q
      intro vs H1 α1 o1 x1 q1
      obtain ⟨is, ds, e1, e2, O, M, _, k⟩ := q vs H1 α1 o1 x1 q1
      obtain ⟨i, j, c, rfl⟩ := three_of (map_len e1 ((RVs.get q1).1.trans (args_len e)))
      have e2 : (if inside i && inside j && decide (i - j ≤ 16777216) && decide (c = -1) then some (rangeL i (-1) (i - j).toNat) else none) = some ds := e2
      split at e2
      · rename_i hc
        cases e2
        simp only [Bool.and_eq_true, decide_eq_true_eq] at hc
        obtain ⟨⟨⟨hi, hj⟩, hn⟩, rfl⟩ := hc
        obtain ⟨h1, h2⟩ := inside_iff hi
        obtain ⟨h3, h4⟩ := inside_iff hj
        exact ⟨i, j, -1, _, e1, RgC.neg (by omega) (by omega) (by omega) (by omega), k _ (feed_rangeC (toNat_size hn))⟩
      · cases e2
end
end Ip

namespace Ip
open PySem PySem.Spec PyProof.Rows
/-- enumerate(v) of anything that begins: its two cells -/
theorem enum_made {v : Value} {o : Obj} {G : Heap → Prop} (B : Begins v o G) :
    Meets (Builtin.«enumerate.__new__» ⟨[.type "enumerate", v], []⟩) (fun _ R st => G st.heap ∧
      R (.ok (.ret (.ref (st.heap.push o).objs.size))) { st with heap := (st.heap.push o).push { cls := .type "enumerate", data := .fields #[.none, .bool false, .ref st.heap.objs.size, rawInt 0, .none, .none] } }) :=
  .of_wp fun pr wd ar R st h => by
    obtain ⟨hh, gg, dd, tt, oo⟩ := st
    obtain ⟨g1, h⟩ := h
    have hsub := sub_enumerate
    have it1 : ∀ {A' : Around} {E : Value → Shared → Prop} {Q : Value → Shared → Prop}, Q (.ref hh.objs.size) ⟨hh.push o, gg, dd, tt, oo⟩ → wpAny (model pr wd) A' (pyIter v) Q E ⟨hh, gg, dd, tt, oo⟩ :=
      fun q => B.iter pr wd _ _ ⟨hh, gg, dd, tt, oo⟩ _ g1 q
    wp_walk using it1
    refine wpAny_stack_any fun stk => wpAny_pure ?_
    split
    · rename_i c0 _ _ _ _ _
      cases (c0 == Value.type "enumerate")
      · wp_walk using it1
        exact ⟨_, rfl, h⟩
      · wp_walk using it1
        exact ⟨_, rfl, h⟩
    · wp_walk using it1
      exact ⟨_, rfl, h⟩
theorem enum_call {prog : Program} {w : World} {A : Around} {E : Value → Shared → Prop} {s : Shared} {v : Value} {o : Obj} {G : Heap → Prop} {Q : Value → Shared → Prop} (B : Begins v o G) (h1 : G s.heap)
    (h : ∀ h', IsEnum h' (s.heap.objs.size + 1) s.heap.objs.size 0 .none → h'.get? s.heap.objs.size = some o → h'.objs.size = s.heap.objs.size + 2 →
      (∀ b ob, s.heap.get? b = some ob → h'.get? b = some ob) → Q (.ref (s.heap.objs.size + 1)) { s with heap := h' }) : wpAny (model prog w) A (call (.type "enumerate") [v]) Q E s := by
  refine callType_new F.called_enumerate (by decide) (F.typeCall_enumerate_1 _) (F.newCall_enumerate_1 _) (fun obj => F.args_object_init_2 obj _) F.entry_enumerate_new (enum_made B) ⟨h1, ?_⟩
  have sz : (s.heap.push o).objs.size = s.heap.objs.size + 1 := Heap.size_push ..
  show _ ∧ _
  rw [sz]
  have en : IsEnum ((s.heap.push o).push { cls := .type "enumerate", data := .fields #[.none, .bool false, .ref s.heap.objs.size, rawInt 0, .none, .none] }) (s.heap.objs.size + 1) s.heap.objs.size 0 .none := by
    have z := Heap.get?_push_size (s.heap.push o) (o := { cls := .type "enumerate", data := .fields #[.none, .bool false, .ref s.heap.objs.size, rawInt 0, .none, .none] }) rfl
    rw [sz] at z
    exact z
  exact ⟨⟨_, en, rfl⟩, h _ en (Heap.get?_push_of_some _ (Heap.get?_push_size _ B.free)) (by rw [Heap.size_push, sz]) fun b ob x => Heap.get?_push_of_some _ (Heap.get?_push_of_some _ x)⟩
end Ip

namespace Ip
open PySem PySem.Spec PyProof.Rows L2
/-- pairs of the turn's number and an item of the tuple at a -/
def IeT (K : PySem.W.Frag) (a : Addr) : It :=
  ⟨fun i H => ∃ (xs : List V) (x : V), SqT K H a xs ∧ xs[i]? = some x, fun i H v H' => ∃ T x, v = .ref T ∧ H T = none ∧ H' = upd H T (.tup [.int (i : Nat), x]) ∧ ∀ xs, SqT K H a xs → xs[i]? = some x, fun i H => ∃ xs : List V, SqT K H a xs ∧ xs.length = i⟩
theorem turn_enT {P : Program} {w : World} {K : PySem.W.Frag} {elts : List Expr} {kk : Nat} {tpos : Pos} (a e it : Addr) :
    Turn P w K (.Tuple elts kk tpos) (IeT K a) [e, it] e (fun i h => (∃ old, IsEnum h e it (0 + (i : Int)) old) ∧ h.IsTupleIter it a i ∧ e ≠ it) where
  mem := by simp
  obj := fun i h st b hb => by
    obtain ⟨⟨old, he⟩, ⟨o, ho, hc, hd⟩, _⟩ := st
    rcases (show b = e ∨ b = it by simpa using hb) with z | z
    · rw [z]; exact ⟨_, he, fun v q => nomatch q⟩
    · rw [z]; exact ⟨o, ho, fun v q => by rw [hd] at q; cases q⟩
  keep := fun i h h' st k => by
    obtain ⟨⟨old, he⟩, ⟨o, ho, hc, hd⟩, ne⟩ := st
    exact ⟨⟨old, k e (by simp) _ he⟩, ⟨o, k it (by simp) _ ho, hc, hd⟩, ne⟩
  item := by
    intro X hP hw hK hc i pins s σ H E I hf st hg
    subst hP hw hK
    obtain ⟨⟨old, he⟩, hit, hne⟩ := st
    obtain ⟨xs, x, hq, hx⟩ := hg
    obtain ⟨its, rv, pt, hz⟩ := I.tuple hq
    obtain ⟨u, hu, ru⟩ := rv.get hx
    have hel : e < s.heap.objs.size := Heap.lt_size he
    have hil : it < s.heap.objs.size := by obtain ⟨_, q, _⟩ := id hit; exact Heap.lt_size q
    have tl : s.heap.IsTuple a its.toArray := pt
    have nea : ∀ b ∈ [e, it], a ≠ b := fun b hb z => by
      subst z
      obtain ⟨o1, ho1, hc1, n1, hd1⟩ := tl
      rcases (show a = e ∨ a = it by simpa using hb) with z | z
      · rw [z] at ho1
        have he' : s.heap.get? e = some _ := he
        rw [he'] at ho1; cases ho1; cases hd1
      · rw [z] at ho1
        obtain ⟨o2, ho2, hc2, hd2⟩ := hit
        rw [ho2] at ho1; cases ho1; rw [hd2] at hd1; cases hd1
    have G := GoesN.enumFrom (prog := X.prog) (w := X.w) (A := X.A) (elts := elts) (x1 := kk) (pos := tpos) 0 (Draws.tuple (A := X.A.in1) (I.ok.hd hc) it a (nea it (by simp)) its.toArray) e hne (by
      simp only [List.mem_cons, List.not_mem_nil, or_false, not_or]
      exact ⟨hne, fun z => nea e (by simp) z.symm⟩) (by simp)
    have hlt : i < its.toArray.size := by
      have := (List.getElem?_eq_some_iff.mp hu).1
      simpa using this
    refine wpAny_mono (G.goes i s (fun v s2 => ∃ x H', Inv X pins σ H' s2 ∧ RelV x v ∧ (IeT X.K a).yld i H x H' ∧ ((∃ old, IsEnum s2.heap e it (0 + ((i + 1 : Nat) : Int)) old) ∧ s2.heap.IsTupleIter it a (i + 1) ∧ e ≠ it) ∧ ∀ b ∈ [e, it], H' b = none) E hlt ⟨⟨old, he⟩, hit, tl⟩ fun v h' tk hY st' hk htk => ?_) (fun r s1 ⟨v, e1, q⟩ => ⟨v, e1, q⟩) fun _ _ z => z
    obtain ⟨T, t, y, rfl, hT, hy, hTt⟩ := hY
    have e2 : y = u := by
      have hu' : its.toArray[i]? = some u := by simpa using hu
      rw [hu'] at hy
      exact (Option.some.inj hy).symm
    subst e2
    have new : ObjOk X.prog X.w (upd H T (.tup [.int (i : Nat), x])) h' T (.tup [.int (i : Nat), x]) :=
      ⟨by show 2 ≤ sizeLine; decide, [.int (0 + (i : Int)) t, y], .cons ⟨t, by rw [Int.zero_add]⟩ (.cons ru .nil), hTt⟩
    refine ⟨.ref T, _, I.turnedNew (ch := [e, it]) (fun b ob hb q => hk b ob hb q) hf hT new, rfl, ⟨T, x, rfl, I.hok.fresh hT, rfl, fun ys hy => by rw [I.tuple_inj hy hq]; exact hx⟩, ⟨?_, st'.2.1, hne⟩, fun b hb => ?_⟩
    · obtain ⟨⟨old', he'⟩, _⟩ := st'
      exact ⟨old', by simpa using he'⟩
    · have hb' : b < s.heap.objs.size := by
        rcases (show b = e ∨ b = it by simpa using hb) with z | z <;> rw [z] <;> assumption
      rw [upd_ne (Nat.ne_of_lt (Nat.lt_of_lt_of_le hb' hT))]
      exact (hf b hb).1
  done := by
    intro X hP hw hK hc i pins s σ H E I hf st hg
    subst hP hw hK
    obtain ⟨⟨old, he⟩, hit, hne⟩ := st
    obtain ⟨xs, hq, hx⟩ := hg
    obtain ⟨its, rv, pt, hz⟩ := I.tuple hq
    have tl : s.heap.IsTuple a its.toArray := pt
    have nea : ∀ b ∈ [e, it], a ≠ b := fun b hb z => by
      subst z
      obtain ⟨o1, ho1, hc1, n1, hd1⟩ := tl
      rcases (show a = e ∨ a = it by simpa using hb) with z | z
      · rw [z] at ho1
        have he' : s.heap.get? e = some _ := he
        rw [he'] at ho1; cases ho1; cases hd1
      · rw [z] at ho1
        obtain ⟨o2, ho2, hc2, hd2⟩ := hit
        rw [ho2] at ho1; cases ho1; rw [hd2] at hd1; cases hd1
    have G := GoesN.enumFrom (prog := X.prog) (w := X.w) (A := X.A) (elts := elts) (x1 := kk) (pos := tpos) 0 (Draws.tuple (A := X.A.in1) (I.ok.hd hc) it a (nea it (by simp)) its.toArray) e hne (by
      simp only [List.mem_cons, List.not_mem_nil, or_false, not_or]
      exact ⟨hne, fun z => nea e (by simp) z.symm⟩) (by simp)
    have hl : its.toArray.size = i := by
      rw [← hx, rv.length]; simp
    refine wpAny_mono (G.stops s (fun s1 => Inv X pins σ H s1) E (by rw [hl]; exact ⟨⟨old, he⟩, hit, tl⟩) fun h' tk hk htk => ?_) (fun r s1 z => z) fun _ _ z => z
    exact I.turnedL (ch := [e, it]) (fun b ob hb q => hk b ob hb q) hf
  self := fun A i s Q E st h => let ⟨⟨_, he⟩, _⟩ := st; wpAny_pyIter_enum he h
section
variable {K : PySem.W.Frag} {F F' : Addr → Prop} {io io' : Fx} {α α' α1 : Am} {r r' r0 : Ev} {σ σ' : L2.St} {H H' H0 H1 : Hp} {v : V} {P : Par} {W : WX} {X : Cx} {D : Ends}
theorem enumL_len : ∀ (i : Nat) (ds : List PyData), (enumL i ds).length = ds.length
  | _, [] => rfl
  | i, d :: ds => by unfold enumL; simp [enumL_len (i + 1) ds]
theorem enumL_get : ∀ (k : Nat) (ds : List PyData) (i : Nat) (d : PyData), (enumL k ds)[i]? = some d → ∃ e, ds[i]? = some e ∧ d = pairD (.int ((k + i : Nat) : Int)) e
  | k, [], i, d, h => by unfold enumL at h; simp at h
  | k, e :: ds, 0, d, h => by
    unfold enumL at h
    simp at h
    exact ⟨e, rfl, by rw [← h]; rfl⟩
  | k, e :: ds, i + 1, d, h => by
    unfold enumL at h
    obtain ⟨e', h1, h2⟩ := enumL_get (k + 1) ds i d (by simpa using h)
    exact ⟨e', by simpa using h1, by rw [h2, show k + 1 + i = k + (i + 1) by omega]⟩
theorem pair_rep {O' : Addr → Prop} {T : Addr} {w : V} {i : Nat} {d : PyData} (n : H T = none) (rw' : Rep K O' H d w) : RepP K O' (upd H T (.tup [.int (i : Nat), w])) (pairD (.int ((0 + i : Nat) : Int)) d) (.ref T) := by
  refine .inr ⟨_, _, T, .int (i : Nat), w, rfl, rfl, SqT.of upd_same, ?_, Rep.ext (Soft.none H) (ext_upd n) (fun _ z => z.elim) (fun _ _ _ z => z) rw'⟩
  rw [Nat.zero_add]
  simp only [Rep]
theorem feed_enT {O M : Addr → Prop} {a : Addr} {vs : List V} {ds : List PyData} (hz : ds.length ≤ sizeLine) (rp : RepL K O H ds vs) (sf : Soft M H) (hM : ∀ a, M a → O a) (st : ∀ H', Ext M H H' → SqT K H' a vs) : Feed K O M (IeT K a) (enumL 0 ds) H := by
  have hl := rp.length
  have hl2 := enumL_len 0 ds
  refine ⟨by rw [hl2]; exact hz, fun i H' hi e => ?_, fun H' e => ⟨vs, st H' e, by omega⟩, fun i d H1 x H2 hd e y => ?_⟩
  · exact ⟨vs, vs[i]'(by omega), st H' e, List.getElem?_eq_getElem _⟩
  · obtain ⟨e', h1, rfl⟩ := enumL_get 0 ds i d hd
    obtain ⟨T, w, rfl, nT, rfl, y⟩ := y
    obtain ⟨w', hw, rw'⟩ := rp.get h1
    have := y vs (st _ e)
    rw [hw] at this
    cases this
    exact ⟨ext_upd nT, fun O' q1 q2 => pair_rep nT (Rep.ext sf e hM q1 rw')⟩
theorem feed_enL {O M : Addr → Prop} {a : Addr} {vs : List V} {ds : List PyData} (hz : ds.length ≤ sizeLine) (rp : RepL K O H ds vs) (sf : Soft M H) (hM : ∀ a, M a → O a) (st : ∀ H', Ext M H H' → SqL K H' a vs) : Feed K O M (Ite K a) (enumL 0 ds) H := by
  have hl := rp.length
  have hl2 := enumL_len 0 ds
  refine ⟨by rw [hl2]; exact hz, fun i H' hi e => ?_, fun H' e => ⟨vs, st H' e, by omega⟩, fun i d H1 x H2 hd e y => ?_⟩
  · exact ⟨vs, vs[i]'(by omega), st H' e, List.getElem?_eq_getElem _⟩
  · obtain ⟨e', h1, rfl⟩ := enumL_get 0 ds i d hd
    obtain ⟨T, w, rfl, nT, rfl, y⟩ := y
    obtain ⟨w', hw, rw'⟩ := rp.get h1
    have := y vs (st _ e)
    rw [hw] at this
    cases this
    exact ⟨ext_upd nT, fun O' q1 q2 => pair_rep nT (Rep.ext sf e hM q1 rw')⟩
theorem srcE_ok {m : M Rs} {σ : L2.St} {H : Hp} {Q : It → Hp → Prop} (h : tCv P W (srcE m) σ H Q) : tEv P W m σ H fun v H1 => ∃ F io α1 r1 ds hid O, R P.K F io α1 r1 σ H1 ∧ SeenAt P.K O (MuX io α1 hid) H1 v ds ∧ ∀ J, Feed P.K O (MuX io α1 hid) J (enumL 0 ds) H1 → Q J H1 := by
  obtain ⟨F, io, α, r, x, h⟩ := h
  refine ⟨F, io, α, r, x, ?_⟩
  unfold srcE srcC at h
  cases e : m r with
  | stuck => rw [e] at h; exact h
  | exc c fs r1 => rw [e] at h; exact h
  | ok y r1 =>
    rw [e] at h
    intro v H1 α1 o1 q1
    cases e2 : seeC y r1 with
    | none => simp only [e2] at h
    | some dh =>
      obtain ⟨d, hid⟩ := dh
      simp only [e2] at h
      cases e3 : items d with
      | none => simp only [e3] at h
      | some ds =>
        simp only [e3] at h
        obtain ⟨x1, sn, hh⟩ := see_ok q1 e2 e3
        exact ⟨F, io, α1, r1, ds, hid, _, x1, sn, fun J fd => h J H1 α1 o1 x1 hh fd⟩
theorem pi_en (hK : P.K = X.K) {l : Expr} {m : M Rs} {p pos tpos : Pos} {elts : List Expr} {kk : Nat} (hg : Gl X "enumerate") (hm : X.mg "enumerate" = none) (hl : PE X l (tEv P W m)) (hs : starEach [l] X.env = [(false, eval l X.env)]) :
    PI X (.Tuple elts kk tpos) (.Call (.Name "enumerate" p) [l] [] pos) (tCv P W (srcE m)) := by
  refine ⟨fun pins s σ H R' I h => ?_⟩
  have ha : PA X [l] (tCons (tEv P W m) tNil) := pa_cons hl pa_nil (by rw [hs]; rfl)
  have h2 : tCons (tEv P W m) tNil σ H (fun vs H1 => ∃ v, vs = [v] ∧ ∃ F io α1 r1 ds hid O, R P.K F io α1 r1 σ H1 ∧ SeenAt P.K O (MuX io α1 hid) H1 v ds ∧ ∀ J, Feed P.K O (MuX io α1 hid) J (enumL 0 ds) H1 → R' J H1) := ev_mono (srcE_ok h) fun v H1 q => ⟨v, rfl, q⟩
  refine Call_ (ld_blt I hg hm boot_enumerate (PyProof.Rows.callWith_type1 (thn (ha.run pos pins s σ H _ I h2) fun us s1 ⟨vs, H1, I1, rs, q1⟩ => ?_) hs rfl))
  obtain ⟨v, rfl, F, io, α1, ρ1, ds, hid, O, xR, ⟨sf, hM, a, ws, rfl, rp, st⟩, q⟩ := q1
  obtain ⟨u, rfl, ru⟩ := vals1 rs
  cases ru
  rw [hK] at rp st q
  have fin : ∀ {J : It} {tn : Nat → Heap → Prop} {h' : Heap}, (∀ b ob, s1.heap.get? b = some ob → h'.get? b = some ob) → Turn X.prog X.w X.K (.Tuple elts kk tpos) J [s1.heap.objs.size + 1, s1.heap.objs.size] (s1.heap.objs.size + 1) tn → tn 0 h' → R' J H1 →
      PIE X pins σ (.Tuple elts kk tpos) R' (.ref (s1.heap.objs.size + 1)) { s1 with heap := h' } := fun {J tn h'} hk T t0 qj => by
    refine ⟨_, _, tn, J, H1, rfl, I1.kept (t' := s1.toks) hk, T, t0, fun b hb => ?_, qj⟩
    have hle : s1.heap.objs.size ≤ b := by
      rcases (show b = s1.heap.objs.size + 1 ∨ b = s1.heap.objs.size by simpa using hb) with z | z
      · rw [z]; exact Nat.le_add_right _ _
      · rw [z]; exact Nat.le_refl _
    exact I1.fpOk hle (I1.hok.fresh hle)
  rcases st with st | st
  · obtain ⟨its, rv, pl, hz⟩ := I1.list (st H1 (Ext.refl _ _))
    refine call_enumerate_list pl.isList fun h' he hit hsz hk => wpAny_pyIter_enum he ?_
    exact fin hk (turn_enum a _ _) ⟨⟨.none, he⟩, hit, Nat.succ_ne_self _⟩ (q _ (feed_enL (by rw [rp.length]; exact hz) rp sf hM st))
  · obtain ⟨its, rv, pl, hz⟩ := I1.tuple (st H1 (Ext.refl _ _))
    refine enum_call (begins_tuple a its.toArray) (show s1.heap.IsTuple a its.toArray from pl) fun h' he hit hsz hk => wpAny_pyIter_enum he ?_
    exact fin hk (turn_enT a _ _) ⟨⟨.none, by simpa using he⟩, ⟨_, hit, rfl, rfl⟩, Nat.succ_ne_self _⟩ (q _ (feed_enT (by rw [rp.length]; exact hz) rp sf hM st))
end
end Ip

set_option Elab.async false
set_option linter.all false
set_option maxRecDepth 100000
set_option maxHeartbeats 1000000
/-! zip of two tuples as a source. -/
namespace Ip
open PySem PySem.Spec PyProof.Rows L2
def zipD (a b : List D) : List D := List.zipWith pairD a b
def zipO : List D → Option (List D)
  | [.tuple a, .tuple b] => if a.length ≤ sizeLine then some (zipD a b) else none
  | _ => none
def srcZ (ms : List (M Rs)) : M (List D × List Nat) := fun r => match args ms r with
  | .ok xs r => match looks xs r with
    | .ok ds r => match zipO ds with
      | some z => .ok (z, []) r
      | none => .stuck
    | .exc c fs r => .exc c fs r
    | .stuck => .stuck
  | .exc c fs r => .exc c fs r
  | .stuck => .stuck
section
variable {K : PySem.W.Frag} {F F' : Addr → Prop} {io io' : Fx} {α α' α1 : Am} {r r' r0 : Ev} {σ σ' : L2.St} {H H' H0 H1 : Hp} {v : V} {P : Par} {W : WX} {X : Cx} {D : Ends}
theorem zipO_ok {ds z : List PyData} (h : zipO ds = some z) : ∃ a b, ds = [.tuple a, .tuple b] ∧ a.length ≤ sizeLine ∧ z = zipD a b := by
  unfold zipO at h
  generalize sizeLine = S at h ⊢
  split at h
  · rename_i a b
    split at h
    · rename_i q
      exact ⟨a, b, rfl, q, (Option.some.inj h).symm⟩
    · exact absurd h (by simp)
  · exact absurd h (by simp)
theorem zipD_len (a b : List PyData) : (zipD a b).length = min a.length b.length := by unfold zipD; rw [List.length_zipWith]
theorem zipD_get (a b : List PyData) (i : Nat) (d : PyData) (h : (zipD a b)[i]? = some d) : ∃ x y, a[i]? = some x ∧ b[i]? = some y ∧ d = pairD x y := by
  unfold zipD at h
  rw [List.getElem?_zipWith] at h
  cases e1 : a[i]? with
  | none => rw [e1] at h; cases h
  | some x =>
    cases e2 : b[i]? with
    | none => rw [e1, e2] at h; cases h
    | some y =>
      rw [e1, e2] at h
      cases h
      exact ⟨x, y, rfl, rfl, rfl⟩
theorem pair2_rep {O' : Addr → Prop} {T : Addr} {w u : V} {d e : PyData} (n : H T = none) (rw' : Rep K O' H d w) (ru : Rep K O' H e u) : RepP K O' (upd H T (.tup [w, u])) (pairD d e) (.ref T) :=
  .inr ⟨_, _, T, w, u, rfl, rfl, SqT.of upd_same, Rep.ext (Soft.none H) (ext_upd n) (fun _ z => z.elim) (fun _ _ _ z => z) rw', Rep.ext (Soft.none H) (ext_upd n) (fun _ z => z.elim) (fun _ _ _ z => z) ru⟩
theorem feed_zT {O M : Addr → Prop} {a b : Addr} {vs ws : List V} {ds es : List PyData} (hz : ds.length ≤ sizeLine) (rp : RepL K O H ds vs) (rq : RepL K O H es ws) (sf : Soft M H) (hM : ∀ a, M a → O a) (st : ∀ H', Ext M H H' → SqT K H' a vs) (st2 : ∀ H', Ext M H H' → SqT K H' b ws) : Feed K O M (RZ.ItzT K a b) (zipD ds es) H := by
  have hl := rp.length
  have hl1 := rq.length
  have hl2 := zipD_len ds es
  refine ⟨by omega, fun i H' hi e => ?_, fun H' e => ⟨vs, ws, st H' e, st2 H' e, by omega⟩, fun i d H1 x H2 hd e y => ?_⟩
  · exact ⟨vs, ws, vs[i]'(by omega), ws[i]'(by omega), st H' e, st2 H' e, List.getElem?_eq_getElem _, List.getElem?_eq_getElem _⟩
  · obtain ⟨e1, e2, h1, h2, rfl⟩ := zipD_get ds es i d hd
    obtain ⟨T, w, u, rfl, nT, rfl, y1, y2⟩ := y
    obtain ⟨w', hw, rw'⟩ := rp.get h1
    obtain ⟨u', hu, ru'⟩ := rq.get h2
    have z1 := y1 vs (st _ e)
    have z2 := y2 ws (st2 _ e)
    rw [hw] at z1
    rw [hu] at z2
    cases z1
    cases z2
    exact ⟨ext_upd nT, fun O' q1 q2 => pair2_rep nT (Rep.ext sf e hM q1 rw') (Rep.ext sf e hM q1 ru')⟩
theorem views2 {O : Addr → Prop} {d1 d2 : PyData} {vs : List V} (h : Views K O H [d1, d2] vs) : ∃ v1 v2, vs = [v1, v2] ∧ View K O H d1 v1 ∧ View K O H d2 v2 := by
  obtain ⟨v1, ws, rfl, h1, v2, ws2, rfl, h2, h3⟩ := h
  cases (show ws2 = [] from h3)
  exact ⟨v1, v2, rfl, h1, h2⟩
theorem srcZ_ok {ms : List (M Rs)} {σ : L2.St} {H : Hp} {Q : It → Hp → Prop} (h : tCv P W (srcZ ms) σ H Q) : tAv P W ms σ H fun vs H1 => ∃ a b xs ys, vs = [.ref a, .ref b] ∧ ((SqL P.K H1 a xs ∧ SqL P.K H1 b ys ∧ Q (Itz P.K a b) H1) ∨ (SqT P.K H1 a xs ∧ SqT P.K H1 b ys ∧ Q (RZ.ItzT P.K a b) H1)) := by
  obtain ⟨F, io, α, ρ, x, h⟩ := h
  refine ⟨F, io, α, ρ, x, ?_⟩
  unfold srcZ at h
  cases e : args ms ρ with
  | stuck => rw [e] at h; exact h
  | exc c fs r1 => rw [e] at h; exact h
  | ok xs r1 =>
    rw [e] at h
    intro vs H1 α1 o1 x1 q1
    rcases looks_no xs r1 with ⟨ds, e2⟩ | e2
    · simp only [e2] at h
      cases e3 : zipO ds with
      | none => simp only [e3] at h
      | some z =>
        simp only [e3] at h
        have vw := seens_of x1 e2 q1
        obtain ⟨a, b, rfl, hz, rfl⟩ := zipO_ok e3
        obtain ⟨v1, v2, hv, w1, w2⟩ := views2 vw
        obtain ⟨a', vs1, ea, s1, rp1⟩ := w1.tup
        obtain ⟨b', vs2, eb, s2, rp2⟩ := w2.tup
        have soft : Soft (MuX io α1 []) H1 := fun a z => x1.soft a (z.imp (fun ⟨i, _, z⟩ => ⟨i, z⟩) id)
        have muA : ∀ a, MuX io α1 [] a → Al F io α1 a := fun a z => .inr (z.imp (fun ⟨i, _, z⟩ => ⟨i, z⟩) id)
        have fd : Feed P.K (Al F io α1) (MuX io α1 []) (RZ.ItzT P.K a' b') (zipD a b) H1 := feed_zT hz rp1 rp2 soft muA (fun H' e => SqT.ext soft e s1) (fun H' e => SqT.ext soft e s2)
        exact ⟨a', b', vs1, vs2, by rw [hv, ea, eb], .inr ⟨s1, s2, h _ H1 α1 o1 x1 (fun i hi => by cases hi) fd⟩⟩
    · simp only [e2] at h
theorem pi_zp (hK : P.K = X.K) {l l2 : Expr} {ms : List (M Rs)} {p pos tpos : Pos} {elts : List Expr} {kk : Nat} (hg : Gl X "zip") (hm : X.mg "zip" = none) (ha : PA X [l, l2] (tAv P W ms)) (hs : starEach [l, l2] X.env = (false, eval l X.env) :: starEach [l2] X.env) (hpl : (backTo pos (starEach [l2] X.env)).any (·.1) = false) :
    PI X (.Tuple elts kk tpos) (.Call (.Name "zip" p) [l, l2] [] pos) (tCv P W (srcZ ms)) := by
  refine ⟨fun pins s σ H R' I h => ?_⟩
  have := srcZ_ok h
  rw [hK] at this
  exact (RZ.pi_zipA hg hm ha hs hpl).run pins s σ H R' I this
end
end Ip

set_option Elab.async false
set_option linter.all false
set_option maxRecDepth 100000
set_option maxHeartbeats 1000000
/-! sorted of data and of tuples; tuple.index; min of two. -/
namespace Ip
open PySem PySem.Spec PyProof.Rows L2
open PySem.Calls
section
variable {prog : Program} {w : World} {A : Around} {E : Value → Shared → Prop} {s : Shared}
theorem collect_tup {l : Addr} {vs : List Value} {Q : List Value → Shared → Prop} (hl : s.heap.IsTuple l vs.toArray)
    (h : Q vs { s with heap := (s.heap.push (seqObj "list" #[] 0)).update s.heap.objs.size (Obj.mapSeq (· ++ vs.toArray)) }) (hsz : vs.length ≤ sizeLine) :
    wpAny (model prog w) A (collect (.ref l)) Q E s := by
  obtain ⟨o, ho, hc, n, hd⟩ := id hl
  unfold collect
  refine wpAny_bind (wpAny_runValue (codeAny_builtin entry_proto_collect' ?_))
  show wpAny _ _ (do again (.builtin "list.__iadd__" ⟨[← newList [], .ref l], []⟩)) _ _ s
  refine wpAny_bind (wpAny_newList (wpAny_pure ⟨Code.quiet_builtin _ (by decide +kernel), codeAny_builtin entry_list_iadd' ?_⟩))
  show wpAny _ _ (Builtin.List.listExtendWith (.ref s.heap.objs.size) (.ref l) (.ref s.heap.objs.size)) _ _ { s with heap := s.heap.push (seqObj "list" #[] 0) }
  unfold Builtin.List.listExtendWith
  have ho' : (s.heap.push (seqObj "list" #[] 0)).get? l = some o := Heap.get?_push_of_some _ ho
  refine wpAny_bind (wpAny_typeOf (T := "tuple") ⟨o, ho', hc⟩ ?_)
  have ht : (Value.type "tuple" == Value.type "tuple") = true := by rfl
  rw [if_pos (by rw [ht]; simp)]
  refine wpAny_bind (listItems_at ho' hd ?_)
  refine wpAny_bind (listItems_at (xs := #[]) (n := 0) (Heap.get?_push_size _ rfl) rfl ?_)
  rw [if_neg (by simp)]
  refine wpAny_bind (listUpdate_at (xs := #[]) (n := 0) (Heap.get?_push_size _ rfl) rfl ?_ (Nat.zero_le _) (by show (#[] ++ vs.toArray).size ≤ sizeLine + 1; simp only [Array.size_append, List.size_toArray, List.length_nil]; omega))
  refine wpAny_pure ?_
  show wpAny (model prog w) A (do
      let o ← load s.heap.objs.size
      match o.data with
      | .seq xs _ => pure xs.toList
      | _ => unsupported "internal:collect") Q E { s with heap := (s.heap.push (seqObj "list" #[] 0)).update s.heap.objs.size (Obj.mapSeq (· ++ vs.toArray)) }
  refine wpAny_bind (wpAny_load (get?_update_seq (Heap.get?_push_size _ rfl) _) ?_)
  show wpAny _ _ (pure ((#[] : Array Value) ++ vs.toArray).toList) Q E _
  rw [show ((#[] : Array Value) ++ vs.toArray).toList = vs by simp]
  exact wpAny_pure h
theorem sorted_seqv {l : Addr} {vs : List Value} {κ : PyProof.Rows.KeyKind} {Q : Value → Shared → Prop} (hl : s.heap.IsList l vs.toArray ∨ s.heap.IsTuple l vs.toArray) (S : PySem.W.SortsAt prog w A.in1.in1 { s with heap := PySem.W.sortingHeap (PySem.W.copyHeap s.heap vs) (s.heap.objs.size + 1) vs } κ vs) (hL : vs.length ≤ sizeLine)
    (h : Q (.ref (s.heap.objs.size + 1)) { s with heap := sortedAll s.heap vs (PySem.W.sortVals κ false vs vs).toArray }) : wpAny (model prog w) A (call (.builtin "sorted") [.ref l]) Q E s := by
  rcases hl with hl | hl
  · exact PySem.W.sorted_vals hl S hL h
  · refine call_function_entry_kw kind_sorted plain_sorted entry_sorted (args_sorted1 _) ?_
    unfold Builtin.«sorted»
    refine wpAny_bind (m := checkCount "sorted" 1 1 _) (wpAny_pure ?_)
    refine wpAny_bind (collect_tup hl ?_ hL)
    refine wpAny_bind (wpAny_newList ?_ hL)
    have hsz : ((s.heap.push (seqObj "list" #[] 0)).update s.heap.objs.size (Obj.mapSeq (· ++ vs.toArray))).objs.size = s.heap.objs.size + 1 := by
      rw [Heap.size_update, size_push']
    show wpAny _ _ _ _ _ { s with heap := PySem.W.copyHeap s.heap vs }
    rw [hsz]
    refine wpAny_bind (wpAny_holding (wpAny_call_entry_kw slot_list_sort ⟨_, PySem.W.copyHeap_at s.heap vs, rfl⟩ entry_list_sort ?body (args_list_sort _)))
    case body =>
      refine PySem.W.list_sort_vals (s := { s with heap := PySem.W.copyHeap s.heap vs }) (PySem.W.copyHeap_at s.heap vs) S hL ?_
      exact ⟨_, rfl, wpAny_pure ⟨_, rfl, h⟩⟩
theorem sorted_seqd {β : Type} {R : Value → β → Prop} {enc : β → PyData} {bs : List β} {l : Addr} {vs : List Value} {Q : Value → Shared → Prop} (hl : s.heap.IsList l vs.toArray ∨ s.heap.IsTuple l vs.toArray) (e : PySem.W.EachIs R vs bs) (er : PySem.W.EachIs (fun v b => ∃ as, Reads s.heap v (enc b) as) vs bs) (hal : PySem.W.AllAlike (bs.map enc)) (hk : PySem.W.Sortable (bs.map enc)) (hL : bs.length ≤ sizeLine)
    (hu : ∀ b, b ∈ bs → A.units + 2 + (enc b).depth < cLine) (h : ∀ out, out.length = bs.length → PySem.W.EachIs R out (bs.mergeSort (PySem.W.dataLe false enc)) → Q (.ref (s.heap.objs.size + 1)) { s with heap := sortedAll s.heap vs (List.toArray out) }) :
    wpAny (model prog w) A (call (.builtin "sorted") [.ref l]) Q E s := by
  have er' : PySem.W.EachIs (fun v b => ∃ as, Reads (PySem.W.sortingHeap (PySem.W.copyHeap s.heap vs) (s.heap.objs.size + 1) vs) v (enc b) as) vs bs := er.mono fun _ _ ⟨as, r⟩ => ⟨as, PyProof.Rows.Reads.keeps (fun _ _ => PySem.W.sorting_copy_old) r⟩
  exact sorted_seqv hl (PySem.W.SortsAt.data (s := { s with heap := PySem.W.sortingHeap (PySem.W.copyHeap s.heap vs) (s.heap.objs.size + 1) vs }) (PySem.W.each_map (R := fun v d => ∃ as, Reads (PySem.W.sortingHeap (PySem.W.copyHeap s.heap vs) (s.heap.objs.size + 1) vs) v d as) enc er') hal hk (PySem.W.bound_map hu)) (by rw [e.length]; exact hL)
    (h _ (by rw [PySem.W.sortVals_length false rfl]; exact e.length) (PySem.W.sortVals_data false e er' hal))
end
def dLe : D → D → Bool := PySem.W.dataLe false (fun d : D => d)
def rSortD (K : PySem.W.Frag) : List V → Hp → VK → Prop := fun vs H Q => ∃ (a : Addr) (ws : List V) (ds : List D), vs = [V.ref a] ∧ (SqL K H a ws ∨ SqT K H a ws) ∧ DpAll K H ws ds ∧ PySem.W.AllAlike ds ∧ PySem.W.Sortable ds ∧ (∀ d ∈ ds, d.depth ≤ 60) ∧
  ∀ (L : List (V × D)) (p : Addr), L.Perm (ws.zip ds) → L.map (·.2) = ds.mergeSort dLe → H p = none → Q (.ref p) (upd H p (.lst (L.map (·.1))))
section
variable {K : PySem.W.Frag} {O : Addr → Prop} {H : Hp} {X : Cx} {P : Par} {W : WX}
theorem each_R : ∀ {ws : List V} {its : List Value} {ds : List D}, Vals ws its → DpAll K H ws ds → PySem.W.EachIs (fun u (b : V × D) => RelV b.1 u ∧ Dp K H b.1 b.2) its (ws.zip ds)
  | _, _, _, .nil, .nil => .nil
  | _, _, _, .cons r rr, .cons d dd => .cons ⟨r, d⟩ (each_R rr dd)
theorem dpAll_len : ∀ {ws : List V} {ds : List D}, DpAll K H ws ds → ws.length = ds.length
  | _, _, .nil => rfl
  | _, _, .cons _ t => by rw [List.length_cons, List.length_cons, dpAll_len t]
theorem vals_each : ∀ {out : List Value} {L : List (V × D)}, PySem.W.EachIs (fun u (b : V × D) => RelV b.1 u) out L → Vals (L.map (·.1)) out
  | _, _, .nil => .nil
  | _, _, .cons h t => .cons h (vals_each t)
theorem cr_sortedD (hu : X.A.units + 100 < cLine) : CallR X (.builtin "sorted") (rSortD X.K) := by
  intro pins s σ H vs us Q I r h
  obtain ⟨a, ws, ds, rfl, hs, dp, hal, hk, hdep, q⟩ := h
  have hit : ∃ its, Vals ws its ∧ (s.heap.IsList a its.toArray ∨ s.heap.IsTuple a its.toArray) ∧ ws.length ≤ sizeLine := by
    rcases hs with hs | hs
    · obtain ⟨its, rv, hl, hz⟩ := I.list hs
      exact ⟨its, rv, .inl hl.isList, hz⟩
    · obtain ⟨its, rv, hl, hz⟩ := I.tuple hs
      exact ⟨its, rv, .inr hl, hz⟩
  obtain ⟨its, rv, hl, hz⟩ := hit
  rw [Vals.ref1 r]
  have er := each_R rv dp
  have dl := dpAll_len dp
  have zl : (ws.zip ds).length = ws.length := by rw [List.length_zip]; omega
  have zs : (ws.zip ds).map (·.2) = ds := List.map_snd_zip (by omega)
  refine sorted_seqd (β := V × D) (R := fun u b => RelV b.1 u) (enc := fun b => b.2) (bs := ws.zip ds) hl (er.mono fun _ _ h => h.1) (er.mono fun u b h => Dp.reads I b.2 b.1 u h.2 h.1) (by rw [zs]; exact hal) (by rw [zs]; exact hk) (by rw [zl]; exact hz) (fun b hb => ?_) fun out hlen eo => ?_
  · have := hdep b.2 (by rw [← zs]; exact List.mem_map.mpr ⟨b, hb, rfl⟩)
    omega
  · have pm := List.mergeSort_perm (ws.zip ds) (PySem.W.dataLe false fun b : V × D => b.2)
    have mm : ((ws.zip ds).mergeSort (PySem.W.dataLe false fun b : V × D => b.2)).map (·.2) = ds.mergeSort dLe := by
      rw [PySem.W.sort_maps (r := PySem.W.dataLe false fun b : V × D => b.2) (s := dLe) (fun b : V × D => b.2) (fun _ _ _ _ => rfl), zs]
    generalize (ws.zip ds).mergeSort (PySem.W.dataLe false fun b : V × D => b.2) = L at pm mm eo
    obtain ⟨ep, he'⟩ := PyProof.Rows.sortedAll_at s.heap its out.toArray
    have hlen2 : (L.map (·.1)).length ≤ sizeLine := by
      rw [List.length_map, pm.length_eq, zl]
      exact hz
    exact ⟨.ref _, upd H (s.heap.objs.size + 1) (.lst (L.map (·.1))), I.laid (t' := s.toks) (fun _ _ => PyProof.Rows.sortedAll_old) (Nat.le_succ _) ⟨hlen2, out, ep, vals_each eo, he'⟩, rfl, q _ _ pm mm (I.hok.fresh (Nat.le_succ _))⟩
def isTup1 : D → Bool
  | .tuple (_ :: _) => true
  | _ => false
def notTup : D → Bool
  | .none => false
  | .tuple _ => false
  | _ => true
def srtOk (xs : List D) : Bool := (xs.all fun d => xs.all fun e => PySem.W.alike d e) && (xs.all isTup1 || xs.all notTup) && xs.all fun d => d.canLay0 && decide (d.depth ≤ 60)
def oSortD : Op
  | [.list xs] => if srtOk xs then some (.fresh (.list (xs.mergeSort dLe))) else none
  | [.tuple xs] => if srtOk xs then some (.fresh (.list (xs.mergeSort dLe))) else none
  | _ => none
theorem srtOk_of {xs : List D} (h : srtOk xs = true) : PySem.W.AllAlike xs ∧ PySem.W.Sortable xs ∧ ∀ d ∈ xs, d.canLay0 = true ∧ d.depth ≤ 60 := by
  unfold srtOk at h
  rw [Bool.and_eq_true, Bool.and_eq_true, Bool.or_eq_true] at h
  obtain ⟨⟨h1, h2⟩, h3⟩ := h
  rw [List.all_eq_true] at h1 h3
  refine ⟨fun d hd e he => List.all_eq_true.mp (h1 d hd) e he, ?_, fun d hd => ?_⟩
  · rcases h2 with h2 | h2
    · rw [List.all_eq_true] at h2
      refine .inl fun d hd => ?_
      have := h2 d hd
      unfold isTup1 at this
      split at this
      · exact ⟨_, _, rfl⟩
      · cases this
    · rw [List.all_eq_true] at h2
      refine .inr fun d hd => ?_
      have := h2 d hd
      refine ⟨fun e => ?_, fun xs e => ?_⟩
      · rw [e] at this; cases this
      · rw [e] at this; cases this
  · have := h3 d hd
    rw [Bool.and_eq_true, decide_eq_true_eq] at this
    exact this
theorem layAll_of : ∀ {ds : List D}, (∀ d ∈ ds, d.canLay0 = true) → PyData.canLayAll0 ds = true
  | [], _ => by simp [PyData.canLayAll0]
  | d :: ds, h => by
    simp only [PyData.canLayAll0, Bool.and_eq_true]
    exact ⟨h d List.mem_cons_self, layAll_of fun e he => h e (List.mem_cons_of_mem _ he)⟩
theorem zip_rep : ∀ {ds : List D} {ws : List V}, RepL K O H ds ws → ∀ p ∈ ws.zip ds, Rep K O H p.2 p.1
  | [], ws, h => by
    simp only [RepL] at h
    subst h
    intro p hp
    cases hp
  | d :: ds, ws, h => by
    simp only [RepL] at h
    obtain ⟨w, ws', rfl, h1, h2⟩ := h
    intro p hp
    rcases List.mem_cons.mp hp with rfl | hp
    · exact h1
    · exact zip_rep h2 p hp
theorem rep_pairs : ∀ {L : List (V × D)}, (∀ p ∈ L, Rep K O H p.2 p.1) → RepL K O H (L.map (·.2)) (L.map (·.1))
  | [], _ => by simp [RepL]
  | p :: L, h => by
    simp only [List.map_cons, RepL]
    exact ⟨p.1, _, rfl, h p List.mem_cons_self, rep_pairs fun q hq => h q (List.mem_cons_of_mem _ hq)⟩
theorem prm_sortD : Prm K oSortD (rSortD K) := by
  intro O H ds vs x Q e hv q
  have fin : ∀ {xs : List D} {a : Addr} {ws : List V}, srtOk xs = true → x = .fresh (.list (xs.mergeSort dLe)) → vs = [V.ref a] → (SqL K H a ws ∨ SqT K H a ws) → RepL K O H xs ws → rSortD K vs H Q := by
    intro xs a ws ok ex ev hs rp
    obtain ⟨o1, o2, o3⟩ := srtOk_of ok
    refine ⟨a, ws, xs, ev, hs, RepL.dp (layAll_of fun d hd => (o3 d hd).1) rp, o1, o2, fun d hd => (o3 d hd).2, fun L p pm mm n => ?_⟩
    refine q _ _ ?_
    rw [ex, ← mm]
    exact Out.newL n (rep_pairs fun p hp => zip_rep rp p (pm.subset hp))
  unfold oSortD at e
  split at e
  · rename_i xs
    split at e
    · rename_i ok
      obtain ⟨v, hv', h⟩ := hv.one
      obtain ⟨a, ws, ea, s, rp⟩ := h.lst
      exact fin ok (Option.some.inj e).symm (by rw [hv', ea]) (.inl s) rp
    · cases e
  · rename_i xs
    split at e
    · rename_i ok
      obtain ⟨v, hv', h⟩ := hv.one
      obtain ⟨a, ws, ea, s, rp⟩ := h.tup
      exact fin ok (Option.some.inj e).symm (by rw [hv', ea]) (.inr s) rp
    · cases e
  · cases e
end
end Ip

set_option Elab.async false
set_option linter.all false
set_option maxRecDepth 100000
set_option maxHeartbeats 1000000
/-! A def as a whole. -/
namespace Ip
open PySem PySem.Spec PyProof.Rows L2
section
variable {K : PySem.W.Frag} {F F' : Addr → Prop} {io io' : Fx} {α α' α1 : Am} {r r' r0 : Ev} {σ σ' : St} {H H' H0 H1 : Hp} {v : V} {P : Par} {W : WX} {X : Cx}
theorem R.pad (x : R K F io (fun _ => none) r σ H) (n : Nat) : R K F io (fun _ => none) (r ++ List.replicate n .no) (σ ++ List.replicate n none) H := by
  refine ⟨by simp [x.len], fun i s hi => ?_, fun _ _ => rfl, fun i a h => ?_, x.inj, x.ioj, x.aio, x.boH, x.aF, x.FH⟩
  · by_cases h : i < r.length
    · rw [List.getElem?_append_left h] at hi
      exact (x.slot i s hi).less (fun _ _ _ z => z) rfl (List.getElem?_append_left (by rw [← x.len]; exact h))
    · rw [List.getElem?_append_right (by omega), List.getElem?_replicate] at hi
      split at hi
      · cases hi; rfl
      · cases hi
  · obtain ⟨d, e⟩ := x.ios i a h
    exact ⟨d, by rw [List.getElem?_append_left (x.lt e)]; exact e⟩
theorem outs_get {k i : Nat} {r : Ev} {d : PyData} (h : r[i]? = some (.io d)) (hk : i < k) : (outs k r)[i]? = some (some d) := by
  unfold outs
  rw [List.getElem?_map, List.getElem?_take_of_lt hk, h]
  rfl
/-- the end of a body is the end of the def -/
theorem ended {k : Nat} (x0 : R K F io (fun _ => none) r σ H) (hk : r.length = k) (o : On io (fun _ => none) α' H H') (hP : P.K = K) {y : Ro} (h : RRet K F io (fun _ => none) α' r' σ' H H' v y) : Left io H H' ∧ Ended P F io H (outs k r') v H' y := by
  subst hP
  have less : ∀ {F2 : Addr → Prop} a, Al F2 io (fun _ => none) a → Al F2 io α' a := fun a z => z.imp id fun z => z.elim (fun ⟨_, z⟩ => by cases z) .inr
  have cells : ∀ {F2 : Addr → Prop} {σ2 : St}, R P.K F2 io α' r' σ2 H' → ∀ j a, io.w j = some a → ∃ d, (outs k r')[j]? = some (some d) ∧ Cell P.K (Al F2 io fun _ => none) H' d a := fun {F2 σ2} x j a hj => by
    obtain ⟨d, e, _, c⟩ := x.io_cell hj
    obtain ⟨d0, e0⟩ := x0.ios j a hj
    exact ⟨d, outs_get e (by rw [← hk]; exact x0.lt e0), c.ext (Soft.none H') (Ext.refl _ _) (fun _ z => z.elim) (fun a _ _ z => less a z) (fun z => z)⟩
  refine ⟨⟨o.ext, o.there⟩, ?_⟩
  cases y with
  | dat d =>
    obtain ⟨x, rp⟩ := h
    exact ⟨F, ⟨fun _ => Iff.rfl, Rep.ext (Soft.none H') (Ext.refl _ _) (fun _ z => z.elim) (fun a _ _ z => less a z) rp⟩, cells x⟩
  | fresh d =>
    obtain ⟨p, rfl, n, x, nF, nM, c⟩ := h
    have hp : H p = none := by
      cases q : H p with
      | none => rfl
      | some ob =>
        rcases n ob q with ⟨_, z⟩ | ⟨j, z⟩
        · cases z
        · exact (nM (.inr ⟨j, z⟩)).elim
    exact ⟨Plus F p, ⟨p, rfl, hp, fun _ => Iff.rfl, c.ext (Soft.none H') (Ext.refl _ _) (fun _ z => z.elim) (fun a _ _ z => less a z) (fun z => z)⟩, cells x⟩
theorem body_ok {N : List Str} {k : Nat} {body : M Fl} {vs : List V} {H : Hp} {Q : VK} {E : XK} (h : spOf P (runBody k N.length body) vs H Q E) : tEx P (fun cls d _ H => E cls d H) body { nx := fun _ H' => Q .non H', rt := Q } (L2.start N vs) H ∧ vs.length = k := by
  obtain ⟨F, io, ss, x, h⟩ := h
  unfold runBody at h
  have hl : ss.length = vs.length := by simpa using x.len
  by_cases hk : ss.length = k
  · rw [if_pos hk] at h
    refine ⟨⟨F, io, fun _ => none, ss ++ List.replicate (N.length - k) .no, ?_, ?_⟩, by omega⟩
    · have := x.pad (N.length - k)
      unfold L2.start
      rw [show N.length - vs.length = N.length - k by omega]
      exact this
    · cases e : body (ss ++ List.replicate (N.length - k) .no) with
      | stuck => simp only [e] at h
      | exc c fs r1 =>
        simp only [e] at h
        intro cls d σ' H' α' o ec x'
        exact h cls d H' ⟨o.ext, o.there⟩ ec
      | ok f r1 =>
        cases f with
        | next =>
          simp only [e] at h
          intro σ' H' α' o x'
          obtain ⟨l, en⟩ := ended (P := P) (v := .non) (y := .dat .none) x hk o rfl ⟨x', by simp only [Rep]⟩
          exact h .non H' l en
        | ret y =>
          simp only [e] at h
          intro v σ' H' α' o x'
          obtain ⟨l, en⟩ := ended (P := P) x hk o rfl x'
          exact h v H' l en
        | brk => simp only [e] at h
        | cont => simp only [e] at h
  · rw [if_neg hk] at h
    exact h.elim
end
end Ip

set_option Elab.async false
set_option linter.all false
set_option maxRecDepth 100000
set_option maxHeartbeats 1000000
/-! What a def's text means in the core: a translation that carries its proof. -/
namespace Ip
open PySem PySem.Spec PyProof.Rows L2

/-- what is known of a def's names -/
structure Sig where
  n : Nat
  N : List Str
  sc : Scope
  fn : Str → Option (List Bool × (List Sl → CR))
  co : Str → Option D
  bi : Str → Bool
  wf : Nat
  dm : Nat → List Nat
structure XOk (S : Sig) (P : Par) (W : WX) (X : Cx) : Prop where
  hN : X.N = S.N
  nd : S.N.Nodup
  kd : X.env.scope.kind = .function
  lo : ∀ x, S.sc.names.lookup x = some .local → X.env.scope.names.lookup x = some .local
  ce : ∀ x, S.sc.names.lookup x = some .cell → X.env.scope.names.lookup x = some .cell ∧ X.fn x = true
  fr : ∀ x, S.sc.names.lookup x = some .free → X.env.scope.names.lookup x = some .cell ∨ X.env.scope.names.lookup x = some .free
  gl : ∀ x, S.sc.names.lookup x = some .globalImplicit → Gl X x
  calm : X.calm = true
  hK : P.K = X.K
  room : Room S.n X.A
  pw : PassesOwn (model X.prog X.w) X.A X.env X.xe
  pas : ∀ σ, PassesAt (L2.CX X.prog X.w) X σ fun cls d H' => W cls d σ H'
  tk : Takes X W
  fns : ∀ x mu g, S.fn x = some (mu, g) → ∃ f fd ps, FnOk X.prog X.w X.K X.mg X.base (L2.CX X.prog X.w) S.n f fd ps (spOf P g) ∧ X.mg x = some (.ref f) ∧ PySem.W.keepIn X.K (.ref f) = true ∧ Binds X.K fd ps []
  bis : ∀ x, S.bi x = true → X.mg x = none
  cos : ∀ x d, S.co x = some d → ∃ u v, X.mg x = some u ∧ RelV v u ∧ ∀ O H, Rep P.K O H d v

section
variable {S : Sig} {P : Par} {W : WX} {X : Cx}
theorem XOk.units (h : XOk S P W X) : X.A.units + 100 < cLine := by have := h.room.un; omega
theorem XOk.nd' (h : XOk S P W X) : X.N.Nodup := by rw [h.hN]; exact h.nd
/-- names that have a slot -/
def slotOf (x : Str) : Nat → List Str → Option Nat
  | _, [] => none
  | i, y :: ys => if y = x then some i else slotOf x (i + 1) ys
theorem slotOf_get {x : Str} : ∀ {k : Nat} {ys : List Str} {i : Nat}, slotOf x k ys = some i → k ≤ i ∧ ys[i - k]? = some x
  | _, [], _, h => by cases h
  | k, y :: ys, i, h => by
    unfold slotOf at h
    split at h
    · rename_i e
      cases h
      exact ⟨Nat.le_refl _, by rw [Nat.sub_self]; simp [e]⟩
    · obtain ⟨h1, h2⟩ := slotOf_get h
      refine ⟨by omega, ?_⟩
      rw [show i - k = (i - (k + 1)) + 1 by omega]
      simpa using h2
def Sig.slot (S : Sig) (x : Str) : Option Nat := slotOf x 0 S.N
theorem XOk.slot (h : XOk S P W X) {x : Str} {i : Nat} (e : S.slot x = some i) : X.N[i]? = some x := by
  rw [h.hN]
  exact (slotOf_get e).2
def seenK : NameKind → Bool
  | .local => true
  | .cell => true
  | .free => true
  | _ => false
def ownK : NameKind → Bool
  | .local => true
  | .cell => true
  | _ => false
theorem XOk.vis (h : XOk S P W X) {x : Str} {k : NameKind} (e : S.sc.names.lookup x = some k) (hk : seenK k = true) : Vis X.env.scope x := by
  cases k with
  | «local» => exact .inl (h.lo x e)
  | cell => exact .inr (.inl (h.ce x e).1)
  | free => exact (h.fr x e).elim (fun z => .inr (.inl z)) fun z => .inr (.inr z)
  | _ => cases hk
theorem XOk.loc (h : XOk S P W X) {x : Str} {k : NameKind} (e : S.sc.names.lookup x = some k) (hk : ownK k = true) : L2.Loc X.env.scope x ∧ (X.fn x = true ∨ X.env.scope.names.lookup x = some .local) := by
  cases k with
  | «local» => exact ⟨.inl (h.lo x e), .inr (h.lo x e)⟩
  | cell => exact ⟨.inr (h.ce x e).1, .inl (h.ce x e).2⟩
  | _ => cases hk
def isGl (S : Sig) (x : Str) : Bool := match S.sc.names.lookup x with
  | some .globalImplicit => true
  | _ => false
theorem XOk.glob (h : XOk S P W X) {x : Str} (e : isGl S x = true) : Gl X x := by
  unfold isGl at e
  split at e
  · exact h.gl x (by assumption)
  · cases e
/-- a block of a comprehension -/
theorem lookup_relS_free {sc : Scope} : ∀ {names : List (Str × NameKind)} {x : Str}, names.lookup x = some .free →
    (names.map fun (n, k) => if (k == NameKind.free && sc.kind == .function && sc.names.lookup n == some .cell) then (n, NameKind.cell) else (n, k)).lookup x = some .cell ∨
    (names.map fun (n, k) => if (k == NameKind.free && sc.kind == .function && sc.names.lookup n == some .cell) then (n, NameKind.cell) else (n, k)).lookup x = some .free
  | [], _, h => by simp at h
  | (n, k) :: r, x, h => by
    have ih := @lookup_relS_free sc r x
    rw [List.map_cons]
    show List.lookup x ((if (k == NameKind.free && sc.kind == .function && sc.names.lookup n == some .cell) = true then (n, NameKind.cell) else (n, k)) :: _) = _ ∨ List.lookup x ((if (k == NameKind.free && sc.kind == .function && sc.names.lookup n == some .cell) = true then (n, NameKind.cell) else (n, k)) :: _) = _
    cases hx : x == n with
    | true =>
      simp only [List.lookup_cons, hx] at h
      cases h
      split
      · left; simp only [List.lookup_cons, hx]
      · right; simp only [List.lookup_cons, hx]
    | false =>
      simp only [List.lookup_cons, hx] at h
      split
      · simp only [List.lookup_cons, hx]; exact ih h
      · simp only [List.lookup_cons, hx]; exact ih h
theorem XOk.blk (h : XOk S P W X) {scope : Scope} (hk : scope.kind = .function) (s : Shared) (H : Hp) (C : Addr) (cl : List (Str × Addr)) (fp : List Addr) :
    XOk { S with sc := scope } P W0 (X.blk s H scope (compEnvC scope cl C X.env) fp) := by
  have hs : (compEnvC scope cl C X.env).scope = relS scope X.env.scope := rfl
  refine ⟨h.hN, h.nd, ?_, fun x e => ?_, fun x e => ⟨?_, ?_⟩, fun x e => ?_, fun x e => ?_, h.calm, h.hK, h.room, ?_, ?_, takes0, h.fns, h.bis, h.cos⟩
  · exact hk
  · exact lookup_relS_keep (by decide) e
  · exact lookup_relS_keep (by decide) e
  · show (scope.names.lookup x == some .cell) = true
    rw [e]; rfl
  · exact lookup_relS_free e
  · show (compEnvC scope cl C X.env).scope.names.lookup x = some .globalImplicit
    exact lookup_relS_keep (by decide) e
  · intro e s' z
    exact z.elim
  · intro σ pins H2 s2 e s' I z
    obtain ⟨_, _, _, _, _, _, _, _, _, _, _, _, z⟩ := z
    exact z.elim
end
end Ip

set_option Elab.async false
set_option linter.all false
set_option maxRecDepth 100000
set_option maxHeartbeats 1000000
/-! Several names at once. -/
namespace Ip
open PySem PySem.Spec PyProof.Rows L2
def setAll : St → List Nat → List V → St
  | σ, i :: is, v :: vs => setAll (σ.set i (some v)) is vs
  | σ, _, _ => σ
/-- values that wait to be stored: the new ones stand at places of Fa that F has not -/
def RNs (K : PySem.W.Frag) (Fa : Addr → Prop) (io : Fx) (α : Am) (H0 H : Hp) : (Addr → Prop) → List V → List Ro → Prop
  | F, [], [] => ∀ a, Fa a → F a
  | F, v :: vs, .dat d :: xs => Rep K (Al Fa io α) H d v ∧ RNs K Fa io α H0 H F vs xs
  | F, v :: vs, .fresh d :: xs => ∃ p, v = .ref p ∧ H0 p = none ∧ Fa p ∧ ¬ F p ∧ Cell K (Al Fa io α) H d p ∧ RNs K Fa io α H0 H (Plus F p) vs xs
  | _, _, _ => False
section
variable {K : PySem.W.Frag} {F F' Fa : Addr → Prop} {io io' : Fx} {α α' α1 : Am} {r r' r0 : Ev} {σ σ' : St} {H H' H0 H1 : Hp} {v : V} {P : Par} {W : WX} {X : Cx} {D : Ends}
theorem RNs.back {Hz : Hp} (z : ∀ p, H0 p = none → Hz p = none) : ∀ {F : Addr → Prop} {vs : List V} {xs : List Ro}, RNs K Fa io α H0 H F vs xs → RNs K Fa io α Hz H F vs xs
  | _, [], [], h => h
  | _, v :: vs, .dat d :: xs, h => ⟨h.1, RNs.back z h.2⟩
  | _, v :: vs, .fresh d :: xs, h => by
    obtain ⟨p, e, n, h1, h2, h3, h4⟩ := h
    exact ⟨p, e, z p n, h1, h2, h3, RNs.back z h4⟩
  | _, [], .dat _ :: _, h => h.elim
  | _, [], .fresh _ :: _, h => h.elim
  | _, _ :: _, [], h => h.elim
/-- one of them is stored: it waits no more -/
theorem RNs.shift {F1 : Addr → Prop} {p : Addr} (hA : ∀ a, Al F1 io α1 a → Al Fa io α a) (h1 : ∀ a, F1 a ↔ Fa a ∧ a ≠ p) : ∀ {F F2 : Addr → Prop} {vs : List V} {xs : List Ro}, (∀ a, F a ↔ F2 a ∨ a = p) → RNs K Fa io α H0 H F vs xs → RNs K F1 io α1 H0 H F2 vs xs
  | F, F2, [], [], hF, h => fun a z => by
    obtain ⟨z1, z2⟩ := (h1 a).mp z
    exact ((hF a).mp (h a z1)).resolve_right z2
  | F, F2, v :: vs, .dat d :: xs, hF, h => ⟨Rep.ext (Soft.none H) (Ext.refl _ _) (fun _ z => z.elim) (fun a _ _ z => hA a z) h.1, RNs.shift hA h1 hF h.2⟩
  | F, F2, v :: vs, .fresh d :: xs, hF, h => by
    obtain ⟨q, e, n, f1, f2, c, t⟩ := h
    refine ⟨q, e, n, (h1 q).mpr ⟨f1, fun z => f2 ((hF q).mpr (.inr z))⟩, fun z => f2 ((hF q).mpr (.inl z)), c.ext (Soft.none H) (Ext.refl _ _) (fun _ z => z.elim) (fun a _ _ z => hA a z) (fun z => z), RNs.shift hA h1 (fun a => ?_) t⟩
    show (F a ∨ a = q) ↔ (F2 a ∨ a = q) ∨ a = p
    rw [hF a]
    constructor
    · rintro ((z | z) | z)
      · exact .inl (.inl z)
      · exact .inr z
      · exact .inl (.inr z)
    · rintro ((z | z) | z)
      · exact .inl (.inl z)
      · exact .inr z
      · exact .inl (.inr z)
  | _, _, [], .dat _ :: _, _, h => h.elim
  | _, _, [], .fresh _ :: _, _, h => h.elim
  | _, _, _ :: _, [], _, h => h.elim
theorem RNs.less {i : Nat} : ∀ {F : Addr → Prop} {vs : List V} {xs : List Ro}, RNs K Fa io α H0 H F vs xs → RNs K Fa io (upd1 α i none) H0 H F vs xs
  | _, [], [], h => h
  | _, v :: vs, .dat d :: xs, h => ⟨h.1.less, RNs.less h.2⟩
  | _, v :: vs, .fresh d :: xs, h => by
    obtain ⟨p, e, n, h1, h2, h3, h4⟩ := h
    exact ⟨p, e, n, h1, h2, h3.ext (Soft.none H) (Ext.refl _ _) (fun _ z => z.elim) (fun _ _ _ z => al_less z) (fun z => z), RNs.less h4⟩
  | _, [], .dat _ :: _, h => h.elim
  | _, [], .fresh _ :: _, h => h.elim
  | _, _ :: _, [], h => h.elim
/-- all are stored -/
theorem puts_ok (bo : ∀ p, H0 p = none → ∀ j a, io.b j = some a → a ≠ p) : ∀ {is : List Nat} {xs : List Ro} {vs : List V} {r r' : Ev} {σ : St} {α : Am} {Fa : Addr → Prop}, R K Fa io α r σ H → RNs K Fa io α H0 H F vs xs → (∀ a, F a → Fa a) → putN is xs r = .ok () r' →
    ∃ α', (∀ a o, H0 a = some o → Mu io α' a → Mu io α a) ∧ R K F io α' r' (setAll σ is vs) H
  | [], [], [], r, r', σ, α, Fa, x, h, s, e => by
    unfold putN at e
    cases e
    exact ⟨α, fun _ _ _ z => z, x.weak s⟩
  | [], [], _ :: _, _, _, _, _, _, _, h, _, _ => h.elim
  | [], _ :: _, _, _, _, _, _, _, _, _, _, e => by cases e
  | _ :: _, [], _, _, _, _, _, _, _, _, _, e => by cases e
  | i :: is, .dat d :: xs, [], _, _, _, _, _, _, h, _, _ => h.elim
  | i :: is, .fresh d :: xs, [], _, _, _, _, _, _, h, _, _ => h.elim
  | i :: is, .dat d :: xs, v :: vs, r, r', σ, α, Fa, x, h, s, e => by
    unfold putN put1 at e
    by_cases c : setOk r[i]? = true
    · simp only [c, if_true] at e
      obtain ⟨α', s', x'⟩ := puts_ok bo (x.put_dat c h.1.less) (RNs.less h.2) s e
      exact ⟨α', fun a o ha z => mu_less (s' a o ha z), x'⟩
    · simp only [c] at e
      simp at e
  | i :: is, .fresh d :: xs, v :: vs, r, r', σ, α, Fa, x, h, s, e => by
    unfold putN put1 at e
    by_cases c : setOk r[i]? = true
    · simp only [c, if_true] at e
      obtain ⟨p, rfl, n, f1, f2, cc, t⟩ := h
      have nM : ¬ Mu io α p := fun z => x.aF p f1 z
      have hFp : ∀ a, Plus (fun a => Fa a ∧ a ≠ p) p a → Fa a := fun a z => z.elim (fun z => z.1) fun z => by rw [z]; exact f1
      have hPf : ∀ a, Fa a → Plus (fun a => Fa a ∧ a ≠ p) p a := fun a z => by
        by_cases q : a = p
        · exact .inr q
        · exact .inl ⟨z, q⟩
      have x1 : R K (Plus (fun a => Fa a ∧ a ≠ p) p) io α r σ H := x.weak hFp
      have x2 := x1.put_own c (d := d) (fun z => z.2 rfl) nM (cc.ext (Soft.none H) (Ext.refl _ _) (fun _ z => z.elim) (fun a _ _ z => z.imp (hFp a) id) (fun z => z)) (bo p n)
      have hA : ∀ a, Al (fun a => Fa a ∧ a ≠ p) io (upd1 α i (some p)) a → Al Fa io α a := by
        rintro a (z | ⟨j, z⟩ | z)
        · exact .inl z.1
        · by_cases q : j = i
          · subst q; rw [upd1_eq] at z; cases z; exact .inl f1
          · rw [upd1_ne q] at z; exact .inr (.inl ⟨j, z⟩)
        · exact .inr (.inr z)
      obtain ⟨α', s', x'⟩ := puts_ok bo x2 (RNs.shift hA (fun _ => Iff.rfl) (fun a => Iff.rfl) t) (fun a z => ⟨s a z, fun q => f2 (q ▸ z)⟩) e
      refine ⟨α', fun a o ha z => ?_, x'⟩
      rcases s' a o ha z with ⟨j, z⟩ | z
      · by_cases q : j = i
        · subst q; rw [upd1_eq] at z; cases z; rw [n] at ha; cases ha
        · rw [upd1_ne q] at z; exact .inl ⟨j, z⟩
      · exact .inr z
    · simp only [c] at e
      simp at e
/-- values from the left -/
def tNv (P : Par) (W : WX) (ms : List (M Rs)) : TA := fun σ H Q => ∃ F io α r, R P.K F io α r σ H ∧ match valN ms r with
  | .ok xs r' => ∀ vs H' α' Fa, On io α α' H H' → R P.K Fa io α' r' σ H' → RNs P.K Fa io α' H H' F vs xs → (∀ a, F a → Fa a) → (∀ a o, H a = some o → Fa a → F a) → Q vs H'
  | .exc c fs r' => Thrown P W F io α H c fs r'
  | .stuck => False
theorem nv_nil {σ : St} {H : Hp} {Q : List V → Hp → Prop} (h : tNv P W [] σ H Q) : Q [] H := by
  obtain ⟨F, io, α, r, x, h⟩ := h
  exact h [] H α F (On.refl _ _ _) x (fun _ z => z) (fun _ z => z) fun _ _ _ z => z
theorem nv_cons {m : M Rs} {ms : List (M Rs)} {σ : St} {H : Hp} {Q : List V → Hp → Prop} (h : tNv P W (m :: ms) σ H Q) :
    tEv P W m σ H fun x H1 => tNv P W ms σ H1 fun xs H2 => Q (x :: xs) H2 := by
  obtain ⟨F, io, α, r, x, h⟩ := h
  refine ⟨F, io, α, r, x, ?_⟩
  unfold valN val1 at h
  cases e : m r with
  | stuck => rw [e] at h; exact h
  | exc c fs r1 => rw [e] at h; exact h
  | ok y r1 =>
    rw [e] at h
    intro v H1 α1 o1 q1
    rcases toRo_no y r1 with ⟨z, r2, e2⟩ | e2
    · simp only [e2] at h
      obtain ⟨α2, o2, q2⟩ := toRo_ok q1 e2
      have o12 := o1.trans o2
      cases z with
      | dat d =>
        obtain ⟨x2, rp⟩ := q2
        refine ⟨F, io, α2, r2, x2, ?_⟩
        cases e3 : valN ms r2 with
        | stuck => rw [e3] at h; exact h
        | exc c fs r3 => rw [e3] at h; exact Thrown.on h o12
        | ok xs r3 =>
          rw [e3] at h
          intro vs H3 α3 Fa o3 x3 n3 s3 w3
          refine h (v :: vs) H3 α3 Fa (o12.trans o3) x3 ⟨Rep.ext x2.soft o3.ext (fun _ z => .inr z) (fun a ob q z => ?_) rp, n3.back fun p n => o12.free n⟩ s3 fun a ob q z => ?_
          · rcases z with z | z
            · exact .inl (w3 a ob q z)
            · exact .inr (o3.sub a ob q z)
          · obtain ⟨ob', q'⟩ := o12.there a ob q
            exact w3 a ob' q' z
      | fresh d =>
        obtain ⟨p, rfl, n, x2, nF, nM, c⟩ := q2
        refine ⟨Plus F p, io, α2, r2, x2, ?_⟩
        cases e3 : valN ms r2 with
        | stuck => rw [e3] at h; exact h
        | exc c fs r3 =>
          rw [e3] at h
          intro cls d σ' H' α' o' ec x'
          exact h cls d σ' H' α' (o12.trans o') ec (x'.weak fun _ z => .inl z)
        | ok xs r3 =>
          rw [e3] at h
          intro vs H3 α3 Fa o3 x3 n3 s3 w3
          refine h (.ref p :: vs) H3 α3 Fa (o12.trans o3) x3 ⟨p, rfl, n, s3 p (.inr rfl), nF, c.ext x2.soft o3.ext (fun _ z => .inr z) (fun a ob q z => ?_) nM, n3.back fun p n => o12.free n⟩ (fun a z => s3 a (.inl z)) fun a ob q z => ?_
          · rcases z with z | z
            · exact .inl (w3 a ob q z)
            · exact .inr (o3.sub a ob q z)
          · obtain ⟨ob', q'⟩ := o12.there a ob q
            rcases w3 a ob' q' z with z | z
            · exact z
            · subst z; rw [n] at q; cases q
    · simp only [e2] at h
theorem pn_nil : PA X [] (tNv P W []) := PA.weak pa_nil fun σ H Q h => nv_nil h
theorem pn_cons {e : Expr} {es : List Expr} {m : M Rs} {ms : List (M Rs)} (ha : PE X e (tEv P W m)) (hr : PA X es (tNv P W ms)) (hs : starEach (e :: es) X.env = (false, eval e X.env) :: starEach es X.env) : PA X (e :: es) (tNv P W (m :: ms)) :=
  PA.weak (pa_cons ha hr hs) fun σ H Q h => nv_cons h
theorem sets_ok {is : List Nat} {ms : List (M Rs)} {σ : St} {H : Hp} (h : tEx P W (setsS is ms) D σ H) : tNv P W ms σ H fun vs H1 => vs.length = is.length ∧ ∀ H2, Ext (fun _ => False) H1 H2 → D.nx (setAll σ is vs) H2 := by
  obtain ⟨F, io, α, r, x, h⟩ := h
  refine ⟨F, io, α, r, x, ?_⟩
  unfold setsS at h
  cases e : valN ms r with
  | stuck => rw [e] at h; exact h
  | exc c fs r1 => rw [e] at h; exact h
  | ok xs r1 =>
    rw [e] at h
    intro vs H1 α1 Fa o1 x1 n1 s1 w1
    cases e2 : putN is xs r1 with
    | stuck => simp only [e2] at h
    | exc c fs r2 => exact absurd e2 putN_noexc
    | ok u r2 =>
      simp only [e2] at h
      refine ⟨?_, fun H2 e3 => ?_⟩
      · have k1 : ∀ (is : List Nat) (ds : List Ro) (ρ ρ' : Ev), putN is ds ρ = .ok () ρ' → is.length = ds.length := by
          intro is
          induction is with
          | nil =>
            intro ds ρ ρ' h
            cases ds with
            | nil => rfl
            | cons => cases h
          | cons i is ih =>
            intro ds ρ ρ' h
            cases ds with
            | nil => cases h
            | cons d ds =>
              unfold putN at h
              cases e : put1 i d ρ with
              | ok u r1 => simp only [e] at h; simp [ih ds r1 _ h]
              | exc c fs r1 => simp only [e] at h; cases h
              | stuck => simp only [e] at h; cases h
        have k2 : ∀ (F : Addr → Prop) (vs : List V) (xs : List Ro), RNs P.K Fa io α1 H H1 F vs xs → vs.length = xs.length := by
          intro F vs
          induction vs generalizing F with
          | nil =>
            intro xs h
            cases xs with
            | nil => rfl
            | cons y ys => cases y <;> exact h.elim
          | cons v vs ih =>
            intro xs h
            cases xs with
            | nil => exact h.elim
            | cons y ys =>
              cases y with
              | dat d => simp [ih F ys h.2]
              | fresh d => obtain ⟨p, _, _, _, _, _, t⟩ := h; simp [ih _ ys t]
        rw [k2 _ _ _ n1, k1 _ _ _ _ e2]
      · have x2 := x1.same e3
        have n2 : RNs P.K Fa io α1 H H2 F vs xs := by
          have k3 : ∀ (F : Addr → Prop) (vs : List V) (xs : List Ro), RNs P.K Fa io α1 H H1 F vs xs → RNs P.K Fa io α1 H H2 F vs xs := by
            intro F vs
            induction vs generalizing F with
            | nil =>
              intro xs h
              cases xs with
              | nil => exact h
              | cons y ys => cases y <;> exact h.elim
            | cons v vs ih =>
              intro xs h
              cases xs with
              | nil => exact h.elim
              | cons y ys =>
                cases y with
                | dat d => exact ⟨Rep.ext (Soft.none H1) e3 (fun _ z => z.elim) (fun _ _ _ z => z) h.1, ih F ys h.2⟩
                | fresh d =>
                  obtain ⟨p, a1, a2, a3, a4, a5, t⟩ := h
                  exact ⟨p, a1, a2, a3, a4, a5.ext (Soft.none H1) e3 (fun _ z => z.elim) (fun _ _ _ z => z) (fun z => z), ih _ ys t⟩
          exact k3 _ _ _ n1
        obtain ⟨α2, s2, x3⟩ := puts_ok (fun p n => x.bo_ne n) x2 n2 s1 e2
        have o2 := o1.trans (On.same e3)
        exact h _ H2 α2 ⟨fun a o ha z => o1.sub a o ha (s2 a o ha z), o2.ext, o2.there⟩ x3
theorem nv_mono {ms : List (M Rs)} {σ : St} {H : Hp} {Q Q' : List V → Hp → Prop} (h : tNv P W ms σ H Q) (i : ∀ v H, Q v H → Q' v H) : tNv P W ms σ H Q' := by
  obtain ⟨F, io, α, r, x, h⟩ := h
  refine ⟨F, io, α, r, x, ?_⟩
  cases e : valN ms r with
  | stuck => rw [e] at h; exact h
  | exc c fs r1 => rw [e] at h; exact h
  | ok xs r1 =>
    rw [e] at h
    exact fun vs H' α' Fa o x' n s w => i _ _ (h vs H' α' Fa o x' n s w)
theorem ps_sets2 {i j : Nat} {x y : Str} {a b : Expr} {ms : List (M Rs)} {px py pt pos : Pos} {kt k2 : Nat} {pt2 : Pos} (hc : X.calm = true) (hN : X.N.Nodup) (hi : X.N[i]? = some x) (hj : X.N[j]? = some y) (hij : i ≠ j)
    (hx : X.env.scope.names.lookup x = some .local) (hy : X.env.scope.names.lookup y = some .local) (ha : PA X [a, b] (tNv P W ms)) (hw : swappedStores [.Tuple [.Name x px, .Name y py] kt pt] (.Tuple [a, b] k2 pt2) X.env = pure (some [x, y])) :
    PS X (.Assign [.Tuple [.Name x px, .Name y py] kt pt] (.Tuple [a, b] k2 pt2) pos) (tEx P W (setsS [i, j] ms)) :=
  PS.weak (ps_par hc hN hi hj hij hx hy ha hw) fun D σ H h => nv_mono (sets_ok h) fun vs H1 ⟨l, q⟩ => by
    match vs, l with
    | [v, w], _ => exact ⟨v, w, rfl, q H1 (Ext.refl _ _)⟩
theorem ps_sets3 {i j l : Nat} {x y z : Str} {a b c : Expr} {ms : List (M Rs)} {px py pz pt pos : Pos} {kt k2 : Nat} {pt2 : Pos} (hc : X.calm = true) (hN : X.N.Nodup) (hi : X.N[i]? = some x) (hj : X.N[j]? = some y) (hl : X.N[l]? = some z) (hij : i ≠ j) (hil : i ≠ l) (hjl : j ≠ l)
    (hx : X.env.scope.names.lookup x = some .local) (hy : X.env.scope.names.lookup y = some .local) (hz : X.env.scope.names.lookup z = some .local) (ha : PA X [a, b, c] (tNv P W ms)) (hw : swappedStores [.Tuple [.Name x px, .Name y py, .Name z pz] kt pt] (.Tuple [a, b, c] k2 pt2) X.env = pure (some [x, y, z])) :
    PS X (.Assign [.Tuple [.Name x px, .Name y py, .Name z pz] kt pt] (.Tuple [a, b, c] k2 pt2) pos) (tEx P W (setsS [i, j, l] ms)) :=
  PS.weak (ps_par3 hc hN hi hj hl hij hil hjl hx hy hz ha hw) fun D σ H h => nv_mono (sets_ok h) fun vs H1 ⟨l, q⟩ => by
    match vs, l with
    | [u, v, w], _ => exact ⟨u, v, w, rfl, q H1 (Ext.refl _ _)⟩
/-- names that take the items of a tuple -/
def tStore (is : List Nat) : TGs := fun vs σ H Q => vs.length = is.length ∧ Q (setAll σ is vs) H
theorem pgs_st0 : PGs X [] (tStore []) := by
  have h := pgs_nil (X := X)
  refine ⟨fun pins s σ H vs us Q I r q => h.run pins s σ H vs us Q I r ?_⟩
  obtain ⟨l, q⟩ := q
  have := List.eq_nil_of_length_eq_zero l
  subst this
  exact ⟨rfl, q⟩
theorem pgs_st {i : Nat} {is : List Nat} {x : Str} {pos : Pos} {es : List Expr} (hN : X.N.Nodup) (hi : X.N[i]? = some x) (hx : L2.Loc X.env.scope x) (hf : X.fn x = true ∨ X.env.scope.names.lookup x = some .local) (hr : PGs X es (tStore is)) : PGs X (.Name x pos :: es) (tStore (i :: is)) := by
  have h := pgs_cons (pg_name (pos := pos) hN hi hx hf) hr rfl
  refine ⟨fun pins s σ H vs us Q I r q => h.run pins s σ H vs us Q I r ?_⟩
  obtain ⟨l, q⟩ := q
  cases vs with
  | nil => cases l
  | cons v vs => exact ⟨v, vs, rfl, Nat.succ.inj l, q⟩
theorem ps_setsT {is : List Nat} {es vs : List Expr} {ms : List (M Rs)} {kt k2 : Nat} {pt pt2 pos : Pos} (hc : X.calm = true) (hg : PGs X es (tStore is)) (hl : is.length = es.length) (hn : (assignEach es X.env).length = es.length) (hst : (assignEach es X.env).findIdx? (·.1) = none) (ha : PA X vs (tNv P W ms)) (hz : es.length ≤ sizeLine)
    (hw : swappedStores [.Tuple es kt pt] (.Tuple vs k2 pt2) X.env = pure none) : PS X (.Assign [.Tuple es kt pt] (.Tuple vs k2 pt2) pos) (tEx P W (setsS is ms)) :=
  PS.weak (ps_asg (pe_tup ha) (pg_tup hc hg hn hst) (by rfl) hw (by rfl)) fun D σ H h => nv_mono (sets_ok h) fun us H1 ⟨l, q⟩ => by
    refine ⟨by rw [l, hl]; exact hz, fun p n => ⟨p, us, rfl, SqT.of upd_same, by rw [l, hl], l, q _ (ext_upd n)⟩⟩
end
end Ip

set_option Elab.async false
set_option linter.all false
set_option maxRecDepth 100000
set_option maxHeartbeats 1000000
/-! A list or dict that a slot holds is changed. -/
namespace Ip
open PySem PySem.Spec PyProof.Rows L2
def isLst : Option Sl → Bool
  | some (.own (.list _)) => true
  | some (.io (.list _)) => true
  | _ => false
/-- the slot's thing changed -/
def wrAt (g : D → Option (D × D)) : Option Sl → Option (Sl × D)
  | some (.own d) => (g d).map fun p => (.own p.1, p.2)
  | some (.io d) => (g d).map fun p => (.io p.1, p.2)
  | _ => none
def mutV (i : Nat) (f : D → List D → Option (D × D)) (ms : List (M Rs)) : M Rs := fun r => if isLst r[i]? then match args ms r with
  | .ok xs r => match keeps xs r with
    | .ok ds r => match wrAt (fun d => f d ds) r[i]? with
      | some (s, y) => .ok (.dat y) (r.set i s)
      | none => .stuck
    | .exc c fs r => .exc c fs r
    | .stuck => .stuck
  | .exc c fs r => .exc c fs r
  | .stuck => .stuck
  else .stuck
def isBox : Option Sl → Bool
  | some (.own _) => true
  | some (.io _) => true
  | _ => false
/-- the key, then the store -/
def storeK (i : Nat) (f : D → D → D → Option D) (v : D) (mk : M Rs) : M Fl := fun r => if isBox r[i]? then match mk r with
  | .ok k r => match hold k r with
    | .ok k r => match look k r with
      | .ok k r => match wrAt (fun d => (f d k v).map fun e => (e, .none)) r[i]? with
        | some (s, _) => .ok .next (r.set i s)
        | none => .stuck
      | .exc c fs r => .exc c fs r
      | .stuck => .stuck
    | .exc c fs r => .exc c fs r
    | .stuck => .stuck
  | .exc c fs r => .exc c fs r
  | .stuck => .stuck
  else .stuck
/-- the value first, then the key -/
def storeS (i : Nat) (f : D → D → D → Option D) (m mk : M Rs) : M Fl := fun r => match m r with
  | .ok x r => match hold x r with
    | .ok x r => match keep x r with
      | .ok v r => storeK i f v mk r
      | .exc c fs r => .exc c fs r
      | .stuck => .stuck
    | .exc c fs r => .exc c fs r
    | .stuck => .stuck
  | .exc c fs r => .exc c fs r
  | .stuck => .stuck
section
variable {K : PySem.W.Frag} {F F' Fa : Addr → Prop} {io io' : Fx} {α α' α1 : Am} {r r' r0 : Ev} {σ σ' : St} {H H' H0 H1 : Hp} {v : V} {P : Par} {W : WX} {X : Cx}
theorem wrAt_get {g : PyData → Option (PyData × PyData)} (x : R K F io α r σ H) {i : Nat} {s : Sl} {y : PyData} (e : wrAt g r[i]? = some (s, y)) :
    ∃ d d' a, g d = some (d', y) ∧ σ[i]? = some (some (.ref a)) ∧ Place io α i a ∧ Cell K (Al F io α) H d a ∧ ((∃ z, r[i]? = some (.own z)) ∧ s = .own d' ∧ α i = some a ∨ (∃ z, r[i]? = some (.io z)) ∧ s = .io d' ∧ α i = none ∧ io.w i = some a) := by
  cases e1 : r[i]? with
  | none => rw [e1] at e; cases e
  | some sl =>
    have q := x.slot i sl e1
    rw [e1] at e
    cases sl with
    | own d =>
      obtain ⟨p, e2, e3⟩ := Option.map_eq_some_iff.mp e
      cases e3
      obtain ⟨a, q1, q2, q3⟩ := q
      exact ⟨d, p.1, a, e2, q2, .inl q1, q3, .inl ⟨⟨d, rfl⟩, rfl, q1⟩⟩
    | io d =>
      obtain ⟨p, e2, e3⟩ := Option.map_eq_some_iff.mp e
      cases e3
      obtain ⟨q0, a, q1, q2, q3⟩ := q
      exact ⟨d, p.1, a, e2, q2, .inr q1, q3, .inr ⟨⟨d, rfl⟩, rfl, q0, q1⟩⟩
    | _ => cases e
theorem ext_at {a : Addr} {u : HO} : Ext (fun b => b = a) H (upd H a u) := fun b o h n => by rw [upd_ne n]; exact h
theorem soft_at {d : PyData} {O : Addr → Prop} {a : Addr} (c : Cell K O H d a) : Soft (fun b => b = a) H := fun b e => by rw [e]; exact c.soft
/-- what a slot holds is changed -/
theorem R.write (x : R K F io α r σ H) {i : Nat} {a : Addr} {d d' : PyData} {u : HO} {s : Sl} (hp : Place io α i a) (c : Cell K (Al F io α) H d a) (c' : Cell K (Al F io α) (upd H a u) d' a) (hv : σ[i]? = some (some (.ref a)))
    (hs : (∃ z, r[i]? = some (.own z)) ∧ s = .own d' ∧ α i = some a ∨ (∃ z, r[i]? = some (.io z)) ∧ s = .io d' ∧ α i = none ∧ io.w i = some a) : On io α α H (upd H a u) ∧ R K F io α (r.set i s) σ (upd H a u) := by
  have hM : ∀ b, b = a → Al F io α b := fun b e => by rw [e]; exact .inr hp.mu
  have hlt : i < r.length := by rcases hs with ⟨⟨z, e⟩, _⟩ | ⟨⟨z, e⟩, _⟩ <;> exact x.lt e
  have th : ∀ b o, H b = some o → ∃ o', upd H a u b = some o' := fun b o h => by
    by_cases e : b = a
    · subst e; exact ⟨u, upd_same⟩
    · exact ⟨o, by rw [upd_ne e]; exact h⟩
  refine ⟨⟨fun _ _ _ z => z, fun b o h n => by rw [upd_ne (fun e => n (by rw [e]; exact hp.mu))]; exact h, th⟩, by simpa using x.len, fun j sl hj => ?_, fun j hj => x.out j (by simpa using hj), fun j b h => ?_, x.inj, x.ioj, x.aio, fun j b h => ⟨(x.boH j b h).1.elim fun o q => th b o q, (x.boH j b h).2⟩, x.aF, fun b h => (x.FH b h).elim fun o q => th b o q⟩
  · by_cases e : j = i
    · subst e
      rw [List.getElem?_set_self hlt] at hj
      cases hj
      rcases hs with ⟨⟨z, e⟩, rfl, e2⟩ | ⟨⟨z, e⟩, rfl, e2, e3⟩
      · exact ⟨a, e2, hv, c'⟩
      · exact ⟨e2, a, e3, hv, c'⟩
    · rw [List.getElem?_set_ne (Ne.symm e)] at hj
      refine (x.slot j sl hj).ext' (soft_at c) ext_at hM (fun _ _ _ z => z) fun b h m => ?_
      subst m
      rcases h with h | h | h
      · exact e (x.place_inj (.inl h) hp)
      · exact e (x.place_inj (.inr h) hp)
      · exact (x.boH j b h).2 hp.mu
  · obtain ⟨z, q⟩ := x.ios j b h
    by_cases e : j = i
    · subst e
      rcases hs with ⟨⟨z', e⟩, _⟩ | ⟨⟨z', e⟩, rfl, _⟩
      · rw [q] at e; cases e
      · exact ⟨d', List.getElem?_set_self hlt⟩
    · exact ⟨z, by rw [List.getElem?_set_ne (Ne.symm e)]; exact q⟩
/-- what a method that changes its list is to do -/
def MutR (K : PySem.W.Frag) (f : PyData → List PyData → Option (PyData × PyData)) (rr : V → List V → Hp → VK → Prop) : Prop :=
  ∀ (O : Addr → Prop) (H : Hp) (a : Addr) (d d' y : PyData) (ds : List PyData) (vs : List V) (Q : VK), f d ds = some (d', y) → O a → Cell K O H d a → RepL K O H ds vs →
    (∀ v u, Cell K O (upd H a u) d' a → Rep K O (upd H a u) y v → Q v (upd H a u)) → rr (.ref a) vs H Q
theorem isLst_ty (x : R K F io α r σ H) {i : Nat} (h : isLst r[i]? = true) : ∃ a, σ[i]? = some (some (.ref a)) ∧ tyV K "list" (.ref a) H := by
  cases e : r[i]? with
  | none => rw [e] at h; cases h
  | some sl =>
    have q := x.slot i sl e
    rw [e] at h
    cases sl with
    | own d =>
      cases d with
      | list xs =>
        obtain ⟨a, q1, q2, vs, q3, _⟩ := q
        exact ⟨a, q2, .inl ⟨rfl, vs, SqL.of q3⟩⟩
      | _ => cases h
    | io d =>
      cases d with
      | list xs =>
        obtain ⟨_, a, q1, q2, vs, q3, _⟩ := q
        exact ⟨a, q2, .inl ⟨rfl, vs, SqL.of q3⟩⟩
      | _ => cases h
    | _ => cases h
theorem mut_ok {i : Nat} {f : PyData → List PyData → Option (PyData × PyData)} {rr : V → List V → Hp → VK → Prop} {ms : List (M Rs)} {Q : VK} (pm : MutR P.K f rr) (h : tEv P W (mutV i f ms) σ H Q) :
    ∃ v, σ[i]? = some (some v) ∧ tyV P.K "list" v H ∧ tAv P W ms σ H fun xs H2 => rr v xs H2 Q := by
  obtain ⟨F, io, α, r, x, h⟩ := h
  unfold mutV at h
  by_cases hl : isLst r[i]? = true
  · rw [if_pos hl] at h
    obtain ⟨a0, hv, ty⟩ := isLst_ty x hl
    refine ⟨.ref a0, hv, ty, F, io, α, r, x, ?_⟩
    cases e : args ms r with
    | stuck => rw [e] at h; exact h
    | exc c fs r1 => rw [e] at h; exact h
    | ok xs r1 =>
      rw [e] at h
      intro vs H1 α1 o1 x1 q1
      rcases keeps_no xs r1 with ⟨ds, r2, e2⟩ | e2
      · simp only [e2] at h
        obtain ⟨α2, o2, x2, rp, _⟩ := keeps_ok x1 q1 e2
        cases e3 : wrAt (fun d => f d ds) r2[i]? with
        | none => simp only [e3] at h
        | some p =>
          obtain ⟨s, y⟩ := p
          simp only [e3] at h
          obtain ⟨d, d', a, g, hv2, pl, c, cs⟩ := wrAt_get x2 e3
          rw [hv] at hv2
          cases hv2
          refine pm (Al F io α2) H1 _ d d' y ds vs Q g (.inr pl.mu) c rp fun v u c' ry => ?_
          obtain ⟨o3, x3⟩ := x2.write pl c c' hv cs
          exact h v _ α2 ((o1.trans o2).trans o3) ⟨x3, ry⟩
      · simp only [e2] at h
  · rw [if_neg hl] at h
    exact h.elim
/-! ### append, pop -/
def fApp : PyData → List PyData → Option (PyData × PyData)
  | .list xs, [y] => if xs.length < sizeLine then some (.list (xs ++ [y]), .none) else none
  | _, _ => none
theorem repL_at {O : Addr → Prop} {a : Addr} {u : HO} {d : PyData} {ds : List PyData} {vs : List V} (c : Cell K O H d a) (ha : O a) (h : RepL K O H ds vs) : RepL K O (upd H a u) ds vs :=
  RepL.ext (soft_at c) ext_at (fun b e => by rw [e]; exact ha) (fun _ _ _ z => z) h
theorem mut_app : MutR K fApp rAppend := by
  intro O H a d d' y ds vs Q e ha c rp q
  unfold fApp at e
  split at e
  · rename_i xs z
    split at e
    · rename_i hz
      cases e
      obtain ⟨ws, hH, rw'⟩ := c
      simp only [RepL] at rp
      obtain ⟨w, _, rfl, rp, rfl⟩ := rp
      refine ⟨a, ws, w, rfl, rfl, hH, by rw [← rw'.length]; exact hz, q _ _ ?_ (by simp only [Rep])⟩
      refine ⟨_, upd_same, ?_⟩
      refine repL_at (d := .list xs) ⟨ws, hH, rw'⟩ ha (RepL.append rw' ?_)
      simp only [RepL]
      exact ⟨w, [], rfl, rp, rfl⟩
    · cases e
  · cases e
def fPop : PyData → List PyData → Option (PyData × PyData)
  | .list xs, [] => (xs[xs.length - 1]?).map fun y => (.list xs.dropLast, y)
  | _, _ => none
theorem RepL.dropLast {O : Addr → Prop} {ds : List PyData} {vs : List V} (h : RepL K O H ds vs) : RepL K O H ds.dropLast vs.dropLast := by
  rw [List.dropLast_eq_take, List.dropLast_eq_take, h.length]
  exact RepL.take _ h
theorem mut_pop : MutR K fPop rPop := by
  intro O H a d d' y ds vs Q e ha c rp q
  unfold fPop at e
  split at e
  · rename_i xs
    obtain ⟨z, e1, e2⟩ := Option.map_eq_some_iff.mp e
    cases e2
    obtain ⟨ws, hH, rw'⟩ := c
    simp only [RepL] at rp
    subst rp
    obtain ⟨w, e3, rz⟩ := rw'.get e1
    refine ⟨a, ws, w, rfl, rfl, hH, by rw [← rw'.length]; exact e3, q _ _ ?_ ?_⟩
    · exact ⟨_, upd_same, repL_at (d := .list xs) ⟨ws, hH, rw'⟩ ha rw'.dropLast⟩
    · exact Rep.ext (soft_at (d := .list xs) ⟨ws, hH, rw'⟩) ext_at (fun b e => by rw [e]; exact ha) (fun _ _ _ z => z) rz
  · cases e
def fPopAt : PyData → List PyData → Option (PyData × PyData)
  | .list xs, [.int i] => if 0 ≤ i ∧ i.toNat < xs.length ∧ xs.length ≤ sizeLine then (xs[i.toNat]?).map fun y => (.list (xs.eraseIdx i.toNat), y) else none
  | _, _ => none
theorem RepL.eraseIdx {O : Addr → Prop} : ∀ {ds : List PyData} {vs : List V} (n : Nat), RepL K O H ds vs → RepL K O H (ds.eraseIdx n) (vs.eraseIdx n)
  | [], vs, n, h => by simp only [RepL] at h; rw [h]; simp [RepL]
  | d :: ds, vs, 0, h => by
    simp only [RepL] at h
    obtain ⟨w, ws, rfl, _, t⟩ := h
    exact t
  | d :: ds, vs, n + 1, h => by
    simp only [RepL] at h
    obtain ⟨w, ws, rfl, q, t⟩ := h
    simp only [List.eraseIdx_cons_succ, RepL]
    exact ⟨w, _, rfl, q, RepL.eraseIdx n t⟩
theorem mut_popAt : MutR K fPopAt rPopAt := by
  intro O H a d d' y ds vs Q e ha c rp q
  unfold fPopAt at e
  split at e
  · rename_i xs i
    split at e
    · rename_i hi
      obtain ⟨z, e1, e2⟩ := Option.map_eq_some_iff.mp e
      cases e2
      obtain ⟨ws, hH, rw'⟩ := c
      simp only [RepL, Rep] at rp
      obtain ⟨w, _, rfl, rfl, rfl⟩ := rp
      obtain ⟨w, e3, rz⟩ := rw'.get e1
      have hl := rw'.length
      have hs := sizeLine_eq
      refine ⟨a, ws, i, i.toNat, w, rfl, rfl, hH, by omega, by omega, ?_, e3, q _ _ ?_ ?_⟩
      · unfold seqIndex?
        have n0 : ¬ i < 0 := by omega
        simp only [if_neg n0]
        rw [if_pos (by
          simp only [Bool.and_eq_true, decide_eq_true_eq]
          omega)]
      · exact ⟨_, upd_same, repL_at (d := .list xs) ⟨ws, hH, rw'⟩ ha (rw'.eraseIdx _)⟩
      · exact Rep.ext (soft_at (d := .list xs) ⟨ws, hH, rw'⟩) ext_at (fun b e => by rw [e]; exact ha) (fun _ _ _ z => z) rz
    · cases e
  · cases e
/-! ### stores -/
def StoR (K : PySem.W.Frag) (f : PyData → PyData → PyData → Option PyData) (t : TSet) : Prop :=
  ∀ (O : Addr → Prop) (H : Hp) (a : Addr) (d d' k y : PyData) (kv v : V) (Q : Hp → Prop), f d k y = some d' → O a → Cell K O H d a → View K O H k kv → Rep K O H y v → (∀ u, Cell K O (upd H a u) d' a → Q (upd H a u)) → t (.ref a) kv v H Q
theorem isBox_at (x : R K F io α r σ H) {i : Nat} (h : isBox r[i]? = true) : ∃ a, σ[i]? = some (some (.ref a)) := by
  cases e : r[i]? with
  | none => rw [e] at h; cases h
  | some sl =>
    have q := x.slot i sl e
    rw [e] at h
    cases sl with
    | own d => obtain ⟨a, q1, q2, _⟩ := q; exact ⟨a, q2⟩
    | io d => obtain ⟨_, a, q1, q2, _⟩ := q; exact ⟨a, q2⟩
    | _ => cases h
theorem store_ok {D : Ends} {i : Nat} {f : PyData → PyData → PyData → Option PyData} {t : TSet} {m mk : M Rs} (pm : StoR P.K f t) (h : tEx P W (storeS i f m mk) D σ H) :
    tEv P W m σ H fun v H1 => ∃ w, σ[i]? = some (some w) ∧ tEv P W mk σ H1 fun k H2 => t w k v H2 fun H3 => D.nx σ H3 := by
  obtain ⟨F, io, α, r, x, h⟩ := h
  refine ⟨F, io, α, r, x, ?_⟩
  unfold storeS at h
  cases e : m r with
  | stuck => rw [e] at h; exact h
  | exc c fs r1 => rw [e] at h; exact h
  | ok y r1 =>
    rw [e] at h
    intro v H1 α1 o1 q1
    obtain ⟨z, e1, x1, q1⟩ := q1.held
    simp only [e1] at h
    rcases keep_no z r1 with ⟨d, r2, e2⟩ | e2
    · simp only [e2] at h
      obtain ⟨α2, o2, x2, rp, _⟩ := keep_ok x1 q1 e2
      have o12 := o1.trans o2
      unfold storeK at h
      by_cases hb : isBox r2[i]? = true
      · rw [if_pos hb] at h
        obtain ⟨a, hv⟩ := isBox_at x2 hb
        refine ⟨.ref a, hv, F, io, α2, r2, x2, ?_⟩
        cases e3 : mk r2 with
        | stuck => rw [e3] at h; exact h
        | exc c fs r3 => rw [e3] at h; exact Thrown.on h o12
        | ok k r3 =>
          rw [e3] at h
          intro kv H3 α3 o3 q3
          obtain ⟨k2, e4, x3, q3⟩ := q3.held
          simp only [e4] at h
          rcases look_no k2 r3 with ⟨kd, e5⟩ | e5
          · simp only [e5] at h
            obtain ⟨_, vw⟩ := x3.seen e5 q3
            cases e6 : wrAt (fun d' => (f d' kd d).map fun e => (e, PyData.none)) r3[i]? with
            | none => simp only [e6] at h
            | some p =>
              obtain ⟨s, yy⟩ := p
              simp only [e6] at h
              obtain ⟨d1, d2, a2, g, hv2, pl, c, cs⟩ := wrAt_get x3 e6
              rw [hv] at hv2
              cases hv2
              obtain ⟨d3, g1, g2⟩ := Option.map_eq_some_iff.mp g
              cases g2
              refine pm (Al F io α3) H3 a d1 _ kd d kv v _ g1 (.inr pl.mu) c vw (Rep.ext x2.soft o3.ext (fun _ z => .inr z) (fun b ob q z => z.imp id (o3.sub b ob q)) rp) fun u c' => ?_
              obtain ⟨o4, x4⟩ := x3.write pl c c' hv cs
              exact h _ _ α3 ((o12.trans o3).trans o4) x4
          · simp only [e5] at h
      · rw [if_neg hb] at h
        exact h.elim
    · simp only [e2] at h
def fStore : PyData → PyData → PyData → Option PyData
  | .list xs, .int k, v => (ixN xs.length k).map fun j => .list (xs.set j v)
  | .dict kvs, k, v => if keyD k && decide (kvs.length < sizeLine) then some (.dict (putKv k v kvs)) else none
  | _, _, _ => none
theorem RepL.set {O : Addr → Prop} : ∀ {ds : List PyData} {vs : List V} (n : Nat) {d : PyData} {v : V}, RepL K O H ds vs → Rep K O H d v → RepL K O H (ds.set n d) (vs.set n v)
  | [], vs, n, d, v, h, _ => by simp only [RepL] at h; rw [h]; simp [RepL]
  | d :: ds, vs, 0, d2, v, h, q => by
    simp only [RepL] at h
    obtain ⟨w, ws, rfl, _, t⟩ := h
    simp only [List.set_cons_zero, RepL]
    exact ⟨v, ws, rfl, q, t⟩
  | d :: ds, vs, n + 1, d2, v, h, q => by
    simp only [RepL] at h
    obtain ⟨w, ws, rfl, q1, t⟩ := h
    simp only [List.set_cons_succ, RepL]
    exact ⟨w, _, rfl, q1, RepL.set n t q⟩
theorem rep_any {O : Addr → Prop} {k : PyData} {kk : Key} (hk : KeyIs k kk) : ∀ {kvs : List (PyData × PyData)} {ks : List (Key × V)}, RepK K O H kvs (ks.map fun p => (kV p.1, p.2)) → (kvs.any fun p => PyData.eqv p.1 k) = ks.any fun p => decide (p.1 = kk)
  | [], ks, h => by
    simp only [RepK] at h
    cases ks with
    | nil => rfl
    | cons a b => cases h
  | (a, b) :: t, ks, h => by
    simp only [RepK] at h
    obtain ⟨w, z, ws, e, ra, rb, rr⟩ := h
    cases ks with
    | nil => cases e
    | cons p ks =>
      rw [List.map_cons] at e
      injection e with e1 e2
      injection e1 with e3 e4
      subst e3 e4 e2
      rw [List.any_cons, List.any_cons, rep_any hk rr]
      have q := key_eqv (rep_key ra) hk
      by_cases c : p.1 = kk
      · rw [q.mpr c, decide_eq_true c]
      · rw [decide_eq_false c, Bool.eq_false_iff.mpr fun z => c (q.mp z)]
theorem rep_put {O : Addr → Prop} {k : PyData} {kk : Key} (hk : KeyIs k kk) {v : PyData} {vv : V} (hv : Rep K O H v vv) : ∀ {kvs : List (PyData × PyData)} {ks : List (Key × V)}, RepK K O H kvs (ks.map fun p => (kV p.1, p.2)) →
    RepK K O H (kvs.map fun p => if PyData.eqv p.1 k = true then (p.1, v) else p) ((ks.map fun kv => if kv.1 = kk then (kv.1, vv) else kv).map fun p => (kV p.1, p.2))
  | [], ks, h => by
    simp only [RepK] at h
    cases ks with
    | nil => simp [RepK]
    | cons a b => cases h
  | (a, b) :: t, ks, h => by
    simp only [RepK] at h
    obtain ⟨w, z, ws, e, ra, rb, rr⟩ := h
    cases ks with
    | nil => cases e
    | cons p ks =>
      rw [List.map_cons] at e
      injection e with e1 e2
      injection e1 with e3 e4
      subst e3 e4 e2
      have q := key_eqv (rep_key ra) hk
      have t := rep_put hk hv rr
      rw [List.map_cons, List.map_cons, List.map_cons]
      by_cases c : p.1 = kk
      · rw [if_pos (q.mpr c), if_pos c]
        simp only [RepK]
        exact ⟨_, _, _, rfl, ra, hv, t⟩
      · rw [if_neg fun z => c (q.mp z), if_neg c]
        simp only [RepK]
        exact ⟨_, _, _, rfl, ra, rb, t⟩
theorem rep_snoc {O : Addr → Prop} {k : PyData} {kk : Key} (hkv : Rep K O H k (kV kk)) {v : PyData} {vv : V} (hv : Rep K O H v vv) : ∀ {kvs : List (PyData × PyData)} {ks : List (Key × V)}, RepK K O H kvs (ks.map fun p => (kV p.1, p.2)) →
    RepK K O H (kvs ++ [(k, v)]) ((ks ++ [(kk, vv)]).map fun p => (kV p.1, p.2))
  | [], ks, h => by
    simp only [RepK] at h
    cases ks with
    | nil =>
      simp only [List.nil_append, List.map_cons, List.map_nil, RepK]
      exact ⟨_, _, _, rfl, hkv, hv, rfl⟩
    | cons a b => cases h
  | (a, b) :: t, ks, h => by
    simp only [RepK] at h
    obtain ⟨w, z, ws, e, ra, rb, rr⟩ := h
    cases ks with
    | nil => cases e
    | cons p ks =>
      rw [List.map_cons] at e
      injection e with e1 e2
      injection e1 with e3 e4
      subst e3 e4 e2
      have t := rep_snoc hkv hv rr
      rw [List.cons_append, List.cons_append, List.map_cons]
      simp only [RepK]
      exact ⟨_, _, _, rfl, ra, rb, t⟩
theorem repK_len {O : Addr → Prop} : ∀ {kvs : List (PyData × PyData)} {ks : List (V × V)}, RepK K O H kvs ks → kvs.length = ks.length
  | [], ks, h => by simp only [RepK] at h; rw [h]; rfl
  | (a, b) :: t, ks, h => by
    simp only [RepK] at h
    obtain ⟨w, z, ws, rfl, ra, rb, rr⟩ := h
    rw [List.length_cons, List.length_cons, repK_len rr]
theorem repK_at {O : Addr → Prop} {a : Addr} {u : HO} {d : PyData} {ds : List (PyData × PyData)} {vs : List (V × V)} (c : Cell K O H d a) (ha : O a) (h : RepK K O H ds vs) : RepK K O (upd H a u) ds vs :=
  RepK.ext (soft_at c) ext_at (fun b e => by rw [e]; exact ha) (fun _ _ _ z => z) h
def rSetA : TSet := fun o i v H Q => rSetL o i v H Q ∨ rSetD o i v H Q
theorem set_any (hu : X.A.units + 1 < cLine) : PSet X rSetA := by
  intro pins s σ H o i v ov iv u Q I ro ri rv h
  rcases h with h | h
  · exact set_list pins s σ H o i v ov iv u Q I ro ri rv h
  · exact set_dict hu pins s σ H o i v ov iv u Q I ro ri rv h
theorem sto_any : StoR K fStore rSetA := by
  intro O H a d d' k y kv v Q e ha c hk hy q
  unfold fStore at e
  split at e
  · rename_i xs j
    obtain ⟨n, e1, rfl⟩ := Option.map_eq_some_iff.mp e
    obtain ⟨ws, hH, rw'⟩ := c
    cases hk.int
    refine .inl ⟨a, ws, j, n, rfl, rfl, hH, by rw [← rw'.length]; exact e1, q _ ⟨_, upd_same, ?_⟩⟩
    exact repL_at (d := .list xs) ⟨ws, hH, rw'⟩ ha (RepL.set n rw' hy)
  · rename_i kvs
    split at e
    · rename_i hc
      simp only [Bool.and_eq_true, decide_eq_true_eq] at hc
      cases e
      have c0 := c
      obtain ⟨kvv, ⟨ks, hH, rfl⟩, rp⟩ := c
      obtain ⟨kk, hkk⟩ := keyD_of hc.1
      have hkv := hkk.v hk
      subst hkv
      have hl := repK_len rp
      rw [List.length_map] at hl
      refine .inr ⟨a, _, rfl, DPut.k hH (by rw [← hl]; exact hc.2), q _ ⟨_, ⟨_, upd_same, rfl⟩, ?_⟩⟩
      refine repK_at c0 ha ?_
      unfold putKv putK
      rw [rep_any hkk rp]
      have hkr : Rep K O H k (kV kk) := by
        cases k with
        | int i => have z : kk = .inl i := hkk; subst z; simp only [Rep, kV]
        | str i => have z : kk = .inr i := hkk; subst z; simp only [Rep, kV]
        | _ => exact hkk.elim
      split
      · exact rep_put hkk hy rp
      · exact rep_snoc hkr hy rp
    · cases e
  · cases e
theorem swap_sub {e o i : Expr} {p : Pos} {l : Nat} {env : Env} : swapsWithSole [.Subscript o i p] e l env = pure false := by
  show swapsWith e (some (.Subscript o i p)) l env = pure false
  cases e <;> rfl
def isSl : Expr → Bool
  | .Slice _ _ _ _ => true
  | .Tuple _ _ _ => true
  | _ => false
theorem asg0 {o k : Expr} {p : Pos} {env : Env} (h : isSl k = false) (v : Value) : assign (.Subscript o k p) env v = (do
      let ov ← holding [v] (eval o env)
      let iv ← holding [v, ov] (eval k env)
      standAt p
      holding [v, ov, iv] (setItem ov iv v)
      release [v, ov, iv] []) := by
  cases k <;> first | rfl | cases h
theorem ps_store' {i : Nat} {x : Str} {px pt pos : Pos} {k e : Expr} {m mk : M Rs} (hu : X.A.units + 1 < cLine) (hsl : isSl k = false) (hN : X.N[i]? = some x) (hv : Vis X.env.scope x) (hd : (x == ("__debug__" : Str)) = false) (hcd : (x == ("__classdict__" : Str)) = false)
    (he : PE X e (tEv P W m)) (hk : PE X k (tEv P W mk)) : PS X (.Assign [.Subscript (.Name x px) k pt] e pos) (tEx P W (storeS i fStore m mk)) :=
  PS.weak (ps_asg he (pg_sub (pe_var hN hv hd hcd) hk (set_any hu) (asg0 hsl)) swap_sub (by rfl) (by rfl)) fun D σ H h => store_ok sto_any h
end
end Ip

set_option Elab.async false
set_option linter.all false
set_option maxRecDepth 100000
set_option maxHeartbeats 1000000
/-! The translation of expressions, tests, sources, statements. -/
namespace Ip
open PySem PySem.Spec PyProof.Rows L2

structure CE (S : Sig) (e : Expr) where
  m : M Rs
  ok : ∀ P W X, XOk S P W X → PE X e (tEv P W m)
structure CA (S : Sig) (es : List Expr) where
  m : List (M Rs)
  ok : ∀ P W X, XOk S P W X → PA X es (tAv P W m)
structure CT (S : Sig) (e : Expr) where
  m : M Bool
  ok : ∀ P W X, XOk S P W X → PT X e (tBv P W m)
structure CW (S : Sig) (e : Expr) where
  m : M Bool
  ok : ∀ P W X, XOk S P W X → PW X e (tBv P W m)
structure CI (S : Sig) (tg iter : Expr) where
  m : M (List D × List Nat)
  ok : ∀ P W X, XOk S P W X → PI X tg iter (tCv P W m)
structure CG (S : Sig) (tg : Expr) where
  is : List Nat
  m : D → M Unit
  ok : ∀ P W X, XOk S P W X → PG X tg (tTg P is m)
  nox : ∀ d r c fs r', m d r ≠ .exc c fs r'
structure CGs (S : Sig) (tg : List Expr) where
  is : List Nat
  len : is.length = tg.length
  ok : ∀ P W X, XOk S P W X → PGs X tg (tTgs P is)
  nst : ∀ X : Cx, (assignEach tg X.env).length = tg.length ∧ (assignEach tg X.env).findIdx? (·.1) = none
structure CS (S : Sig) (s : Stmt) where
  m : M Fl
  ok : ∀ P W X, XOk S P W X → PS X s (tEx P W m)
structure CSs (S : Sig) (s : List Stmt) where
  m : M Fl
  ok : ∀ P W X, XOk S P W X → PSs X s (tEx P W m)
structure Cmp where
  e : (S : Sig) → (e : Expr) → Option (CE S e)
  t : (S : Sig) → (e : Expr) → Option (CT S e)
  s : (S : Sig) → (s : Stmt) → Option (CS S s)

/-! ### shapes -/
def isStar : Expr → Bool
  | .Starred _ _ => true
  | _ => false
theorem star0 {e : Expr} {es : List Expr} {env : Env} (h : isStar e = false) : starEach (e :: es) env = (false, eval e env) :: starEach es env := by
  cases e <;> first | rfl | cases h
theorem stars0 {env : Env} {pos : Pos} : ∀ {es : List Expr}, es.any isStar = false → (backTo pos (starEach es env)).any (·.1) = false
  | [], _ => rfl
  | e :: es, h => by
    simp only [List.any_cons, Bool.or_eq_false_iff] at h
    rw [star0 h.1]
    have := stars0 (env := env) (pos := pos) h.2
    unfold backTo at this ⊢
    simp only [List.map_cons, List.any_cons, Bool.false_or]
    exact this
def isSetE : Expr → Bool
  | .Set _ _ _ => true
  | _ => false
theorem mark0 {op : CmpOp} {b : Expr} (h : isSetE b = false) : behindInMarks op b = false := by
  cases b <;> first | rfl | cases h
theorem fold0 {e : Expr} (h : isSetE e = false) (env : Env) (x : Value) : foldedSetIterable e env x = pure x := by
  cases e <;> first | rfl | cases h
def isComp : Expr → Bool
  | .ListComp _ _ _ _ => true
  | .SetComp _ _ _ _ => true
  | .DictComp _ _ _ _ _ => true
  | _ => false
theorem swap0 {e : Expr} {t : Option Expr} {l : Nat} {env : Env} (h : isComp e = false) : swapsWith e t l env = pure false := by
  cases e <;> first | rfl | cases h
def isVal : Expr → Bool
  | .UnaryOp .Not _ _ => false
  | .BoolOp _ _ _ => false
  | .IfExp _ _ _ _ => false
  | .Compare _ _ _ _ => false
  | _ => true
theorem val0 {e : Expr} {env : Env} (h : isVal e = true) (whole : Sem Value) : isTrue e env whole = (do let v ← whole; standAt e.pos; holding [v] (truthy v)) := by
  cases e <;> first | rfl | cases h | skip
  case UnaryOp op x p => cases op <;> first | rfl | cases h

section
variable {S : Sig} {P : Par} {W : WX} {X : Cx}
theorem PW.pt {e : Expr} {t : TT} (h : PW X e t) : PT X e t := ⟨fun pins s σ H Q I q => h.run _ pins s σ H Q I q⟩
/-! ### expressions -/
def CA.nil {S : Sig} : CA S [] := ⟨[], fun _ _ _ _ => pa_nil'⟩
def cArgs (self : Cmp) (S : Sig) : (es : List Expr) → Option (CA S es)
  | [] => some .nil
  | e :: es => if hs : isStar e = false then
      match self.e S e with
      | some a => match cArgs self S es with
        | some b => some ⟨a.m :: b.m, fun P W X h => pa_cons' (a.ok P W X h) (b.ok P W X h) (star0 hs)⟩
        | none => none
      | none => none
    else none
def cName (S : Sig) (x : Str) (pos : Pos) : Option (CE S (.Name x pos)) :=
  if hd : ((x == ("__debug__" : Str)) = false ∧ (x == ("__classdict__" : Str)) = false) then
    match hk : S.sc.names.lookup x with
    | some k => if hk2 : seenK k = true then
        match hi : S.slot x with
        | some i => some ⟨nm i, fun P W X h => px_nm (h.slot hi) (h.vis hk hk2) hd.1 hd.2⟩
        | none => none
      else if hg : isGl S x = true then match hc : S.co x with
        | some d => some ⟨kst d, fun P W X h => by
            obtain ⟨u, v, h1, h2, h3⟩ := h.cos x d hc
            exact px_glob (h.glob hg) h1 h2 h3 hd.1⟩
        | none => none
      else none
    | none => none
  else none
def cConst (S : Sig) : (c : Const) → (j : Nat) → (pos : Pos) → Option (CE S (.Constant c j pos))
  | .int i, j, pos => some ⟨kst (.int i), fun _ _ _ _ => px_int⟩
  | .bool i, j, pos => some ⟨kst (.bool i), fun _ _ _ _ => px_bool⟩
  | .str i, j, pos => some ⟨kst (.str i), fun _ _ _ _ => px_str⟩
  | .none, j, pos => some ⟨kst .none, fun _ _ _ _ => px_none⟩
  | _, _, _ => none
/-- a two-place operator's rule -/
structure OB (op : Operator) where
  f : Op
  ok : ∀ S P W X, XOk S P W X → ∃ r, OpR X (binaryOp op) r ∧ Prm P.K f (r2 r)
structure OC (op : CmpOp) where
  f : Op
  ok : ∀ S P W X, XOk S P W X → ∃ r, OpR X (compareOp op) r ∧ Prm P.K f (r2 r)
def obSub : OB .Sub := ⟨oSub, fun _ _ _ _ _ => ⟨_, op_sub, prm_sub⟩⟩
def obMod : OB .Mod := ⟨oMod, fun _ _ _ _ _ => ⟨_, op_mod, prm_mod⟩⟩
def obFdiv : OB .FloorDiv := ⟨oFdiv, fun _ _ _ _ _ => ⟨_, op_fdiv, prm_fdiv⟩⟩
def obPow : OB .Pow := ⟨oPow, fun _ _ _ _ _ => ⟨_, op_pow, prm_pow⟩⟩
def ocLt : OC .Lt := ⟨oLt, fun _ _ _ _ _ => ⟨_, op_lt, prm_lt⟩⟩
def ocLe : OC .LtE := ⟨oLe, fun _ _ _ _ _ => ⟨_, op_le, prm_le⟩⟩
def ocGt : OC .Gt := ⟨oGt, fun _ _ _ _ _ => ⟨_, op_gt, prm_gt⟩⟩
def ocGe : OC .GtE := ⟨oGe, fun _ _ _ _ _ => ⟨_, op_ge, prm_ge⟩⟩
def ocEq : OC .Eq := ⟨oEq, fun S P W X h => ⟨_, op_eqD (by have := h.units; omega), by rw [← h.hK]; exact prm_eq⟩⟩
def ocNe : OC .NotEq := ⟨oNe, fun S P W X h => ⟨_, op_neD (by have := h.units; omega), by rw [← h.hK]; exact prm_ne⟩⟩
def ocIs : OC .Is := ⟨oIsN, fun _ _ _ _ _ => ⟨_, op_isN, prm_isN⟩⟩
def ocIsNot : OC .IsNot := ⟨oNotN, fun _ _ _ _ _ => ⟨_, op_notN, prm_notN⟩⟩
def obAdd : OB .Add := ⟨oAdd', fun S P W X h => ⟨_, op_addA, by rw [← h.hK]; exact prm_add⟩⟩
def obMul : OB .Mult := ⟨oMulA, fun S P W X h => ⟨_, op_mulA, by rw [← h.hK]; exact prm_mul⟩⟩
def ocIn : OC .In := ⟨oIn, fun S P W X h => ⟨_, op_inA (by have := h.units; omega), by rw [← h.hK]; exact prm_in⟩⟩
def ocNotIn : OC .NotIn := ⟨oNotIn, fun S P W X h => ⟨_, op_notInA (by have := h.units; omega), by rw [← h.hK]; exact prm_notIn⟩⟩
def obOf : (op : Operator) → Option (OB op)
  | .Add => some obAdd
  | .Sub => some obSub
  | .Mult => some obMul
  | .Mod => some obMod
  | .FloorDiv => some obFdiv
  | .Pow => some obPow
  | _ => none
def ocOf : (op : CmpOp) → Option (OC op)
  | .Lt => some ocLt
  | .LtE => some ocLe
  | .Gt => some ocGt
  | .GtE => some ocGe
  | .Eq => some ocEq
  | .NotEq => some ocNe
  | .Is => some ocIs
  | .IsNot => some ocIsNot
  | .In => some ocIn
  | .NotIn => some ocNotIn
def cBin (self : Cmp) (S : Sig) (a : Expr) (op : Operator) (b : Expr) (pos : Pos) : Option (CE S (.BinOp a op b pos)) :=
  match obOf op with
  | some o => match self.e S a with
    | some ca => match self.e S b with
      | some cb => some ⟨prim o.f [ca.m, cb.m], fun P W X h => by
          obtain ⟨r, h1, h2⟩ := o.ok S P W X h
          exact px_op h1 h2 (ca.ok P W X h) (cb.ok P W X h)⟩
      | none => none
    | none => none
  | none => none
theorem marks2 {op op' : CmpOp} {b c : Expr} (h : isSetE c = false) : lastMarks [op, op'] [b, c] = false := mark0 h
def cCmp (self : Cmp) (S : Sig) (a : Expr) : (ops : List CmpOp) → (bs : List Expr) → (pos : Pos) → Option (CE S (.Compare a ops bs pos))
  | [op], [b], pos => if hb : isSetE b = false then match ocOf op with
    | some o => match self.e S a with
      | some ca => match self.e S b with
        | some cb => some ⟨prim o.f [ca.m, cb.m], fun P W X h => by
            obtain ⟨r, h1, h2⟩ := o.ok S P W X h
            exact px_cmp h1 h2 (ca.ok P W X h) (cb.ok P W X h) (mark0 hb)⟩
        | none => none
      | none => none
    | none => none
    else none
  | [op, op'], [b, c], pos => if hb : isSetE c = false then match ocOf op with
    | some o => match ocOf op' with
      | some o' => match self.e S a with
        | some ca => match self.e S b with
          | some cb => match self.e S c with
            | some cc => some ⟨chainV o.f o'.f ca.m cb.m cc.m, fun P W X h => by
                obtain ⟨r, h1, h2⟩ := o.ok S P W X h
                obtain ⟨r', h3, h4⟩ := o'.ok S P W X h
                exact px_chain h1 h2 h3 h4 (ca.ok P W X h) (cb.ok P W X h) (cc.ok P W X h) (marks2 hb)⟩
            | none => none
          | none => none
        | none => none
      | none => none
    | none => none
    else none
  | _, _, _ => none
def cCmpT (self : Cmp) (S : Sig) (a : Expr) : (ops : List CmpOp) → (bs : List Expr) → (pos : Pos) → Option (CT S (.Compare a ops bs pos))
  | [op], [b], pos => if hb : isSetE b = false then match ocOf op with
    | some o => match self.e S a with
      | some ca => match self.e S b with
        | some cb => some ⟨tst (prim o.f [ca.m, cb.m]), fun P W X h => by
            obtain ⟨r, h1, h2⟩ := o.ok S P W X h
            exact pt_cmp' h1 h2 (ca.ok P W X h) (cb.ok P W X h) (mark0 hb)⟩
        | none => none
      | none => none
    | none => none
    else none
  | [op, op'], [b, c], pos => if hb : isSetE c = false then match ocOf op with
    | some o => match ocOf op' with
      | some o' => match self.e S a with
        | some ca => match self.e S b with
          | some cb => match self.e S c with
            | some cc => some ⟨tst (chainV o.f o'.f ca.m cb.m cc.m), fun P W X h => by
                obtain ⟨r, h1, h2⟩ := o.ok S P W X h
                obtain ⟨r', h3, h4⟩ := o'.ok S P W X h
                exact pt_chain' h1 h2 h3 h4 (ca.ok P W X h) (cb.ok P W X h) (cc.ok P W X h) (marks2 hb)⟩
            | none => none
          | none => none
        | none => none
      | none => none
    | none => none
    else none
  | _, _, _ => none
/-! ### tests -/
def cAnds (self : Cmp) (S : Sig) (pos : Pos) : (es : List Expr) → Option (CW S (.BoolOp .And es pos))
  | [] => none
  | [a] => match self.t S a with
    | some ca => some ⟨ca.m, fun P W X h => pw_one' (ca.ok P W X h)⟩
    | none => none
  | a :: b :: es => match self.t S a with
    | some ca => match cAnds self S pos (b :: es) with
      | some cb => some ⟨andB ca.m cb.m, fun P W X h => pw_and' (ca.ok P W X h) (cb.ok P W X h)⟩
      | none => none
    | none => none
def cOrs (self : Cmp) (S : Sig) (pos : Pos) : (es : List Expr) → Option (CW S (.BoolOp .Or es pos))
  | [] => none
  | [a] => match self.t S a with
    | some ca => some ⟨ca.m, fun P W X h => pw_oone' (ca.ok P W X h)⟩
    | none => none
  | a :: b :: es => match self.t S a with
    | some ca => match cOrs self S pos (b :: es) with
      | some cb => some ⟨orB ca.m cb.m, fun P W X h => pw_or' (ca.ok P W X h) (cb.ok P W X h)⟩
      | none => none
    | none => none
def cVal (self : Cmp) (S : Sig) (e : Expr) : Option (CT S e) :=
  if hv : isVal e = true then match self.e S e with
    | some ca => some ⟨tst ca.m, fun P W X h => pt_tst (ca.ok P W X h) (val0 hv)⟩
    | none => none
  else none
def tStep (self : Cmp) (S : Sig) : (e : Expr) → Option (CT S e)
  | .UnaryOp .Not a pos => match self.t S a with
    | some ca => some ⟨notB ca.m, fun P W X h => pt_not' (ca.ok P W X h)⟩
    | none => none
  | .BoolOp .And es pos => match cAnds self S pos es with
    | some ca => some ⟨ca.m, fun P W X h => PW.pt (ca.ok P W X h)⟩
    | none => none
  | .BoolOp .Or es pos => match cOrs self S pos es with
    | some ca => some ⟨ca.m, fun P W X h => PW.pt (ca.ok P W X h)⟩
    | none => none
  | .Compare a ops bs pos => cCmpT self S a ops bs pos
  | e => cVal self S e
/-! ### values by and, or -/
def cAndV (self : Cmp) (S : Sig) (pos : Pos) : (es : List Expr) → Option (CE S (.BoolOp .And es pos))
  | [] => none
  | [a] => match self.e S a with
    | some ca => some ⟨ca.m, fun P W X h => pe_one (ca.ok P W X h)⟩
    | none => none
  | a :: b :: es => match self.e S a with
    | some ca => match cAndV self S pos (b :: es) with
      | some cb => some ⟨andV ca.m cb.m, fun P W X h => px_and (ca.ok P W X h) (cb.ok P W X h)⟩
      | none => none
    | none => none
def cOrV (self : Cmp) (S : Sig) (pos : Pos) : (es : List Expr) → Option (CE S (.BoolOp .Or es pos))
  | [] => none
  | [a] => match self.e S a with
    | some ca => some ⟨ca.m, fun P W X h => pe_one (ca.ok P W X h)⟩
    | none => none
  | a :: b :: es => match self.e S a with
    | some ca => match cOrV self S pos (b :: es) with
      | some cb => some ⟨orV ca.m cb.m, fun P W X h => px_or (ca.ok P W X h) (cb.ok P W X h)⟩
      | none => none
    | none => none
end
end Ip

set_option Elab.async false
set_option linter.all false
set_option maxRecDepth 100000
set_option maxHeartbeats 1000000
/-! Targets, calls, places, comprehensions. -/
namespace Ip
open PySem PySem.Spec PyProof.Rows L2
section
variable {S : Sig} {P : Par} {W : WX} {X : Cx}
/-! ### targets -/
def cTgs (S : Sig) : (es : List Expr) → Option (CGs S es)
  | [] => some ⟨[], rfl, fun _ _ _ _ => pgs_nil', fun _ => ⟨rfl, rfl⟩⟩
  | .Name x pos :: es => match hk : S.sc.names.lookup x with
    | some k => if hk2 : ownK k = true then match hi : S.slot x with
      | some i => match cTgs S es with
        | some c => some ⟨i :: c.is, by simp [c.len], fun P W X h => pgs_cons' h.nd' (h.slot hi) (h.loc hk hk2).1 (h.loc hk hk2).2 (c.ok P W X h), fun X => by
            have := c.nst X
            constructor
            · show (_ :: assignEach es X.env).length = es.length + 1
              rw [List.length_cons, this.1]
            · show (_ :: assignEach es X.env).findIdx? _ = none
              rw [List.findIdx?_cons, this.2]
              rfl⟩
        | none => none
      | none => none
      else none
    | none => none
  | _ :: _ => none
def cTg (S : Sig) : (e : Expr) → Option (CG S e)
  | .Name x pos => match hk : S.sc.names.lookup x with
    | some k => if hk2 : ownK k = true then match hi : S.slot x with
      | some i => some ⟨[i], tgOne i, fun P W X h => pg_one h.nd' (h.slot hi) (h.loc hk hk2).1 (h.loc hk hk2).2, tgOne_noexc⟩
      | none => none
      else none
    | none => none
  | .Tuple es k pos => match cTgs S es with
    | some c => some ⟨c.is, tgMany c.is, fun P W X h => pg_many h.hK h.calm (c.ok P W X h) c.len (c.nst X).1 (c.nst X).2, tgMany_noexc⟩
    | none => none
  | _ => none
/-! ### calls of own defs, of built-ins -/
def cOwn (self : Cmp) (S : Sig) (x : Str) (p : Pos) (pos : Pos) : (es : List Expr) → Option (CE S (.Call (.Name x p) es [] pos))
  | [] => none
  | e :: es => if hd : (x == ("__debug__" : Str)) = false ∧ isStar e = false ∧ es.any isStar = false ∧ isGl S x = true then
      match hf : S.fn x with
      | some (mu, g) => match cArgs self S (e :: es) with
        | some ⟨m :: ms, ok⟩ => some ⟨callV g mu (m :: ms), fun P W X h => by
            obtain ⟨f, fd, ps, h1, h2, h3, h4⟩ := h.fns x mu g hf
            exact px_call h1 h.room (h.glob hd.2.2.2) h2 h3 h4 h.pas (ok P W X h) hd.1 (star0 hd.2.1) (stars0 hd.2.2.1)⟩
        | _ => none
      | none => none
    else none
structure Bi where
  x : Str
  f : Op
  nn : x ≠ "__name__"
  nd : (x == ("__debug__" : Str)) = false
  ok : ∀ S P W X, XOk S P W X → (∃ id rr, CallR X (.builtin id) rr ∧ Prm P.K f rr ∧ bootBuiltins x = some (.builtin id)) ∨ ∃ T rr, CallR X (.type T) rr ∧ Prm P.K f rr ∧ bootBuiltins x = some (.type T)
def biLen : Bi := ⟨"len", oLen, by decide, by decide, fun S P W X h => .inl ⟨_, _, call_len_seq, by rw [← h.hK]; exact prm_len, bt_len⟩⟩
def biList : Bi := ⟨"list", oList, by decide, by decide, fun S P W X h => .inr ⟨_, _, call_list_of, by rw [← h.hK]; exact prm_list, bt_list⟩⟩
def biTuple : Bi := ⟨"tuple", oTuple, by decide, by decide, fun S P W X h => .inr ⟨_, _, call_tupleB, by rw [← h.hK]; exact prm_tuple, bt_tuple⟩⟩
def biInt : Bi := ⟨"int", oInt, by decide, by decide, fun S P W X h => .inr ⟨_, _, call_int1, prm_int, bt_int⟩⟩
def biSum : Bi := ⟨"sum", oSum, by decide, by decide, fun S P W X h => .inl ⟨_, _, cr_sum h.calm, by rw [← h.hK]; exact prm_sum, bt_sum⟩⟩
def biMax : Bi := ⟨"max", oMax, by decide, by decide, fun S P W X h => .inl ⟨_, _, cr_max h.calm, by rw [← h.hK]; exact prm_max, bt_max⟩⟩
def biAny : Bi := ⟨"any", oAny, by decide, by decide, fun S P W X h => .inl ⟨_, _, cr_any h.calm, by rw [← h.hK]; exact prm_any, bt_any⟩⟩
def biAll : Bi := ⟨"all", oAll, by decide, by decide, fun S P W X h => .inl ⟨_, _, cr_all h.calm, by rw [← h.hK]; exact prm_all, bt_all⟩⟩
def findBi (x : Str) : (bs : List Bi) → Option {b : Bi // b.x = x}
  | [] => none
  | b :: bs => if h : b.x = x then some ⟨b, h⟩ else findBi x bs
def cBi (bs : List Bi) (self : Cmp) (S : Sig) (x : Str) (p : Pos) (pos : Pos) : (es : List Expr) → Option (CE S (.Call (.Name x p) es [] pos))
  | [] => none
  | e :: es => if hd : isStar e = false ∧ es.any isStar = false ∧ isGl S x = true ∧ S.bi x = true then
      match findBi x bs with
      | some ⟨b, hb⟩ => match cArgs self S (e :: es) with
        | some ⟨m :: ms, ok⟩ => some ⟨prim b.f (m :: ms), fun P W X h => by
            subst hb
            rcases b.ok S P W X h with ⟨id, rr, h1, h2, h3⟩ | ⟨T, rr, h1, h2, h3⟩
            · exact px_blt h1 h2 (h.glob hd.2.2.1) (h.bis _ hd.2.2.2) h3 (ok P W X h) b.nn b.nd (star0 hd.1) (stars0 hd.2.1)
            · exact px_ty h1 h2 (h.glob hd.2.2.1) (h.bis _ hd.2.2.2) h3 (ok P W X h) b.nn b.nd (star0 hd.1) (stars0 hd.2.1)⟩
        | _ => none
      | none => none
    else none
def allGl (S : Sig) (xs : List Str) : Bool := xs.all fun x => isGl S x && S.bi x
theorem allGl_ok {xs : List Str} (e : allGl S xs = true) (h : XOk S P W X) : ∀ x ∈ xs, Gl X x ∧ X.mg x = none := fun x hx => by
  have := List.all_eq_true.mp e x hx
  simp only [Bool.and_eq_true] at this
  exact ⟨h.glob this.1, h.bis _ this.2⟩
def cIsi (self : Cmp) (S : Sig) (p : Pos) (pos : Pos) : (es : List Expr) → Option (CE S (.Call (.Name "isinstance" p) es [] pos))
  | [a, .Name x p2] => if hd : isStar a = false ∧ allGl S ["isinstance", x] = true then match ht : tyNm x with
    | some t => match self.e S a with
      | some c => some ⟨prim (oIsiA [t]) [c.m], fun P W X h => by
          have q := allGl_ok hd.2 h
          have q1 := q "isinstance" (by simp)
          have q2 := q x (by simp)
          exact px_isi h.hK (c.ok P W X h) ht q1.1 q1.2 q2.1 q2.2 (star0 hd.1)⟩
      | none => none
    | none => none
    else none
  | [a, .Tuple es k p2] => if hd : isStar a = false ∧ allGl S ("isinstance" :: nmsOf es) = true then match ht : tyNms es with
    | some ts => if hz : ts.length ≤ 10 then match self.e S a with
      | some c => some ⟨prim (oIsiA ts) [c.m], fun P W X h => by
          have q := allGl_ok hd.2 h
          have q1 := q "isinstance" (by simp)
          exact px_isiT h.hK (c.ok P W X h) ht (Nat.le_trans hz (by rw [sizeLine_eq]; decide)) q1.1 q1.2 (fun x hx => q x (by simp [hx])) (star0 hd.1)⟩
      | none => none
      else none
    | none => none
    else none
  | _ => none
/-! ### places -/
def ixOk : Expr → Bool
  | .Slice _ _ _ _ => false
  | .Tuple _ _ _ => false
  | _ => true
theorem plain0 {b : Expr} (h : ixOk b = true) : PlainIx b := by
  cases b <;> first | (intro o i; rfl) | cases h
def cIx (self : Cmp) (S : Sig) (a b : Expr) (pos : Pos) : Option (CE S (.Subscript a b pos)) :=
  if hb : ixOk b = true then match self.e S a with
    | some ca => match self.e S b with
      | some cb => some ⟨prim oIx [ca.m, cb.m], fun P W X h => PE.weak (pe_ix (ix_list.or ix_tup) (ca.ok P W X h) (cb.ok P W X h) (plain0 hb)) fun σ H Q q => by
          rw [← h.hK]
          exact two_ok prm_ix q⟩
      | none => none
    | none => none
  else none
def cNeg (self : Cmp) (S : Sig) (a : Expr) (pos : Pos) : Option (CE S (.UnaryOp .USub a pos)) := match self.e S a with
  | some ca => some ⟨prim oNeg [ca.m], fun P W X h => PE.weak (pe_un un_neg (ca.ok P W X h)) fun σ H Q q => one_ok prm_neg q⟩
  | none => none
def cNot (self : Cmp) (S : Sig) (a : Expr) (pos : Pos) : Option (CE S (.UnaryOp .Not a pos)) := match self.e S a with
  | some ca => some ⟨prim oNot [ca.m], fun P W X h => px_not (ca.ok P W X h)⟩
  | none => none
/-! ### sources -/
def cRange (self : Cmp) (S : Sig) (tg : Expr) (p pos : Pos) : (es : List Expr) → Option (CI S tg (.Call (.Name "range" p) es [] pos))
  | [a] => if hd : isStar a = false ∧ allGl S ["range"] = true then match cArgs self S [a] with
    | some ⟨[m], ok⟩ => some ⟨srcR [m], fun P W X h => by
        have q := allGl_ok hd.2 h "range" (by simp)
        exact pi_r1 q.1 q.2 (ok P W X h) (star0 hd.1)⟩
    | _ => none
    else none
  | [a, b] => if hd : isStar a = false ∧ isStar b = false ∧ allGl S ["range"] = true then match cArgs self S [a, b] with
    | some ⟨[m, m2], ok⟩ => some ⟨srcR [m, m2], fun P W X h => by
        have q := allGl_ok hd.2.2 h "range" (by simp)
        exact pi_r2 q.1 q.2 (ok P W X h) (by rw [star0 hd.1, star0 hd.2.1]; rfl) (star0 hd.2.1)⟩
    | _ => none
    else none
  | [a, b, c] => if hd : isStar a = false ∧ [b, c].any isStar = false ∧ allGl S ["range"] = true then match cArgs self S [a, b, c] with
    | some ⟨[m, m2, m3], ok⟩ => some ⟨srcR [m, m2, m3], fun P W X h => by
        have q := allGl_ok hd.2.2 h "range" (by simp)
        exact pi_r3 q.1 q.2 (ok P W X h) (star0 hd.1) (stars0 hd.2.1)⟩
    | _ => none
    else none
  | _ => none
def cSeq (self : Cmp) (S : Sig) (tg iter : Expr) : Option (CI S tg iter) := match self.e S iter with
  | some c => some ⟨srcC c.m, fun P W X h => pi_seq h.hK (c.ok P W X h)⟩
  | none => none
def cEnum (self : Cmp) (S : Sig) : (tg : Expr) → (p pos : Pos) → (es : List Expr) → Option (CI S tg (.Call (.Name "enumerate" p) es [] pos))
  | .Tuple elts k tpos, p, pos, [l] => if hd : isStar l = false ∧ allGl S ["enumerate"] = true then match self.e S l with
    | some c => some ⟨srcE c.m, fun P W X h => by
        have q := allGl_ok hd.2 h "enumerate" (by simp)
        exact pi_en h.hK q.1 q.2 (c.ok P W X h) (star0 hd.1)⟩
    | none => none
    else none
  | _, _, _, _ => none
def cZip (self : Cmp) (S : Sig) : (tg : Expr) → (p pos : Pos) → (es : List Expr) → Option (CI S tg (.Call (.Name "zip" p) es [] pos))
  | .Tuple elts k tpos, p, pos, [a, b] => if hd : isStar a = false ∧ isStar b = false ∧ allGl S ["zip"] = true then match cArgs self S [a, b] with
    | some c => some ⟨srcZ c.m, fun P W X h => by
        have q := allGl_ok hd.2.2 h "zip" (by simp)
        exact pi_zp h.hK q.1 q.2 (c.ok P W X h) (by first | (rw [star0 hd.1]; done) | (rw [star0 hd.1]; rfl)) (by first | (rw [star0 hd.2.1]; done) | (rw [star0 hd.2.1]; rfl))⟩
    | none => none
    else none
  | _, _, _, _ => none
def cSrc (self : Cmp) (S : Sig) (tg : Expr) : (iter : Expr) → Option (CI S tg iter)
  | .Call (.Name x p) es [] pos => if hr : x = "range" then by subst hr; exact cRange self S tg p pos es
    else if hr : x = "enumerate" then by subst hr; exact cEnum self S tg p pos es
    else if hr : x = "zip" then by subst hr; exact cZip self S tg p pos es
    else cSeq self S tg (.Call (.Name x p) es [] pos)
  | iter => cSeq self S tg iter
end
end Ip

set_option Elab.async false
set_option linter.all false
set_option maxRecDepth 100000
set_option maxHeartbeats 1000000
/-! Comprehensions, statements, all together. -/
namespace Ip
open PySem PySem.Spec PyProof.Rows L2
section
variable {S : Sig} {P : Par} {W : WX} {X : Cx}
/-! ### comprehensions -/
def ownOf (S : Sig) : List (Str × NameKind) → List (Str × Nat)
  | [] => []
  | (x, k) :: ys => if ownK k then match S.slot x with
    | some i => (x, i) :: ownOf S ys
    | none => ownOf S ys
    else ownOf S ys
def fnKind (sc : Scope) : Bool := match sc.kind with
  | .function => true
  | _ => false
theorem fnKind_ok {sc : Scope} (h : fnKind sc = true) : sc.kind = .function := by
  unfold fnKind at h
  split at h
  · assumption
  · cases h
theorem blk_ok (h : XOk S P W X) {scope : Scope} {own : List (Str × Nat)} (e : blkC S.N S.sc scope own = true) : BlkOk X.N X.env.scope scope own := by
  obtain ⟨a, b, c, d, f⟩ := blkOk_by e
  refine ⟨a, b, by rw [h.hN]; exact c, fun y hy q => ?_, by rw [h.hN]; exact f⟩
  rcases d y hy q with z | z
  · exact .inl (h.ce _ z).1
  · exact h.fr _ z
structure CLc (S : Sig) (scope : Scope) (elt tg iter : Expr) (ifs : List Expr) where
  own : List (Str × Nat)
  ci : CI S tg iter
  cg : CG { S with sc := scope } tg
  ct : M Bool
  ce : CE { S with sc := scope } elt
  hk : scope.kind = .function
  hb : blkC S.N S.sc scope own = true
  his : ∀ i ∈ cg.is, i ∈ own.map (·.2)
  ht : ∀ P W X, XOk { S with sc := scope } P W X → PTs X ifs (tBv P W ct)
  hi : isSetE iter = false
def cIfs (self : Cmp) (S : Sig) : (ifs : List Expr) → Option {m : M Bool // ∀ P W X, XOk S P W X → PTs X ifs (tBv P W m)}
  | [] => some ⟨kb true, fun P W X h => ⟨fun pins s σ H Q I q => pts_nil.run pins s σ H Q I (kb_ok q)⟩⟩
  | [t] => match self.t S t with
    | some c => some ⟨c.m, fun P W X h => pts_one (c.ok P W X h)⟩
    | none => none
  | _ => none
def cLcP (self : Cmp) (S : Sig) (scope : Scope) (elt tg iter : Expr) (ifs : List Expr) : Option (CLc S scope elt tg iter ifs) :=
  if hk : fnKind scope = true ∧ isSetE iter = false then
    if hb : blkC S.N S.sc scope (ownOf S scope.names) = true then match cSrc self S tg iter with
      | some ci => match cTg { S with sc := scope } tg with
        | some cg => if his : (cg.is.all fun i => ((ownOf S scope.names).map (·.2)).contains i) = true then match cIfs self { S with sc := scope } ifs with
          | some ct => match self.e { S with sc := scope } elt with
            | some ce => some ⟨ownOf S scope.names, ci, cg, ct.1, ce, fnKind_ok hk.1, hb, fun i hi => by simpa using List.all_eq_true.mp his i hi, ct.2, hk.2⟩
            | none => none
          | none => none
          else none
        | none => none
      | none => none
    else none
  else none
def CLc.m {scope : Scope} {elt tg iter : Expr} {ifs : List Expr} (c : CLc S scope elt tg iter ifs) : M Rs := lcV (c.own.map (·.2)) c.ci.m c.cg.m c.ct c.ce.m
def cLc (self : Cmp) (S : Sig) (elt : Expr) : (gs : List Comprehension) → (scope : Scope) → (pos : Pos) → Option (CE S (.ListComp elt gs scope pos))
  | [⟨tg, iter, ifs, 0⟩], scope, pos => match cLcP self S scope elt tg iter ifs with
    | some c => some ⟨c.m, fun P W X h => PE.weak (pe_lc h.calm h.nd' (c.ci.ok P W X h) (blk_ok h c.hb)
        (fun s H C cl fp => c.cg.ok _ _ _ (h.blk c.hk s H C cl fp)) (fun s H C cl fp => c.ht _ _ _ (h.blk c.hk s H C cl fp)) (fun s H C cl fp => c.ce.ok _ _ _ (h.blk c.hk s H C cl fp)) (fold0 c.hi X.env)) fun σ H Q q => lc_ok c.his q⟩
    | none => none
  | _, _, _ => none
/-! ### what changes a list -/
def cMut (self : Cmp) (S : Sig) : (o : Expr) → (name : Str) → (apos : Pos) → (es : List Expr) → (cpos : Pos) → Option (CE S (.Call (.Attribute o name apos) es [] cpos))
  | .Name x px, name, apos, [e], cpos => if hd : (x == ("__debug__" : Str)) = false ∧ (x == ("__classdict__" : Str)) = false ∧ isStar e = false ∧ (apos.endLine == cpos.line) = true then
    match hk : S.sc.names.lookup x with
    | some k => if hk2 : seenK k = true then match hi : S.slot x with
      | some i => match cArgs self S [e] with
        | some ⟨[m], ok⟩ => if hn : name = "append" then some ⟨mutV i fApp [m], fun P W X h => by
              subst hn
              refine PE.weak (pe_bm PySem.F.plainAttrs_list PySem.F.slot_list_append PySem.F.type_list_append mt_append (pe_var (h.slot hi) (h.vis hk hk2) hd.1 hd.2.1) (ok P W X h) (by rfl) (by rw [star0 hd.2.2.1]; rfl) hd.2.2.2 (star0 hd.2.2.1) (by rfl)) fun σ H Q q => ?_
              rw [← h.hK]
              obtain ⟨v, h1, h2, h3⟩ := mut_ok mut_app q
              exact ⟨v, h1, h2, h3⟩⟩
            else if hn : name = "pop" then some ⟨mutV i fPopAt [m], fun P W X h => by
              subst hn
              refine PE.weak (pe_bm PySem.F.plainAttrs_list PySem.F.slot_list_pop PySem.F.type_list_pop mt_popAt (pe_var (h.slot hi) (h.vis hk hk2) hd.1 hd.2.1) (ok P W X h) (by rfl) (by rw [star0 hd.2.2.1]; rfl) hd.2.2.2 (star0 hd.2.2.1) (by rfl)) fun σ H Q q => ?_
              rw [← h.hK]
              obtain ⟨v, h1, h2, h3⟩ := mut_ok mut_popAt q
              exact ⟨v, h1, h2, h3⟩⟩
            else none
        | _ => none
      | none => none
      else none
    | none => none
    else none
  | .Name x px, name, apos, [], cpos => if hd : (x == ("__debug__" : Str)) = false ∧ (x == ("__classdict__" : Str)) = false ∧ (apos.endLine == cpos.line) = true then
    match hk : S.sc.names.lookup x with
    | some k => if hk2 : seenK k = true then match hi : S.slot x with
      | some i => if hn : name = "pop" then some ⟨mutV i fPop [], fun P W X h => by
              subst hn
              refine PE.weak (pe_bm0 PySem.F.plainAttrs_list PySem.F.slot_list_pop PySem.F.type_list_pop mt_pop (pe_var (h.slot hi) (h.vis hk hk2) hd.1 hd.2.1) (by rfl) hd.2.2) fun σ H Q q => ?_
              rw [← h.hK]
              obtain ⟨v, h1, h2, h3⟩ := mut_ok mut_pop q
              exact ⟨v, h1, h2, av_nil h3⟩⟩
            else none
      | none => none
      else none
    | none => none
    else none
  | _, _, _, _, _ => none
/-! ### statements -/
def isLoc : Option NameKind → Bool
  | some .local => true
  | _ => false
def swapB (S : Sig) (scope : Scope) (pos py : Pos) (y : Str) : Bool := isLoc (S.sc.names.lookup y) && (py.line == pos.line) && !(scope.names.any fun (n, k) => n == y && (k == .local || k == .cell))
theorem sw_no {elt : Expr} {gs : List Comprehension} {scope : Scope} {pos py : Pos} {y : Str} {l : Nat} {k : NameKind} (h : XOk S P W X) (hk : S.sc.names.lookup y = some k) (hk2 : ownK k = true) (e : swapB S scope pos py y = false) :
    swapsWith (.ListComp elt gs scope pos) (some (.Name y py)) l X.env = pure false := by
  have hb : X.env.blockKind = .function := by unfold Env.blockKind; rw [h.kd]; rfl
  have e : (isLoc (some k) && (py.line == pos.line) && !(scope.names.any fun (n, k) => n == y && (k == .local || k == .cell))) = false := by rw [← hk]; exact e
  unfold swapsWith
  cases k with
  | «local» =>
    have ky : X.env.kindOf y = some .local := h.lo y hk
    simp only [hb, ky, Expr.pos]
    show (pure ((py.line == pos.line) && !(scope.names.any fun (n, k) => n == y && (k == .local || k == .cell))) : Sem Bool) = pure false
    have e' : ((py.line == pos.line) && !(scope.names.any fun (n, k) => n == y && (k == .local || k == .cell))) = false := e
    rw [e']
  | cell =>
    have ky : X.env.kindOf y = some .cell := (h.ce y hk).1
    simp only [hb, ky]
    rfl
  | _ => cases hk2
def cSet (self : Cmp) (S : Sig) (y : Str) (py : Pos) : (e : Expr) → (pos : Pos) → Option (CS S (.Assign [.Name y py] e pos))
  | .ListComp elt [⟨tg, iter, ifs, 0⟩] scope epos, pos => match hk : S.sc.names.lookup y with
    | some k => if hk2 : ownK k = true then match hi : S.slot y with
      | some i => match cLcP self S scope elt tg iter ifs with
        | some c => if hs : swapB S scope epos py y = true then
            some ⟨setS i c.m, fun P W X h => by
              have hs' := hs
              simp only [swapB, Bool.and_eq_true, Bool.not_eq_true', hk] at hs'
              have hl : S.sc.names.lookup y = some .local := by
                rw [hk]
                cases k with
                | «local» => rfl
                | _ => exact absurd hs'.1.1 (by decide)
              exact PS.weak (ps_setLc h.calm h.nd' (h.slot hi) (h.lo y hl) (sw_true h.kd (h.lo y hl) hs'.1.2 hs'.2) (c.ci.ok P W X h) (blk_ok h c.hb)
                (fun s H C cl fp => c.cg.ok _ _ _ (h.blk c.hk s H C cl fp)) (fun s H C cl fp => c.ht _ _ _ (h.blk c.hk s H C cl fp)) (fun s H C cl fp => c.ce.ok _ _ _ (h.blk c.hk s H C cl fp)) (fold0 c.hi X.env)) fun D σ H q => lc_ok c.his (set_ok q)⟩
          else some ⟨setS i c.m, fun P W X h => ps_set' h.nd' (h.slot hi) (h.loc hk hk2).1 (PE.weak (pe_lc h.calm h.nd' (c.ci.ok P W X h) (blk_ok h c.hb)
                (fun s H C cl fp => c.cg.ok _ _ _ (h.blk c.hk s H C cl fp)) (fun s H C cl fp => c.ht _ _ _ (h.blk c.hk s H C cl fp)) (fun s H C cl fp => c.ce.ok _ _ _ (h.blk c.hk s H C cl fp)) (fold0 c.hi X.env)) fun σ H Q q => lc_ok c.his q) (sw_no h hk hk2 (by simpa using hs)) (h.loc hk hk2).2⟩
        | none => none
      | none => none
      else none
    | none => none
  | e, pos => if hc : isComp e = false then match hk : S.sc.names.lookup y with
    | some k => if hk2 : ownK k = true then match hi : S.slot y with
      | some i => match self.e S e with
        | some c => some ⟨setS i c.m, fun P W X h => ps_set' h.nd' (h.slot hi) (h.loc hk hk2).1 (c.ok P W X h) (swap0 hc) (h.loc hk hk2).2⟩
        | none => none
      | none => none
      else none
    | none => none
    else none
def cSts (self : Cmp) (S : Sig) : (ss : List Stmt) → Option (CSs S ss)
  | [] => some ⟨nextS, fun P W X h => pss_nil'⟩
  | s :: ss => match self.s S s with
    | some a => match cSts self S ss with
      | some b => some ⟨seqS a.m b.m, fun P W X h => pss_cons' (a.ok P W X h) (b.ok P W X h)⟩
      | none => none
    | none => none
/-- names that take their values at once -/
structure CNs (S : Sig) (es : List Expr) where
  is : List Nat
  len : is.length = es.length
  ok : ∀ P W X, XOk S P W X → PGs X es (tStore is)
  nst : ∀ X : Cx, (assignEach es X.env).length = es.length ∧ (assignEach es X.env).findIdx? (·.1) = none
  kn : ∀ t ∈ es, ∀ x p, t = .Name x p → ∃ k, S.sc.names.lookup x = some k ∧ ownK k = true
def cNs (S : Sig) : (es : List Expr) → Option (CNs S es)
  | [] => some ⟨[], rfl, fun _ _ _ _ => pgs_st0, fun _ => ⟨rfl, rfl⟩, fun t ht => by simp at ht⟩
  | .Name x pos :: es => match hk : S.sc.names.lookup x with
    | some k => if hk2 : ownK k = true then match hi : S.slot x with
      | some i => match cNs S es with
        | some c => some ⟨i :: c.is, by simp [c.len], fun P W X h => pgs_st h.nd' (h.slot hi) (h.loc hk hk2).1 (h.loc hk hk2).2 (c.ok P W X h), fun X => by
            have := c.nst X
            constructor
            · show (_ :: assignEach es X.env).length = es.length + 1
              rw [List.length_cons, this.1]
            · show (_ :: assignEach es X.env).findIdx? _ = none
              rw [List.findIdx?_cons, this.2]
              rfl, fun t ht y p e => by
            rcases List.mem_cons.mp ht with q | q
            · rw [q] at e; injection e with e1 e2; exact ⟨k, by rw [← e1]; exact hk, hk2⟩
            · exact c.kn t q y p e⟩
        | none => none
      | none => none
      else none
    | none => none
  | _ :: _ => none
structure CVs (S : Sig) (es : List Expr) where
  ms : List (M Rs)
  ok : ∀ P W X, XOk S P W X → PA X es (tNv P W ms)
def cVs (self : Cmp) (S : Sig) : (es : List Expr) → Option (CVs S es)
  | [] => some ⟨[], fun _ _ _ _ => pn_nil⟩
  | e :: es => if hs : isStar e = false then match self.e S e with
    | some a => match cVs self S es with
      | some b => some ⟨a.m :: b.ms, fun P W X h => pn_cons (a.ok P W X h) (b.ok P W X h) (star0 hs)⟩
      | none => none
    | none => none
    else none
/-- is one of the names no plain local -/
def someCell (S : Sig) (es : List Expr) : Bool := es.any fun e => match e with
  | .Name x _ => !isLoc (S.sc.names.lookup x)
  | _ => false
def namesAt (env : Env) (line : Nat) (ts : List Expr) : List Str := ts.filterMap fun
  | .Name id pos => if (env.kindOf id == some NameKind.local && pos.line == line) = true then some id else none
  | _ => none
theorem names_le {env : Env} {line : Nat} : ∀ ts : List Expr, (namesAt env line ts).length ≤ ts.length := fun ts => List.length_filterMap_le _ _
theorem names_lt (h : XOk S P W X) {line : Nat} : ∀ {ts : List Expr}, (∀ t ∈ ts, ∀ x p, t = .Name x p → ∃ k, S.sc.names.lookup x = some k ∧ ownK k = true) → someCell S ts = true → (namesAt X.env line ts).length < ts.length
  | [], _, e => by cases e
  | t :: ts, hk, e => by
    have ih := names_lt h (line := line) (ts := ts)
    unfold namesAt
    rw [List.filterMap_cons]
    have hle := names_le (env := X.env) (line := line) ts
    unfold namesAt at hle
    unfold someCell at e
    rw [List.any_cons, Bool.or_eq_true] at e
    cases t with
    | Name x p =>
      obtain ⟨k, h1, h2⟩ := hk _ List.mem_cons_self x p rfl
      rcases e with e | e
      · simp only [h1, Bool.not_eq_true'] at e
        cases k with
        | «local» => cases e
        | cell =>
          have ky : X.env.kindOf x = some .cell := (h.ce x h1).1
          simp only [ky]
          rw [if_neg (by simp)]
          simp only [List.length_cons]
          omega
        | _ => cases h2
      · have := ih (fun t ht => hk t (List.mem_cons_of_mem _ ht)) e
        unfold namesAt at this
        simp only
        split
        · simp only [List.length_cons]; omega
        · simp only [List.length_cons]; omega
    | _ =>
      simp only [List.length_cons]
      omega
theorem sw_none (h : XOk S P W X) {es vs : List Expr} {kt k2 : Nat} {pt pt2 : Pos} (hk : ∀ t ∈ es, ∀ x p, t = .Name x p → ∃ k, S.sc.names.lookup x = some k ∧ ownK k = true) (e : someCell S es = true ∨ 3 < es.length) :
    swappedStores [.Tuple es kt pt] (.Tuple vs k2 pt2) X.env = pure none := by
  unfold swappedStores
  simp only
  split
  · rfl
  · rename_i n1
    split
    · rfl
    · rw [if_pos ?_]
      rcases e with e | e
      · have := names_lt h (line := (Option.map (fun x : Expr => x.pos.line) es.head?).getD 0) hk e
        simp only [Bool.or_eq_true, bne_iff_ne, ne_eq]
        refine .inl ?_
        show ¬ (namesAt X.env ((Option.map (fun x : Expr => x.pos.line) es.head?).getD 0) es).length = es.length
        omega
      · simp only [Bool.or_eq_true, Bool.not_eq_true', Bool.or_eq_false_iff, beq_eq_false_iff_ne, not_or] at n1
        exfalso
        apply n1.1.1
        constructor <;> omega
theorem nostar {vs : List Expr} (e : vs.any isStar = false) : (vs.any fun | .Starred .. => true | _ => false) = false := by
  have : (fun x : Expr => match x with | .Starred .. => true | _ => false) = isStar := by
    funext x
    cases x <;> rfl
  rw [this]
  exact e
theorem sw_some (h : XOk S P W X) {es vs : List Expr} {kt k2 : Nat} {pt pt2 : Pos} {ns : List Str} (hl : es.length = 2 ∨ es.length = 3) (hv : vs.length = es.length) (hs : vs.any isStar = false)
    (hn : namesAt X.env ((Option.map (fun x : Expr => x.pos.line) es.head?).getD 0) es = ns) (hn2 : ns.length = es.length) (hd : ns.eraseDups.length = ns.length) (hf : vs.all (foldedForSure 8) = false) (hc : vs.all (constantsAlone 8) = false) :
    swappedStores [.Tuple es kt pt] (.Tuple vs k2 pt2) X.env = pure (some ns) := by
  have hb : X.env.blockKind = .function := by unfold Env.blockKind; rw [h.kd]; rfl
  unfold swappedStores
  simp only
  rw [if_neg (by
    rw [hb, hv]
    simp only [Bool.or_eq_true, Bool.not_eq_true', Bool.or_eq_false_iff, beq_eq_false_iff_ne, bne_iff_ne, ne_eq, not_or]
    refine ⟨⟨fun z => ?_, fun z => z trivial⟩, fun z => z trivial⟩
    omega)]
  split
  · rename_i z
    exact absurd ((nostar hs).symm.trans z) Bool.false_ne_true
  split
  · rename_i z
    exfalso
    simp only [Bool.or_eq_true, bne_iff_ne, ne_eq] at z
    rcases z with z | z
    · apply z
      show (namesAt X.env _ es).length = es.length
      rw [hn, hn2]
    · apply z
      show (namesAt X.env _ es).eraseDups.length = (namesAt X.env _ es).length
      rw [hn, hd]
  split
  · rename_i z
    exact absurd (hf.symm.trans z) Bool.false_ne_true
  split
  · rename_i z
    exact absurd (hc.symm.trans z) Bool.false_ne_true
  show (pure (some (namesAt X.env _ es)) : Sem (Option (List Str))) = _
  rw [hn]
theorem isLoc_ok {o : Option NameKind} (h : isLoc o = true) : o = some .local := by
  unfold isLoc at h
  split at h
  · rfl
  · cases h
def cSetsT (self : Cmp) (S : Sig) (kt : Nat) (pt : Pos) (k2 : Nat) (pt2 pos : Pos) (es vs : List Expr) : Option (CS S (.Assign [.Tuple es kt pt] (.Tuple vs k2 pt2) pos)) :=
  if hk : (someCell S es || decide (3 < es.length)) = true ∧ es.length ≤ 100 then match cNs S es with
    | some c => match cVs self S vs with
      | some v => some ⟨setsS c.is v.ms, fun P W X h => ps_setsT h.calm (c.ok P W X h) c.len (c.nst X).1 (c.nst X).2 (v.ok P W X h) (Nat.le_trans hk.2 (by rw [sizeLine_eq]; decide))
          (sw_none h c.kn (by have := hk.1; simpa using this))⟩
      | none => none
    | none => none
  else none
def cSets (self : Cmp) (S : Sig) (kt : Nat) (pt : Pos) (k2 : Nat) (pt2 pos : Pos) : (es vs : List Expr) → Option (CS S (.Assign [.Tuple es kt pt] (.Tuple vs k2 pt2) pos))
  | [.Name x px, .Name y py], [a, b] =>
    if hc : isLoc (S.sc.names.lookup x) = true ∧ isLoc (S.sc.names.lookup y) = true then
      if hq : (py.line == px.line) = true ∧ x ≠ y ∧ [a, b].any isStar = false ∧ [a, b].all (foldedForSure 8) = false ∧ [a, b].all (constantsAlone 8) = false then
        match hi : S.slot x with
        | some i => match hj : S.slot y with
          | some j => if hij : i ≠ j then match cVs self S [a, b] with
            | some c => some ⟨setsS [i, j] c.ms, fun P W X h => by
                have lx : X.env.scope.names.lookup x = some .local := h.lo x (isLoc_ok hc.1)
                have ly : X.env.scope.names.lookup y = some .local := h.lo y (isLoc_ok hc.2)
                refine ps_sets2 h.calm h.nd' (h.slot hi) (h.slot hj) hij lx ly (c.ok P W X h) (sw_some h (.inl rfl) rfl hq.2.2.1 ?_ rfl ?_ hq.2.2.2.1 hq.2.2.2.2)
                · have kx : X.env.kindOf x = some .local := lx
                  have ky : X.env.kindOf y = some .local := ly
                  unfold namesAt
                  simp only [List.filterMap_cons, List.filterMap_nil, kx, ky, List.head?_cons, Option.map_some, Option.getD_some, Expr.pos, hq.1, beq_self_eq_true, Bool.and_self, if_true]
                · have n1 : (y == x) = false := beq_eq_false_iff_ne.mpr (Ne.symm hq.2.1)
                  simp [List.eraseDups_cons, n1]⟩
            | none => none
            else none
          | none => none
        | none => none
      else none
    else cSetsT self S kt pt k2 pt2 pos [.Name x px, .Name y py] [a, b]
  | [.Name x px, .Name y py, .Name z pz], [a, b, d] =>
    if hc : isLoc (S.sc.names.lookup x) = true ∧ isLoc (S.sc.names.lookup y) = true ∧ isLoc (S.sc.names.lookup z) = true then
      if hq : (py.line == px.line) = true ∧ (pz.line == px.line) = true ∧ x ≠ y ∧ x ≠ z ∧ y ≠ z ∧ [a, b, d].any isStar = false ∧ [a, b, d].all (foldedForSure 8) = false ∧ [a, b, d].all (constantsAlone 8) = false then
        match hi : S.slot x with
        | some i => match hj : S.slot y with
          | some j => match hl : S.slot z with
            | some l => if hij : i ≠ j ∧ i ≠ l ∧ j ≠ l then match cVs self S [a, b, d] with
              | some c => some ⟨setsS [i, j, l] c.ms, fun P W X h => by
                have lx : X.env.scope.names.lookup x = some .local := h.lo x (isLoc_ok hc.1)
                have ly : X.env.scope.names.lookup y = some .local := h.lo y (isLoc_ok hc.2.1)
                have lz : X.env.scope.names.lookup z = some .local := h.lo z (isLoc_ok hc.2.2)
                refine ps_sets3 h.calm h.nd' (h.slot hi) (h.slot hj) (h.slot hl) hij.1 hij.2.1 hij.2.2 lx ly lz (c.ok P W X h) (sw_some h (.inr rfl) rfl hq.2.2.2.2.2.1 ?_ rfl ?_ hq.2.2.2.2.2.2.1 hq.2.2.2.2.2.2.2)
                · have kx : X.env.kindOf x = some .local := lx
                  have ky : X.env.kindOf y = some .local := ly
                  have kz : X.env.kindOf z = some .local := lz
                  unfold namesAt
                  simp only [List.filterMap_cons, List.filterMap_nil, kx, ky, kz, List.head?_cons, Option.map_some, Option.getD_some, Expr.pos, hq.1, hq.2.1, beq_self_eq_true, Bool.and_self, if_true]
                · have n1 : (y == x) = false := beq_eq_false_iff_ne.mpr (Ne.symm hq.2.2.1)
                  have n2 : (z == x) = false := beq_eq_false_iff_ne.mpr (Ne.symm hq.2.2.2.1)
                  have n3 : (z == y) = false := beq_eq_false_iff_ne.mpr (Ne.symm hq.2.2.2.2.1)
                  simp [List.eraseDups_cons, n1, n2, n3]⟩
              | none => none
              else none
            | none => none
          | none => none
        | none => none
      else none
    else cSetsT self S kt pt k2 pt2 pos [.Name x px, .Name y py, .Name z pz] [a, b, d]
  | es, vs => cSetsT self S kt pt k2 pt2 pos es vs
end
end Ip

set_option Elab.async false
set_option linter.all false
set_option maxRecDepth 100000
set_option maxHeartbeats 1000000
/-! Displays with * in them; comprehensions of two fors. -/
namespace Ip
open PySem PySem.Spec PyProof.Rows L2
/-- arguments, some of them spread -/
def sargs : List (Bool × M Rs) → M (List Rs)
  | [] => fun r => .ok [] r
  | (false, m) :: ms => fun r => match m r with
    | .ok x r => match hold x r with
      | .ok x r => match sargs ms r with
        | .ok xs r => .ok (x :: xs) r
        | .exc c fs r => .exc c fs r
        | .stuck => .stuck
      | .exc c fs r => .exc c fs r
      | .stuck => .stuck
    | .exc c fs r => .exc c fs r
    | .stuck => .stuck
  | (true, m) :: ms => fun r => match m r with
    | .ok x r => match seeC x r with
      | some (d, _) => match items d with
        | some ds => match sargs ms r with
          | .ok xs r => .ok (ds.map .dat ++ xs) r
          | .exc c fs r => .exc c fs r
          | .stuck => .stuck
        | none => .stuck
      | none => .stuck
    | .exc c fs r => .exc c fs r
    | .stuck => .stuck
def tupA (a : M (List Rs)) : M Rs := fun r => match a r with
  | .ok xs r => match keeps xs r with
    | .ok ds r => if ds.length ≤ sizeLine then .ok (.dat (.tuple ds)) r else .stuck
    | .exc c fs r => .exc c fs r
    | .stuck => .stuck
  | .exc c fs r => .exc c fs r
  | .stuck => .stuck
def lstA (a : M (List Rs)) : M Rs := fun r => match a r with
  | .ok xs r => match keeps xs r with
    | .ok ds r => if ds.length ≤ sizeLine then .ok (.fresh (.list ds)) r else .stuck
    | .exc c fs r => .exc c fs r
    | .stuck => .stuck
  | .exc c fs r => .exc c fs r
  | .stuck => .stuck
def tLv (P : Par) (W : WX) (a : M (List Rs)) : TA := fun σ H Q => ∃ F io α r, R P.K F io α r σ H ∧ match a r with
  | .ok xs r' => ∀ vs H' α', On io α α' H H' → R P.K F io α' r' σ H' → RVs P.K (Al F io α') σ H' vs xs → Q vs H'
  | .exc c fs r' => Thrown P W F io α H c fs r'
  | .stuck => False
section
variable {K : PySem.W.Frag} {F : Addr → Prop} {io : Fx} {α α' : Am} {r r' : Ev} {σ : St} {H H' H0 : Hp} {v : V} {P : Par} {W : WX} {X : Cx}
theorem tupA_ok {a : M (List Rs)} {σ : St} {H : Hp} {Q : VK} (h : tEv P W (tupA a) σ H Q) : tLv P W a σ H fun xs H1 => xs.length ≤ sizeLine ∧ newT H1 xs Q := by
  obtain ⟨F, io, α, r, x, h⟩ := h
  refine ⟨F, io, α, r, x, ?_⟩
  unfold tupA at h
  cases e : a r with
  | stuck => rw [e] at h; exact h
  | exc c fs r1 => rw [e] at h; exact h
  | ok ys r1 =>
    rw [e] at h
    intro vs H1 α1 o1 x1 q1
    rcases keeps_no ys r1 with ⟨ds, r2, e2⟩ | e2
    · simp only [e2] at h
      obtain ⟨α2, o2, x2, q2, _⟩ := keeps_ok x1 q1 e2
      split at h
      · rename_i r3 hl
        split at hl
        · rename_i hlen
          cases hl
          refine ⟨by rw [← q2.length]; exact hlen, fun p its n => ?_⟩
          obtain ⟨o3, q3⟩ := x2.done (Out.newT n q2)
          exact h _ _ α2 ((o1.trans o2).trans o3) (q3.back (o1.trans o2))
        · cases hl
      · rename_i hl; split at hl <;> cases hl
      · exact h.elim
    · simp only [e2] at h
theorem lstA_ok {a : M (List Rs)} {σ : St} {H : Hp} {Q : VK} (h : tEv P W (lstA a) σ H Q) : tLv P W a σ H fun xs H1 => xs.length ≤ sizeLine ∧ ∀ p, H1 p = none → Q (.ref p) (upd H1 p (.lst xs)) := by
  obtain ⟨F, io, α, r, x, h⟩ := h
  refine ⟨F, io, α, r, x, ?_⟩
  unfold lstA at h
  cases e : a r with
  | stuck => rw [e] at h; exact h
  | exc c fs r1 => rw [e] at h; exact h
  | ok ys r1 =>
    rw [e] at h
    intro vs H1 α1 o1 x1 q1
    rcases keeps_no ys r1 with ⟨ds, r2, e2⟩ | e2
    · simp only [e2] at h
      obtain ⟨α2, o2, x2, q2, _⟩ := keeps_ok x1 q1 e2
      split at h
      · rename_i r3 hl
        split at hl
        · rename_i hlen
          cases hl
          refine ⟨by rw [← q2.length]; exact hlen, fun p n => ?_⟩
          obtain ⟨o3, q3⟩ := x2.done (Out.newL n q2)
          exact h _ _ α2 ((o1.trans o2).trans o3) (q3.back (o1.trans o2))
        · cases hl
      · rename_i hl; split at hl <;> cases hl
      · exact h.elim
    · simp only [e2] at h
theorem sav_nil {σ : St} {H : Hp} {Q : List V → Hp → Prop} (h : tLv P W (sargs []) σ H Q) : Q [] H := by
  obtain ⟨F, io, α, r, x, h⟩ := h
  exact h [] H α (On.refl _ _ _) x trivial
theorem sav_cons {m : M Rs} {ms : List (Bool × M Rs)} {σ : St} {H : Hp} {Q : List V → Hp → Prop} (h : tLv P W (sargs ((false, m) :: ms)) σ H Q) :
    tEv P W m σ H fun x H1 => tLv P W (sargs ms) σ H1 fun xs H2 => Q (x :: xs) H2 := by
  obtain ⟨F, io, α, r, x, h⟩ := h
  refine ⟨F, io, α, r, x, ?_⟩
  unfold sargs at h
  cases e : m r with
  | stuck => rw [e] at h; exact h
  | exc c fs r1 => rw [e] at h; exact h
  | ok y r1 =>
    rw [e] at h
    intro v H1 α1 o1 q1
    obtain ⟨z, e2, x1, q1⟩ := q1.held
    simp only [e2] at h
    refine ⟨F, io, α1, r1, x1, ?_⟩
    cases e3 : sargs ms r1 with
    | stuck => rw [e3] at h; exact h
    | exc c fs r2 => rw [e3] at h; exact Thrown.on h o1
    | ok ys r2 =>
      rw [e3] at h
      intro vs H2 α2 o2 x2 q2
      exact h (v :: vs) H2 α2 (o1.trans o2) x2 ⟨RV.on x1.soft o2 q1, q2⟩
theorem rvs_app {O : Addr → Prop} : ∀ {vs : List V} {ds : List PyData} {ws : List V} {xs : List Rs}, RepL K O H ds vs → RVs K O σ H ws xs → RVs K O σ H (vs ++ ws) (ds.map .dat ++ xs)
  | _, [], ws, xs, h, q => by simp only [RepL] at h; subst h; exact q
  | _, d :: ds, ws, xs, h, q => by
    simp only [RepL] at h
    obtain ⟨w, us, rfl, a, b⟩ := h
    exact ⟨a, rvs_app b q⟩
theorem sav_star {m : M Rs} {ms : List (Bool × M Rs)} {σ : St} {H : Hp} {Q : List V → Hp → Prop} (h : tLv P W (sargs ((true, m) :: ms)) σ H Q) :
    StX.tStar P.K (tEv P W m) (tLv P W (sargs ms)) σ H Q := by
  obtain ⟨F, io, α, r, x, h⟩ := h
  refine ⟨F, io, α, r, x, ?_⟩
  unfold sargs at h
  cases e : m r with
  | stuck => rw [e] at h; exact h
  | exc c fs r1 => rw [e] at h; exact h
  | ok y r1 =>
    rw [e] at h
    intro v H1 α1 o1 q1
    cases e1 : seeC y r1 with
    | none => simp only [e1] at h
    | some dh =>
      obtain ⟨d, hid⟩ := dh
      simp only [e1] at h
      cases e2 : items d with
      | none => simp only [e2] at h
      | some ds =>
        simp only [e2] at h
        obtain ⟨x1, ⟨_, _, a, vs, rfl, rp, st⟩, _⟩ := see_ok q1 e1 e2
        refine ⟨a, vs, rfl, ?_, F, io, α1, r1, x1, ?_⟩
        · rcases st with st | st
          · exact .inr (st H1 (Ext.refl _ _))
          · exact .inl (st H1 (Ext.refl _ _))
        · cases e3 : sargs ms r1 with
          | stuck => rw [e3] at h; exact h
          | exc c fs r2 => rw [e3] at h; exact Thrown.on h o1
          | ok ys r2 =>
            rw [e3] at h
            intro ws H2 α2 o2 x2 q2
            refine h (vs ++ ws) H2 α2 (o1.trans o2) x2 (rvs_app ?_ q2)
            exact RepL.ext x1.soft o2.ext (fun _ z => .inr z) (fun _ o' q z => z.imp id (o2.sub _ o' q)) rp
theorem spa_nil : PA X [] (tLv P W (sargs [])) := PA.weak pa_nil fun σ H Q h => sav_nil h
theorem spa_cons {e : Expr} {es : List Expr} {m : M Rs} {ms : List (Bool × M Rs)} (ha : PE X e (tEv P W m)) (hr : PA X es (tLv P W (sargs ms))) (hs : starEach (e :: es) X.env = (false, eval e X.env) :: starEach es X.env) :
    PA X (e :: es) (tLv P W (sargs ((false, m) :: ms))) := PA.weak (pa_cons ha hr hs) fun σ H Q h => sav_cons h
theorem spa_star (hK : P.K = X.K) {e : Expr} {p : Pos} {es : List Expr} {m : M Rs} {ms : List (Bool × M Rs)} (ha : PE X e (tEv P W m)) (hr : PA X es (tLv P W (sargs ms))) :
    PA X (.Starred e p :: es) (tLv P W (sargs ((true, m) :: ms))) := PA.weak (StX.pa_star ha hr) fun σ H Q h => by rw [← hK]; exact sav_star h
theorem px_tupS {es : List Expr} {a : M (List Rs)} {k : Nat} {pos : Pos} (h : PA X es (tLv P W a)) : PE X (.Tuple es k pos) (tEv P W (tupA a)) := PE.weak (pe_tupB h) fun σ H Q h => tupA_ok h
theorem px_lstS {es : List Expr} {a : M (List Rs)} {pos : Pos} (h : PA X es (tLv P W a)) : PE X (.List es pos) (tEv P W (lstA a)) := PE.weak (pe_lst h) fun σ H Q h => lstA_ok h

/-! ### two fors -/
def tupOf : Rs → Option (List D)
  | .dat (.tuple ds) => if ds.length ≤ 1000 then some ds else none
  | _ => none
def lc2L (own vs1 : List Nat) (tg : D → M Unit) (test : M Bool) (m1 : M Rs) (tg1 : D → M Unit) (test1 : M Bool) (elt : M Rs) : List D → M (List D)
  | [] => fun r => .ok [] r
  | d :: ds => fun r => match tg d r with
    | .ok _ r => match test r with
      | .ok true r => match m1 r with
        | .ok x r => match tupOf x with
          | some ds1 => match lcL vs1 tg1 test1 elt ds1 (hideFrom vs1 [] 0 r) with
            | .ok ys r => match lc2L own vs1 tg test m1 tg1 test1 elt ds (hideFrom own [] 0 r) with
              | .ok zs r => .ok (ys ++ zs) r
              | _ => .stuck
            | _ => .stuck
          | none => .stuck
        | _ => .stuck
      | .ok false r => lc2L own vs1 tg test m1 tg1 test1 elt ds (hideFrom own [] 0 r)
      | _ => .stuck
    | _ => .stuck
def lc2V (own vs1 : List Nat) (src : M (List D × List Nat)) (tg : D → M Unit) (test : M Bool) (m1 : M Rs) (tg1 : D → M Unit) (test1 : M Bool) (elt : M Rs) : M Rs := fun r => match src r with
  | .ok (ds, hid) r => if own.any (fun i => isIo r[i]?) then .stuck else match lc2L own vs1 tg test m1 tg1 test1 elt ds (hideFrom own hid 0 r) with
    | .ok ys r' => if ys.length ≤ sizeLine then .ok (.fresh (.list ys)) (showFrom own hid 0 r r') else .stuck
    | _ => .stuck
  | .exc c fs r => .exc c fs r
  | .stuck => .stuck
/-- the second for's walk over a tuple -/
def tIt (P : Par) (m : M Rs) : TI := fun σ H Q => tEv P W0 m σ H fun v H1 => ∃ a, v = .ref a ∧ (∃ xs, SqT P.K H1 a xs) ∧ Q (Itt P.K a) H1
theorem pi_tupI (hK : P.K = X.K) {tg l : Expr} {m : M Rs} (hl : PE X l (tEv P W0 m)) : PI X tg l (tIt P m) := by
  refine PI.weak (pi_tup hl) fun σ H Q q => ?_
  rw [← hK]
  exact q
/-- what stays while a list D, known but no one's, grows -/
structure OnD (io : Fx) (α α' : Am) (D : Addr) (H H' : Hp) : Prop where
  sub : ∀ a o, H a = some o → Mu io α' a → Mu io α a
  ext : Ext (fun a => Mu io α a ∨ a = D) H H'
  there : ∀ a o, H a = some o → ∃ o', H' a = some o'
theorem On.onD {D : Addr} (o : On io α α' H H') : OnD io α α' D H H' := ⟨o.sub, o.ext.mono fun a z => .inl z, o.there⟩
theorem OnD.trans {io : Fx} {α α' α2 : Am} {D : Addr} {H H1 H2 : Hp} (a : OnD io α α' D H H1) (b : OnD io α' α2 D H1 H2) : OnD io α α2 D H H2 := by
  refine ⟨fun x o h z => ?_, fun x o h n => ?_, fun x o h => ?_⟩
  · obtain ⟨o', h'⟩ := a.there x o h
    exact a.sub x o h (b.sub x o' h' z)
  · exact b.ext x o (a.ext x o h n) fun z => n (z.imp (fun q => a.sub x o h q) id)
  · obtain ⟨o', h'⟩ := a.there x o h
    exact b.there x o' h'
theorem OnD.grow {io : Fx} {α : Am} {D : Addr} {H : Hp} {xs ys : List V} (h : H D = some (.lst xs)) : OnD io α α D H (upd H D (.lst ys)) := by
  refine ⟨fun _ _ _ z => z, fun a o e n => ?_, fun a o e => ?_⟩
  · rw [upd_ne fun z => n (.inr z)]; exact e
  · by_cases n : a = D
    · rw [n]; exact ⟨_, upd_same⟩
    · exact ⟨o, by rw [upd_ne n]; exact e⟩
/-- a list that stands in D grows: the state stands -/
theorem R.grow {D : Addr} {xs ys : List V} (x : R K F io α r σ H) (fD : F D) (hb : ∀ i, io.b i ≠ some D) (hD : H D = some (.lst xs)) : R K F io α r σ (upd H D (.lst ys)) := by
  have nM : ¬ Mu io α D := fun z => x.aF D fD z
  have eU : Ext (fun a => a = D) H (upd H D (.lst ys)) := fun a ob q n => by rw [upd_ne n]; exact q
  have sU : Soft (fun a => a = D) H := fun a z => by rw [z]; exact .inl ⟨_, hD⟩
  have mU : ∀ a, a = D → Al F io α a := fun a z => .inl (by rw [z]; exact fD)
  have thr : ∀ a ob, H a = some ob → ∃ ob', (upd H D (.lst ys)) a = some ob' := fun a ob q => by
    by_cases n : a = D
    · rw [n]; exact ⟨_, upd_same⟩
    · exact ⟨_, eU a ob q n⟩
  refine ⟨x.len, fun j s hj => (x.slot j s hj).ext' sU eU mU (fun _ _ _ z => z) fun a ha z => ?_, x.out, x.ios, x.inj, x.ioj, x.aio, fun j a ha => ⟨(x.boH j a ha).1.elim fun ob q => thr a ob q, (x.boH j a ha).2⟩, x.aF, fun a ha => (x.FH a ha).elim fun ob q => thr a ob q⟩
  subst z
  rcases ha with ha | ha | ha
  · exact nM (.inl ⟨j, ha⟩)
  · exact nM (.inr ⟨j, ha⟩)
  · exact hb j ha
/-- the inner walk -/
theorem lc_in {vs1 : List Nat} {is1 : List Nat} {tg : PyData → M Unit} {test : M Bool} {elt : M Rs} {σ2 : St} {α4 : Am} {r4 re : Ev} {H4 : Hp} {D : Addr} {acc0 : List V} {y0 y1 ds : List PyData} {J : It} {Nx : Hp → Prop}
    (his : ∀ i ∈ is1, i ∈ vs1) (x4 : R P.K F io α4 r4 (wipe σ2 vs1) H4) (fD : F D) (hb : ∀ i, io.b i ≠ some D) (hiw : ∀ i ∈ vs1, io.w i = none) (hD : H4 D = some (.lst acc0)) (ry0 : RepL P.K (Al F io α4) H4 y0 acc0)
    (fd : Feed P.K (Al F io α4) (fun a => Mu io α4 a ∨ a = D) J ds H4) (g : lcL vs1 tg test elt ds r4 = .ok y1 re) (hz : y0.length + y1.length ≤ sizeLine)
    (fin : ∀ H α5 acc, OnD io α4 α5 D H4 H → R P.K F io α5 re (wipe σ2 vs1) H → H D = some (.lst acc) → RepL P.K (Al F io α5) H (y0 ++ y1) acc → Nx H) :
    ∃ W1 : Nat → Nat → Hp → Prop, (∃ m, W1 0 m H4) ∧ ∀ j k H, W1 j k H →
      (J.stop j H ∧ Nx H) ∨ (J.go j H ∧ ∃ Nx1 : Hp → Prop, (∀ H', Nx1 H' → ∃ k', k' < k ∧ W1 (j + 1) k' H') ∧ ∀ x H', J.yld j H x H' → tTg P is1 tg x (wipe σ2 vs1) H' fun σ3 H5 => wipe σ3 vs1 = wipe σ2 vs1 ∧ tBv P W0 test σ3 H5 fun b H6 =>
        if b = true then tEv P W0 elt σ3 H6 fun y H7 => ∃ acc, H7 D = some (.lst acc) ∧ acc.length < sizeLine ∧ Nx1 (upd H7 D (.lst (acc ++ [y]))) else Nx1 H6) := by
  refine ⟨fun i m H2 => m = ds.length - i ∧ i ≤ ds.length ∧ ∃ α2 r2 acc z0 z1, OnD io α4 α2 D H4 H2 ∧ R P.K F io α2 r2 (wipe σ2 vs1) H2 ∧ H2 D = some (.lst acc) ∧
      RepL P.K (Al F io α2) H2 z0 acc ∧ lcL vs1 tg test elt (ds.drop i) r2 = .ok z1 re ∧ y0 ++ y1 = z0 ++ z1,
      ⟨ds.length, by simp, Nat.zero_le _, α4, r4, acc0, y0, y1, (On.refl _ _ _).onD, x4, hD, ry0, by simpa using g, rfl⟩, ?_⟩
  rintro i m H2 ⟨rfl, hi, α2, r2, acc, z0, z1, o2, x2, hD2, ry, g, ey⟩
  have oX : Ext (fun a => Mu io α4 a ∨ a = D) H4 H2 := o2.ext
  by_cases hlt : i < ds.length
  · refine .inr ⟨fd.go i H2 hlt oX, fun H3 => ∃ α2 r2 acc z0 z1, OnD io α4 α2 D H4 H3 ∧ R P.K F io α2 r2 (wipe σ2 vs1) H3 ∧ H3 D = some (.lst acc) ∧
        RepL P.K (Al F io α2) H3 z0 acc ∧ lcL vs1 tg test elt (ds.drop (i + 1)) r2 = .ok z1 re ∧ y0 ++ y1 = z0 ++ z1, ?_, ?_⟩
    · rintro H3 ⟨α3, r3, acc3, w0, w1, a1, a2, a3, a4, a6, a7⟩
      exact ⟨ds.length - (i + 1), by omega, rfl, hlt, α3, r3, acc3, w0, w1, a1, a2, a3, a4, a6, a7⟩
    · intro v H3 y
      have hd : ds[i]? = some ds[i] := List.getElem?_eq_getElem hlt
      obtain ⟨e3, rp⟩ := fd.yld i ds[i] H2 v H3 hd oX y
      have x3 := x2.same e3
      rw [List.drop_eq_getElem_cons hlt] at g
      have alO : ∀ a ob, H4 a = some ob → Al F io α2 a → Al F io α4 a := fun a ob q z => z.imp id (o2.sub a ob q)
      refine ⟨_, _, α2, r2, ds[i], x3, rp _ alO (fun a z => x2.tracked z), ?_⟩
      unfold lcL at g
      cases e4 : tg ds[i] r2 with
      | stuck => simp only [e4] at g; cases g
      | exc c fs r5 => simp only [e4] at g; cases g
      | ok u r5 =>
        simp only [e4] at g
        intro σ4 α5 o4 hw x5
        have ww : wipe (wipe σ2 vs1) vs1 = wipe σ2 vs1 := by
          apply List.ext_getElem?
          intro k
          rw [wipe_get, wipe_get]
          split
          · rename_i hk; cases σ2[k]? <;> rfl
          · rfl
        have hw4 : wipe σ4 vs1 = wipe σ2 vs1 := (hw vs1 his).trans ww
        refine ⟨hw4, ?_⟩
        have o13 : OnD io α4 α5 D H4 H3 := (o2.trans (On.same e3).onD).trans o4.onD
        have hD3 : H3 D = some (.lst acc) := e3 _ _ hD2 fun z => z
        have ry3 : RepL P.K (Al F io α5) H3 z0 acc := RepL.ext (Soft.none H2) e3 (fun _ z => z.elim) (fun a ob q z => by
          obtain ⟨ob', q'⟩ : ∃ ob', H3 a = some ob' := ⟨_, e3 a ob q fun z => z⟩
          exact z.imp id (o4.sub a ob' q')) ry
        refine ⟨_, _, α5, r5, x5, ?_⟩
        have again : ∀ {α5 : Am} {r5 : Ev} {H5 : Hp} {w0 w1 : List PyData} {acc5 : List V}, OnD io α4 α5 D H4 H5 → R P.K F io α5 r5 σ4 H5 → H5 D = some (.lst acc5) →
            RepL P.K (Al F io α5) H5 w0 acc5 → lcL vs1 tg test elt (ds.drop (i + 1)) (hideFrom vs1 [] 0 r5) = .ok w1 re → y0 ++ y1 = w0 ++ w1 →
            ∃ α2 r2 acc z0 z1, OnD io α4 α2 D H4 H5 ∧ R P.K F io α2 r2 (wipe σ2 vs1) H5 ∧ H5 D = some (.lst acc) ∧
              RepL P.K (Al F io α2) H5 z0 acc ∧ lcL vs1 tg test elt (ds.drop (i + 1)) r2 = .ok z1 re ∧ y0 ++ y1 = z0 ++ z1 := fun {α5 r5 H5 w0 w1 acc5} p1 p2 p3 p4 p6 p7 => by
          obtain ⟨α6, o6, x6⟩ := p2.wiped hiw
          rw [hw4] at x6
          exact ⟨α6, _, acc5, w0, w1, p1.trans o6.onD, x6, p3, RepL.ext (Soft.none H5) (Ext.refl _ _) (fun _ z => z.elim) (fun a ob q z => z.imp id (o6.sub a ob q)) p4, p6, p7⟩
        have nMD : ∀ {α2 : Am} {H2 : Hp} {r2 : Ev} {σ2 : St}, R P.K F io α2 r2 σ2 H2 → ¬ Mu io α2 D := fun x2 z => x2.aF D fD z
        cases e5 : test r5 with
        | stuck => simp only [e5] at g; cases g
        | exc c fs r6 => simp only [e5] at g; cases g
        | ok b r6 =>
          intro H5 α6 o5 x6
          have hD5 : H5 D = some (.lst acc) := o5.ext _ _ hD3 (nMD x5)
          have ry5 : RepL P.K (Al F io α6) H5 z0 acc := RepL.ext x5.soft o5.ext (fun a z => .inr z) (fun a ob q z => z.imp id (o5.sub a ob q)) ry3
          cases b with
          | false =>
            simp only [e5] at g
            exact iteF (again (o13.trans o5.onD) x6 hD5 ry5 g ey)
          | true =>
            simp only [e5] at g
            refine iteT ⟨_, _, α6, r6, x6, ?_⟩
            cases e6 : elt r6 with
            | stuck => simp only [e6] at g; cases g
            | exc c fs r7 => simp only [e6] at g; cases g
            | ok z r7 =>
              simp only [e6] at g
              intro yv H6 α7 o6 q6
              obtain ⟨z2, e7, x7, q7⟩ := q6.held
              simp only [e7] at g
              rcases keep_no z2 r7 with ⟨yd, r8, e8⟩ | e8
              · simp only [e8] at g
                obtain ⟨α8, o7, x8, q8, s7⟩ := keep_ok x7 q7 e8
                cases e9 : lcL vs1 tg test elt (ds.drop (i + 1)) (hideFrom vs1 [] 0 r8) with
                | stuck => simp only [e9] at g; cases g
                | exc c fs r9 => simp only [e9] at g; cases g
                | ok zs r9 =>
                  simp only [e9] at g
                  cases g
                  have hD6 : H6 D = some (.lst acc) := o6.ext _ _ hD5 (nMD x6)
                  have ry7 : RepL P.K (Al F io α8) H6 z0 acc := RepL.ext x6.soft o6.ext (fun a z => .inr z) (fun a ob q z => by
                    obtain ⟨ob', q'⟩ := o6.there a ob q
                    rcases z with z | z
                    · exact .inl z
                    · exact .inr (o6.sub a ob q (o7.sub a ob' q' z))) ry5
                  have le : acc.length < sizeLine := by
                    have e1 := ry7.length
                    have e2 := congrArg List.length ey
                    simp only [List.length_append, List.length_cons] at e2
                    omega
                  refine ⟨acc, hD6, le, ?_⟩
                  have eU : Ext (fun a => a = D) H6 (upd H6 D (.lst (acc ++ [yv]))) := fun a ob q n => by rw [upd_ne n]; exact q
                  have sU : Soft (fun a => a = D) H6 := fun a z => by rw [z]; exact .inl ⟨_, hD6⟩
                  have mU : ∀ a, a = D → Al F io α8 a := fun a z => .inl (by rw [z]; exact fD)
                  refine again (w0 := z0 ++ [yd]) ((((o13.trans o5.onD).trans o6.onD).trans o7.onD).trans (OnD.grow hD6)) (x8.grow fD hb hD6) upd_same ?_ e9 (by rw [ey, List.append_assoc]; rfl)
                  refine RepL.append (RepL.ext sU eU mU (fun _ _ _ z => z) ry7) ?_
                  simp only [RepL]
                  exact ⟨yv, [], rfl, Rep.ext sU eU mU (fun _ _ _ z => z) q8, rfl⟩
              · simp only [e8] at g; cases g
  · have e3 : i = ds.length := by omega
    subst e3
    refine .inl ⟨fd.stop H2 oX, ?_⟩
    rw [List.drop_length] at g
    unfold lcL at g
    cases g
    rw [List.append_nil] at ey
    exact fin H2 α2 acc o2 x2 hD2 (by rw [ey]; exact ry)
theorem lc2_ok {own vs1 : List Nat} {src : M (List PyData × List Nat)} {is is1 : List Nat} {tg tg1 : PyData → M Unit} {test test1 : M Bool} {m1 elt : M Rs} {σ : St} {H : Hp} {Q : VK} (his : ∀ i ∈ is, i ∈ own) (hv : ∀ i ∈ vs1, i ∈ own) (his1 : ∀ i ∈ is1, i ∈ vs1)
    (h : tEv P W (lc2V own vs1 src tg test m1 tg1 test1 elt) σ H Q) :
    tLc2 (tCv P W src) (tTg P is tg) (tBv P W0 test) (tIt P m1) (tTg P is1 tg1) (tBv P W0 test1) (tEv P W0 elt) own vs1 σ H Q := by
  obtain ⟨F, io, α, r, x, h⟩ := h
  refine ⟨F, io, α, r, x, ?_⟩
  unfold lc2V at h
  cases e : src r with
  | stuck => rw [e] at h; exact h
  | exc c fs r1 => rw [e] at h; exact h
  | ok dh r1 =>
    obtain ⟨ds, hid⟩ := dh
    rw [e] at h
    intro J H1 α1 o1 x1 hh fd D nD
    simp only at h
    cases eio : own.any (fun i => isIo r1[i]?) with
    | true => rw [eio] at h; simp at h
    | false =>
      rw [eio] at h
      simp only [Bool.false_eq_true, if_false] at h
      have hio : ∀ i ∈ own, isIo r1[i]? = false := fun i hi => by
        cases q : isIo r1[i]? with
        | false => rfl
        | true =>
          have : own.any (fun i => isIo r1[i]?) = true := List.any_eq_true.mpr ⟨i, hi, q⟩
          rw [eio] at this; cases this
      have hiw : ∀ i ∈ own, io.w i = none := fun i hi => by
        cases q : io.w i with
        | none => rfl
        | some a =>
          obtain ⟨d, e⟩ := x1.ios i a q
          have := hio i hi
          rw [e] at this; cases this
      cases e2 : lc2L own vs1 tg test m1 tg1 test1 elt ds (hideFrom own hid 0 r1) with
      | stuck => simp only [e2] at h
      | exc c fs r2 => simp only [e2] at h
      | ok ys re =>
        simp only [e2] at h
        by_cases hsz : ys.length ≤ sizeLine
        · simp only [hsz, if_true] at h
          have xh := x1.hide hio hh
          have eD := ext_upd (o := .lst []) nD
          have x2 := xh.plus nD eD ⟨_, upd_same⟩
          have oD : On (ioH own hid io α1) (αH own hid α1) (αH own hid α1) H1 (upd H1 D (.lst [])) := On.same eD
          have hbD : ∀ i, (ioH own hid io α1).b i ≠ some D := fun i z => by
            obtain ⟨ob, q⟩ := (xh.boH i D z).1
            rw [nD] at q; cases q
          have nMD : ∀ {α2 : Am} {H2 : Hp} {r2 : Ev} {σ2 : St}, R P.K (Plus (FH' own hid F α1) D) (ioH own hid io α1) α2 r2 σ2 H2 → ¬ Mu (ioH own hid io α1) α2 D := fun x2 z => x2.aF D (.inr rfl) z
          have feedM : ∀ a, Mu (ioH own hid io α1) (αH own hid α1) a → MuX io α1 hid a := fun a z => by
            rcases z with ⟨i, z⟩ | z
            · obtain ⟨z1, z2⟩ := αH_some z
              refine .inl ⟨i, ?_, z1⟩
              cases q : hid.contains i with
              | false => rfl
              | true => rw [q, Bool.or_true] at z2; cases z2
            · exact .inr z
          have onOf : ∀ {α2 α3 : Am} {H2 H3 : Hp}, On (ioH own hid io α1) (αH own hid α1) α2 H1 H2 → OnD (ioH own hid io α1) α2 α3 D H2 H3 → On (ioH own hid io α1) (αH own hid α1) α3 H1 H3 := fun {α2 α3 H2 H3} a b => by
            refine ⟨fun y ob q z => ?_, fun y ob q n => ?_, fun y ob q => ?_⟩
            · obtain ⟨ob', q'⟩ := a.there y ob q
              exact a.sub y ob q (b.sub y ob' q' z)
            · refine b.ext y ob (a.ext y ob q n) fun z => ?_
              rcases z with z | z
              · exact n (a.sub y ob q z)
              · rw [z, nD] at q; cases q
            · obtain ⟨ob', q'⟩ := a.there y ob q
              exact b.there y ob' q'
          refine ⟨fun i m H2 => m = ds.length - i ∧ i ≤ ds.length ∧ ∃ α2 r2 acc y0 y1, On (ioH own hid io α1) (αH own hid α1) α2 H1 H2 ∧ R P.K (Plus (FH' own hid F α1) D) (ioH own hid io α1) α2 r2 (wipe σ own) H2 ∧ H2 D = some (.lst acc) ∧
            RepL P.K (Al (Plus (FH' own hid F α1) D) (ioH own hid io α1) α2) H2 y0 acc ∧ lc2L own vs1 tg test m1 tg1 test1 elt (ds.drop i) r2 = .ok y1 re ∧ ys = y0 ++ y1,
            ⟨ds.length, by simp, Nat.zero_le _, αH own hid α1, _, [], [], ys, oD, x2, upd_same, by simp only [RepL], by simpa using e2, rfl⟩, ?_⟩
          rintro i m H2 ⟨rfl, hi, α2, r2, acc, y0, y1, o2, x2, hD, ry, g, ey⟩
          have oX : Ext (MuX io α1 hid) H1 H2 := o2.ext.mono feedM
          by_cases hlt : i < ds.length
          · refine .inr ⟨fd.go i H2 hlt oX, fun H3 => ∃ α2 r2 acc y0 y1, On (ioH own hid io α1) (αH own hid α1) α2 H1 H3 ∧ R P.K (Plus (FH' own hid F α1) D) (ioH own hid io α1) α2 r2 (wipe σ own) H3 ∧ H3 D = some (.lst acc) ∧
              RepL P.K (Al (Plus (FH' own hid F α1) D) (ioH own hid io α1) α2) H3 y0 acc ∧ lc2L own vs1 tg test m1 tg1 test1 elt (ds.drop (i + 1)) r2 = .ok y1 re ∧ ys = y0 ++ y1, ?_, ?_⟩
            · rintro H3 ⟨α3, r3, acc3, z0, z1, a1, a2, a3, a4, a6, a7⟩
              exact ⟨ds.length - (i + 1), by omega, rfl, hlt, α3, r3, acc3, z0, z1, a1, a2, a3, a4, a6, a7⟩
            · intro v H3 y
              have hd : ds[i]? = some ds[i] := List.getElem?_eq_getElem hlt
              obtain ⟨e3, rp⟩ := fd.yld i ds[i] H2 v H3 hd oX y
              have x3 := x2.same e3
              rw [List.drop_eq_getElem_cons hlt] at g
              have alO : ∀ a ob, H1 a = some ob → Al (Plus (FH' own hid F α1) D) (ioH own hid io α1) α2 a → Al F io α1 a := fun a ob q z => by
                rcases z with (z | z) | z
                · rcases z with z | ⟨j, _, z⟩
                  · exact .inl z
                  · exact .inr (.inl ⟨j, z⟩)
                · rw [z, nD] at q; cases q
                · exact .inr (αH_mu (o2.sub a ob q z))
              refine ⟨_, _, α2, r2, ds[i], x3, rp _ alO (fun a z => x2.tracked z), ?_⟩
              unfold lc2L at g
              cases e4 : tg ds[i] r2 with
              | stuck => simp only [e4] at g; cases g
              | exc c fs r4 => simp only [e4] at g; cases g
              | ok u r4 =>
                simp only [e4] at g
                intro σ4 α4 o4 hw x4
                have ww : wipe (wipe σ own) own = wipe σ own := by
                  apply List.ext_getElem?
                  intro k
                  rw [wipe_get, wipe_get]
                  split
                  · rename_i hk; cases σ[k]? <;> rfl
                  · rfl
                have hw4 : wipe σ4 own = wipe σ own := (hw own his).trans ww
                refine ⟨hw4, ?_⟩
                have o13 : On (ioH own hid io α1) (αH own hid α1) α4 H1 H3 := (o2.trans (On.same e3)).trans o4
                have hD3 : H3 D = some (.lst acc) := e3 _ _ hD fun z => z
                have ry3 : RepL P.K (Al (Plus (FH' own hid F α1) D) (ioH own hid io α1) α4) H3 y0 acc := RepL.ext (Soft.none H2) e3 (fun _ z => z.elim) (fun a ob q z => by
                  obtain ⟨ob', q'⟩ : ∃ ob', H3 a = some ob' := ⟨_, e3 a ob q fun z => z⟩
                  rcases z with z | z
                  · exact .inl z
                  · exact .inr (o4.sub a ob' q' z)) ry
                refine ⟨_, _, α4, r4, x4, ?_⟩
                have again : ∀ {σ5 : St} {α5 : Am} {r5 : Ev} {H5 : Hp} {z0 z1 : List PyData} {acc5 : List V}, wipe σ5 own = wipe σ own → On (ioH own hid io α1) (αH own hid α1) α5 H1 H5 → R P.K (Plus (FH' own hid F α1) D) (ioH own hid io α1) α5 r5 σ5 H5 → H5 D = some (.lst acc5) →
                    RepL P.K (Al (Plus (FH' own hid F α1) D) (ioH own hid io α1) α5) H5 z0 acc5 → lc2L own vs1 tg test m1 tg1 test1 elt (ds.drop (i + 1)) (hideFrom own [] 0 r5) = .ok z1 re → ys = z0 ++ z1 →
                    ∃ α2 r2 acc y0 y1, On (ioH own hid io α1) (αH own hid α1) α2 H1 H5 ∧ R P.K (Plus (FH' own hid F α1) D) (ioH own hid io α1) α2 r2 (wipe σ own) H5 ∧ H5 D = some (.lst acc) ∧
                      RepL P.K (Al (Plus (FH' own hid F α1) D) (ioH own hid io α1) α2) H5 y0 acc ∧ lc2L own vs1 tg test m1 tg1 test1 elt (ds.drop (i + 1)) r2 = .ok y1 re ∧ ys = y0 ++ y1 := fun {σ5 α5 r5 H5 z0 z1 acc5} w5 p1 p2 p3 p4 p6 p7 => by
                  obtain ⟨α6, o6, x6⟩ := p2.wiped hiw
                  rw [w5] at x6
                  exact ⟨α6, _, acc5, z0, z1, p1.trans o6, x6, p3, RepL.ext (Soft.none H5) (Ext.refl _ _) (fun _ z => z.elim) (fun a ob q z => z.imp id (o6.sub a ob q)) p4, p6, p7⟩
                cases e5 : test r4 with
                | stuck => simp only [e5] at g; cases g
                | exc c fs r5 => simp only [e5] at g; cases g
                | ok b r5 =>
                  intro H5 α5 o5 x5
                  have hD5 : H5 D = some (.lst acc) := o5.ext _ _ hD3 (nMD x4)
                  have ry5 : RepL P.K (Al (Plus (FH' own hid F α1) D) (ioH own hid io α1) α5) H5 y0 acc := RepL.ext x4.soft o5.ext (fun a z => .inr z) (fun a ob q z => z.imp id (o5.sub a ob q)) ry3
                  cases b with
                  | false =>
                    simp only [e5] at g
                    exact iteF (again hw4 (o13.trans o5) x5 hD5 ry5 g ey)
                  | true =>
                    simp only [e5] at g
                    refine iteT ⟨_, _, α5, r5, x5, ?_⟩
                    cases e6 : m1 r5 with
                    | stuck => simp only [e6] at g; cases g
                    | exc c fs r6 => simp only [e6] at g; cases g
                    | ok z r6 =>
                      simp only [e6] at g
                      intro tv H6 α6 o6 q6
                      cases e7 : tupOf z with
                      | none => simp only [e7] at g; cases g
                      | some ds1 =>
                        simp only [e7] at g
                        have ez : z = .dat (.tuple ds1) ∧ ds1.length ≤ 1000 := by
                          unfold tupOf at e7
                          split at e7
                          · split at e7
                            · rename_i hk
                              cases e7; exact ⟨rfl, hk⟩
                            · cases e7
                          · cases e7
                        obtain ⟨rfl, l0⟩ := ez
                        obtain ⟨x6, rp6⟩ := q6
                        simp only [Rep] at rp6
                        obtain ⟨a, vs, rfl, sq, rl⟩ := rp6
                        cases e8 : lcL vs1 tg1 test1 elt ds1 (hideFrom vs1 [] 0 r6) with
                        | stuck => simp only [e8] at g; cases g
                        | exc c fs r7 => simp only [e8] at g; cases g
                        | ok ys1 r7 =>
                          simp only [e8] at g
                          cases e9 : lc2L own vs1 tg test m1 tg1 test1 elt (ds.drop (i + 1)) (hideFrom own [] 0 r7) with
                          | stuck => simp only [e9] at g; cases g
                          | exc c fs r8 => simp only [e9] at g; cases g
                          | ok zs r8 =>
                            simp only [e9] at g
                            cases g
                            refine ⟨a, rfl, ⟨vs, sq.1⟩, ?_⟩
                            have hD6 : H6 D = some (.lst acc) := o6.ext _ _ hD5 (nMD x5)
                            have ry6 : RepL P.K (Al (Plus (FH' own hid F α1) D) (ioH own hid io α1) α6) H6 y0 acc := RepL.ext x5.soft o6.ext (fun a z => .inr z) (fun a ob q z => z.imp id (o6.sub a ob q)) ry5
                            obtain ⟨α7, o7, x7⟩ := x6.wiped (own := vs1) fun i hi => hiw i (hv i hi)
                            have rl7 : RepL P.K (Al (Plus (FH' own hid F α1) D) (ioH own hid io α1) α7) H6 ds1 vs := RepL.ext (Soft.none H6) (Ext.refl _ _) (fun _ z => z.elim) (fun a ob q z => z.imp id (o7.sub a ob q)) rl
                            have ry7 : RepL P.K (Al (Plus (FH' own hid F α1) D) (ioH own hid io α1) α7) H6 y0 acc := RepL.ext (Soft.none H6) (Ext.refl _ _) (fun _ z => z.elim) (fun a ob q z => z.imp id (o7.sub a ob q)) ry6
                            have sf : Soft (fun a => Mu (ioH own hid io α1) α7 a ∨ a = D) H6 := fun b z => by
                              rcases z with z | z
                              · exact x7.soft b z
                              · rw [z]; exact .inl ⟨_, hD6⟩
                            have l1 : ds1.length ≤ sizeLine := by
                              have := sizeLine_eq
                              omega
                            refine lc_in (H4 := H6) (α4 := α7) (J := Itt P.K a) his1 x7 (.inr rfl) hbD (fun i hi => hiw i (hv i hi)) hD6 ry7 (feed_tup l1 rl7 sf (fun b z => ?_) fun H' e => SqT.ext sf e sq.1) e8 ?_ fun H7 α8 acc7 o8 x8 hD7 rp7 => ?_
                            · rcases z with z | z
                              · exact .inr z
                              · exact .inl (.inr z)
                            · have := congrArg List.length ey
                              simp only [List.length_append] at this
                              omega
                            · have ws : wipe (wipe σ4 vs1) own = wipe σ own := by
                                rw [← hw4]
                                apply List.ext_getElem?
                                intro k
                                rw [wipe_get, wipe_get, wipe_get]
                                by_cases ko : own.contains k = true
                                · rw [if_pos ko, if_pos ko]
                                  split
                                  · cases σ4[k]? <;> rfl
                                  · rfl
                                · have kv : ¬ vs1.contains k = true := fun z => ko (by simpa using hv k (by simpa using z))
                                  rw [if_neg ko, if_neg ko, if_neg kv]
                              exact again ws (onOf ((o13.trans o5).trans o6) ((On.onD o7).trans o8)) x8 hD7 rp7 e9 (by rw [ey, List.append_assoc])
          · have e3 : i = ds.length := by omega
            subst e3
            refine .inl ⟨fd.stop H2 oX, ?_⟩
            rw [List.drop_length] at g
            unfold lc2L at g
            cases g
            rw [List.append_nil] at ey
            subst ey
            obtain ⟨α3, o3, x3, s3⟩ := x1.shown hio hh nD x2 o2
            refine h (.ref D) H2 α3 (o1.trans o3) ⟨D, rfl, o1.free nD, x3, ?_, ?_, acc, hD, RepL.ext (Soft.none H2) (Ext.refl _ _) (fun _ z => z.elim) (fun a _ _ z => s3 a z) ry⟩
            · intro z
              obtain ⟨ob, q⟩ := x1.FH D z
              rw [nD] at q; cases q
            · exact fun z => x3.aF D (.inr rfl) z
        · simp only [hsz, if_false] at h
end
end Ip

set_option Elab.async false
set_option linter.all false
set_option maxRecDepth 100000
set_option maxHeartbeats 1000000
/-! Slices, list(range(..)), index, extend. -/
namespace Ip
open PySem PySem.Spec PyProof.Rows L2
/-! ### list(range(..)), tuple(range(..)) -/
def rgD (a b : Int) : List D := (List.range (b - a).toNat).map fun i => .int (a + (i : Nat))
def rgOk (a b : Int) : Bool := inside a && inside b && decide (b - a ≤ 16777216)
def oListR : Op
  | [.int n] => if rgOk 0 n then some (.fresh (.list (rgD 0 n))) else none
  | [.int a, .int b] => if rgOk a b then some (.fresh (.list (rgD a b))) else none
  | _ => none
def oTupR : Op
  | [.int n] => if rgOk 0 n then some (.dat (.tuple (rgD 0 n))) else none
  | [.int a, .int b] => if rgOk a b then some (.dat (.tuple (rgD a b))) else none
  | _ => none
def slD (x : D) (lo hi : Option Int) : Option Ro := match x with
  | .list xs => some (.fresh (.list (cutL xs lo hi)))
  | .tuple xs => some (.dat (.tuple (cutL xs lo hi)))
  | _ => none
def oSl : Bool → Bool → Op
  | true, true, [x, .int i, .int j] => slD x (some i) (some j)
  | true, false, [x, .int i] => slD x (some i) none
  | false, true, [x, .int j] => slD x none (some j)
  | false, false, [x] => slD x none none
  | _, _, _ => none
/-- a number, or nothing -/
def intM (m : M Rs) : M Rs := fun r => match m r with
  | .ok (.dat (.int i)) r => .ok (.dat (.int i)) r
  | .ok _ _ => .stuck
  | .exc c fs r => .exc c fs r
  | .stuck => .stuck
def firstIx (d : D) : List D → Option Nat
  | [] => none
  | z :: zs => if PyData.eqv z d then some 0 else (firstIx d zs).map (· + 1)
def oIndex : Op
  | [.list ds, d] => if shp (.list ds) && shp d then (firstIx d ds).map fun j => .dat (.int (j : Nat)) else none
  | _ => none
def isListD : D → Bool
  | .list _ => true
  | _ => false
def idxV (a b : M Rs) : M Rs := fun r => match a r with
  | .ok x r1 => match hold x r1 with
    | .ok x r1 => match look x r1 with
      | .ok d r1 => if isListD d then match args [b] r1 with
          | .ok ys r2 => match looks (x :: ys) r2 with
            | .ok ds r2 => liftR (oIndex ds) r2
            | .exc c fs r => .exc c fs r
            | .stuck => .stuck
          | .exc c fs r => .exc c fs r
          | .stuck => .stuck
        else .stuck
      | .exc c fs r => .exc c fs r
      | .stuck => .stuck
    | .exc c fs r => .exc c fs r
    | .stuck => .stuck
  | .exc c fs r => .exc c fs r
  | .stuck => .stuck
def extD (zs : List D) (d : D) : Option (D × D) := match d with
  | .list xs => if xs.length + zs.length ≤ sizeLine then some (.list (xs ++ zs), .none) else none
  | _ => none
/-- l.extend(a new list) -/
def extV (i : Nat) (m : M Rs) : M Rs := fun r => if isLst r[i]? then match m r with
  | .ok (.fresh (.list zs)) r => match wrAt (extD zs) r[i]? with
    | some (s, y) => .ok (.dat y) (r.set i s)
    | none => .stuck
  | .ok _ _ => .stuck
  | .exc c fs r => .exc c fs r
  | .stuck => .stuck
  else .stuck
section
variable {K : PySem.W.Frag} {F : Addr → Prop} {io : Fx} {α α' : Am} {r r' : Ev} {σ : St} {H H' H0 : Hp} {v : V} {P : Par} {W : WX} {X : Cx}
theorem rgOk_iff {a b : Int} (h : rgOk a b = true) : RgOk a b := by
  unfold rgOk at h
  simp only [Bool.and_eq_true, decide_eq_true_eq] at h
  have h1 := inside_iff h.1.1
  have h2 := inside_iff h.1.2
  exact ⟨by omega, by omega, by omega, by omega, by omega⟩
theorem repL_rg {O : Addr → Prop} (a b : Int) : RepL K O H (rgD a b) (rgV a b) := by
  unfold rgD rgV
  generalize List.range (b - a).toNat = l
  induction l with
  | nil => simp only [List.map_nil, RepL]
  | cons i l ih =>
    simp only [List.map_cons, RepL]
    exact ⟨_, _, rfl, by simp only [Rep], ih⟩
def rLR1 : V → Hp → VK → Prop := fun x H Q => ∃ n, x = .int n ∧ RgOk 0 n ∧ ∀ q, H q = none → Q (.ref q) (upd H q (.lst (rgV 0 n)))
def rLR2 : R2 := fun x y H Q => ∃ a b, x = .int a ∧ y = .int b ∧ RgOk a b ∧ ∀ q, H q = none → Q (.ref q) (upd H q (.lst (rgV a b)))
def tTupRgB (te : L2.St → Hp → (Int → Int → Hp → Prop) → Prop) : TE := fun σ H Q => te σ H fun a b H1 => RgOk a b ∧ newT H1 (rgV a b) Q
theorem pe_tupRgB {e : Expr} {te : L2.St → Hp → (Int → Int → Hp → Prop) → Prop} {p pos : Pos} (hc : X.calm = true) (hg : Gl X "tuple") (hm : X.mg "tuple" = none) (he : PRg X e te) (na : starEach [e] X.env = (false, eval e X.env) :: starEach [] X.env) : PE X (.Call (.Name "tuple" p) [e] [] pos) (tTupRgB te) := by
  refine ⟨fun pins s σ H Q I h => ?_⟩
  refine Call_ (ld_blt I hg hm boot_tuple (PyProof.Rows.callWith_type1 (args_cons (thn (he pins s σ H _ I h) fun x s1 ⟨r, a, b, t, u, v, H1, ex, hr, I1, ok, q⟩ => args_nil ?_) na) na))
  subst ex
  obtain ⟨b1, b2, b3, b4, b5⟩ := ok
  refine call_tuple_range (n := (b - a).toNat) (I1.ok.hd hc) hr (small_one b1 b2 b3 b4) (rangeSize_nat a b) b5 fun h' tk acc hk hi => ?_
  have I2 : Inv X pins σ H1 { s1 with heap := h', toks := tk } := I1.kept hk
  have e : ({ cls := .type "tuple", data := .seq acc } : Obj) = tupO acc.toList := by unfold tupO; rw [Array.toArray_toList]
  rw [e]
  exact ⟨.ref h'.objs.size, _, laidT (t' := tk) I2 (vals_rg hi) (by rw [rgV_length, sizeLine_eq]; omega), rfl, q _ _ (I2.hok.fresh (Nat.le_refl _))⟩
def rTR1 : V → Hp → VK → Prop := fun x H Q => ∃ n, x = .int n ∧ RgOk 0 n ∧ newT H (rgV 0 n) Q
def rTR2 : R2 := fun x y H Q => ∃ a b, x = .int a ∧ y = .int b ∧ RgOk a b ∧ newT H (rgV a b) Q
theorem rg_one {f : Op} {m : M Rs} {rr : V → Hp → VK → Prop} {σ : St} {H : Hp} {Q : VK} (hf : ∀ (O : Addr → Prop) (H : Hp) (n : Int) (x : Ro) (Q : VK), f [.int n] = some x → (∀ v H', Out P.K O H v H' x → Q v H') → rr (.int n) H Q) (h1 : ∀ ds x, f ds = some x → ds.length = 1 → ∃ n, ds = [.int n])
    (h : tEv P W (prim f [m]) σ H Q) : tEv P W m σ H fun x H1 => ∃ n, x = .int n ∧ rr (.int n) H1 Q := by
  obtain ⟨F, io, α, ρ, x, h⟩ := h
  refine ⟨F, io, α, ρ, x, ?_⟩
  unfold prim args args at h
  cases e : m ρ with
  | stuck => rw [e] at h; exact h
  | exc c fs r1 => rw [e] at h; exact h
  | ok y r1 =>
    rw [e] at h
    intro v H1 α1 o1 q1
    obtain ⟨z, e2, x1, q1⟩ := q1.held
    simp only [e2] at h
    rcases looks_no [z] r1 with ⟨ds, e3⟩ | e3
    · simp only [e3] at h
      cases e4 : f ds with
      | none => rw [e4] at h; exact False.elim h
      | some y =>
        rw [e4] at h
        have sv := seens_of (vs := [v]) x1 e3 ⟨q1, trivial⟩
        have l1 : ds.length = 1 := by
          match ds, sv with
          | [_], _ => rfl
          | [], sv => cases sv
          | _ :: _ :: _, sv =>
            obtain ⟨_, _, e, _, _, _, e', _⟩ := sv
            cases e; cases e'
        obtain ⟨n, rfl⟩ := h1 ds y e4 l1
        obtain ⟨v', ev, hv⟩ := Views.one sv
        cases ev
        refine ⟨n, hv.int, hf (Al F io α1) H1 n y Q e4 fun w H2 o => ?_⟩
        obtain ⟨o2, q2⟩ := x1.done o
        exact h w H2 α1 (o1.trans o2) (q2.back o1)
    · simp only [e3] at h
theorem listR_ok {m : M Rs} {σ : St} {H : Hp} {Q : VK} (h : tEv P W (prim oListR [m]) σ H Q) : tLstRg (tRg1 (tEv P W m)) σ H Q := by
  refine ev_mono (rg_one (rr := rLR1) (fun O H n x Q e q => ?_) (fun ds x e l => ?_) h) fun v H1 ⟨n, e, n', e', ok, q⟩ => ⟨n, e, by cases e'; exact ok, by cases e'; exact q⟩
  · refine ⟨n, rfl, ?_⟩
    have e' : (if rgOk 0 n then some (Ro.fresh (.list (rgD 0 n))) else none) = some x := e
    split at e'
    · rename_i c
      cases e'
      exact ⟨rgOk_iff c, fun p np => q _ _ (Out.newL np (repL_rg 0 n))⟩
    · cases e'
  · unfold oListR at e
    split at e
    · exact ⟨_, rfl⟩
    · simp at l
    · cases e
theorem tupR_ok {m : M Rs} {σ : St} {H : Hp} {Q : VK} (h : tEv P W (prim oTupR [m]) σ H Q) : tTupRgB (tRg1 (tEv P W m)) σ H Q := by
  refine ev_mono (rg_one (rr := rTR1) (fun O H n x Q e q => ?_) (fun ds x e l => ?_) h) fun v H1 ⟨n, e, n', e', ok, q⟩ => ⟨n, e, by cases e'; exact ok, by cases e'; exact q⟩
  · refine ⟨n, rfl, ?_⟩
    have e' : (if rgOk 0 n then some (Ro.dat (.tuple (rgD 0 n))) else none) = some x := e
    split at e'
    · rename_i c
      cases e'
      exact ⟨rgOk_iff c, fun p its np => q _ _ (Out.newT np (repL_rg 0 n))⟩
    · cases e'
  · unfold oTupR at e
    split at e
    · exact ⟨_, rfl⟩
    · simp at l
    · cases e
theorem prm_listR2 : Prm K oListR (r2 rLR2 |> fun r vs H Q => vs.length = 2 → r vs H Q) := by
  intro O H ds vs x Q e hv q hl
  unfold oListR at e
  split at e
  · obtain ⟨v, rfl, _⟩ := hv.one
    simp at hl
  · rename_i a b
    obtain ⟨v, w, rfl, h1, h2⟩ := hv.two
    split at e
    · rename_i c
      cases e
      exact ⟨v, w, rfl, a, b, h1.int, h2.int, rgOk_iff c, fun p np => q _ _ (Out.newL np (repL_rg a b))⟩
    · cases e
  · cases e
theorem listR2_ok {m m2 : M Rs} {σ : St} {H : Hp} {Q : VK} (h : tEv P W (prim oListR [m, m2]) σ H Q) : tLstRg (tRg2 (tEv P W m) (tEv P W m2)) σ H Q :=
  ev_mono (av_cons (prim_ok prm_listR2 h)) fun v H q => ev_mono (av_cons q) fun v2 H2 q2 => by
    obtain ⟨v', w', e, a, b, ea, eb, ok, hq⟩ := av_nil q2 rfl
    cases e
    exact ⟨a, b, ea, eb, ok, hq⟩
/-! ### slices -/
def rSlLA (K : PySem.W.Frag) : V → Option Int → Option Int → Hp → VK → Prop := fun x lo hi H Q => rSlL K x lo hi H Q ∨ rSlB K x lo hi H Q
theorem slD_ok {O : Addr → Prop} {d : D} {lo hi : Option Int} {x : Ro} {v : V} {Q : VK} (e : slD d lo hi = some x) (h : View K O H d v) (q : ∀ w H', Out K O H w H' x → Q w H') : rSlLA K v lo hi H Q := by
  unfold slD at e
  split at e
  · cases e
    obtain ⟨a, us, rfl, hs, r⟩ := h.lst
    refine .inl ⟨a, us, rfl, hs, fun p np => q _ _ (Out.newL np ?_)⟩
    unfold cutL cutV
    rw [r.length]
    exact RepL.take _ (RepL.drop _ r)
  · cases e
    obtain ⟨a, us, rfl, hs, r⟩ := h.tupB
    refine .inr ⟨a, us, rfl, hs.1, fun z => ?_, fun _ p its np => q _ _ (Out.newT np ?_)⟩
    · refine q _ _ (Out.same ?_)
      simp only [Rep]
      refine ⟨a, us, rfl, hs, ?_⟩
      unfold cutL
      rw [r.length, z.1, z.2, List.drop_zero, ← r.length, Nat.sub_zero, List.take_length]
      exact r
    · unfold cutL cutV
      rw [r.length]
      exact RepL.take _ (RepL.drop _ r)
  · cases e
theorem Views.three {O : Addr → Prop} {a b c : D} {vs : List V} (h : Views K O H [a, b, c] vs) : ∃ v w u, vs = [v, w, u] ∧ View K O H a v ∧ View K O H b w ∧ View K O H c u := by
  obtain ⟨v, ws, rfl, h1, w, us, rfl, h2, u, ts, rfl, h3, rfl⟩ := h
  exact ⟨v, w, u, rfl, h1, h2, h3⟩
theorem prm_slTT : Prm K (oSl true true) (fun vs H Q => ∃ x y z i j, vs = [x, y, z] ∧ y = .int i ∧ z = .int j ∧ rSlLA K x (some i) (some j) H Q) := by
  intro O H ds vs x Q e hv q
  unfold oSl at e
  split at e <;> first | cases e | skip
  · rename_i i j _ _
    obtain ⟨v, w, u, rfl, h1, h2, h3⟩ := hv.three
    exact ⟨v, w, u, i, j, rfl, h2.int, h3.int, slD_ok e h1 q⟩
  all_goals simp at *
theorem prm_slTF : Prm K (oSl true false) (r2 fun x y H Q => ∃ i, y = .int i ∧ rSlLA K x (some i) none H Q) := by
  intro O H ds vs x Q e hv q
  unfold oSl at e
  split at e <;> first | cases e | skip
  · simp at *
  · rename_i i _ _
    obtain ⟨v, w, rfl, h1, h2⟩ := hv.two
    exact ⟨v, w, rfl, i, h2.int, slD_ok e h1 q⟩
  all_goals simp at *
theorem prm_slFT : Prm K (oSl false true) (r2 fun x y H Q => ∃ i, y = .int i ∧ rSlLA K x none (some i) H Q) := by
  intro O H ds vs x Q e hv q
  unfold oSl at e
  split at e <;> first | cases e | skip
  · simp at *
  · simp at *
  · rename_i i _ _
    obtain ⟨v, w, rfl, h1, h2⟩ := hv.two
    exact ⟨v, w, rfl, i, h2.int, slD_ok e h1 q⟩
  all_goals simp at *
theorem prm_slFF : Prm K (oSl false false) (r1 fun x H Q => rSlLA K x none none H Q) := by
  intro O H ds vs x Q e hv q
  unfold oSl at e
  split at e <;> first | cases e | skip
  · simp at *
  · simp at *
  · simp at *
  · obtain ⟨v, rfl, h1⟩ := hv.one
    exact ⟨v, rfl, slD_ok e h1 q⟩
theorem sl_any : SlR X (rSlLA X.K) := SlR.or sl_list sl_tupB
theorem intM_ok {m : M Rs} {σ : St} {H : Hp} {Q : VK} (h : tEv P W (intM m) σ H Q) : tEv P W m σ H fun v H1 => ∃ i, v = .int i ∧ Q v H1 := by
  obtain ⟨F, io, α, ρ, x, h⟩ := h
  refine ⟨F, io, α, ρ, x, ?_⟩
  unfold intM at h
  cases e : m ρ with
  | stuck => rw [e] at h; exact h
  | exc c fs r1 => rw [e] at h; exact h
  | ok y r1 =>
    rw [e] at h
    intro v H1 α1 o1 q1
    cases y with
    | fresh d => exact h.elim
    | var i => exact h.elim
    | dat d =>
      cases d with
      | int i =>
        have e1 : v = .int i := by
          have := q1.2
          simpa only [Rep] using this
        exact ⟨i, e1, h v H1 α1 o1 q1⟩
      | _ => exact h.elim
theorem px_slTT (hK : P.K = X.K) {a b c : Expr} {ma mb mc : M Rs} {p2 pos : Pos} (ha : PE X a (tEv P W ma)) (hb : PE X b (tEv P W mb)) (hc : PE X c (tEv P W mc)) : PE X (.Subscript a (.Slice (some b) (some c) none p2) pos) (tEv P W (prim (oSl true true) [ma, intM mb, intM mc])) :=
  PE.weak (pe_slice sl_any ha (po_some hb) (po_some hc)) fun σ H Q h => by
    rw [← hK]
    exact ev_mono (av_cons (prim_ok prm_slTT h)) fun v H q => ev_mono (intM_ok (av_cons q)) fun v2 H2 ⟨i, ei, q2⟩ => by
      refine ⟨i, ei, ev_mono (intM_ok (av_cons q2)) fun v3 H3 ⟨j, ej, q3⟩ => ⟨j, ej, ?_⟩⟩
      obtain ⟨x, y, z, i', j', e, e1, e2, r⟩ := av_nil q3
      cases e
      rw [ei] at e1
      rw [ej] at e2
      cases e1
      cases e2
      exact r
theorem px_slTF (hK : P.K = X.K) {a b : Expr} {ma mb : M Rs} {p2 pos : Pos} (ha : PE X a (tEv P W ma)) (hb : PE X b (tEv P W mb)) : PE X (.Subscript a (.Slice (some b) none none p2) pos) (tEv P W (prim (oSl true false) [ma, intM mb])) :=
  PE.weak (pe_slice sl_any ha (po_some hb) po_none) fun σ H Q h => by
    rw [← hK]
    exact ev_mono (av_cons (prim_ok prm_slTF h)) fun v H q => ev_mono (intM_ok (av_cons q)) fun v2 H2 ⟨i, ei, q2⟩ => by
      refine ⟨i, ei, ?_⟩
      obtain ⟨x, y, e, i', e1, r⟩ := av_nil q2
      cases e
      rw [ei] at e1
      cases e1
      exact r
theorem px_slFT (hK : P.K = X.K) {a b : Expr} {ma mb : M Rs} {p2 pos : Pos} (ha : PE X a (tEv P W ma)) (hb : PE X b (tEv P W mb)) : PE X (.Subscript a (.Slice none (some b) none p2) pos) (tEv P W (prim (oSl false true) [ma, intM mb])) :=
  PE.weak (pe_slice sl_any ha po_none (po_some hb)) fun σ H Q h => by
    rw [← hK]
    exact ev_mono (av_cons (prim_ok prm_slFT h)) fun v H q => ev_mono (intM_ok (av_cons q)) fun v2 H2 ⟨i, ei, q2⟩ => by
      refine ⟨i, ei, ?_⟩
      obtain ⟨x, y, e, i', e1, r⟩ := av_nil q2
      cases e
      rw [ei] at e1
      cases e1
      exact r
theorem px_slFF (hK : P.K = X.K) {a : Expr} {ma : M Rs} {p2 pos : Pos} (ha : PE X a (tEv P W ma)) : PE X (.Subscript a (.Slice none none none p2) pos) (tEv P W (prim (oSl false false) [ma])) :=
  PE.weak (pe_slice sl_any ha po_none po_none) fun σ H Q h => by
    rw [← hK]
    exact one_ok prm_slFF h
/-! ### list.index -/
theorem firstIx_ok {d : D} : ∀ {ds : List D} {j : Nat}, firstIx d ds = some j → (∃ z, ds[j]? = some z ∧ PyData.eqv z d = true) ∧ ∀ (m : Nat) (z' : PyData), m < j → ds[m]? = some z' → PyData.eqv z' d = false
  | [], j, h => by cases h
  | z :: zs, j, h => by
    unfold firstIx at h
    split at h
    · rename_i c
      cases h
      exact ⟨⟨z, rfl, c⟩, fun m z' hm => by omega⟩
    · rename_i c
      obtain ⟨i, e, rfl⟩ := Option.map_eq_some_iff.mp h
      obtain ⟨⟨y, h1, h2⟩, h3⟩ := firstIx_ok e
      refine ⟨⟨y, by simpa using h1, h2⟩, fun m z' hm hz => ?_⟩
      cases m with
      | zero => simp at hz; subst hz; simpa using c
      | succ m => exact h3 m z' (by omega) (by simpa using hz)
theorem idx_ok {a b : M Rs} {σ : St} {H : Hp} {Q : VK} (h : tEv P W (idxV a b) σ H Q) : tBM P.K "list" (rIndexD P.K) (tEv P W a) (tAv P W [b]) σ H Q := by
  obtain ⟨F, io, α, ρ, x, h⟩ := h
  refine ⟨F, io, α, ρ, x, ?_⟩
  unfold idxV at h
  cases e : a ρ with
  | stuck => rw [e] at h; exact h
  | exc c fs r1 => rw [e] at h; exact h
  | ok y r1 =>
    rw [e] at h
    intro v H1 α1 o1 q1
    obtain ⟨z, e2, x1, q1⟩ := q1.held
    simp only [e2] at h
    rcases look_no z r1 with ⟨d, e3⟩ | e3
    · simp only [e3] at h
      cases d with
      | list ds0 =>
        simp only [isListD, if_true] at h
        obtain ⟨_, w⟩ := x1.seen e3 q1
        obtain ⟨la, us, rfl, hs, _⟩ := w.lst
        refine ⟨.inl ⟨rfl, us, hs⟩, F, io, α1, r1, x1, ?_⟩
        cases e4 : args [b] r1 with
        | stuck => rw [e4] at h; exact h
        | exc c fs r2 => rw [e4] at h; exact Thrown.on h o1
        | ok ys r2 =>
          rw [e4] at h
          intro vs H2 α2 o2 x2 q2
          simp only at h
          rcases looks_no (z :: ys) r2 with ⟨ds, e5⟩ | e5
          · simp only [e5] at h
            cases e6 : oIndex ds with
            | none => rw [e6] at h; exact False.elim h
            | some y =>
              rw [e6] at h
              have sv := seens_of (vs := V.ref la :: vs) x2 e5 ⟨RV.on x1.soft o2 q1, q2⟩
              unfold oIndex at e6
              split at e6
              · rename_i ds1 d1
                split at e6
                · rename_i c
                  simp only [Bool.and_eq_true] at c
                  obtain ⟨j, e7, rfl⟩ := Option.map_eq_some_iff.mp e6
                  obtain ⟨v1, w1, ev, h1, h2⟩ := Views.two sv
                  cases ev
                  obtain ⟨⟨z', hz, hz2⟩, hno⟩ := firstIx_ok e7
                  refine ⟨la, w1, d1, ds1, j, z', rfl, rfl, View.dp c.1 h1, View.dp c.2 h2, c.1, c.2, hz, hz2, hno, ?_⟩
                  exact h _ _ α2 (o1.trans o2) ⟨x2, by simp only [Rep]⟩
                · cases e6
              · cases e6
          · simp only [e5] at h
      | _ => exact h.elim
    · simp only [e3] at h
theorem px_index (hK : P.K = X.K) (hu : X.A.units + 65 < cLine) {o e : Expr} {mo me : M Rs} {apos cpos : Pos} (ho : PE X o (tEv P W mo)) (ha : PA X [e] (tAv P W [me])) (hbase : attributeBase o "index" X.env (eval o X.env) = eval o X.env)
    (hs0 : isStar e = false) (hline : (apos.endLine == cpos.line) = true) : PE X (.Call (.Attribute o "index" apos) [e] [] cpos) (tEv P W (idxV mo me)) :=
  PE.weak (pe_bm PySem.F.plainAttrs_list PySem.F.slot_list_index PySem.F.type_list_index (mt_indexD hu) ho ha hbase (by rw [star0 hs0]; rfl) hline (star0 hs0) (by rfl)) fun σ H Q h => by
    rw [← hK]
    exact idx_ok h
/-! ### extend -/
theorem ext_ok {i : Nat} {m : M Rs} {Q : VK} (h : tEv P W (extV i m) σ H Q) :
    ∃ v, σ[i]? = some (some v) ∧ tyV P.K "list" v H ∧ tEv P W m σ H fun x H2 => rExtend v [x] H2 Q := by
  obtain ⟨F, io, α, r, x, h⟩ := h
  unfold extV at h
  by_cases hl : isLst r[i]? = true
  · rw [if_pos hl] at h
    obtain ⟨a0, hv, ty⟩ := isLst_ty x hl
    refine ⟨.ref a0, hv, ty, F, io, α, r, x, ?_⟩
    cases e : m r with
    | stuck => rw [e] at h; exact h
    | exc c fs r1 => rw [e] at h; exact h
    | ok y r1 =>
      rw [e] at h
      intro v H1 α1 o1 q1
      cases y with
      | dat d => exact h.elim
      | var j => exact h.elim
      | fresh d =>
        cases d with
        | list zs =>
          obtain ⟨p, rfl, hp0, x1, nF, nM, c1⟩ := q1
          simp only at h
          cases e3 : wrAt (extD zs) r1[i]? with
          | none => simp only [e3] at h
          | some sy =>
            obtain ⟨s, y⟩ := sy
            simp only [e3] at h
            obtain ⟨d, d', a, g, hv2, pl, c, cs⟩ := wrAt_get x1 e3
            rw [hv] at hv2
            cases hv2
            unfold extD at g
            split at g
            · rename_i xs
              split at g
              · rename_i hz
                cases g
                obtain ⟨vs, hH, rv⟩ := c
                obtain ⟨ws, hP, rw'⟩ := c1
                refine ⟨a0, p, vs, ws, rfl, rfl, hH, hP, by rw [← rv.length, ← rw'.length]; exact hz, ?_⟩
                have hO : Al (Plus F p) io α1 a0 := .inr pl.mu
                have c' : Cell P.K (Al (Plus F p) io α1) (upd H1 a0 (.lst (vs ++ ws))) (.list (xs ++ zs)) a0 := by
                  refine ⟨_, upd_same, ?_⟩
                  exact repL_at (d := .list xs) ⟨vs, hH, rv⟩ hO (RepL.append rv rw')
                obtain ⟨o3, x3⟩ := x1.write (d := .list xs) pl ⟨vs, hH, rv⟩ c' hv cs
                refine h .non _ α1 (o1.trans ⟨o3.sub, o3.ext, o3.there⟩) ⟨x3.weak fun _ z => .inl z, by simp only [Rep]⟩
              · cases g
            · cases g
        | _ => exact h.elim
  · rw [if_neg hl] at h
    exact h.elim
end
end Ip

set_option Elab.async false
set_option linter.all false
set_option maxRecDepth 100000
set_option maxHeartbeats 1000000
/-! y = x, where x holds a list of its own: the list goes over to y. -/
namespace Ip
open PySem PySem.Spec PyProof.Rows L2
def mvS (i j : Nat) : M Fl := fun r => match ownAt r[j]? with
  | some d => if setOk (r.set j .no)[i]? then .ok .next ((r.set j .no).set i (.own d)) else .stuck
  | none => setS i (nm j) r
section
variable {K : PySem.W.Frag} {F : Addr → Prop} {io : Fx} {α α' : Am} {r r' : Ev} {σ : St} {H H' H0 : Hp} {v : V} {P : Par} {W : WX} {X : Cx}
theorem R.drop (x : R K F io α r σ H) {j : Nat} {d : D} (h : ownAt r[j]? = some d) : ∃ a, σ[j]? = some (some (.ref a)) ∧ α j = some a ∧ R K (Plus F a) io (upd1 α j none) (r.set j .no) σ H ∧ ¬ F a ∧ ¬ Mu io (upd1 α j none) a ∧ Cell K (Al (Plus F a) io (upd1 α j none)) H d a := by
  obtain ⟨a, e1, e2, _, c, n⟩ := x.demote h
  have hi : setOk r[j]? = true := by
    revert h
    cases r[j]? with
    | none => intro q; cases q
    | some s => cases s <;> intro q <;> first | rfl | cases q
  have x2 : R K F io (upd1 α j none) (r.set j .no) (σ.set j (some (.ref a))) H := x.put_no hi .no (some (.ref a)) upd1_eq
  have es : σ.set j (some (V.ref a)) = σ := List.ext_getElem? fun k => by
    by_cases q : j = k
    · subst q
      rw [List.getElem?_set_self (by rw [← x.len]; exact setOk_lt hi), e1]
    · rw [List.getElem?_set_ne q]
  rw [es] at x2
  have nF : ¬ F a := fun z => n (.inl z)
  have nM : ¬ Mu io (upd1 α j none) a := fun z => n (.inr z)
  have hA : ∀ b o, H b = some o → Al (Plus F a) io (upd1 α j none) b → Al F io α b := fun b o _ z => by
    rcases z.plus with z | z
    · exact al_less z
    · subst z; exact .inr (.inl ⟨j, e2⟩)
  have hlt := setOk_lt hi
  refine ⟨a, e1, e2, ⟨x2.len, fun k sl hj => ?_, x2.out, x2.ios, x2.inj, x2.ioj, x2.aio, x2.boH, fun b hb hm => ?_, fun b hb => ?_⟩, nF, nM, ?_⟩
  · by_cases q3 : k = j
    · subst q3
      rw [List.getElem?_set_self hlt] at hj
      cases hj
      exact upd1_eq
    · rw [List.getElem?_set_ne (Ne.symm q3)] at hj
      exact (x.slot k sl hj).less hA (upd1_ne q3) rfl
  · rcases hb with hb | hb
    · exact x2.aF b hb hm
    · subst hb; exact nM hm
  · rcases hb with hb | hb
    · exact x.FH b hb
    · subst hb
      obtain ⟨d', _, _, c'⟩ := x.own_cell e2
      rcases c'.soft with ⟨_, z⟩ | ⟨_, z⟩ <;> exact ⟨_, z⟩
  · have ⟨d', e3, _, c'⟩ := x.own_cell e2
    have e4 : d' = d := by rw [e3] at h; exact Option.some.inj h
    subst e4
    exact c'.ext (Soft.none H) (Ext.refl _ _) (fun _ z => z.elim) (fun b _ _ z => by
      rcases z.plus with z | z
      · exact al_less z
      · subst z; exact .inr (.inl ⟨j, e2⟩)) (fun z => z)
theorem mv_ok {i j : Nat} {D : Ends} {σ : St} {H : Hp} (h : tEx P W (mvS i j) D σ H) : tEv P W (nm j) σ H fun x H1 => D.nx (σ.set i (some x)) H1 := by
  obtain ⟨F, io, α, r, x, h⟩ := h
  unfold mvS at h
  cases e : ownAt r[j]? with
  | none =>
    rw [e] at h
    exact set_ok ⟨F, io, α, r, x, h⟩
  | some d =>
    rw [e] at h
    refine ⟨F, io, α, r, x, ?_⟩
    have en : nm j r = .ok (.var j) r := by
      unfold nm
      revert e
      cases r[j]? with
      | none => intro q; cases q
      | some s => cases s <;> intro q <;> first | rfl | cases q
    rw [en]
    intro v H1 α1 o1 q1
    obtain ⟨x1, hv, a', rfl⟩ := q1
    by_cases hok : setOk (r.set j .no)[i]? = true
    · simp only [hok, if_true] at h
      obtain ⟨a, e1, e2, x2, nF, nM, c⟩ := x1.drop e
      rw [hv] at e1
      cases e1
      have x3 := x2.put_own hok nF nM c fun k b hb z => by
        subst z
        exact (x1.boH k b hb).2 (.inl ⟨j, e2⟩)
      refine h _ _ _ ⟨fun b o hb z => o1.sub b o hb ?_, o1.ext, o1.there⟩ x3
      rcases z with ⟨k, z⟩ | z
      · by_cases q : k = i
        · subst q; rw [upd1_eq] at z; cases z; exact .inl ⟨j, e2⟩
        · rw [upd1_ne q] at z; exact .inl ⟨k, upd1_no z⟩
      · exact .inr z
    · simp only [hok] at h
      exact h.elim
theorem ps_mv {i j : Nat} {x : Str} {e : Expr} {pos pos' : Pos} (hN : X.N.Nodup) (hi : X.N[i]? = some x) (hx : Loc X.env.scope x) (he : PE X e (tEv P W (nm j))) (hs : swapsWith e (some (.Name x pos')) pos.line X.env = pure false) (hf : X.fn x = true ∨ X.env.scope.names.lookup x = some .local) :
    PS X (.Assign [.Name x pos'] e pos) (tEx P W (mvS i j)) := PS.weak (ps_set hN hi hx he hs hf) fun D σ H h => mv_ok h
end
end Ip

set_option Elab.async false
set_option linter.all false
set_option maxRecDepth 100000
set_option maxHeartbeats 1000000
/-! index of a tuple of whole numbers; min of two; sorted of numbers or of data. -/
namespace Ip
open PySem PySem.Spec PyProof.Rows L2
def oAlt (f g : Op) : Op := fun ds => match f ds with
  | some x => some x
  | none => g ds
def oSortA : Op := oAlt oSorted oSortD
def oMin2 : Op
  | [.int i, .int j] => some (.dat (.int (if j < i then j else i)))
  | _ => none
def oIndexT : Op
  | [.tuple ds, .int k] => match intsOf ds with
    | some ns => if k ∈ ns then some (.dat (.int (ns.idxOf k : Nat))) else none
    | none => none
  | _ => none
def isTupD : D → Bool
  | .tuple _ => true
  | _ => false
def idxT (a b : M Rs) : M Rs := fun r => match a r with
  | .ok x r1 => match hold x r1 with
    | .ok x r1 => match look x r1 with
      | .ok d r1 => if isTupD d then match args [b] r1 with
          | .ok ys r2 => match looks (x :: ys) r2 with
            | .ok ds r2 => liftR (oIndexT ds) r2
            | .exc c fs r => .exc c fs r
            | .stuck => .stuck
          | .exc c fs r => .exc c fs r
          | .stuck => .stuck
        else .stuck
      | .exc c fs r => .exc c fs r
      | .stuck => .stuck
    | .exc c fs r => .exc c fs r
    | .stuck => .stuck
  | .exc c fs r => .exc c fs r
  | .stuck => .stuck
def tupAt (a : M Rs) (r : Ev) : Bool := match a r with
  | .ok x r1 => match hold x r1 with
    | .ok x r1 => match look x r1 with
      | .ok d _ => isTupD d
      | _ => false
    | _ => false
  | _ => false
def idxW (a b : M Rs) : M Rs := fun r => if tupAt a r then idxT a b r else idxV a b r
section
variable {K : PySem.W.Frag} {F : Addr → Prop} {io : Fx} {α α' : Am} {r r' : Ev} {σ : St} {H H' H0 : Hp} {v : V} {P : Par} {W : WX} {X : Cx}
theorem call_or {f : Value} {r1 r2 : List V → Hp → VK → Prop} (h1 : CallR X f r1) (h2 : CallR X f r2) : CallR X f (fun vs H Q => r1 vs H Q ∨ r2 vs H Q) := by
  intro pins s σ H xs us Q I r h
  rcases h with h | h
  · exact h1 pins s σ H xs us Q I r h
  · exact h2 pins s σ H xs us Q I r h
theorem prm_alt {f g : Op} {r1 r2 : List V → Hp → VK → Prop} (p1 : Prm K f r1) (p2 : Prm K g r2) : Prm K (oAlt f g) (fun vs H Q => r1 vs H Q ∨ r2 vs H Q) := by
  intro O H ds vs x Q e hv q
  unfold oAlt at e
  split at e
  · rename_i y hy
    cases e
    exact .inl (p1 O H ds vs _ Q hy hv q)
  · exact .inr (p2 O H ds vs x Q e hv q)
theorem prm_min2 : Prm K oMin2 (fun xs H Q => ∃ i j, xs = [.int i, .int j] ∧ Q (.int (if j < i then j else i)) H) := by
  intro O H ds vs x Q e hv q
  unfold oMin2 at e
  split at e
  · rename_i i j
    cases e
    obtain ⟨v, w, rfl, h1, h2⟩ := hv.two
    exact ⟨i, j, by rw [h1.int, h2.int], q _ _ Out.int⟩
  · cases e
/-- the value is a tuple of whole numbers whose object is known -/
def rIdxT (K : PySem.W.Frag) : V → List V → Hp → VK → Prop := fun x xs H Q => ∃ (a : Addr) (ns : List Int) (k : Int), x = .ref a ∧ xs = [.int k] ∧ SqT K H a (ns.map V.int) ∧ k ∈ ns ∧ Q (.int (ns.idxOf k : Nat)) H
theorem mt_idxT : MtR X "tuple.index" (rIdxT X.K) := by
  intro pins s σ H x xs v us Q I rx rxs h
  obtain ⟨a, ns, k, rfl, rfl, hq, hk, q⟩ := h
  cases rx
  obtain ⟨u, rfl, t, rfl⟩ := vals1 rxs
  obtain ⟨its, r, pl, hz⟩ := I.tuple hq
  exact PySem.SeqAt.tuple_index_ints pl r.ints hk ⟨.int (ns.idxOf k : Nat), H, I.tok _, ⟨_, rfl⟩, q⟩
def tBMe (K : PySem.W.Frag) (r1 r2 : V → List V → Hp → VK → Prop) (to : TE) (t : TA) : TE := fun σ H Q => to σ H fun x H1 =>
  (tyV K "list" x H1 ∧ t σ H1 fun xs H2 => r1 x xs H2 Q) ∨ ((∃ a, x = .ref a ∧ (∃ xs, SqT K H1 a xs) ∧ Bare H1 a) ∧ t σ H1 fun xs H2 => r2 x xs H2 Q)
theorem pe_ixm {o e : Expr} {to : TE} {t : TA} {apos cpos : Pos} {r1 r2 : V → List V → Hp → VK → Prop} (m1 : MtR X "list.index" r1) (m2 : MtR X "tuple.index" r2) (ho : PE X o to) (ha : PA X [e] t)
    (hbase : attributeBase o "index" X.env (eval o X.env) = eval o X.env) (hs0 : isStar e = false) (hline : (apos.endLine == cpos.line) = true) : PE X (.Call (.Attribute o "index" apos) [e] [] cpos) (tBMe X.K r1 r2 to t) := by
  have hfew : ((backTo cpos (starEach [e] X.env)).all (fun x => !x.1) && (backToKw cpos (keywordEach [] X.env)).all (fun x => x.1.isSome)
      && decide ([e].length + ([] : List Keyword).length + (if ([] : List Keyword).isEmpty then 0 else 1) < 30)) = true := by rw [star0 hs0]; rfl
  have hs : starEach [e] X.env = (false, eval e X.env) :: starEach [] X.env := star0 hs0
  refine ⟨fun pins s σ H Q I h => ?_⟩
  refine wpAny_Call_method_late hbase hfew hline rfl (thn (ho.run pins s σ H _ I h) fun v s1 ⟨x, H1, I1, rx, q1⟩ => ?_)
  rcases q1 with ⟨ty, q1⟩ | ⟨⟨a, ex, ⟨xs, sq⟩, ob, u, hb, hd⟩, q1⟩
  · obtain ⟨h1, h2⟩ := tyV_is I1 rx ty
    refine ⟨"list", "list.index", PySem.F.plainAttrs_list, PySem.F.slot_list_index, PySem.F.type_list_index, h1, h2, ?_⟩
    have hA := ha.run cpos pins s1 σ H1 _ I1 q1
    rw [hs] at hA ⊢
    refine Calls.callWith_builtin (by rfl) (Calls.evalArgs_plain ?_)
    exact thn hA fun us s2 ⟨vs, H2, I2, r2, q2⟩ => m1 pins s2 σ H2 x vs v us Q I2 rx r2 q2
  · subst ex
    have rx' := rx
    cases rx
    obtain ⟨its, rv, pl, hz⟩ := I1.tuple sq
    refine ⟨"tuple", "tuple.index", PySem.F.plainAttrs_tuple, PySem.F.slot_tuple_index, PySem.F.type_tuple_index, pl.typeIs, (fun b q => ?_), ?_⟩
    · cases q
      exact ⟨ob, (I1.hok a _ hb).1, hd⟩
    · have hA := ha.run cpos pins s1 σ H1 _ I1 q1
      rw [hs] at hA ⊢
      refine Calls.callWith_builtin (by rfl) (Calls.evalArgs_plain ?_)
      exact thn hA fun us s2 ⟨vs, H2, I2, r2, q2⟩ => m2 pins s2 σ H2 _ vs _ us Q I2 rx' r2 q2
theorem idxT_ok {a b : M Rs} {σ : St} {H : Hp} {Q : VK} (h : tEv P W (idxT a b) σ H Q) : tEv P W a σ H fun x H1 => (∃ a, x = .ref a ∧ (∃ xs, SqT P.K H1 a xs) ∧ Bare H1 a) ∧ tAv P W [b] σ H1 fun xs H2 => rIdxT P.K x xs H2 Q := by
  obtain ⟨F, io, α, ρ, x, h⟩ := h
  refine ⟨F, io, α, ρ, x, ?_⟩
  unfold idxT at h
  cases e : a ρ with
  | stuck => rw [e] at h; exact h
  | exc c fs r1 => rw [e] at h; exact h
  | ok y r1 =>
    rw [e] at h
    intro v H1 α1 o1 q1
    obtain ⟨z, e2, x1, q1⟩ := q1.held
    simp only [e2] at h
    rcases look_no z r1 with ⟨d, e3⟩ | e3
    · simp only [e3] at h
      cases d with
      | tuple ds0 =>
        simp only [isTupD, if_true] at h
        obtain ⟨_, w⟩ := x1.seen e3 q1
        obtain ⟨la, us, rfl, hs, _⟩ := w.tupB
        refine ⟨⟨la, rfl, ⟨us, hs.1⟩, hs.2⟩, F, io, α1, r1, x1, ?_⟩
        cases e4 : args [b] r1 with
        | stuck => rw [e4] at h; exact h
        | exc c fs r2 => rw [e4] at h; exact Thrown.on h o1
        | ok ys r2 =>
          rw [e4] at h
          intro vs H2 α2 o2 x2 q2
          simp only at h
          rcases looks_no (z :: ys) r2 with ⟨ds, e5⟩ | e5
          · simp only [e5] at h
            cases e6 : oIndexT ds with
            | none => rw [e6] at h; exact False.elim h
            | some y =>
              rw [e6] at h
              have sv := seens_of (vs := V.ref la :: vs) x2 e5 ⟨RV.on x1.soft o2 q1, q2⟩
              unfold oIndexT at e6
              split at e6
              · rename_i ds1 k
                split at e6
                · rename_i ns hns
                  split at e6
                  · rename_i hk
                    cases e6
                    obtain ⟨v1, w1, ev, h1, h2⟩ := Views.two sv
                    cases ev
                    obtain ⟨p, us', ep, sq, rl⟩ := h1.tup
                    cases ep
                    have eu := rl.ints hns
                    subst eu
                    refine ⟨_, ns, k, rfl, by rw [h2.int], sq, hk, ?_⟩
                    exact h _ _ α2 (o1.trans o2) ⟨x2, by simp only [Rep]⟩
                  · cases e6
                · cases e6
              · cases e6
          · simp only [e5] at h
      | _ => exact h.elim
    · simp only [e3] at h
theorem idxW_ok {a b : M Rs} {σ : St} {H : Hp} {Q : VK} (h : tEv P W (idxW a b) σ H Q) : tBMe P.K (rIndexD P.K) (rIdxT P.K) (tEv P W a) (tAv P W [b]) σ H Q := by
  obtain ⟨F, io, α, ρ, x, h⟩ := h
  by_cases c : tupAt a ρ = true
  · have e : idxW a b ρ = idxT a b ρ := by unfold idxW; rw [if_pos c]
    rw [e] at h
    exact ev_mono (idxT_ok ⟨F, io, α, ρ, x, h⟩) fun v H q => .inr q
  · have e : idxW a b ρ = idxV a b ρ := by unfold idxW; rw [if_neg c]
    rw [e] at h
    exact ev_mono (idx_ok ⟨F, io, α, ρ, x, h⟩) fun v H q => .inl q
theorem px_indexW (hK : P.K = X.K) (hu : X.A.units + 65 < cLine) {o e : Expr} {mo me : M Rs} {apos cpos : Pos} (ho : PE X o (tEv P W mo)) (ha : PA X [e] (tAv P W [me])) (hbase : attributeBase o "index" X.env (eval o X.env) = eval o X.env)
    (hs0 : isStar e = false) (hline : (apos.endLine == cpos.line) = true) : PE X (.Call (.Attribute o "index" apos) [e] [] cpos) (tEv P W (idxW mo me)) :=
  PE.weak (pe_ixm (mt_indexD hu) mt_idxT ho ha hbase hs0 hline) fun σ H Q h => by
    rw [← hK]
    exact idxW_ok h
end
end Ip

set_option Elab.async false
set_option linter.all false
set_option maxRecDepth 100000
set_option maxHeartbeats 1000000
/-! One step of the translation, and all of them. -/
namespace Ip
open PySem PySem.Spec PyProof.Rows L2
section
variable {S : Sig} {P : Par} {W : WX} {X : Cx}
def cIte (self : Cmp) (S : Sig) (t a b : Expr) (pos : Pos) : Option (CE S (.IfExp t a b pos)) := match self.t S t with
  | some ct => match self.e S a with
    | some ca => match self.e S b with
      | some cb => some ⟨cond ct.m ca.m cb.m, fun P W X h => px_ite (ct.ok P W X h) (ca.ok P W X h) (cb.ok P W X h)⟩
      | none => none
    | none => none
  | none => none
def cTup (self : Cmp) (S : Sig) (es : List Expr) (k : Nat) (pos : Pos) : Option (CE S (.Tuple es k pos)) := match cArgs self S es with
  | some c => some ⟨tupV c.m, fun P W X h => px_tup (c.ok P W X h)⟩
  | none => none
def cLst (self : Cmp) (S : Sig) (es : List Expr) (pos : Pos) : Option (CE S (.List es pos)) := match cArgs self S es with
  | some c => some ⟨lstV c.m, fun P W X h => px_lst (c.ok P W X h)⟩
  | none => none
def cSset (self : Cmp) (S : Sig) (p pos : Pos) : (es : List Expr) → Option (CE S (.Call (.Name "sorted" p) es [] pos))
  | [.Call (.Name x p2) [a] [] pos2] => if hx : x = "set" then if hd : isStar a = false ∧ allGl S ["sorted", "set"] = true then match self.e S a with
      | some c => some ⟨prim oSortSet [c.m], fun P W X h => by
          subst hx
          have q := allGl_ok hd.2 h
          have q1 := q "sorted" (by simp)
          have q2 := q "set" (by simp)
          exact px_sset h.hK h.calm (c.ok P W X h) q1.1 q1.2 q2.1 q2.2 (star0 hd.1)⟩
      | none => none
      else none
    else none
  | _ => none
def biSorted : Bi := ⟨"sorted", oSortA, by decide, by decide, fun S P W X h => .inl ⟨_, _, call_or cr_sortedI (cr_sortedD h.units), by rw [← h.hK]; exact prm_alt prm_sorted prm_sortD, bt_sorted⟩⟩
def biMin : Bi := ⟨"min", oMin2, by decide, by decide, fun S P W X h => .inl ⟨_, _, call_min2 h.calm, prm_min2, bt_min⟩⟩
def biListA : Bi := ⟨"list", oListA, by decide, by decide, fun S P W X h => .inr ⟨_, _, cr_listA h.calm, by rw [← h.hK]; exact prm_listA, bt_list⟩⟩
def orElse {α : Type} (a b : Option α) : Option α := match a with
  | some x => some x
  | none => b
/-! ### slices, index, extend, list(range(..)) -/
def cSlice (self : Cmp) (S : Sig) (a : Expr) : (s : Expr) → (pos : Pos) → Option (CE S (.Subscript a s pos))
  | .Slice (some b) (some c) none p2, pos => match self.e S a with
    | some ca => match self.e S b with
      | some cb => match self.e S c with
        | some cc => some ⟨prim (oSl true true) [ca.m, intM cb.m, intM cc.m], fun P W X h => px_slTT h.hK (ca.ok P W X h) (cb.ok P W X h) (cc.ok P W X h)⟩
        | none => none
      | none => none
    | none => none
  | .Slice (some b) none none p2, pos => match self.e S a with
    | some ca => match self.e S b with
      | some cb => some ⟨prim (oSl true false) [ca.m, intM cb.m], fun P W X h => px_slTF h.hK (ca.ok P W X h) (cb.ok P W X h)⟩
      | none => none
    | none => none
  | .Slice none (some b) none p2, pos => match self.e S a with
    | some ca => match self.e S b with
      | some cb => some ⟨prim (oSl false true) [ca.m, intM cb.m], fun P W X h => px_slFT h.hK (ca.ok P W X h) (cb.ok P W X h)⟩
      | none => none
    | none => none
  | .Slice none none none p2, pos => match self.e S a with
    | some ca => some ⟨prim (oSl false false) [ca.m], fun P W X h => px_slFF h.hK (ca.ok P W X h)⟩
    | none => none
  | s, pos => cIx self S a s pos
def isSup : Expr → Bool
  | .Call (.Name _ _) [] [] _ => true
  | _ => false
theorem base0 {o : Expr} {attr : Str} {env : Env} {whole : Sem Value} (h : isSup o = false) : attributeBase o attr env whole = whole := by
  unfold attributeBase
  split
  · cases h
  · rfl
def cIndex (self : Cmp) (S : Sig) (o : Expr) (apos : Pos) (e : Expr) (cpos : Pos) : Option (CE S (.Call (.Attribute o "index" apos) [e] [] cpos)) :=
  if hd : isSup o = false ∧ isStar e = false ∧ (apos.endLine == cpos.line) = true then match self.e S o with
    | some co => match self.e S e with
      | some ce => some ⟨idxW co.m ce.m, fun P W X h => px_indexW h.hK (by have := h.units; omega) (co.ok P W X h) (pa_cons' (ce.ok P W X h) pa_nil' (star0 hd.2.1)) (base0 hd.1) hd.2.1 hd.2.2⟩
      | none => none
    | none => none
  else none
def cExt (self : Cmp) (S : Sig) : (o : Expr) → (apos : Pos) → (e : Expr) → (cpos : Pos) → Option (CE S (.Call (.Attribute o "extend" apos) [e] [] cpos))
  | .Name x px, apos, e, cpos => if hd : (x == ("__debug__" : Str)) = false ∧ (x == ("__classdict__" : Str)) = false ∧ isStar e = false ∧ (apos.endLine == cpos.line) = true then
    match hk : S.sc.names.lookup x with
    | some k => if hk2 : seenK k = true then match hi : S.slot x with
      | some i => match self.e S e with
        | some ce => some ⟨extV i ce.m, fun P W X h => by
            refine PE.weak (pe_bm PySem.F.plainAttrs_list PySem.F.slot_list_extend PySem.F.type_list_extend mt_extend (pe_var (h.slot hi) (h.vis hk hk2) hd.1 hd.2.1) (pa_cons (ce.ok P W X h) pa_nil (star0 hd.2.2.1)) (by rfl) (by rw [star0 hd.2.2.1]; rfl) hd.2.2.2 (star0 hd.2.2.1) (by rfl)) fun σ H Q q => ?_
            rw [← h.hK]
            obtain ⟨v, h1, h2, h3⟩ := ext_ok q
            exact ⟨v, h1, h2, h3⟩⟩
        | none => none
      | none => none
      else none
    | none => none
    else none
  | _, _, _, _ => none
def cMeth (self : Cmp) (S : Sig) (o : Expr) (name : Str) (apos : Pos) : (es : List Expr) → (cpos : Pos) → Option (CE S (.Call (.Attribute o name apos) es [] cpos))
  | [e], cpos => if h1 : name = "index" then by subst h1; exact cIndex self S o apos e cpos
    else if h2 : name = "extend" then by subst h2; exact cExt self S o apos e cpos
    else cMut self S o name apos [e] cpos
  | es, cpos => cMut self S o name apos es cpos
def cListR (self : Cmp) (S : Sig) (p pos : Pos) : (es : List Expr) → Option (CE S (.Call (.Name "list" p) es [] pos))
  | [.Call (.Name x p2) [a] [] pos2] => if hx : x = "range" then if hd : isStar a = false ∧ allGl S ["list", "range"] = true then match self.e S a with
      | some c => some ⟨prim oListR [c.m], fun P W X h => by
          subst hx
          have q := allGl_ok hd.2 h
          have q1 := q "list" (by simp)
          have q2 := q "range" (by simp)
          exact PE.weak (pe_listRg h.calm q1.1 q1.2 (prg_1 q2.1 q2.2 (c.ok P W X h) (star0 hd.1)) (by rfl)) fun σ H Q z => listR_ok z⟩
      | none => none
      else none
    else none
  | [.Call (.Name x p2) [a, b] [] pos2] => if hx : x = "range" then if hd : isStar a = false ∧ isStar b = false ∧ allGl S ["list", "range"] = true then match self.e S a with
      | some c => match self.e S b with
        | some c2 => some ⟨prim oListR [c.m, c2.m], fun P W X h => by
          subst hx
          have q := allGl_ok hd.2.2 h
          have q1 := q "list" (by simp)
          have q2 := q "range" (by simp)
          exact PE.weak (pe_listRg h.calm q1.1 q1.2 (prg_2 q2.1 q2.2 (c.ok P W X h) (c2.ok P W X h) (star0 hd.1) (star0 hd.2.1) (by rw [star0 hd.2.1]; rfl)) (by rfl)) fun σ H Q z => listR2_ok z⟩
        | none => none
      | none => none
      else none
    else none
  | _ => none
def cTupR (self : Cmp) (S : Sig) (p pos : Pos) : (es : List Expr) → Option (CE S (.Call (.Name "tuple" p) es [] pos))
  | [.Call (.Name x p2) [a] [] pos2] => if hx : x = "range" then if hd : isStar a = false ∧ allGl S ["tuple", "range"] = true then match self.e S a with
      | some c => some ⟨prim oTupR [c.m], fun P W X h => by
          subst hx
          have q := allGl_ok hd.2 h
          have q1 := q "tuple" (by simp)
          have q2 := q "range" (by simp)
          exact PE.weak (pe_tupRgB h.calm q1.1 q1.2 (prg_1 q2.1 q2.2 (c.ok P W X h) (star0 hd.1)) (by rfl)) fun σ H Q z => tupR_ok z⟩
      | none => none
      else none
    else none
  | _ => none
def cCallN (bs : List Bi) (self : Cmp) (S : Sig) (x : Str) (p pos : Pos) (es : List Expr) : Option (CE S (.Call (.Name x p) es [] pos)) :=
  if hx : x = "isinstance" then by subst hx; exact cIsi self S p pos es
  else if hx : x = "list" then by subst hx; exact orElse (cListR self S p pos es) (cBi bs self S "list" p pos es)
  else if hx : x = "tuple" then by subst hx; exact orElse (cTupR self S p pos es) (cBi bs self S "tuple" p pos es)
  else if hx : x = "sorted" then by subst hx; exact orElse (cSset self S p pos es) (cBi bs self S "sorted" p pos es)
  else match S.fn x with
    | some _ => cOwn self S x p pos es
    | none => cBi bs self S x p pos es
/-! ### displays with * -/
structure CSA (S : Sig) (es : List Expr) where
  m : List (Bool × M Rs)
  ok : ∀ P W X, XOk S P W X → PA X es (tLv P W (sargs m))
def cSArgs (self : Cmp) (S : Sig) : (es : List Expr) → Option (CSA S es)
  | [] => some ⟨[], fun _ _ _ _ => spa_nil⟩
  | .Starred e p :: es => match self.e S e with
    | some a => match cSArgs self S es with
      | some b => some ⟨(true, a.m) :: b.m, fun P W X h => spa_star h.hK (a.ok P W X h) (b.ok P W X h)⟩
      | none => none
    | none => none
  | e :: es => if hs : isStar e = false then match self.e S e with
    | some a => match cSArgs self S es with
      | some b => some ⟨(false, a.m) :: b.m, fun P W X h => spa_cons (a.ok P W X h) (b.ok P W X h) (star0 hs)⟩
      | none => none
    | none => none
    else none
def cTupA (self : Cmp) (S : Sig) (es : List Expr) (k : Nat) (pos : Pos) : Option (CE S (.Tuple es k pos)) := match es.any isStar with
  | true => match cSArgs self S es with
    | some c => some ⟨tupA (sargs c.m), fun P W X h => px_tupS (c.ok P W X h)⟩
    | none => none
  | false => cTup self S es k pos
def cLstA (self : Cmp) (S : Sig) (es : List Expr) (pos : Pos) : Option (CE S (.List es pos)) := match es.any isStar with
  | true => match cSArgs self S es with
    | some c => some ⟨lstA (sargs c.m), fun P W X h => px_lstS (c.ok P W X h)⟩
    | none => none
  | false => cLst self S es pos
/-! ### comprehensions of two fors -/
structure CLc2 (S : Sig) (scope : Scope) (elt tg iter : Expr) (ifs : List Expr) (tg1 iter1 : Expr) (ifs1 : List Expr) where
  a : CLc S scope elt tg iter ifs
  c1 : CE { S with sc := scope } iter1
  cg1 : CG { S with sc := scope } tg1
  ct1 : M Bool
  hv : ∀ i ∈ cg1.is, i ∈ a.own.map (·.2)
  ht1 : ∀ P W X, XOk { S with sc := scope } P W X → PTs X ifs1 (tBv P W ct1)
  hi1 : isSetE iter1 = false
def cLc2P (self : Cmp) (S : Sig) (scope : Scope) (elt tg iter : Expr) (ifs : List Expr) (tg1 iter1 : Expr) (ifs1 : List Expr) : Option (CLc2 S scope elt tg iter ifs tg1 iter1 ifs1) :=
  if hi : isSetE iter1 = false then match cLcP self S scope elt tg iter ifs with
    | some a => match self.e { S with sc := scope } iter1 with
      | some c1 => match cTg { S with sc := scope } tg1 with
        | some cg1 => if hv : (cg1.is.all fun i => (a.own.map (·.2)).contains i) = true then match cIfs self { S with sc := scope } ifs1 with
          | some ct1 => some ⟨a, c1, cg1, ct1.1, fun i hi => by simpa using List.all_eq_true.mp hv i hi, ct1.2, hi⟩
          | none => none
          else none
        | none => none
      | none => none
    | none => none
  else none
def CLc2.m {scope : Scope} {elt tg iter : Expr} {ifs : List Expr} {tg1 iter1 : Expr} {ifs1 : List Expr} (c : CLc2 S scope elt tg iter ifs tg1 iter1 ifs1) : M Rs :=
  lc2V (c.a.own.map (·.2)) c.cg1.is c.a.ci.m c.a.cg.m c.a.ct c.c1.m c.cg1.m c.ct1 c.a.ce.m
def cLc2 (self : Cmp) (S : Sig) (elt : Expr) : (gs : List Comprehension) → (scope : Scope) → (pos : Pos) → Option (CE S (.ListComp elt gs scope pos))
  | [⟨tg, iter, ifs, 0⟩, ⟨tg1, iter1, ifs1, 0⟩], scope, pos => match cLc2P self S scope elt tg iter ifs tg1 iter1 ifs1 with
    | some c => some ⟨c.m, fun P W X h => PE.weak (pe_lc2 h.calm h.nd' (c.a.ci.ok P W X h) (blk_ok h c.a.hb) c.hv
        (fun s H C cl fp => c.a.cg.ok _ _ _ (h.blk c.a.hk s H C cl fp)) (fun s H C cl fp => c.a.ht _ _ _ (h.blk c.a.hk s H C cl fp))
        (fun s H C cl fp => pi_tupI (h.blk c.a.hk s H C cl fp).hK (c.c1.ok _ _ _ (h.blk c.a.hk s H C cl fp))) (fun s H C cl fp => c.cg1.ok _ _ _ (h.blk c.a.hk s H C cl fp)) (fun s H C cl fp => c.ht1 _ _ _ (h.blk c.a.hk s H C cl fp))
        (fun s H C cl fp => c.a.ce.ok _ _ _ (h.blk c.a.hk s H C cl fp)) (fold0 c.a.hi X.env) (fun env => fold0 c.hi1 env)) fun σ H Q q => lc2_ok c.a.his c.hv (fun _ z => z) q⟩
    | none => none
  | gs, scope, pos => cLc self S elt gs scope pos
def cSet2 (self : Cmp) (S : Sig) (y : Str) (py : Pos) : (e : Expr) → (pos : Pos) → Option (CS S (.Assign [.Name y py] e pos))
  | .ListComp elt [⟨tg, iter, ifs, 0⟩, ⟨tg1, iter1, ifs1, 0⟩] scope epos, pos => match hk : S.sc.names.lookup y with
    | some k => if hk2 : ownK k = true then match hi : S.slot y with
      | some i => match cLc2P self S scope elt tg iter ifs tg1 iter1 ifs1 with
        | some c => if hs : swapB S scope epos py y = true then
            some ⟨setS i c.m, fun P W X h => by
              have hs' := hs
              simp only [swapB, Bool.and_eq_true, Bool.not_eq_true', hk] at hs'
              have hl : S.sc.names.lookup y = some .local := by
                rw [hk]
                cases k with
                | «local» => rfl
                | _ => exact absurd hs'.1.1 (by decide)
              exact PS.weak (ps_setLc2 h.calm h.nd' (h.slot hi) (h.lo y hl) (sw_true h.kd (h.lo y hl) hs'.1.2 hs'.2) (c.a.ci.ok P W X h) (blk_ok h c.a.hb) c.hv
                (fun s H C cl fp => c.a.cg.ok _ _ _ (h.blk c.a.hk s H C cl fp)) (fun s H C cl fp => c.a.ht _ _ _ (h.blk c.a.hk s H C cl fp))
                (fun s H C cl fp => pi_tupI (h.blk c.a.hk s H C cl fp).hK (c.c1.ok _ _ _ (h.blk c.a.hk s H C cl fp))) (fun s H C cl fp => c.cg1.ok _ _ _ (h.blk c.a.hk s H C cl fp)) (fun s H C cl fp => c.ht1 _ _ _ (h.blk c.a.hk s H C cl fp))
                (fun s H C cl fp => c.a.ce.ok _ _ _ (h.blk c.a.hk s H C cl fp)) (fold0 c.a.hi X.env) (fun env => fold0 c.hi1 env)) fun D σ H q => lc2_ok c.a.his c.hv (fun _ z => z) (set_ok q)⟩
          else none
        | none => none
      | none => none
      else none
    | none => none
  | .Name x px, pos => match hk : S.sc.names.lookup y with
    | some k => if hk2 : ownK k = true then match hi : S.slot y with
      | some i => if hd : ((x == ("__debug__" : Str)) = false ∧ (x == ("__classdict__" : Str)) = false) then match hkx : S.sc.names.lookup x with
        | some kx => if hkx2 : seenK kx = true then match hj : S.slot x with
          | some j => some ⟨mvS i j, fun P W X h => ps_mv h.nd' (h.slot hi) (h.loc hk hk2).1 (px_nm (h.slot hj) (h.vis hkx hkx2) hd.1 hd.2) (swap0 rfl) (h.loc hk hk2).2⟩
          | none => none
          else cSet self S y py (.Name x px) pos
        | none => none
        else none
      | none => none
      else none
    | none => none
  | e, pos => cSet self S y py e pos
def eStep (bs : List Bi) (self : Cmp) (S : Sig) : (e : Expr) → Option (CE S e)
  | .Name x pos => cName S x pos
  | .Constant c j pos => cConst S c j pos
  | .BinOp a op b pos => cBin self S a op b pos
  | .UnaryOp .USub a pos => cNeg self S a pos
  | .UnaryOp .Not a pos => cNot self S a pos
  | .BoolOp .And es pos => cAndV self S pos es
  | .BoolOp .Or es pos => cOrV self S pos es
  | .Compare a ops bs pos => cCmp self S a ops bs pos
  | .IfExp t a b pos => cIte self S t a b pos
  | .Tuple es k pos => cTupA self S es k pos
  | .List es pos => cLstA self S es pos
  | .Call (.Name x p) es [] pos => cCallN bs self S x p pos es
  | .Call (.Attribute o name apos) es [] cpos => cMeth self S o name apos es cpos
  | .Subscript a b pos => cSlice self S a b pos
  | .ListComp elt gs scope pos => cLc2 self S elt gs scope pos
  | .Dict [] [] pos => some ⟨dicV0, fun _ _ _ _ => px_dic0⟩
  | _ => none
/-! ### statements -/
def cStore (self : Cmp) (S : Sig) (x : Str) (px : Pos) (k : Expr) (pt : Pos) (e : Expr) (pos : Pos) : Option (CS S (.Assign [.Subscript (.Name x px) k pt] e pos)) :=
  if hd : (x == ("__debug__" : Str)) = false ∧ (x == ("__classdict__" : Str)) = false ∧ isSl k = false then match hk : S.sc.names.lookup x with
    | some q => if hk2 : seenK q = true then match hi : S.slot x with
      | some i => match self.e S e with
        | some ce => match self.e S k with
          | some ck => some ⟨storeS i fStore ce.m ck.m, fun P W X h => ps_store' (by have := h.units; omega) hd.2.2 (h.slot hi) (h.vis hk hk2) hd.1 hd.2.1 (ce.ok P W X h) (ck.ok P W X h)⟩
          | none => none
        | none => none
      | none => none
      else none
    | none => none
  else none
def cIf (self : Cmp) (S : Sig) (t : Expr) (a b : List Stmt) (pos : Pos) : Option (CS S (.If t a b pos)) := match self.t S t with
  | some ct => match cSts self S a with
    | some ca => match cSts self S b with
      | some cb => match S.dm pos.line with
        | [] => some ⟨cond ct.m ca.m cb.m, fun P W X h => ps_if' (ct.ok P W X h) (ca.ok P W X h) (cb.ok P W X h)⟩
        | _ :: _ => some ⟨fgt (cond ct.m ca.m cb.m), fun P W X h => PS.weak (ps_if' (ct.ok P W X h) (ca.ok P W X h) (cb.ok P W X h)) fun D σ H q => fgt_ok q⟩
      | none => none
    | none => none
  | none => none
def cFor (self : Cmp) (S : Sig) (tg iter : Expr) (body : List Stmt) (pos : Pos) : Option (CS S (.For tg iter body [] pos)) :=
  if hs : isSetE iter = false then match cSrc self S tg iter with
    | some ci => match cTg S tg with
      | some cg => match cSts self S body with
        | some cb => match S.dm pos.line with
          | [] => some ⟨forS (unhid ci.m) cg.m cb.m, fun P W X h => ps_for' cg.nox h.pw h.calm (pi_unhid (ci.ok P W X h)) (cg.ok P W X h) (cb.ok P W X h) (fold0 hs X.env)⟩
          | d :: ds => some ⟨forS (demM (d :: ds) (unhid ci.m)) cg.m cb.m, fun P W X h => ps_for' cg.nox h.pw h.calm (PI.weak (pi_unhid (ci.ok P W X h)) fun σ H Q q => demM_ok q) (cg.ok P W X h) (cb.ok P W X h) (fold0 hs X.env)⟩
        | none => none
      | none => none
    | none => none
  else none
def cWhile (self : Cmp) (S : Sig) (t : Expr) (body : List Stmt) (pos : Pos) : Option (CS S (.While t body [] pos)) := match self.t S t with
  | some ct => match cSts self S body with
    | some cb => some ⟨whlS S.wf ct.m cb.m, fun P W X h => ps_while' h.pw (ct.ok P W X h) (cb.ok P W X h)⟩
    | none => none
  | none => none
def cExpr (self : Cmp) (S : Sig) (e : Expr) (pos : Pos) : Option (CS S (.Expr e pos)) :=
  if hc : isComp e = false then match self.e S e with
    | some c => some ⟨dropS c.m, fun P W X h => ps_expr' (c.ok P W X h) (swap0 hc)⟩
    | none => none
  else none
def cRet (self : Cmp) (S : Sig) (e : Expr) (pos : Pos) : Option (CS S (.Return (some e) pos)) := match self.e S e with
  | some c => some ⟨retS c.m, fun P W X h => ps_ret' (c.ok P W X h)⟩
  | none => none
def sStep (self : Cmp) (S : Sig) : (s : Stmt) → Option (CS S s)
  | .Expr (.Constant (.str x) j p) pos => some ⟨nextS, fun _ _ _ _ => ps_doc'⟩
  | .Expr e pos => cExpr self S e pos
  | .Assign [.Name y py] e pos => cSet2 self S y py e pos
  | .Assign [.Tuple es kt pt] (.Tuple vs k2 pt2) pos => cSets self S kt pt k2 pt2 pos es vs
  | .Assign [.Subscript (.Name x px) k pt] e pos => cStore self S x px k pt e pos
  | .Return (some e) pos => cRet self S e pos
  | .Return none pos => some ⟨retN, fun _ _ _ _ => ps_retN'⟩
  | .If t a b pos => cIf self S t a b pos
  | .For tg iter body [] pos => cFor self S tg iter body pos
  | .While t body [] pos => cWhile self S t body pos
  | .Pass pos => some ⟨nextS, fun _ _ _ _ => ps_pass'⟩
  | .Raise e c pos => some ⟨stuckS, fun _ _ _ _ => ps_never'⟩
  | _ => none
def biAlls : List Bi := [biLen, biListA, biTuple, biInt, biSum, biMax, biAny, biAll, biSorted, biMin]
def cmp : Nat → Cmp
  | 0 => ⟨fun _ _ => none, fun _ _ => none, fun _ _ => none⟩
  | n + 1 => ⟨eStep biAlls (cmp n), tStep (cmp n), sStep (cmp n)⟩
def cBody (n : Nat) (S : Sig) (ss : List Stmt) : Option (CSs S ss) := cSts (cmp n) S ss
end
end Ip

set_option Elab.async false
set_option linter.all false
set_option maxRecDepth 100000
set_option maxHeartbeats 1000000
/-! A program: every def does what the core says. -/
namespace Ip
open PySem PySem.Spec PyProof.Rows L2
structure DefI where
  x : Str
  st : Stmt
  N : List Str
  ps : List Str
  mu : List Bool
  dm : List (Nat × List Nat)
structure Prg where
  ds : List DefI
  co : List (Str × Int)
  bi : List Str
  wf : Nat
  fu : Nat
def tabFrom (run : Nat → List Sl → CR) : Nat → List DefI → Str → Option (List Bool × (List Sl → CR))
  | _, [], _ => none
  | i, d :: ds, x => if d.x = x then some (d.mu, run i) else tabFrom run (i + 1) ds x
def lookI : List (Str × Int) → Str → Option D
  | [], _ => none
  | p :: ps, x => if p.1 = x then some (.int p.2) else lookI ps x
def memS (x : Str) : List Str → Bool
  | [] => false
  | y :: ys => if y = x then true else memS x ys
def lookD : List (Nat × List Nat) → Nat → List Nat
  | [], _ => []
  | p :: ps, n => if p.1 = n then p.2 else lookD ps n
def Prg.sig (G : Prg) (n : Nat) (run : Nat → List Sl → CR) (d : DefI) : Sig := ⟨n, d.N, defScope d.st, tabFrom run 0 G.ds, lookI G.co, fun x => memS x G.bi, G.wf, lookD d.dm⟩
def Prg.body (G : Prg) (n : Nat) (run : Nat → List Sl → CR) (d : DefI) : List Sl → CR := match cBody G.fu (G.sig n run d) (defBody d.st) with
  | some c => runBody d.ps.length d.N.length c.m
  | none => fun _ => .stuck
def Prg.run (G : Prg) : Nat → Nat → List Sl → CR
  | 0, _ => fun _ => .stuck
  | n + 1, i => match G.ds[i]? with
    | some d => G.body n (G.run n) d
    | none => fun _ => .stuck
abbrev FnP (K : PySem.W.Frag) (x : Str) (st : Stmt) (f : Addr) (fd : FuncData) : Prop := FunD K x x (defArgs st) (defBody st) (defScope st) [] [] f fd
structure DefOk (d : DefI) : Prop where
  sc : FnScope d.N d.ps (defScope d.st)
  bd : ∀ (kV doc pm : Value) (an : Option Addr) (cdv ct : Value) (us : List Value), us.length = d.ps.length → bindArgs (PySem.W.fnOf d.x d.x (defArgs d.st) (defBody d.st) (defScope d.st) .none kV doc pm an cdv ct) ⟨us, []⟩ = pure (d.ps.zip us)
structure PrgOk (G : Prg) (K : PySem.W.Frag) (mg : Str → Option Value) : Prop where
  df : ∀ (i : Nat) (d : DefI), G.ds[i]? = some d → DefOk d ∧ ∃ f fd, FnP K d.x d.st f fd ∧ mg d.x = some (.ref f)
  bi : ∀ x, memS x G.bi = true → mg x = none
  co : ∀ x i, lookI G.co x = some (.int i) → ∃ t, mg x = some (.int i t)
theorem tab_get {run : Nat → List Sl → CR} {x : Str} {mu : List Bool} {g : List Sl → CR} : ∀ {ds : List DefI} {i : Nat}, tabFrom run i ds x = some (mu, g) → ∃ j d, ds[j]? = some d ∧ d.x = x ∧ g = run (i + j)
  | [], _, h => by cases h
  | d :: ds, i, h => by
    unfold tabFrom at h
    split at h
    · rename_i e
      cases h
      exact ⟨0, d, rfl, e, rfl⟩
    · obtain ⟨j, d', h1, h2, h3⟩ := tab_get h
      exact ⟨j + 1, d', by simpa using h1, h2, by rw [h3]; congr 1; omega⟩
theorem lookI_int {x : Str} {d : D} : ∀ {ps : List (Str × Int)}, lookI ps x = some d → ∃ i, d = .int i
  | [], h => by cases h
  | p :: ps, h => by
    unfold lookI at h
    split at h
    · cases h; exact ⟨_, rfl⟩
    · exact lookI_int h
theorem xok_of {P : Program} {w : World} {K : PySem.W.Frag} {mg : Str → Option Value} {base : Heap} {Q : Par} {S : Sig} {qual : Str} {f : Addr} {cdv : Value} {A : Around} {outer : List Env} {s : Shared} {H : Hp} {E : XK} {ps : List Str}
    (hK : Q.K = K) (sc : FnScope S.N ps S.sc) (hr : Room S.n (A.deeper (envOfC qual S.sc s.heap.objs.size f cdv)))
    (fns : ∀ x mu g, S.fn x = some (mu, g) → ∃ f fd ps, FnOk P w K mg base (L2.CX P w) S.n f fd ps (spOf Q g) ∧ mg x = some (.ref f) ∧ PySem.W.keepIn K (.ref f) = true ∧ Binds K fd ps [])
    (bis : ∀ x, S.bi x = true → mg x = none) (cos : ∀ x d, S.co x = some d → ∃ u v, mg x = some u ∧ RelV v u ∧ ∀ O H, Rep Q.K O H d v) :
    XOk S Q (fun cls d _ H => E cls d H) (cxOf (L2.CX P w) P w K mg base S.N qual S.sc f cdv A outer s H E) := by
  have tk : Takes (cxOf (L2.CX P w) P w K mg base S.N qual S.sc f cdv A outer s H E) (fun cls d x H => E cls d H) := takes_of rfl rfl rfl rfl
  exact ⟨rfl, sc.nd, sc.kind, fun _ h => h, fun _ h => ⟨h, rfl⟩, fun _ h => .inr h, fun _ h => h, rfl, hK, hr, passes_of rfl, fun σ => passAt tk σ, tk, fns, bis, cos⟩
theorem all_ok {G : Prg} {P : Program} {w : World} {K : PySem.W.Frag} {mg : Str → Option Value} {base : Heap} {Q : Par} (hK : Q.K = K) (ok : PrgOk G K mg) : ∀ (n i : Nat) (d : DefI), G.ds[i]? = some d → ∀ f fd, FnP K d.x d.st f fd → FnOk P w K mg base (L2.CX P w) n f fd d.ps (spOf Q (G.run n i))
  | 0, i, d, hd, f, fd, F => by
    have no : ∀ vs H Q' E, spOf Q (G.run 0 i) vs H Q' E → False := fun vs H Q' E h => by
      obtain ⟨_, _, _, _, h⟩ := h
      exact h
    exact ⟨fun vs H Q' E h => (no vs H Q' E h).elim, fun A outer s H args us vs Q' E _ _ _ _ h => (no vs H Q' E h).elim⟩
  | n + 1, i, d, hd, f, fd, F => by
    have ih := all_ok (P := P) (w := w) (base := base) hK ok n
    have dk := (ok.df i d hd).1
    have er : G.run (n + 1) i = G.body n (G.run n) d := by
      show (match G.ds[i]? with | some d => G.body n (G.run n) d | none => fun _ => .stuck) = _
      rw [hd]
    rw [er]
    cases hb : cBody G.fu (G.sig n (G.run n) d) (defBody d.st) with
    | none =>
      have eb : G.body n (G.run n) d = fun _ => .stuck := by unfold Prg.body; rw [hb]
      rw [eb]
      have no : ∀ vs H Q' E, spOf Q (fun _ => .stuck) vs H Q' E → False := fun vs H Q' E h => by
        obtain ⟨_, _, _, _, h⟩ := h
        exact h
      exact ⟨fun vs H Q' E h => (no vs H Q' E h).elim, fun A outer s H args us vs Q' E _ _ _ _ h => (no vs H Q' E h).elim⟩
    | some c =>
      have eb : G.body n (G.run n) d = runBody d.ps.length d.N.length c.m := by unfold Prg.body; rw [hb]
      rw [eb]
      refine FunD.ok F dk.sc (fun vs H Q' E h => (body_ok h).2) fun cdv A outer s H vs Q' E hr h => ⟨_, c.ok Q (fun cls d _ H => E cls d H) _ ?_, (body_ok h).1⟩
      refine xok_of (S := G.sig n (G.run n) d) hK dk.sc hr (fun x mu g hx => ?_) (fun x hx => ok.bi x hx) fun x e hx => ?_
      · obtain ⟨j, d', h1, h2, h3⟩ := tab_get hx
        obtain ⟨dk', f', fd', F', g'⟩ := ok.df j d' h1
        rw [Nat.zero_add] at h3
        subst h3
        refine ⟨f', fd', d'.ps, ih j d' h1 f' fd' F', by rw [← h2]; exact g', F'.kp, F'.bindsN dk'.bd⟩
      · have hx' : lookI G.co x = some e := hx
        obtain ⟨i, rfl⟩ := lookI_int hx'
        obtain ⟨t, ht⟩ := ok.co x i hx'
        exact ⟨_, .int i, ht, ⟨t, rfl⟩, fun O H => by simp only [Rep]⟩
/-- a list of ints as data -/
def dInts (ns : List Int) : D := .list (ns.map .int)
theorem repL_ints {K : PySem.W.Frag} {O : Addr → Prop} {H : Hp} : ∀ ns : List Int, RepL K O H (ns.map .int) (ns.map V.int)
  | [] => by simp [RepL]
  | n :: ns => by
    simp only [List.map_cons, RepL, Rep]
    exact ⟨_, _, rfl, rfl, repL_ints ns⟩
/-- what the law is to answer -/
theorem law_sp {K : PySem.W.Frag} {Q : Par} (hK : Q.K = K) {g : List Sl → CR} {outs : List (Option D)} {H : Hp} {a : Addr} {ns : List Int} (h : g [.dat (dInts ns)] = .ok (.dat (.bool true)) outs) (hs : SqL K H a (ns.map V.int)) :
    spOf Q g [.ref a] H (fun v _ => v = .bl true) fun _ _ _ => False := by
  subst hK
  refine ⟨fun _ => False, ⟨fun _ => none, fun _ => none⟩, [.dat (dInts ns)], ⟨rfl, fun i s hi => ?_, fun _ _ => rfl, (fun i a h => by cases h), (fun i j a h => by cases h), (fun i j a h => by cases h), (fun i j a h => by cases h), (fun i a h => by cases h), fun a h => h.elim, fun a h => h.elim⟩, ?_⟩
  · have hi0 : i = 0 ∧ s = .dat (dInts ns) := by
      cases i with
      | zero => simp at hi; exact ⟨rfl, hi.symm⟩
      | succ i => simp at hi
    obtain ⟨rfl, rfl⟩ := hi0
    refine ⟨rfl, _, rfl, ?_⟩
    unfold dInts
    simp only [Rep]
    refine ⟨a, _, rfl, ?_, repL_ints ns⟩
    have nA : ¬ Al (fun _ => False) ⟨fun _ => none, fun _ => none⟩ (fun _ => none) a := by
      rintro (z | ⟨i, z⟩ | ⟨i, z⟩)
      · exact z
      · cases z
      · cases z
    rcases hs with hs | hs
    · exact .inl ⟨nA, hs⟩
    · exact .inr hs
  · rw [h]
    intro v H' l e
    obtain ⟨F', ⟨_, e⟩, _⟩ := e
    simp only [Rep] at e
    exact e
/-! ### the program's top -/
def datD (d : DefI) : He.DefD := ⟨(d.x, none), d.x, d.x, defArgs d.st, defBody d.st, defScope d.st, [], []⟩
def Prg.fns (G : Prg) : List He.DefD := G.ds.map datD
def Prg.fas (G : Prg) : List He.Fa := (G.ds.map fun d => .glo d.x) ++ ((G.bi.map .free) ++ G.co.map fun p => .int p.1 p.2)
theorem fact_in {fa : List He.Fa} {fn : List He.DefD} {K : PySem.W.Frag} (c : He.SaysD fa fn K) {f : He.Fa} (h : f ∈ fa) : f.ok K = true := by
  obtain ⟨i, hi, e⟩ := List.mem_iff_getElem.mp h
  exact c.fact i (by rw [List.getElem?_eq_getElem hi, e])
theorem memS_in {x : Str} : ∀ {ys : List Str}, memS x ys = true → x ∈ ys
  | [], h => by cases h
  | y :: ys, h => by
    unfold memS at h
    split at h
    · rename_i e; rw [e]; exact List.mem_cons_self
    · exact List.mem_cons_of_mem _ (memS_in h)
theorem lookI_in {x : Str} {i : Int} : ∀ {ps : List (Str × Int)}, lookI ps x = some (.int i) → (x, i) ∈ ps
  | [], h => by cases h
  | p :: ps, h => by
    unfold lookI at h
    split at h
    · rename_i e
      cases h
      rw [← e]
      exact List.mem_cons_self
    · exact List.mem_cons_of_mem _ (lookI_in h)
theorem prgOk_of {G : Prg} {K : PySem.W.Frag} {h : Heap} {mg : Str → Option Value} (X : K.In h) (Gn : h.Ns mainGlobals mg) (c : He.SaysD G.fas G.fns K) (oks : ∀ d ∈ G.ds, DefOk d) : PrgOk G K mg := by
  refine ⟨fun i d hd => ⟨oks d (List.mem_of_getElem? hd), ?_⟩, fun x hx => ?_, fun x i hx => ?_⟩
  · obtain ⟨fd, F⟩ := c.def_ i (d := datD d) (by unfold Prg.fns; rw [List.getElem?_map, hd]; rfl)
    refine ⟨_, fd, F, He.glo_ok X Gn (fact_in c (f := He.Fa.glo d.x) ?_)⟩
    exact List.mem_append_left _ (List.mem_map.mpr ⟨d, List.mem_of_getElem? hd, rfl⟩)
  · exact He.free_ok X Gn (fact_in c (f := .free x) (List.mem_append_right _ (List.mem_append_left _ (List.mem_map.mpr ⟨x, memS_in hx, rfl⟩))))
  · exact He.int_ok X Gn (fact_in c (f := .int x i) (List.mem_append_right _ (List.mem_append_right _ (List.mem_map.mpr ⟨(x, i), lookI_in hx, rfl⟩))))
theorem walk_core {l : PySem.W.OpenLaw} {n k : Nat} {q : Program} {lo : List Str} {XP : (Str → Option Value) → Heap → Prop} {G : Prg} {i : Nat} {dl : DefI} {dr : DefRec}
    (hn : l.most = some n) (hn2 : n ≤ sizeLine) (hdf : dr.params.defaults = []) (hr : Room k callerA) (hi : G.ds[i]? = some dl) (hx : dl.x = dr.name) (hps : dl.ps.length = 1) (oks : ∀ d ∈ G.ds, DefOk d)
    (math : ∀ ns : List Int, ns.length ≤ n → ∃ os, G.run k i [.dat (dInts ns)] = .ok (.dat (.bool true)) os) :
    PySem.W.WalkO q lo XP (fun _ h => ∃ K : PySem.W.Frag, K.In h ∧ He.SaysD G.fas G.fns K) l.row.toRowW dr [] (fun f vs => PySem.call f vs) := by
  refine Att.attach_call hn hdf fun w s0 s1 mg mb fa o pm cd doc a vs ns Gn Y ho hd hcd hmg hobj hints hlen hg => ?_
  obtain ⟨K, KX, c⟩ := Y
  have pk := prgOk_of KX Gn.T.g c oks
  obtain ⟨dk, f, fd, F, hf⟩ := pk.df i dl hi
  have e := hmg.symm.trans (hx ▸ hf)
  cases e
  obtain ⟨x, hxs⟩ : ∃ x, dl.ps = [x] := by
    match hq : dl.ps, hps with
    | [x], _ => exact ⟨x, rfl⟩
  have hb : ∀ (s : Shared) (u : Value), BindsTo s fd ⟨[u], []⟩ [(x, u)] := fun s u => by
    have := FunD.bindsA (ps := dl.ps) F dk.bd s [u] (by rw [hxs]; rfl)
    rw [hxs] at this
    exact this
  refine law_call (k := k) (CX := L2.CX l.prog w) (sp := spOf ⟨K, fun _ _ _ _ _ => False⟩ (G.run k i)) KX Gn.T.g Gn.T.b Gn.T.builtins Gn.T.nolimit hg hobj hints (Nat.le_trans hlen hn2) hr (fun base kb gb => ?_) hb (fun H hO hS => ?_) fun H e s' h => ?_
  · have := all_ok (P := l.prog) (w := w) (base := base) (Q := ⟨K, fun _ _ _ _ _ => False⟩) rfl pk k i dl hi _ fd F
    rw [hxs] at this
    exact this
  · obtain ⟨os, hm⟩ := math ns hlen
    exact law_sp (Q := ⟨K, fun _ _ _ _ _ => False⟩) rfl hm hS
  · obtain ⟨_, _, _, _, _, _, _, _, _, _, _, _, z⟩ := h
    exact z
end Ip

set_option Elab.async false
set_option linter.all false
set_option maxRecDepth 100000
set_option maxHeartbeats 1000000
/-! Plain laws of the core: comprehensions and loops over data. -/
namespace Ip
open PySem L2
def Rs.dv : Rs → Option D
  | .dat d => some d
  | .fresh d => some d
  | .var _ => none
theorem hold_dv {x : Rs} {d : D} (h : x.dv = some d) (r : Ev) : hold x r = .ok (.dat d) r := by
  cases x with
  | dat z => cases h; rfl
  | fresh z => cases h; rfl
  | var i => cases h
theorem setOk_no {r : Ev} {i : Nat} (h : r[i]? = some .no) : setOk r[i]? = true := by rw [h]; rfl
theorem tgOne_no {r : Ev} {i : Nat} (h : r[i]? = some .no) (d : D) (hp : isPair d = false) : tgOne i d r = .ok () (r.set i (.dat d)) := by
  have e : tgOne i d r = put1 i (.dat d) r := by unfold tgOne; rw [hp]; rfl
  rw [e]
  unfold put1
  rw [if_pos (setOk_no h)]
  rfl
theorem hide_set {r : Ev} {i : Nat} (h : r[i]? = some .no) (s : Sl) : hideFrom [i] [] 0 (r.set i s) = r := by
  apply List.ext_getElem?
  intro j
  rw [hideFrom_get]
  by_cases e : i = j
  · subst e
    have hl : i < r.length := (List.getElem?_eq_some_iff.mp h).1
    rw [List.getElem?_set_self hl, h]
    simp
  · rw [List.getElem?_set_ne e]
    have e1 : ([i] : List Nat).contains (0 + j) = false := by
      simp only [Nat.zero_add, List.contains_cons, List.contains_nil, Bool.or_false]
      exact beq_eq_false_iff_ne.mpr fun z => e z.symm
    simp only [e1]
    cases r[j]? <;> simp
theorem hide_none (own hid : List Nat) (r : Ev) (h : ∀ i ∈ own, r[i]? = none ∨ r[i]? = some .no) (h2 : ∀ i ∈ hid, ∀ s, r[i]? = some s → toBor s = s) : hideFrom own hid 0 r = r := by
  apply List.ext_getElem?
  intro j
  rw [hideFrom_get]
  cases e : r[j]? with
  | none => rfl
  | some s =>
    simp only [Option.map_some, Nat.zero_add]
    by_cases c : own.contains j = true
    · rw [if_pos c]
      rcases h j (by simpa using c) with z | z
      · rw [e] at z; cases z
      · rw [e] at z; rw [z]
    · rw [if_neg c]
      by_cases c2 : hid.contains j = true
      · rw [if_pos c2, h2 j (by simpa using c2) s e]
      · rw [if_neg c2]
/-- a comprehension of one name, nothing changed on the way -/
theorem lc_one {β : Type} {i : Nat} {test : M Bool} {elt : M Rs} {p : β → Bool} {g : β → D} {enc : β → D} {r : Ev} (hpr : ∀ x, isPair (enc x) = false) (hi : r[i]? = some .no) : ∀ (xs : List β),
    (∀ x ∈ xs, test (r.set i (.dat (enc x))) = .ok (p x) (r.set i (.dat (enc x)))) → (∀ x ∈ xs, p x = true → ∃ y, elt (r.set i (.dat (enc x))) = .ok y (r.set i (.dat (enc x))) ∧ y.dv = some (g x)) →
    lcL [i] (tgOne i) test elt (xs.map enc) r = .ok ((xs.filter p).map g) r
  | [], _, _ => rfl
  | x :: xs, ht, he => by
    have ih := lc_one hpr hi xs (fun y hy => ht y (List.mem_cons_of_mem _ hy)) fun y hy => he y (List.mem_cons_of_mem _ hy)
    rw [List.map_cons]
    unfold lcL
    simp only [tgOne_no hi _ (hpr x), ht x List.mem_cons_self]
    cases hp : p x with
    | false =>
      simp only [hide_set hi, ih, List.filter_cons, hp]
      simp
    | true =>
      obtain ⟨y, e1, e2⟩ := he x List.mem_cons_self hp
      simp only [e1, hold_dv e2, keep, hide_set hi, ih, List.filter_cons, hp]
      simp
theorem show_hide (own hid : List Nat) (r : Ev) : showFrom own hid 0 r (hideFrom own hid 0 r) = r := by
  apply List.ext_getElem?
  intro j
  rw [showFrom_get _ _ _ _ _ _ (by rw [hideFrom_len]), hideFrom_get]
  simp only [Nat.zero_add]
  cases e1 : own.contains j with
  | true => simp
  | false =>
    cases e2 : hid.contains j with
    | true => simp
    | false =>
      simp only [Bool.or_self]
      cases r[j]? <;> simp
theorem hide_at {own hid : List Nat} {i : Nat} {r : Ev} (hi : i ∈ own) (hl : i < r.length) : (hideFrom own hid 0 r)[i]? = some .no := by
  rw [hideFrom_get, List.getElem?_eq_getElem hl]
  simp only [Option.map_some, Nat.zero_add]
  rw [if_pos (by simpa using hi)]
/-- .. as a whole -/
theorem lc_val {β : Type} {i : Nat} {src : M (List D × List Nat)} {test : M Bool} {elt : M Rs} {p : β → Bool} {g : β → D} {enc : β → D} {r q : Ev} {xs : List β} {hid : List Nat} (hpr : ∀ x, isPair (enc x) = false) (hs : src r = .ok (xs.map enc, hid) r) (hl : i < r.length) (hio : isIo r[i]? = false)
    (hq : hideFrom [i] hid 0 r = q) (ht : ∀ x ∈ xs, test (q.set i (.dat (enc x))) = .ok (p x) (q.set i (.dat (enc x)))) (he : ∀ x ∈ xs, p x = true → ∃ y, elt (q.set i (.dat (enc x))) = .ok y (q.set i (.dat (enc x))) ∧ y.dv = some (g x)) :
    lcV [i] src (tgOne i) test elt r = .ok (.fresh (.list ((xs.filter p).map g))) r := by
  subst hq
  unfold lcV
  simp only [hs]
  rw [if_neg (by simp [hio])]
  rw [lc_one hpr (hide_at (by simp) hl) xs ht he]
  simp only [show_hide]
/-- a loop as a fold: the slots by the state -/
theorem for_fold {β γ : Type} {E : γ → Ev} {step : γ → β → γ} {enc : β → D} {tg : D → M Unit} {body : M Fl} {r0 : Ev} {I : γ → Prop} : ∀ (xs : List β) (s : γ), I s →
    (∀ s x, x ∈ xs → I s → ∃ r1 r2, tg (enc x) (E s) = .ok () r1 ∧ (body r1 = .ok .next r2 ∨ body r1 = .ok .cont r2) ∧ forget r0 r2 = E (step s x) ∧ I (step s x)) →
    forL r0 tg body (xs.map enc) (E s) = .ok .next (E (xs.foldl step s)) ∧ I (xs.foldl step s)
  | [], s, hI, _ => ⟨rfl, hI⟩
  | x :: xs, s, hI, h => by
    obtain ⟨r1, r2, e1, e2, e3, e4⟩ := h s x List.mem_cons_self hI
    have ih := for_fold xs (step s x) e4 fun s y hy => h s y (List.mem_cons_of_mem _ hy)
    rw [List.map_cons, List.foldl_cons]
    refine ⟨?_, ih.2⟩
    unfold forL
    rcases e2 with e2 | e2
    · simp only [e1, e2, e3, ih.1]
    · simp only [e1, e2, e3, ih.1]
end Ip

set_option Elab.async false
set_option linter.all false
set_option maxRecDepth 100000
set_option maxHeartbeats 1000000
/-! The core step by step, for simp. -/
namespace Ip
open PySem L2
section
variable {α : Type} (r r' : Ev) (i : Nat) (d e : D) (x : Rs) (m a b c : M Rs) (s t : M Fl) (p q u : M Bool)
@[simp] theorem z_seq : seqS s t r = (match s r with | .ok .next r => t r | .ok f r => .ok f r | .exc c fs r => .exc c fs r | .stuck => .stuck) := rfl
@[simp] theorem z_next : nextS r = .ok .next r := rfl
@[simp] theorem z_set : setS i m r = (match val1 m r with | .ok x r => (match put1 i x r with | .ok _ r => .ok .next r | .exc c fs r => .exc c fs r | .stuck => .stuck) | .exc c fs r => .exc c fs r | .stuck => .stuck) := rfl
@[simp] theorem z_val1 : val1 m r = (match m r with | .ok x r => toRo x r | .exc c fs r => .exc c fs r | .stuck => .stuck) := rfl
@[simp] theorem z_toRo1 : toRo (.dat d) r = .ok (.dat d) r := rfl
@[simp] theorem z_toRo2 : toRo (.fresh d) r = .ok (.fresh d) r := rfl
@[simp] theorem z_toRo3 : toRo (.var i) r = (match ownAt r[i]? with | some d => .ok (.dat d) (r.set i (.dat d)) | none => .stuck) := rfl
@[simp] theorem z_val1' : val1' m r = (match m r with | .ok x r => toRet x r | .exc c fs r => .exc c fs r | .stuck => .stuck) := rfl
@[simp] theorem z_toRet1 : toRet (.dat d) r = .ok (.dat d) r := rfl
@[simp] theorem z_toRet2 : toRet (.fresh d) r = .ok (.fresh d) r := rfl
@[simp] theorem z_toRet3 : toRet (.var i) r = (match ownAt r[i]? with | some d => .ok (.fresh d) (r.set i .no) | none => .stuck) := rfl
@[simp] theorem z_put1 (y : Ro) : put1 i y r = (if setOk r[i]? then .ok () (r.set i y.sl) else .stuck) := rfl
@[simp] theorem z_sl1 : Ro.sl (.dat d) = .dat d := rfl
@[simp] theorem z_sl2 : Ro.sl (.fresh d) = .own d := rfl
@[simp] theorem z_rs1 : Ro.rs (.dat d) = .dat d := rfl
@[simp] theorem z_rs2 : Ro.rs (.fresh d) = .fresh d := rfl
@[simp] theorem z_ok1 : setOk none = false := rfl
@[simp] theorem z_ok2 : setOk (some .no) = true := rfl
@[simp] theorem z_ok3 : setOk (some (.dat d)) = true := rfl
@[simp] theorem z_ok4 : setOk (some (.own d)) = true := rfl
@[simp] theorem z_ok5 : setOk (some (.bor d)) = true := rfl
@[simp] theorem z_ret : retS m r = (match val1' m r with | .ok x r => .ok (.ret x) r | .exc c fs r => .exc c fs r | .stuck => .stuck) := rfl
@[simp] theorem z_retN : retN r = .ok (.ret (.dat .none)) r := rfl
@[simp] theorem z_drop : dropS m r = (match m r with | .ok _ r => .ok .next r | .exc c fs r => .exc c fs r | .stuck => .stuck) := rfl
@[simp] theorem z_cond (f g : M α) : Ip.cond p f g r = (match p r with | .ok true r => f r | .ok false r => g r | .exc c fs r => .exc c fs r | .stuck => .stuck) := rfl
@[simp] theorem z_tst : tst m r = (match m r with | .ok x r => lift (boolOf x) r | .exc c fs r => .exc c fs r | .stuck => .stuck) := rfl
@[simp] theorem z_bo (k : Bool) : boolOf (.dat (.bool k)) = some k := rfl
@[simp] theorem z_lift1 (y : α) : lift (some y) r = .ok y r := rfl
@[simp] theorem z_lift2 : lift (none : Option α) r = .stuck := rfl
@[simp] theorem z_not : notB p r = Ip.cond p (kb false) (kb true) r := rfl
@[simp] theorem z_kb (k : Bool) : kb k r = .ok k r := rfl
@[simp] theorem z_andB : andB p q r = Ip.cond p q (kb false) r := rfl
@[simp] theorem z_orB : orB p q r = Ip.cond p (kb true) q r := rfl
@[simp] theorem z_andV : andV a b r = Ip.cond (tst a) b (kst (.bool false)) r := rfl
@[simp] theorem z_orV : orV a b r = Ip.cond (tst a) (kst (.bool true)) b r := rfl
@[simp] theorem z_kst : kst d r = .ok (.dat d) r := rfl
@[simp] theorem z_nm : nm i r = lift (named i r[i]?) r := rfl
@[simp] theorem z_named1 : named i (some (.dat d)) = some (.dat d) := rfl
@[simp] theorem z_named2 : named i (some (.own d)) = some (.var i) := rfl
@[simp] theorem z_named3 : named i (some (.io d)) = some (.var i) := rfl
@[simp] theorem z_named4 : named i (some (.bor d)) = some (.var i) := rfl
@[simp] theorem z_prim (f : Op) (ms : List (M Rs)) : prim f ms r = (match args ms r with | .ok xs r => (match looks xs r with | .ok ds r => liftR (f ds) r | .exc c fs r => .exc c fs r | .stuck => .stuck) | .exc c fs r => .exc c fs r | .stuck => .stuck) := rfl
@[simp] theorem z_args0 : args [] r = .ok [] r := rfl
@[simp] theorem z_args1 (ms : List (M Rs)) : args (m :: ms) r = (match m r with
    | .ok x r => (match hold x r with
      | .ok x r => (match args ms r with
        | .ok xs r => .ok (x :: xs) r
        | .exc c fs r => .exc c fs r
        | .stuck => .stuck)
      | .exc c fs r => .exc c fs r
      | .stuck => .stuck)
    | .exc c fs r => .exc c fs r
    | .stuck => .stuck) := rfl
@[simp] theorem z_looks0 : looks [] r = .ok [] r := rfl
@[simp] theorem z_looks1 (xs : List Rs) : looks (x :: xs) r = (match look x r with
    | .ok d r => (match looks xs r with
      | .ok ds r => .ok (d :: ds) r
      | .exc c fs r => .exc c fs r
      | .stuck => .stuck)
    | .exc c fs r => .exc c fs r
    | .stuck => .stuck) := rfl
@[simp] theorem z_keeps0 : keeps [] r = .ok [] r := rfl
@[simp] theorem z_keeps1 (xs : List Rs) : keeps (x :: xs) r = (match keep x r with
    | .ok d r => (match keeps xs r with
      | .ok ds r => .ok (d :: ds) r
      | .exc c fs r => .exc c fs r
      | .stuck => .stuck)
    | .exc c fs r => .exc c fs r
    | .stuck => .stuck) := rfl
@[simp] theorem z_look1 : look (.dat d) r = .ok d r := rfl
@[simp] theorem z_look2 : look (.fresh d) r = .ok d r := rfl
@[simp] theorem z_look3 : look (.var i) r = lift (Ip.held r[i]?) r := rfl
@[simp] theorem z_held1 : Ip.held (some (.own d)) = some d := rfl
@[simp] theorem z_held2 : Ip.held (some (.io d)) = some d := rfl
@[simp] theorem z_held3 : Ip.held (some (.bor d)) = some d := rfl
@[simp] theorem z_hold1 : hold (.dat d) r = .ok (.dat d) r := rfl
@[simp] theorem z_hold2 : hold (.fresh d) r = .ok (.dat d) r := rfl
@[simp] theorem z_hold3 : hold (.var i) r = .ok (.var i) r := rfl
@[simp] theorem z_keep1 : keep (.dat d) r = .ok d r := rfl
@[simp] theorem z_keep2 : keep (.fresh d) r = .ok d r := rfl
@[simp] theorem z_keep3 : keep (.var i) r = (match ownAt r[i]? with | some d => .ok d (r.set i (.dat d)) | none => .stuck) := rfl
@[simp] theorem z_ownAt : ownAt (some (.own d)) = some d := rfl
@[simp] theorem z_liftR (y : Ro) : liftR (some y) r = .ok y.rs r := rfl
@[simp] theorem z_liftR0 : liftR none r = .stuck := rfl
@[simp] theorem z_tupV (ms : List (M Rs)) : tupV ms r = (match args ms r with
  | .ok xs r => (match keeps xs r with
    | .ok ds r => if ds.length ≤ sizeLine then .ok (.dat (.tuple ds)) r else .stuck
    | .exc c fs r => .exc c fs r
    | .stuck => .stuck)
  | .exc c fs r => .exc c fs r
  | .stuck => .stuck) := rfl
@[simp] theorem z_lstV (ms : List (M Rs)) : lstV ms r = (match args ms r with
  | .ok xs r => (match keeps xs r with
    | .ok ds r => if ds.length ≤ sizeLine then .ok (.fresh (.list ds)) r else .stuck
    | .exc c fs r => .exc c fs r
    | .stuck => .stuck)
  | .exc c fs r => .exc c fs r
  | .stuck => .stuck) := rfl
@[simp] theorem z_callV (f : List Sl → CR) (mu : List Bool) (ms : List (M Rs)) : callV f mu ms r = (match args ms r with
  | .ok xs r => (match slArgs mu xs r with
    | some ss => if Ip.sepOk mu xs then (match f ss with
        | .ok x outs => (match putBack mu xs outs r with
          | some r => .ok x.rs r
          | none => .stuck)
        | .exc c fs => if noMu mu then .exc c fs r else .stuck
        | .stuck => .stuck)
      else .stuck
    | none => .stuck)
  | .exc c fs r => .exc c fs r
  | .stuck => .stuck) := rfl
@[simp] theorem z_sla0 : slArgs [] [] r = some [] := rfl
@[simp] theorem z_sla1 (k : Bool) (ks : List Bool) (xs : List Rs) : slArgs (k :: ks) (x :: xs) r = (match slArg k x r with | some s => (match slArgs ks xs r with | some ss => some (s :: ss) | none => none) | none => none) := rfl
@[simp] theorem z_slg1 (k : Bool) : slArg k (.dat d) r = some (.dat d) := by cases k <;> rfl
@[simp] theorem z_slg2 : slArg false (.var i) r = (Ip.held r[i]?).map .bor := rfl
@[simp] theorem z_slg3 : slArg true (.var i) r = (match r[i]? with | some (.own d) => some (.io d) | some (.io d) => some (.io d) | _ => none) := rfl
@[simp] theorem z_sep0 : Ip.sepOk [] [] = true := rfl
@[simp] theorem z_sep1 (k : Bool) (ks : List Bool) (xs : List Rs) : Ip.sepOk (k :: ks) (.dat d :: xs) = Ip.sepOk ks xs := by rfl
@[simp] theorem z_sep2 (k : Bool) (ks : List Bool) (xs : List Rs) : Ip.sepOk (k :: ks) (.var i :: xs) = (sep1 k i ks xs && Ip.sepOk ks xs) := by rfl
@[simp] theorem z_s10 (k : Bool) : sep1 k i [] [] = true := rfl
@[simp] theorem z_s11 (k k' : Bool) (ks : List Bool) (xs : List Rs) : sep1 k i (k' :: ks) (.dat d :: xs) = sep1 k i ks xs := by rfl
@[simp] theorem z_s12 (j : Nat) (k k' : Bool) (ks : List Bool) (xs : List Rs) : sep1 k i (k' :: ks) (.var j :: xs) = ((decide (i ≠ j) || (!k && !k')) && sep1 k i ks xs) := by rfl
@[simp] theorem z_pb0 (os : List (Option D)) : putBack [] [] os r = some r := rfl
@[simp] theorem z_pb1 (k : Bool) (ks : List Bool) (xs : List Rs) (o : Option D) (os : List (Option D)) : putBack (k :: ks) (x :: xs) (o :: os) r = (match back1 k x o r with | some r => putBack ks xs os r | none => none) := rfl
@[simp] theorem z_b1 (k : Bool) (o : Option D) : back1 k (.dat d) o r = some r := by cases k <;> rfl
@[simp] theorem z_b2 (o : Option D) : back1 false (.var i) o r = some r := by cases o <;> rfl
@[simp] theorem z_b3 : back1 true (.var i) (some d) r = (match r[i]? with | some (.own _) => some (r.set i (.own d)) | some (.io _) => some (r.set i (.io d)) | _ => none) := rfl
@[simp] theorem z_run (k n : Nat) (ss : List Sl) : runBody k n s ss = (if ss.length = k then (match s (ss ++ List.replicate (n - k) .no) with
    | .ok .next r => .ok (.dat .none) (outs k r)
    | .ok (.ret x) r => .ok x (outs k r)
    | .ok _ _ => .stuck
    | .exc c fs _ => .exc c fs
    | .stuck => .stuck) else .stuck) := rfl
@[simp] theorem z_outs (k : Nat) : outs k r = (r.take k).map outs1 := rfl
@[simp] theorem z_o1 : outs1 .no = none := rfl
@[simp] theorem z_o2 : outs1 (.dat d) = none := rfl
@[simp] theorem z_o3 : outs1 (.own d) = none := rfl
@[simp] theorem z_o4 : outs1 (.io d) = some d := rfl
@[simp] theorem z_o5 : outs1 (.bor d) = none := rfl
@[simp] theorem z_srcC : srcC m r = (match m r with
  | .ok x r => (match seeC x r with
    | some (d, h) => (match items d with
      | some ds => .ok (ds, h) r
      | none => .stuck)
    | none => .stuck)
  | .exc c fs r => .exc c fs r
  | .stuck => .stuck) := rfl
@[simp] theorem z_see1 : seeC (.dat d) r = some (d, []) := rfl
@[simp] theorem z_see2 : seeC (.fresh d) r = some (d, []) := rfl
@[simp] theorem z_see3 : seeC (.var i) r = (match r[i]? with | some (.own d) => some (d, [i]) | some (.bor d) => some (d, []) | _ => none) := rfl
@[simp] theorem z_it1 (ds : List D) : items (.list ds) = some ds := rfl
@[simp] theorem z_it2 (ds : List D) : items (.tuple ds) = some ds := rfl
@[simp] theorem z_unhid (f : M (List D × List Nat)) : unhid f r = (match f r with | .ok x r => .ok x.1 (demoteL x.2 r) | .exc c fs r => .exc c fs r | .stuck => .stuck) := rfl
@[simp] theorem z_dem0 : demoteL [] r = r := rfl
@[simp] theorem z_srcR (ms : List (M Rs)) : srcR ms r = (match intsM ms r with
  | .ok is r => (match rangeOf is with | some ds => .ok (ds, []) r | none => .stuck)
  | .exc c fs r => .exc c fs r
  | .stuck => .stuck) := rfl
@[simp] theorem z_intsM (ms : List (M Rs)) : intsM ms r = (match args ms r with
  | .ok xs r => (match looks xs r with
    | .ok ds r => lift (ds.mapM intOf) r
    | .exc c fs r => .exc c fs r
    | .stuck => .stuck)
  | .exc c fs r => .exc c fs r
  | .stuck => .stuck) := rfl
@[simp] theorem z_intOf (k : Int) : intOf (.int k) = some k := rfl
@[simp] theorem z_srcE : srcE m r = (match srcC m r with | .ok x r => .ok (enumL 0 x.1, x.2) r | .exc c fs r => .exc c fs r | .stuck => .stuck) := rfl
@[simp] theorem z_chain (f g : Op) : chainV f g a b c r = (match args [a, b] r with
  | .ok xs r => (match looks xs r with
    | .ok ds r => chain1 f g c xs ds r
    | .exc c fs r => .exc c fs r
    | .stuck => .stuck)
  | .exc c fs r => .exc c fs r
  | .stuck => .stuck) := rfl
@[simp] theorem z_chain1 (f g : Op) (y : Rs) (ds : List D) : chain1 f g c [x, y] ds r = (match f ds with
    | some (.dat (.bool true)) => chain2 g y c r
    | some (.dat (.bool false)) => .ok (.dat (.bool false)) r
    | _ => .stuck) := rfl
@[simp] theorem z_chain2 (g : Op) (y : Rs) : chain2 g y c r = (match c r with
  | .ok z r => (match hold z r with
    | .ok z r => (match looks [y, z] r with
      | .ok ds r => liftR (g ds) r
      | .exc c fs r => .exc c fs r
      | .stuck => .stuck)
    | .exc c fs r => .exc c fs r
    | .stuck => .stuck)
  | .exc c fs r => .exc c fs r
  | .stuck => .stuck) := rfl
@[simp] theorem z_dic0 : dicV0 r = .ok (.fresh (.dict [])) r := rfl
@[simp] theorem z_for (f : M (List D)) (tg : D → M Unit) : forS f tg s r = (match f r with | .ok ds r => forL r tg s ds r | .exc c fs r => .exc c fs r | .stuck => .stuck) := rfl
@[simp] theorem z_add (j k : Int) : oAdd' [.int j, .int k] = some (.dat (.int (j + k))) := rfl
@[simp] theorem z_sub (j k : Int) : oSub [.int j, .int k] = some (.dat (.int (j - k))) := rfl
@[simp] theorem z_neg (j : Int) : oNeg [.int j] = some (.dat (.int (-j))) := rfl
@[simp] theorem z_lt (j k : Int) : oLt [.int j, .int k] = some (.dat (.bool (decide (j < k)))) := rfl
@[simp] theorem z_le (j k : Int) : oLe [.int j, .int k] = some (.dat (.bool (decide (j ≤ k)))) := rfl
@[simp] theorem z_gt (j k : Int) : oGt [.int j, .int k] = some (.dat (.bool (decide (k < j)))) := rfl
@[simp] theorem z_ge (j k : Int) : oGe [.int j, .int k] = some (.dat (.bool (decide (k ≤ j)))) := rfl
@[simp] theorem z_len1 (ds : List D) : oLen [.list ds] = some (.dat (.int ds.length)) := rfl
@[simp] theorem z_len2 (ds : List D) : oLen [.tuple ds] = some (.dat (.int ds.length)) := rfl
@[simp] theorem z_isi (ts : List Ty) : oIsiA ts [d] = some (.dat (.bool (ts.any fun t => tyOf t d))) := rfl
@[simp] theorem z_onot (k : Bool) : oNot [.bool k] = some (.dat (.bool (!k))) := rfl
@[simp] theorem z_tup1 (ds : List D) : oTuple [.list ds] = some (.dat (.tuple ds)) := rfl
@[simp] theorem z_tup2 (ds : List D) : oTuple [.tuple ds] = some (.dat (.tuple ds)) := rfl
@[simp] theorem z_lst1 (ds : List D) : oListA [.list ds] = some (.fresh (.list ds)) := rfl
@[simp] theorem z_lst2 (ds : List D) : oListA [.tuple ds] = some (.fresh (.list ds)) := rfl
@[simp] theorem z_ix1 (ds : List D) (k : Int) : oIx [.list ds, .int k] = (atI ds k).map .dat := rfl
@[simp] theorem z_ix2 (ds : List D) (k : Int) : oIx [.tuple ds, .int k] = (atI ds k).map .dat := rfl
end
end Ip

set_option Elab.async false
set_option linter.all false
set_option maxRecDepth 100000
set_option maxHeartbeats 1000000
/-! Data of ints, tuples, lists: what the operations make of them. -/
namespace Ip
open PySem L2
/-- data that may be compared: so deep at most -/
def Flat (k : Nat) (d : D) : Prop := d.canLay0 = true ∧ d.depth ≤ k
theorem Flat.shp {k : Nat} {d : D} (h : Flat k d) (hk : k ≤ 64) : Ip.shp d = true := by
  unfold Ip.shp SeqAt.shaped
  rw [h.1, Bool.true_and, decide_eq_true_eq]
  exact Nat.le_trans h.2 hk
theorem Flat.mono {k k' : Nat} {d : D} (h : Flat k d) (hk : k ≤ k') : Flat k' d := ⟨h.1, Nat.le_trans h.2 hk⟩
theorem flat_int (k : Nat) (i : Int) : Flat k (.int i) := ⟨by simp [PyData.canLay0], by simp [PyData.depth]⟩
theorem flat_bool (k : Nat) (i : Bool) : Flat k (.bool i) := ⟨by simp [PyData.canLay0], by simp [PyData.depth]⟩
theorem flat_none (k : Nat) : Flat k .none := ⟨by simp [PyData.canLay0], by simp [PyData.depth]⟩
theorem flat_all {k : Nat} : ∀ {ds : List D}, (∀ d ∈ ds, Flat k d) → PyData.canLayAll0 ds = true ∧ PyData.depthAll ds ≤ k
  | [], _ => ⟨by simp [PyData.canLayAll0], by simp [PyData.depthAll]⟩
  | d :: ds, h => by
    obtain ⟨h1, h2⟩ := flat_all fun x hx => h x (List.mem_cons_of_mem d hx)
    obtain ⟨h3, h4⟩ := h d List.mem_cons_self
    exact ⟨by simp [PyData.canLayAll0, h1, h3], by simp only [PyData.depthAll]; omega⟩
theorem flat_tup {k : Nat} {ds : List D} (h : ∀ d ∈ ds, Flat k d) : Flat (k + 1) (.tuple ds) := by
  obtain ⟨h1, h2⟩ := flat_all h
  exact ⟨by simpa only [PyData.canLay0] using h1, by simp only [PyData.depth]; omega⟩
theorem flat_lst {k : Nat} {ds : List D} (h : ∀ d ∈ ds, Flat k d) : Flat (k + 1) (.list ds) := by
  obtain ⟨h1, h2⟩ := flat_all h
  exact ⟨by simpa only [PyData.canLay0] using h1, by simp only [PyData.depth]; omega⟩
mutual
theorem eqv_refl : ∀ {d : D}, d.canLay0 = true → PyData.eqv d d = true
  | .none, _ => by simp [PyData.eqv]
  | .bool _, _ => by simp [PyData.eqv]
  | .int _, _ => by simp [PyData.eqv]
  | .str _, _ => by simp [PyData.eqv]
  | .list ds, h => by
    simp only [PyData.eqv]
    exact eqvAll_refl (by simpa only [PyData.canLay0] using h)
  | .tuple ds, h => by
    simp only [PyData.eqv]
    exact eqvAll_refl (by simpa only [PyData.canLay0] using h)
  | .dict _, h => by simp [PyData.canLay0] at h
theorem eqvAll_refl : ∀ {ds : List D}, PyData.canLayAll0 ds = true → PyData.eqvAll ds ds = true
  | [], _ => by simp [PyData.eqvAll]
  | d :: ds, h => by
    simp only [PyData.canLayAll0, Bool.and_eq_true] at h
    simp only [PyData.eqvAll, eqv_refl h.1, eqvAll_refl h.2, Bool.and_self]
end
theorem intsOf_map : ∀ ns : List Int, intsOf (ns.map .int) = some ns
  | [] => rfl
  | n :: ns => by simp only [List.map_cons, intsOf, intsOf_map ns, Option.map_some]
theorem boolsOf_map : ∀ ns : List Bool, boolsOf (ns.map .bool) = some ns
  | [] => rfl
  | n :: ns => by simp only [List.map_cons, boolsOf, boolsOf_map ns, Option.map_some]
theorem eqvAll_ints : ∀ a b : List Int, PyData.eqvAll (a.map .int) (b.map .int) = decide (a = b)
  | [], [] => by simp [PyData.eqvAll]
  | [], _ :: _ => by simp [PyData.eqvAll]
  | _ :: _, [] => by simp [PyData.eqvAll]
  | x :: a, y :: b => by
    simp only [List.map_cons, PyData.eqvAll, PyData.eqv, eqvAll_ints a b, List.cons.injEq]
    by_cases h1 : x = y <;> by_cases h2 : a = b <;> simp [h1, h2]
theorem anyEq_ints (k : Int) : ∀ ns : List Int, anyEq (.int k) (ns.map .int) = decide (k ∈ ns)
  | [] => by simp [anyEq]
  | n :: ns => by
    have ih := anyEq_ints k ns
    unfold anyEq at ih ⊢
    rw [List.map_cons, List.any_cons, ih]
    simp only [PyData.eqv, List.mem_cons]
    by_cases h : n = k
    · subst h; simp
    · have h' : ¬ k = n := fun z => h z.symm
      simp [h, h']
def dT (ns : List Int) : D := .tuple (ns.map .int)
def dL (ns : List Int) : D := .list (ns.map .int)
theorem flat_dT (ns : List Int) : Flat 1 (dT ns) := flat_tup fun d hd => by
  obtain ⟨i, _, rfl⟩ := List.mem_map.mp hd
  exact flat_int 0 i
theorem flat_dL (ns : List Int) : Flat 1 (dL ns) := flat_lst fun d hd => by
  obtain ⟨i, _, rfl⟩ := List.mem_map.mp hd
  exact flat_int 0 i
theorem usort_id : ∀ {ns : List Int}, ns.Pairwise (· < ·) → usort ns = ns := fun {ns} h => strict_uniq (fun z => usort_mem ns z) (usort_sorted ns) h
theorem enumL_map {β : Type} (f : β → D) : ∀ (xs : List β) (k : Nat), enumL k (xs.map f) = (xs.zipIdx k).map fun p => pairD (.int (p.2 : Nat)) (f p.1)
  | [], k => rfl
  | x :: xs, k => by
    rw [List.map_cons]
    unfold enumL
    rw [enumL_map f xs (k + 1)]
    rfl
@[simp] theorem z_eq1 (a b : Int) : oEq [.int a, .int b] = some (.dat (.bool (decide (a = b)))) := by
  unfold oEq
  simp only [(flat_int 0 a).shp (by decide), (flat_int 0 b).shp (by decide), Bool.and_self, if_true, PyData.eqv]
  by_cases h : a = b <;> simp [h]
@[simp] theorem z_ne1 (a b : Int) : oNe [.int a, .int b] = some (.dat (.bool (decide (a ≠ b)))) := by
  unfold oNe
  simp only [(flat_int 0 a).shp (by decide), (flat_int 0 b).shp (by decide), Bool.and_self, if_true, PyData.eqv]
  by_cases h : a = b <;> simp [h]
@[simp] theorem z_eqb (a b : Bool) : oEq [.bool a, .bool b] = some (.dat (.bool (decide (a = b)))) := by
  unfold oEq
  simp only [(flat_bool 0 a).shp (by decide), (flat_bool 0 b).shp (by decide), Bool.and_self, if_true, PyData.eqv]
  by_cases h : a = b <;> simp [h]
@[simp] theorem z_neb (a b : Bool) : oNe [.bool a, .bool b] = some (.dat (.bool (decide (a ≠ b)))) := by
  unfold oNe
  simp only [(flat_bool 0 a).shp (by decide), (flat_bool 0 b).shp (by decide), Bool.and_self, if_true, PyData.eqv]
  by_cases h : a = b <;> simp [h]
theorem shp_dL (ns : List Int) : Ip.shp (.list (ns.map .int)) = true := (flat_dL ns).shp (by decide)
theorem shp_dT (ns : List Int) : Ip.shp (.tuple (ns.map .int)) = true := (flat_dT ns).shp (by decide)
theorem oEq_dL (a b : List Int) : oEq [dL a, dL b] = some (.dat (.bool (decide (a = b)))) := by
  unfold oEq dL
  simp only [shp_dL, Bool.and_self, if_true, PyData.eqv, eqvAll_ints]
theorem oNe_dL (a b : List Int) : oNe [dL a, dL b] = some (.dat (.bool (decide (a ≠ b)))) := by
  unfold oNe dL
  simp only [shp_dL, Bool.and_self, if_true, PyData.eqv, eqvAll_ints]
  by_cases h : a = b <;> simp [h]
theorem oEq_dT (a b : List Int) : oEq [dT a, dT b] = some (.dat (.bool (decide (a = b)))) := by
  unfold oEq dT
  simp only [shp_dT, Bool.and_self, if_true, PyData.eqv, eqvAll_ints]
theorem oNe_dT (a b : List Int) : oNe [dT a, dT b] = some (.dat (.bool (decide (a ≠ b)))) := by
  unfold oNe dT
  simp only [shp_dT, Bool.and_self, if_true, PyData.eqv, eqvAll_ints]
  by_cases h : a = b <;> simp [h]
theorem oIn_dT (k : Int) (ns : List Int) : oIn [.int k, dT ns] = some (.dat (.bool (decide (k ∈ ns)))) := by
  unfold oIn dT
  simp only [inOf, (flat_int 0 k).shp (by decide), (flat_dT ns).shp (by decide), show Ip.shp (.tuple (ns.map .int)) = true from (flat_dT ns).shp (by decide), Bool.and_self, if_true, anyEq_ints, Option.map_some]
theorem oSortSet_dT (ns : List Int) (h : ns.length < 64) : oSortSet [dT ns] = some (.fresh (dL (usort ns))) := by
  unfold oSortSet dT
  simp only [intsOf_map, Option.bind_some, if_pos h]
  rfl
theorem oAll_map (bs : List Bool) : oAll [.list (bs.map .bool)] = some (.dat (.bool (bs.all id))) := by
  unfold oAll
  simp only [boolsOf_map, Option.map_some]
theorem oAny_map (bs : List Bool) : oAny [.list (bs.map .bool)] = some (.dat (.bool (bs.any id))) := by
  unfold oAny
  simp only [boolsOf_map, Option.map_some]
theorem oSum_map (ns : List Int) : oSum [dL ns] = some (.dat (.int ns.sum)) := by
  unfold oSum dL
  simp only [intsOf_map, Option.map_some]
theorem atI_get {α : Type} {xs : List α} {i : Int} (h0 : 0 ≤ i) (h1 : i < xs.length) : atI xs i = some (xs[i.toNat]'(by omega)) := by
  unfold atI ixN
  rw [if_pos h0, if_pos h1]
  show xs[i.toNat]? = _
  rw [List.getElem?_eq_getElem]
theorem atI_nat {α : Type} {xs : List α} {i : Nat} (h1 : i < xs.length) : atI xs (i : Int) = some xs[i] := by
  rw [atI_get (by omega) (by omega)]
  simp
@[simp] theorem atI_0 {α : Type} (a : α) (r : List α) : atI (a :: r) 0 = some a := by
  rw [atI_get (by omega) (by simp only [List.length_cons]; omega)]
  rfl
@[simp] theorem atI_1 {α : Type} (a b : α) (r : List α) : atI (a :: b :: r) 1 = some b := by
  rw [atI_get (by omega) (by simp only [List.length_cons]; omega)]
  rfl
@[simp] theorem atI_2 {α : Type} (a b c : α) (r : List α) : atI (a :: b :: c :: r) 2 = some c := by
  rw [atI_get (by omega) (by simp only [List.length_cons]; omega)]
  rfl
@[simp] theorem atI_3 {α : Type} (a b c d : α) (r : List α) : atI (a :: b :: c :: d :: r) 3 = some d := by
  rw [atI_get (by omega) (by simp only [List.length_cons]; omega)]
  rfl
theorem atI_map {α β : Type} (f : α → β) (xs : List α) (i : Int) : atI (xs.map f) i = (atI xs i).map f := by
  unfold atI
  rw [List.length_map]
  cases ixN xs.length i with
  | none => rfl
  | some j => simp
/-- a comprehension, nothing changed on the way -/
theorem lc_gen {β : Type} {own : List Nat} {tg : D → M Unit} {test : M Bool} {elt : M Rs} {p : β → Bool} {g : β → D} {enc : β → D} {ρ : β → Ev} {r : Ev} : ∀ (xs : List β), (∀ x ∈ xs, tg (enc x) r = .ok () (ρ x)) → (∀ x ∈ xs, hideFrom own [] 0 (ρ x) = r) →
    (∀ x ∈ xs, test (ρ x) = .ok (p x) (ρ x)) → (∀ x ∈ xs, p x = true → ∃ y, elt (ρ x) = .ok y (ρ x) ∧ y.dv = some (g x)) → lcL own tg test elt (xs.map enc) r = .ok ((xs.filter p).map g) r
  | [], _, _, _, _ => rfl
  | x :: xs, hg, hh, ht, he => by
    have ih := lc_gen xs (fun y hy => hg y (List.mem_cons_of_mem _ hy)) (fun y hy => hh y (List.mem_cons_of_mem _ hy)) (fun y hy => ht y (List.mem_cons_of_mem _ hy)) fun y hy => he y (List.mem_cons_of_mem _ hy)
    rw [List.map_cons]
    unfold lcL
    simp only [hg x List.mem_cons_self, ht x List.mem_cons_self]
    cases hp : p x with
    | false =>
      simp only [hh x List.mem_cons_self, ih, List.filter_cons, hp]
      simp
    | true =>
      obtain ⟨y, e1, e2⟩ := he x List.mem_cons_self hp
      simp only [e1, hold_dv e2, keep, hh x List.mem_cons_self, ih, List.filter_cons, hp]
      simp
theorem lc_all {β : Type} {own : List Nat} {src : M (List D × List Nat)} {tg : D → M Unit} {test : M Bool} {elt : M Rs} {p : β → Bool} {g : β → D} {enc : β → D} {ρ : β → Ev} {r q : Ev} {hid : List Nat} (xs : List β) (hs : src r = .ok (xs.map enc, hid) r) (hio : (own.any fun i => isIo r[i]?) = false)
    (hq : hideFrom own hid 0 r = q) (hg : ∀ x ∈ xs, tg (enc x) q = .ok () (ρ x)) (hh : ∀ x ∈ xs, hideFrom own [] 0 (ρ x) = q) (ht : ∀ x ∈ xs, test (ρ x) = .ok (p x) (ρ x)) (he : ∀ x ∈ xs, p x = true → ∃ y, elt (ρ x) = .ok y (ρ x) ∧ y.dv = some (g x)) :
    lcV own src tg test elt r = .ok (.fresh (.list ((xs.filter p).map g))) r := by
  subst hq
  unfold lcV
  simp only [hs]
  rw [hio]
  rw [if_neg (by simp)]
  rw [lc_gen xs hg hh ht he]
  simp only [show_hide]
@[simp] theorem ty_dT (t : Ty) (ns : List Int) : tyOf t (dT ns) = tyOf t (.tuple []) := by cases t <;> rfl
@[simp] theorem ty_dL (t : Ty) (ns : List Int) : tyOf t (dL ns) = tyOf t (.list []) := by cases t <;> rfl
@[simp] theorem ty_tup (t : Ty) (ds : List D) : tyOf t (.tuple ds) = (match t with | .tuple => true | _ => false) := by cases t <;> rfl
@[simp] theorem ty_lst (t : Ty) (ds : List D) : tyOf t (.list ds) = (match t with | .list => true | _ => false) := by cases t <;> rfl
@[simp] theorem ty_int (t : Ty) (i : Int) : tyOf t (.int i) = (match t with | .int => true | _ => false) := by cases t <;> rfl
@[simp] theorem ty_bool (t : Ty) (i : Bool) : tyOf t (.bool i) = (match t with | .int => true | .bool => true | _ => false) := by cases t <;> rfl
@[simp] theorem len_dT (ns : List Int) : oLen [dT ns] = some (.dat (.int ns.length)) := by simp [dT]
@[simp] theorem len_dL (ns : List Int) : oLen [dL ns] = some (.dat (.int ns.length)) := by simp [dL]
@[simp] theorem lst_dT (ns : List Int) : oListA [dT ns] = some (.fresh (dL ns)) := rfl
@[simp] theorem lst_dL (ns : List Int) : oListA [dL ns] = some (.fresh (dL ns)) := rfl
@[simp] theorem tup_dT (ns : List Int) : oTuple [dT ns] = some (.dat (dT ns)) := rfl
@[simp] theorem tup_dL (ns : List Int) : oTuple [dL ns] = some (.dat (dT ns)) := rfl
@[simp] theorem it_dT (ns : List Int) : items (dT ns) = some (ns.map .int) := rfl
@[simp] theorem it_dL (ns : List Int) : items (dL ns) = some (ns.map .int) := rfl
/-- all of them -/
theorem lc_map {β : Type} {own : List Nat} {src : M (List D × List Nat)} {tg : D → M Unit} {elt : M Rs} {g : β → D} {enc : β → D} {ρ : β → Ev} {r q : Ev} {hid : List Nat} (xs : List β) (hs : src r = .ok (xs.map enc, hid) r) (hio : (own.any fun i => isIo r[i]?) = false)
    (hq : hideFrom own hid 0 r = q) (hg : ∀ x ∈ xs, tg (enc x) q = .ok () (ρ x)) (hh : ∀ x ∈ xs, hideFrom own [] 0 (ρ x) = q) (he : ∀ x ∈ xs, ∃ y, elt (ρ x) = .ok y (ρ x) ∧ y.dv = some (g x)) :
    lcV own src tg (kb true) elt r = .ok (.fresh (.list (xs.map g))) r := by
  have := lc_all (p := fun _ => true) (test := kb true) xs hs hio hq hg hh (fun _ _ => rfl) fun x hx _ => he x hx
  rw [this, List.filter_eq_self.mpr fun _ _ => rfl]
/-- a loop, place by place -/
theorem for_steps {β : Type} {E : Nat → Ev} {enc : β → D} {tg : D → M Unit} {body : M Fl} {r0 : Ev} (xs : List β)
    (h : ∀ (i : Nat) (hi : i < xs.length), ∃ r1 r2, tg (enc xs[i]) (E i) = .ok () r1 ∧ body r1 = .ok .next r2 ∧ forget r0 r2 = E (i + 1)) : forL r0 tg body (xs.map enc) (E 0) = .ok .next (E xs.length) := by
  have key : ∀ (m i : Nat), i + m = xs.length → forL r0 tg body ((xs.drop i).map enc) (E i) = .ok .next (E xs.length) := by
    intro m
    induction m with
    | zero =>
      intro i hi
      rw [List.drop_eq_nil_of_le (by omega), ← hi]
      rfl
    | succ m ih =>
      intro i hi
      obtain ⟨r1, r2, e1, e2, e3⟩ := h i (by omega)
      rw [List.drop_eq_getElem_cons (by omega : i < xs.length), List.map_cons]
      unfold forL
      simp only [e1, e2, e3]
      exact ih (i + 1) (by omega)
  exact key xs.length 0 (by omega)
theorem take_fold {β γ : Type} (f : γ → β → γ) (s : γ) {xs : List β} {i : Nat} (hi : i < xs.length) : (xs.take (i + 1)).foldl f s = f ((xs.take i).foldl f s) xs[i] := by
  rw [List.take_add_one, List.getElem?_eq_getElem hi, List.foldl_append]
  rfl
theorem z_mulL (xs : List D) (k : Int) : oMulA [.list xs, .int k] = if -1000 ≤ k ∧ k ≤ 1000 ∧ xs.length ≤ 1000 then some (.fresh (.list (List.replicate k.toNat xs).flatten)) else none := rfl
theorem z_mulT (xs : List D) (k : Int) : oMulA [.tuple xs, .int k] = if -1000 ≤ k ∧ k ≤ 1000 ∧ xs.length ≤ 1000 then some (.dat (.tuple (List.replicate k.toNat xs).flatten)) else none := rfl
theorem z_mulI (i j : Int) : oMulA [.int i, .int j] = if (-(2 ^ 64) < i ∧ i < 2 ^ 64) ∨ (-(2 ^ 64) < j ∧ j < 2 ^ 64) then some (.dat (.int (i * j))) else none := rfl
theorem mul_zeros {n : Int} (h1 : -1000 ≤ n) (h2 : n ≤ 1000) (c : Int) : oMulA [.list [.int c], .int n] = some (.fresh (dL (List.replicate n.toNat c))) := by
  rw [z_mulL, if_pos ⟨h1, h2, by simp⟩]
  simp [dL]
theorem oIx_dL (ns : List Int) (k : Int) : oIx [dL ns, .int k] = (atI ns k).map fun i => .dat (.int i) := by
  unfold dL
  rw [z_ix1, atI_map, Option.map_map]
  rfl
theorem oIx_dT (ns : List Int) (k : Int) : oIx [dT ns, .int k] = (atI ns k).map fun i => .dat (.int i) := by
  unfold dT
  rw [z_ix2, atI_map, Option.map_map]
  rfl
theorem app_dL (ns : List Int) (k : Int) (h : ns.length < sizeLine) : fApp (dL ns) [.int k] = some (dL (ns ++ [k]), .none) := by
  unfold dL fApp
  simp only [List.length_map]
  rw [if_pos h]
  simp
@[simp] theorem z_mut (i : Nat) (f : D → List D → Option (D × D)) (ms : List (M Rs)) (r : Ev) : mutV i f ms r = (if isLst r[i]? then (match args ms r with
  | .ok xs r => (match keeps xs r with
    | .ok ds r => (match wrAt (fun d => f d ds) r[i]? with
      | some (s, y) => .ok (.dat y) (r.set i s)
      | none => .stuck)
    | .exc c fs r => .exc c fs r
    | .stuck => .stuck)
  | .exc c fs r => .exc c fs r
  | .stuck => .stuck)
  else .stuck) := rfl
@[simp] theorem z_isL1 (ns : List Int) : isLst (some (.own (dL ns))) = true := rfl
@[simp] theorem z_isL2 (ns : List D) : isLst (some (.own (.list ns))) = true := rfl
@[simp] theorem z_isL3 (ns : List D) : isLst (some (.io (.list ns))) = true := rfl
@[simp] theorem z_wr1 (g : D → Option (D × D)) (d : D) : wrAt g (some (.own d)) = (g d).map fun p => (.own p.1, p.2) := rfl
@[simp] theorem z_wr2 (g : D → Option (D × D)) (d : D) : wrAt g (some (.io d)) = (g d).map fun p => (.io p.1, p.2) := rfl
theorem ne_dT0 (ns : List Int) : oNe [dT ns, .tuple []] = some (.dat (.bool (decide (ns ≠ [])))) := oNe_dT ns []
theorem ne_dL0 (ns : List Int) : oNe [dL ns, .list []] = some (.dat (.bool (decide (ns ≠ [])))) := oNe_dL ns []
theorem range_1 (j : Int) : rangeOf [j] = if (inside j && decide (j ≤ 16777216)) = true then some (rangeL 0 1 j.toNat) else none := rfl
theorem range_3 (i j c : Int) : rangeOf [i, j, c] = if (inside i && inside j && decide (i - j ≤ 16777216) && decide (c = -1)) = true then some (rangeL i (-1) (i - j).toNat) else none := rfl
theorem range_int {c : Int} (h0 : 0 ≤ c) (h1 : c ≤ 1000) : rangeOf [c] = some ((List.range c.toNat).map fun i => .int (i : Int)) := by
  rw [range_1, if_pos (by simp [inside]; omega)]
  unfold rangeL
  simp
theorem range_down {i : Int} (h0 : -1 ≤ i) (h1 : i ≤ 1000) : rangeOf [i, -1, -1] = some ((List.range (i + 1).toNat).map fun k => .int (i - (k : Int))) := by
  rw [range_3, if_pos (by simp [inside]; omega)]
  unfold rangeL
  rw [show i - -1 = i + 1 by omega]
  congr 1
  apply List.map_congr_left
  intro a _
  congr 1
  omega
/-! ### dicts of ints to True -/
def dD (ks : List Int) : D := .dict (ks.map fun k => (.int k, .bool true))
def addK (ks : List Int) (k : Int) : List Int := if k ∈ ks then ks else ks ++ [k]
theorem any_dD (k : Int) : ∀ ks : List Int, ((ks.map fun k => ((.int k, .bool true) : D × D)).any fun p => PyData.eqv p.1 (.int k)) = decide (k ∈ ks)
  | [] => by simp
  | x :: ks => by
    rw [List.map_cons, List.any_cons, any_dD k ks]
    simp only [PyData.eqv, List.mem_cons]
    by_cases h : x = k
    · subst h; simp
    · have h' : ¬ k = x := fun z => h z.symm
      simp [h, h']
theorem put_dD (ks : List Int) (k : Int) : putKv (.int k) (.bool true) (ks.map fun k => ((.int k, .bool true) : D × D)) = (addK ks k).map fun k => (.int k, .bool true) := by
  unfold putKv addK
  rw [any_dD]
  by_cases h : k ∈ ks
  · rw [if_pos (by simpa using h), if_pos h, List.map_map]
    apply List.map_congr_left
    intro x _
    simp only [Function.comp]
    split <;> rfl
  · rw [if_neg (by simpa using h), if_neg h, List.map_append]
    rfl
theorem look_dD (k : Int) : ∀ ks : List Int, (lookKv (.int k) (ks.map fun k => (.int k, .bool true))).isSome = decide (k ∈ ks)
  | [] => by simp [lookKv]
  | x :: ks => by
    rw [List.map_cons]
    unfold lookKv
    simp only [PyData.eqv, List.mem_cons]
    by_cases h : x = k
    · subst h; simp
    · have h' : ¬ k = x := fun z => h z.symm
      simp [h, h', look_dD k ks]
theorem sto_dD (ks : List Int) (k : Int) (h : ks.length < sizeLine) : fStore (dD ks) (.int k) (.bool true) = some (dD (addK ks k)) := by
  unfold fStore dD
  simp only [keyD, List.length_map, Bool.true_and]
  rw [if_pos (by simpa using h), put_dD]
theorem oIn_dD (k : Int) (ks : List Int) : oIn [.int k, dD ks] = some (.dat (.bool (decide (k ∈ ks)))) := by
  unfold oIn dD
  simp only [inOf, keyD, if_true, look_dD, Option.map_some]
theorem lst_dD (ks : List Int) : oListA [dD ks] = some (.fresh (dL ks)) := by
  unfold dD dL oListA
  simp only [List.map_map]
  rfl
theorem sorted_dL (ks : List Int) : oSorted [dL ks] = some (.fresh (dL (isort ks))) := by
  unfold oSorted dL
  simp only [intsOf_map, Option.map_some]
theorem addK_mem (ks : List Int) (k x : Int) : x ∈ addK ks k ↔ x = k ∨ x ∈ ks := by
  unfold addK
  split
  · rename_i h
    constructor
    · exact .inr
    · rintro (e | e)
      · rw [e]; exact h
      · exact e
  · rw [List.mem_append, List.mem_singleton]
    exact Or.comm
theorem addK_nodup {ks : List Int} (h : ks.Nodup) (k : Int) : (addK ks k).Nodup := by
  unfold addK
  split
  · exact h
  · rename_i hk
    rw [List.nodup_append]
    refine ⟨h, by simp, fun a ha b hb e => ?_⟩
    simp at hb
    exact hk (by rw [← hb, ← e]; exact ha)
theorem addKs_mem (x : Int) : ∀ (l ks : List Int), x ∈ l.foldl addK ks ↔ x ∈ l ∨ x ∈ ks
  | [], ks => by simp
  | k :: l, ks => by
    rw [List.foldl_cons, addKs_mem x l, addK_mem, List.mem_cons]
    constructor
    · rintro (h | h | h)
      · exact .inl (.inr h)
      · exact .inl (.inl h)
      · exact .inr h
    · rintro ((h | h) | h)
      · exact .inr (.inl h)
      · exact .inl h
      · exact .inr (.inr h)
theorem addKs_nodup : ∀ (l : List Int) {ks : List Int}, ks.Nodup → (l.foldl addK ks).Nodup
  | [], _, h => h
  | k :: l, _, h => addKs_nodup l (addK_nodup h k)
theorem nodup_bound {ks : List Int} {n : Nat} (h : ks.Nodup) (hb : ∀ k ∈ ks, 0 ≤ k ∧ k < n) : ks.length ≤ n := by
  have h1 : (isort ks).Pairwise (· < ·) := by
    have hn : (isort ks).Nodup := (isort_perm ks).nodup_iff.mpr h
    have hs := isort_sorted ks
    have := List.Pairwise.and hs hn
    exact this.imp fun {a b} ⟨h1, h2⟩ => by omega
  have hl := (isort_perm ks).length_eq
  have key : ∀ (g : List Int) (a : Int), g.Pairwise (· < ·) → (∀ k ∈ g, a ≤ k ∧ k < n) → a ≤ n → (g.length : Int) ≤ n - a := by
    intro g
    induction g with
    | nil => intro a _ _ h; simp; omega
    | cons x g ih =>
      intro a h1 h2 h3
      rw [List.pairwise_cons] at h1
      have hx := h2 x List.mem_cons_self
      have := ih (x + 1) h1.2 (fun k hk => ⟨by have := h1.1 k hk; omega, (h2 k (List.mem_cons_of_mem _ hk)).2⟩) (by omega)
      simp only [List.length_cons]
      omega
  have := key (isort ks) 0 h1 (fun k hk => hb k ((isort_perm ks).mem_iff.mp hk)) (by omega)
  omega
theorem isort_same {a b : List Int} (h1 : a.Nodup) (h2 : b.Nodup) (h : ∀ x, x ∈ a ↔ x ∈ b) : isort a = isort b := by
  have p : a.Perm b := (List.perm_ext_iff_of_nodup h1 h2).mpr h
  exact sort_uniq ((isort_perm a).trans (p.trans (isort_perm b).symm)) (isort_sorted a) (isort_sorted b)
@[simp] theorem z_sto (i : Nat) (f : D → D → D → Option D) (m mk : M Rs) (r : Ev) : storeS i f m mk r = (match m r with
  | .ok x r => (match hold x r with
    | .ok x r => (match keep x r with
      | .ok v r => storeK i f v mk r
      | .exc c fs r => .exc c fs r
      | .stuck => .stuck)
    | .exc c fs r => .exc c fs r
    | .stuck => .stuck)
  | .exc c fs r => .exc c fs r
  | .stuck => .stuck) := rfl
@[simp] theorem z_stoK (i : Nat) (f : D → D → D → Option D) (v : D) (mk : M Rs) (r : Ev) : storeK i f v mk r = (if isBox r[i]? then (match mk r with
  | .ok k r => (match hold k r with
    | .ok k r => (match look k r with
      | .ok k r => (match wrAt (fun d => (f d k v).map fun e => (e, .none)) r[i]? with
        | some (s, _) => .ok .next (r.set i s)
        | none => .stuck)
      | .exc c fs r => .exc c fs r
      | .stuck => .stuck)
    | .exc c fs r => .exc c fs r
    | .stuck => .stuck)
  | .exc c fs r => .exc c fs r
  | .stuck => .stuck)
  else .stuck) := rfl
@[simp] theorem z_box1 (d : D) : isBox (some (.own d)) = true := rfl
@[simp] theorem z_box2 (d : D) : isBox (some (.io d)) = true := rfl
/-! ### loops that draw -/
theorem lc_sub {β γ : Type} {own : List Nat} {tg : D → M Unit} {test : M Bool} {elt : M Rs} {g : β → D} {enc : β → D} {E : γ → Ev} {I : γ → Prop} : ∀ (xs : List β) (s : γ), I s →
    (∀ s x, x ∈ xs → I s → ∃ b r1 r2 s', tg (enc x) (E s) = .ok () r1 ∧ test r1 = .ok b r2 ∧ (b = true → ∃ y, elt r2 = .ok y r2 ∧ y.dv = some (g x)) ∧ hideFrom own [] 0 r2 = E s' ∧ I s') →
    ∃ (ys : List β) (s' : γ), lcL own tg test elt (xs.map enc) (E s) = .ok (ys.map g) (E s') ∧ ys.Sublist xs ∧ I s'
  | [], s, hI, _ => ⟨[], s, rfl, .slnil, hI⟩
  | x :: xs, s, hI, h => by
    obtain ⟨b, r1, r2, s', e1, e2, e3, e4, e5⟩ := h s x List.mem_cons_self hI
    obtain ⟨ys, s2, f1, f2, f3⟩ := lc_sub xs s' e5 fun s y hy => h s y (List.mem_cons_of_mem _ hy)
    rw [List.map_cons]
    unfold lcL
    cases b with
    | false =>
      refine ⟨ys, s2, ?_, f2.cons x, f3⟩
      simp only [e1, e2, e4, f1]
    | true =>
      obtain ⟨y, g1, g2⟩ := e3 rfl
      refine ⟨x :: ys, s2, ?_, f2.cons₂ x, f3⟩
      simp only [e1, e2, g1, hold_dv g2, keep, e4, f1, List.map_cons]
theorem for_ex {β γ : Type} {E : γ → Ev} {enc : β → D} {tg : D → M Unit} {body : M Fl} {r0 : Ev} {I : Nat → γ → Prop} (xs : List β) (s : γ) (hs : I 0 s)
    (h : ∀ (i : Nat) (hi : i < xs.length) (s : γ), I i s → ∃ r1 r2 s', tg (enc xs[i]) (E s) = .ok () r1 ∧ body r1 = .ok .next r2 ∧ forget r0 r2 = E s' ∧ I (i + 1) s') : ∃ s', forL r0 tg body (xs.map enc) (E s) = .ok .next (E s') ∧ I xs.length s' := by
  have key : ∀ (m i : Nat) (s : γ), i + m = xs.length → I i s → ∃ s', forL r0 tg body ((xs.drop i).map enc) (E s) = .ok .next (E s') ∧ I xs.length s' := by
    intro m
    induction m with
    | zero =>
      intro i s hi hI
      rw [List.drop_eq_nil_of_le (by omega)]
      exact ⟨s, rfl, by rw [← hi]; exact hI⟩
    | succ m ih =>
      intro i s hi hI
      obtain ⟨r1, r2, s', e1, e2, e3, e4⟩ := h i (by omega) s hI
      rw [List.drop_eq_getElem_cons (by omega : i < xs.length), List.map_cons]
      unfold forL
      simp only [e1, e2, e3]
      exact ih (i + 1) s' (by omega) e4
  exact key xs.length 0 s (by omega) hs
@[simp] theorem z_sets (is : List Nat) (ms : List (M Rs)) (r : Ev) : setsS is ms r = (match valN ms r with
  | .ok xs r => (match putN is xs r with
    | .ok _ r => .ok .next r
    | .exc c fs r => .exc c fs r
    | .stuck => .stuck)
  | .exc c fs r => .exc c fs r
  | .stuck => .stuck) := rfl
@[simp] theorem z_valN0 (r : Ev) : valN [] r = .ok [] r := rfl
@[simp] theorem z_valN1 (m : M Rs) (ms : List (M Rs)) (r : Ev) : valN (m :: ms) r = (match val1 m r with
    | .ok x r => (match valN ms r with
      | .ok xs r => .ok (x :: xs) r
      | .exc c fs r => .exc c fs r
      | .stuck => .stuck)
    | .exc c fs r => .exc c fs r
    | .stuck => .stuck) := rfl
@[simp] theorem z_putN0 (r : Ev) : putN [] [] r = .ok () r := rfl
@[simp] theorem z_putN1 (i : Nat) (is : List Nat) (x : Ro) (xs : List Ro) (r : Ev) : putN (i :: is) (x :: xs) r = (match put1 i x r with
    | .ok _ r => putN is xs r
    | .exc c fs r => .exc c fs r
    | .stuck => .stuck) := rfl
end Ip

set_option Elab.async false
set_option linter.all false
set_option maxRecDepth 100000
set_option maxHeartbeats 1000000
/-! Nets as data. -/
namespace Ip
open PySem L2
/-! ### nets as data -/
def dG (gs : List (List Int)) : D := .tuple (gs.map dT)
def dN (n : Int) (gs : List (List Int)) : D := .tuple [.int n, dG gs]
@[simp] theorem net_0 (n : Int) (gs : List (List Int)) : oIx [dN n gs, .int 0] = some (.dat (.int n)) := by simp [dN]
@[simp] theorem net_1 (n : Int) (gs : List (List Int)) : oIx [dN n gs, .int 1] = some (.dat (dG gs)) := by simp [dN]
@[simp] theorem net_len (n : Int) (gs : List (List Int)) : oLen [dN n gs] = some (.dat (.int 2)) := by simp [dN]
@[simp] theorem net_ty (t : Ty) (n : Int) (gs : List (List Int)) : tyOf t (dN n gs) = tyOf t (.tuple []) := by cases t <;> rfl
@[simp] theorem gat_len (gs : List (List Int)) : oLen [dG gs] = some (.dat (.int gs.length)) := by simp [dG]
@[simp] theorem gat_ty (t : Ty) (gs : List (List Int)) : tyOf t (dG gs) = tyOf t (.tuple []) := by cases t <;> rfl
@[simp] theorem gat_it (gs : List (List Int)) : items (dG gs) = some (gs.map dT) := rfl
theorem gat_ix (gs : List (List Int)) (k : Int) : oIx [dG gs, .int k] = (atI gs k).map fun g => .dat (dT g) := by
  unfold dG
  rw [z_ix2, atI_map, Option.map_map]
  rfl
structure NetOk (n : Int) (gs : List (List Int)) : Prop where
  lo : 1 ≤ n
  hi : n ≤ 3
  len : gs.length ≤ 8
  asc : ∀ (i : Nat) (g : List Int), gs[i]? = some g → g.Pairwise (· < ·)
  rng : ∀ (i : Nat) (g : List Int), gs[i]? = some g → ∀ k ∈ g, 0 ≤ k ∧ k < n + i
theorem asc_len {g : List Int} {n : Nat} : g.Pairwise (· < ·) → (∀ k ∈ g, 0 ≤ k ∧ k < n) → g.length ≤ n := by
  intro h1 h2
  have key : ∀ (g : List Int) (a : Int), g.Pairwise (· < ·) → (∀ k ∈ g, a ≤ k ∧ k < n) → a ≤ n → (g.length : Int) ≤ n - a := by
    intro g
    induction g with
    | nil => intro a _ _ h; simp; omega
    | cons x g ih =>
      intro a h1 h2 h3
      rw [List.pairwise_cons] at h1
      have hx := h2 x List.mem_cons_self
      have := ih (x + 1) h1.2 (fun k hk => ⟨by have := h1.1 k hk; omega, (h2 k (List.mem_cons_of_mem _ hk)).2⟩) (by omega)
      simp only [List.length_cons]
      omega
  have := key g 0 h1 h2 (by omega)
  omega
end Ip

set_option Elab.async false
set_option linter.all false
set_option maxRecDepth 100000
set_option maxHeartbeats 1000000
/-! What the core gives, as typed reckonings: each rule for one construct. -/
namespace Ip
open PySem L2
/-- a reckoning: its value, an error, or nothing known -/
inductive Rt (α : Type) where
  | ok (a : α) | exc (c : Nat) (fs : List D) | stuck
namespace Rt
def bind {α β : Type} : Rt α → (α → Rt β) → Rt β
  | .ok a, f => f a
  | .exc c fs, _ => .exc c fs
  | .stuck, _ => .stuck
def opt {α : Type} : Option α → Rt α
  | some a => .ok a
  | none => .stuck
/-- no error here -/
def nox {α : Type} : Rt α → Rt α
  | .ok a => .ok a
  | _ => .stuck
def gd {α : Type} (c : Bool) (a : α) : Rt α := if c then .ok a else .stuck
@[simp] theorem bind_ok {α β : Type} (a : α) (f : α → Rt β) : (Rt.ok a).bind f = f a := rfl
@[simp] theorem bind_exc {α β : Type} (c : Nat) (fs : List D) (f : α → Rt β) : (Rt.exc c fs : Rt α).bind f = .exc c fs := rfl
@[simp] theorem bind_stuck {α β : Type} (f : α → Rt β) : (Rt.stuck : Rt α).bind f = .stuck := rfl
@[simp] theorem opt_some {α : Type} (a : α) : Rt.opt (some a) = .ok a := rfl
@[simp] theorem opt_none {α : Type} : Rt.opt (none : Option α) = .stuck := rfl
@[simp] theorem nox_ok {α : Type} (a : α) : (Rt.ok a).nox = .ok a := rfl
@[simp] theorem gd_true {α : Type} (a : α) : Rt.gd true a = .ok a := rfl
theorem gd_of {α : Type} {c : Bool} (h : c = true) (a : α) : Rt.gd c a = .ok a := by rw [h]; rfl
theorem bind_assoc {α β γ : Type} (o : Rt α) (f : α → Rt β) (g : β → Rt γ) : (o.bind f).bind g = o.bind fun a => (f a).bind g := by cases o <;> rfl
end Rt
/-- go on, or the answer is there -/
inductive Lp (σ ρ : Type) where
  | go (s : σ) | out (v : ρ)
/-! ### what is seen of a result -/
abbrev Ob (X : Type) := Rs → Ev → Option X
def obV : Ob D
  | .dat d, _ => some d
  | .fresh d, _ => some d
  | .var i, r => held r[i]?
def obD : Ob D
  | .dat d, _ => some d
  | .fresh d, _ => some d
  | .var _, _ => none
def obC : Ob Sl
  | .dat d, _ => some (.dat d)
  | .fresh d, _ => some (.dat d)
  | .var i, r => (held r[i]?).map .bor
def obR : Ob Ro
  | .dat d, _ => some (.dat d)
  | .fresh d, _ => some (.fresh d)
  | .var _, _ => none
/-! ### relations -/
def EK {α : Type} (r : Ev) (m : M Rs) (o : Rt α) (k : α → Rs) : Prop := match o with
  | .ok a => m r = .ok (k a) r
  | .exc c fs => ∃ r', m r = .exc c fs r'
  | .stuck => True
def GK {α X : Type} (ob : Ob X) (r : Ev) (m : M Rs) (o : Rt α) (e : α → X) : Prop := match o with
  | .ok a => ∃ x, m r = .ok x r ∧ ob x r = some (e a)
  | .exc c fs => ∃ r', m r = .exc c fs r'
  | .stuck => True
def ET (r : Ev) (m : M Rs) (x : Rs) : Prop := m r = .ok x r
def GT {X : Type} (ob : Ob X) (r : Ev) (m : M Rs) (d : X) : Prop := ∃ x, m r = .ok x r ∧ ob x r = some d
def TK (r : Ev) (m : M Bool) (o : Rt Bool) : Prop := match o with
  | .ok a => m r = .ok a r
  | .exc c fs => ∃ r', m r = .exc c fs r'
  | .stuck => True
def TT (r : Ev) (m : M Bool) (b : Bool) : Prop := m r = .ok b r
/-- .. with a state that is changed on the way -/
def ES {σ α : Type} (E : σ → Ev) (s : σ) (m : M Rs) (o : Rt (α × σ)) (k : α → Rs) : Prop := match o with
  | .ok a => m (E s) = .ok (k a.1) (E a.2)
  | .exc c fs => ∃ r', m (E s) = .exc c fs r'
  | .stuck => True
def GS {σ α X : Type} (ob : Ob X) (E : σ → Ev) (s : σ) (m : M Rs) (o : Rt (α × σ)) (e : α → X) : Prop := match o with
  | .ok a => ∃ x, m (E s) = .ok x (E a.2) ∧ ∀ s', ob x (E s') = some (e a.1)
  | .exc c fs => ∃ r', m (E s) = .exc c fs r'
  | .stuck => True
def TS {σ : Type} (E : σ → Ev) (s : σ) (m : M Bool) (o : Rt (Bool × σ)) : Prop := match o with
  | .ok a => m (E s) = .ok a.1 (E a.2)
  | .exc c fs => ∃ r', m (E s) = .exc c fs r'
  | .stuck => True
def OpK {α : Type} (v : Option Ro) (o : Rt α) (k : α → Rs) : Prop := match o with
  | .ok a => v.map Ro.rs = some (k a)
  | .exc c fs => False
  | .stuck => True
def OpT (v : Option Ro) (x : Rs) : Prop := v.map Ro.rs = some x
def CallK {α : Type} (n : Nat) (c : CR) (o : Rt α) (k : α → Ro) : Prop := match o with
  | .ok a => ∃ os, c = .ok (k a) os ∧ os.length = n
  | .exc x fs => c = .exc x fs
  | .stuck => True
/-- a call that changes what it is handed -/
def CallS {α σ : Type} (c : CR) (o : Rt (α × σ)) (k : α → Ro) (os : σ → List (Option D)) : Prop := match o with
  | .ok a => c = .ok (k a.1) (os a.2)
  | .exc x fs => c = .exc x fs
  | .stuck => True
section
variable {α β γ δ η σ ρ X : Type} {r r' q : Ev} {m : M Rs} {ms : List (M Rs)} {E : σ → Ev} {s : σ} {ob : Ob X}
/-! ### from one to the other -/
theorem ET.gt {x : Rs} {d : X} (h : ET r m x) (l : ob x r = some d) : GT ob r m d := ⟨x, h, l⟩
theorem ET.ek {a : α} {k : α → Rs} (h : ET r m (k a)) : EK r m (.ok a) k := h
theorem EK.gk {o : Rt α} {k : α → Rs} {e : α → X} (h : EK r m o k) (l : ∀ a, ob (k a) r = some (e a)) : GK ob r m o e := by
  cases o with
  | ok a => exact ⟨_, h, l a⟩
  | exc c fs => exact h
  | stuck => trivial
theorem GT.gk {a : α} {d : X} {e : α → X} (h : GT ob r m d) (l : d = e a) : GK ob r m (.ok a) e := by subst l; exact h
theorem TT.tk {m : M Bool} {b : Bool} (h : TT r m b) : TK r m (.ok b) := h
theorem ES.gs {o : Rt (α × σ)} {k : α → Rs} {e : α → X} (h : ES E s m o k) (l : ∀ a s', ob (k a) (E s') = some (e a)) : GS ob E s m o e := by
  cases o with
  | ok a => exact ⟨_, h, l a.1⟩
  | exc c fs => exact h
  | stuck => trivial
/-- nothing is changed: the state stays -/
theorem EK.es {o : Rt α} {k : α → Rs} (h : EK (E s) m o k) : ES E s m (o.bind fun a => .ok (a, s)) k := by
  cases o with
  | ok a => exact h
  | exc c fs => exact h
  | stuck => trivial
theorem TK.ts {o : Rt Bool} {m : M Bool} (h : TK (E s) m o) : TS E s m (o.bind fun a => .ok (a, s)) := by
  cases o with
  | ok a => exact h
  | exc c fs => exact h
  | stuck => trivial
/-- the state is a part of a greater one, seen at one place -/
theorem hold_dat (x : Rs) (r : Ev) : ∃ y, hold x r = .ok y r ∧ (∀ d, obV x r = some d → look y r = .ok d r) ∧ (∀ d, obD x r = some d → keep y r = .ok d r) ∧ (∀ d, obC x r = some d → slArg false y r = some d) ∧ (∀ k d, x.dv = some d → slArg k y r = some (.dat d) ∧ y = .dat d) := by
  cases x with
  | dat d => exact ⟨.dat d, rfl, (fun _ h => by cases h; rfl), (fun _ h => by cases h; rfl), (fun _ h => by cases h; rfl), fun k _ h => by cases h; exact ⟨by cases k <;> rfl, rfl⟩⟩
  | fresh d => exact ⟨.dat d, rfl, (fun _ h => by cases h; rfl), (fun _ h => by cases h; rfl), (fun _ h => by cases h; rfl), fun k _ h => by cases h; exact ⟨by cases k <;> rfl, rfl⟩⟩
  | var i => exact ⟨.var i, rfl, (fun d h => by
      have h' : held r[i]? = some d := h
      show lift (held r[i]?) r = _
      rw [h']; rfl), (fun _ h => by cases h), (fun _ h => h), fun k _ h => by cases h⟩
/-! ### arguments -/
def hel : Rs → Rs
  | .fresh d => .dat d
  | .dat d => .dat d
  | .var i => .var i
theorem hold_hel (x : Rs) (r : Ev) : hold x r = .ok (hel x) r := by cases x <;> rfl
inductive AX (ob : Ob X) (r : Ev) : List (M Rs) → Rt η → (List X → Rt η → Prop) → Prop
  | nil {o : Rt η} {Q : List X → Rt η → Prop} : Q [] o → AX ob r [] o Q
  | tot {m : M Rs} {ms : List (M Rs)} {o : Rt η} {Q : List X → Rt η → Prop} {d : X} : GT ob r m d → AX ob r ms o (fun ds o' => Q (d :: ds) o') → AX ob r (m :: ms) o Q
  | par {α : Type} {m : M Rs} {ms : List (M Rs)} {oa : Rt α} {rest : α → Rt η} {Q : List X → Rt η → Prop} {e : α → X} : GK ob r m oa e → (∀ a, AX ob r ms (rest a) (fun ds o' => Q (e a :: ds) o')) → AX ob r (m :: ms) (oa.bind rest) Q
inductive AT (ob : Ob X) (r : Ev) : List (M Rs) → List X → Prop
  | nil : AT ob r [] []
  | cons {m : M Rs} {ms : List (M Rs)} {d : X} {ds : List X} : GT ob r m d → AT ob r ms ds → AT ob r (m :: ms) (d :: ds)
theorem ax_go : ∀ {ms : List (M Rs)} {o : Rt η} {Q : List X → Rt η → Prop}, AX ob r ms o Q → (∃ (xs : List Rs) (ds : List X), args ms r = .ok (xs.map hel) r ∧ xs.length = ds.length ∧ (∀ (i : Nat) (x : Rs), xs[i]? = some x → ∃ d, ds[i]? = some d ∧ ob x r = some d) ∧ Q ds o) ∨ (∃ c fs r', o = .exc c fs ∧ args ms r = .exc c fs r') ∨ o = .stuck := by
  intro ms o Q h
  induction h with
  | nil h => exact .inl ⟨[], [], rfl, rfl, (fun i x z => by simp at z), h⟩
  | tot g _ ih =>
    obtain ⟨x, e1, e2⟩ := g
    have hh := hold_hel x r
    rcases ih with ⟨xs, ds, a, l, b, c⟩ | ⟨c, fs, r', a, b⟩ | a
    · refine .inl ⟨x :: xs, _ :: ds, by simp only [args, e1, hh, a, List.map_cons], by simp [l], fun i y z => ?_, c⟩
      cases i with
      | zero => simp at z; subst z; exact ⟨_, rfl, e2⟩
      | succ i => exact b i y (by simpa using z)
    · exact .inr (.inl ⟨c, fs, r', a, by simp only [args, e1, hh, b]⟩)
    · exact .inr (.inr a)
  | par g _ ih =>
    rename_i oa rest Q e _
    cases oa with
    | stuck => exact .inr (.inr rfl)
    | exc c fs =>
      obtain ⟨r', h⟩ := g
      exact .inr (.inl ⟨c, fs, r', rfl, by simp only [args, h]⟩)
    | ok a0 =>
      obtain ⟨x, e1, e2⟩ := g
      have hh := hold_hel x r
      rcases ih a0 with ⟨xs, ds, a, l, b, c⟩ | ⟨c, fs, r', a, b⟩ | a
      · refine .inl ⟨x :: xs, _ :: ds, by simp only [args, e1, hh, a, List.map_cons], by simp [l], fun i y z => ?_, c⟩
        cases i with
        | zero => simp at z; subst z; exact ⟨_, rfl, e2⟩
        | succ i => exact b i y (by simpa using z)
      · exact .inr (.inl ⟨c, fs, r', a, by simp only [args, e1, hh, b]⟩)
      · exact .inr (.inr a)
theorem looks_all : ∀ {xs : List Rs} {ds : List D}, xs.length = ds.length → (∀ (i : Nat) (x : Rs), xs[i]? = some x → ∃ d, ds[i]? = some d ∧ obV x r = some d) → looks (xs.map hel) r = .ok ds r
  | [], [], _, _ => rfl
  | [], _ :: _, h, _ => by simp at h
  | _ :: _, [], h, _ => by simp at h
  | x :: xs, d :: ds, h, g => by
    obtain ⟨d', h1, h2⟩ := g 0 x rfl
    cases h1
    have ih := looks_all (xs := xs) (ds := ds) (by simpa using h) fun i y z => g (i + 1) y (by simpa using z)
    have hl : look (hel x) r = .ok d r := by
      cases x with
      | dat z => cases h2; rfl
      | fresh z => cases h2; rfl
      | var i =>
        have h2' : held r[i]? = some d := h2
        show lift (held r[i]?) r = _
        rw [h2']; rfl
    simp only [List.map_cons, looks, hl, ih]
theorem keeps_all : ∀ {xs : List Rs} {ds : List D}, xs.length = ds.length → (∀ (i : Nat) (x : Rs), xs[i]? = some x → ∃ d, ds[i]? = some d ∧ obD x r = some d) → keeps (xs.map hel) r = .ok ds r
  | [], [], _, _ => rfl
  | [], _ :: _, h, _ => by simp at h
  | _ :: _, [], h, _ => by simp at h
  | x :: xs, d :: ds, h, g => by
    obtain ⟨d', h1, h2⟩ := g 0 x rfl
    cases h1
    have ih := keeps_all (xs := xs) (ds := ds) (by simpa using h) fun i y z => g (i + 1) y (by simpa using z)
    have hl : keep (hel x) r = .ok d r := by
      cases x with
      | dat z => cases h2; rfl
      | fresh z => cases h2; rfl
      | var i => cases h2
    simp only [List.map_cons, keeps, hl, ih]
theorem slArgs_all : ∀ {mu : List Bool} {xs : List Rs} {ds : List Sl}, mu.any id = false → mu.length = xs.length → xs.length = ds.length → (∀ (i : Nat) (x : Rs), xs[i]? = some x → ∃ d, ds[i]? = some d ∧ obC x r = some d) → slArgs mu (xs.map hel) r = some ds
  | [], [], [], _, _, _, _ => rfl
  | _, [], _ :: _, _, _, h, _ => by simp at h
  | _, _ :: _, [], _, _, h, _ => by simp at h
  | [], _ :: _, _, _, h, _, _ => by simp at h
  | _ :: _, [], _, _, h, _, _ => by simp at h
  | k :: mu, x :: xs, d :: ds, hm, hl, h, g => by
    simp only [List.any_cons, Bool.or_eq_false_iff, id] at hm
    obtain ⟨rfl, hm⟩ := hm
    obtain ⟨d', h1, h2⟩ := g 0 x rfl
    cases h1
    have ih := slArgs_all (mu := mu) (xs := xs) (ds := ds) hm (by simpa using hl) (by simpa using h) fun i y z => g (i + 1) y (by simpa using z)
    have hs : slArg false (hel x) r = some d := by
      cases x with
      | dat z => cases h2; rfl
      | fresh z => cases h2; rfl
      | var i => exact h2
    simp only [List.map_cons, slArgs, hs, ih]
theorem sep1_no {k : Bool} (i : Nat) (hk : k = false) : ∀ {mu : List Bool} {xs : List Rs}, mu.any id = false → sep1 k i mu xs = true
  | [], _, _ => by unfold sep1; rfl
  | _ :: _, [], _ => by unfold sep1; rfl
  | k' :: mu, x :: xs, hm => by
    simp only [List.any_cons, Bool.or_eq_false_iff, id] at hm
    have ih := sep1_no i hk (xs := xs) hm.2
    cases x with
    | var j => unfold sep1; rw [ih, hk, hm.1]; simp
    | dat d => unfold sep1; exact ih
    | fresh d => unfold sep1; exact ih
theorem sepOk_no : ∀ {mu : List Bool} {xs : List Rs}, mu.any id = false → Ip.sepOk mu xs = true
  | [], _, _ => by unfold Ip.sepOk; rfl
  | _ :: _, [], _ => by unfold Ip.sepOk; rfl
  | k :: mu, x :: xs, hm => by
    simp only [List.any_cons, Bool.or_eq_false_iff, id] at hm
    have ih := sepOk_no (xs := xs) hm.2
    cases x with
    | var j => unfold Ip.sepOk; rw [ih, sep1_no j hm.1 hm.2]; rfl
    | dat d => unfold Ip.sepOk; exact ih
    | fresh d => unfold Ip.sepOk; exact ih
theorem putBack_no : ∀ {mu : List Bool} {xs : List Rs} {os : List (Option D)}, mu.any id = false → mu.length = xs.length → os.length = xs.length → putBack mu xs os r = some r
  | [], [], _, _, _, _ => by unfold putBack; rfl
  | [], _ :: _, _, _, h, _ => by simp at h
  | _ :: _, [], _, _, h, _ => by simp at h
  | _ :: _, _ :: _, [], _, _, h => by simp at h
  | k :: mu, x :: xs, o :: os, hm, hl, ho => by
    simp only [List.any_cons, Bool.or_eq_false_iff, id] at hm
    have ih := putBack_no (xs := xs) (os := os) hm.2 (by simpa using hl) (by simpa using ho)
    have hb : back1 k x o r = some r := by rw [hm.1]; cases x <;> cases o <;> rfl
    unfold putBack
    simp only [hb, ih]
theorem ek_prim {f : Op} {o : Rt α} {k : α → Rs} (h : AX obV r ms o fun ds o' => OpK (f ds) o' k) : EK r (prim f ms) o k := by
  rcases ax_go h with ⟨xs, ds, a, l, b, c⟩ | ⟨c, fs, r', a, b⟩ | a
  · cases o with
    | stuck => trivial
    | exc c fs => exact c.elim
    | ok v =>
      show prim f ms r = _
      unfold prim
      rw [a]
      simp only [looks_all l b]
      obtain ⟨ro, e1, e2⟩ := Option.map_eq_some_iff.mp c
      rw [e1, ← e2]
      rfl
  · subst a
    exact ⟨r', by unfold prim; rw [b]⟩
  · subst a; trivial
theorem ax_mono {ms : List (M Rs)} {o : Rt η} {Q : List X → Rt η → Prop} (h : AX ob r ms o Q) : ∀ {Q' : List X → Rt η → Prop}, (∀ ds o, Q ds o → Q' ds o) → AX ob r ms o Q' := by
  induction h with
  | nil h => intro Q' i; exact .nil (i _ _ h)
  | tot g _ ih => intro Q' i; exact .tot g (ih fun ds o h => i _ _ h)
  | par g _ ih => intro Q' i; exact .par g fun a => ih a fun ds o h => i _ _ h
theorem at_go : ∀ {ms : List (M Rs)} {ds : List X}, AT ob r ms ds → AX (η := Unit) ob r ms (.ok ()) fun ds' o' => ds' = ds ∧ o' = .ok () := by
  intro ms ds h
  induction h with
  | nil => exact .nil ⟨rfl, rfl⟩
  | cons g _ ih =>
    refine .tot g ?_
    exact ax_mono ih fun ds' o e => ⟨by rw [e.1], e.2⟩
theorem et_prim {f : Op} {ds : List D} {x : Rs} (h : AT obV r ms ds) (hf : OpT (f ds) x) : ET r (prim f ms) x :=
  ek_prim (o := .ok ()) (k := fun _ => x) (ax_mono (at_go h) fun ds' o' e => by rw [e.1, e.2]; exact hf)
theorem sz_small {n : Nat} (h : n ≤ 1000) : n ≤ sizeLine := by rw [sizeLine_eq]; omega
theorem ax_len {n : Nat} : ∀ {ms : List (M Rs)} {o : Rt η} {Q : List X → Rt η → Prop}, AX ob r ms o Q → AX ob r ms o fun ds o' => Q ds o' ∧ ds.length = ms.length := by
  intro ms o Q h
  induction h with
  | nil h => exact .nil ⟨h, rfl⟩
  | tot g _ ih => exact .tot g (ax_mono ih fun ds o h => ⟨h.1, by simp [h.2]⟩)
  | par g _ ih => exact .par g fun a => ax_mono (ih a) fun ds o h => ⟨h.1, by simp [h.2]⟩
theorem ek_tup {o : Rt α} {k : α → D} (h : AX obD r ms o fun ds o' => ∃ a, o' = .ok a ∧ k a = .tuple ds) (hl : ms.length ≤ 1000) : EK r (tupV ms) o (fun a => .dat (k a)) := by
  rcases ax_go (ax_len (n := 0) h) with ⟨xs, ds, a, l, b, ⟨v, rfl, e⟩, z⟩ | ⟨c, fs, r', a, b⟩ | a
  · show tupV ms r = _
    unfold tupV
    rw [a]
    simp only [keeps_all l b]
    rw [if_pos (sz_small (by omega)), e]
  · subst a
    exact ⟨r', by unfold tupV; rw [b]⟩
  · subst a; trivial
theorem ek_lst {o : Rt α} {k : α → D} (h : AX obD r ms o fun ds o' => ∃ a, o' = .ok a ∧ k a = .list ds) (hl : ms.length ≤ 1000) : EK r (lstV ms) o (fun a => .fresh (k a)) := by
  rcases ax_go (ax_len (n := 0) h) with ⟨xs, ds, a, l, b, ⟨v, rfl, e⟩, z⟩ | ⟨c, fs, r', a, b⟩ | a
  · show lstV ms r = _
    unfold lstV
    rw [a]
    simp only [keeps_all l b]
    rw [if_pos (sz_small (by omega)), e]
  · subst a
    exact ⟨r', by unfold lstV; rw [b]⟩
  · subst a; trivial
theorem et_tup {ds : List D} (h : AT obD r ms ds) (hl : ms.length ≤ 1000) : ET r (tupV ms) (.dat (.tuple ds)) :=
  ek_tup (o := .ok ()) (k := fun _ => .tuple ds) (ax_mono (at_go h) fun _ _ e => ⟨(), by cases e.2; rfl, by rw [e.1]⟩) hl
theorem et_lst {ds : List D} (h : AT obD r ms ds) (hl : ms.length ≤ 1000) : ET r (lstV ms) (.fresh (.list ds)) :=
  ek_lst (o := .ok ()) (k := fun _ => .list ds) (ax_mono (at_go h) fun _ _ e => ⟨(), by cases e.2; rfl, by rw [e.1]⟩) hl
/-- a call of one's own def that changes nothing -/
theorem ek_call {g : List Sl → CR} {mu : List Bool} {o : Rt α} {k : α → Ro} (hm : mu.any id = false) (hn : mu.length = ms.length) (h : AX obC r ms o fun ss o' => CallK ms.length (g ss) o' k) : EK r (callV g mu ms) o (fun a => (k a).rs) := by
  rcases ax_go (ax_len (n := 0) h) with ⟨xs, ds, a, l, b, c, z⟩ | ⟨c, fs, r', a, b⟩ | a
  · have e1 := slArgs_all hm (by omega) l b
    have e2 := sepOk_no (xs := xs.map hel) hm
    cases o with
    | stuck => trivial
    | exc x fs =>
      refine ⟨r, ?_⟩
      have c : g ds = .exc x fs := c
      unfold callV
      simp only [a, e1, e2, c, if_true, noMu, hm]
      rfl
    | ok v =>
      obtain ⟨os, c1, c2⟩ := c
      show callV g mu ms r = _
      unfold callV
      simp only [a, e1, e2, c1, if_true, putBack_no (r := r) (os := os) (xs := xs.map hel) hm (by rw [List.length_map]; omega) (by rw [List.length_map]; omega)]
  · subst a
    exact ⟨r', by unfold callV; rw [b]⟩
  · subst a; trivial
/-! ### tests -/
theorem tk_tst {o : Rt Bool} (h : EK r m o fun b => .dat (.bool b)) : TK r (tst m) o := by
  cases o with
  | ok b =>
    have h : m r = .ok (.dat (.bool b)) r := h
    show tst m r = _
    unfold tst
    rw [h]
    rfl
  | exc c fs => obtain ⟨r', h⟩ := h; exact ⟨r', by unfold tst; rw [h]⟩
  | stuck => trivial
theorem tt_tst {b : Bool} (h : ET r m (.dat (.bool b))) : TT r (tst m) b := tk_tst (o := .ok b) h
theorem tt_kb (b : Bool) : TT r (kb b) b := rfl
theorem tk_cond {c a b : M Bool} {oc oa ob : Rt Bool} (hc : TK r c oc) (ha : TK r a oa) (hb : TK r b ob) : TK r (Ip.cond c a b) (oc.bind fun t => if t then oa else ob) := by
  cases oc with
  | ok t =>
    have hc : c r = .ok t r := hc
    cases t with
    | true =>
      simp only [Rt.bind, if_true]
      have e : Ip.cond c a b r = a r := by unfold Ip.cond; rw [hc]
      unfold TK at ha ⊢
      rw [e]; exact ha
    | false =>
      simp only [Rt.bind]
      have e : Ip.cond c a b r = b r := by unfold Ip.cond; rw [hc]
      unfold TK at hb ⊢
      rw [e]; exact hb
  | exc x fs => obtain ⟨r', h⟩ := hc; exact ⟨r', by unfold Ip.cond; rw [h]⟩
  | stuck => trivial
theorem tt_cond {c a b : M Bool} {tc ta tb : Bool} (hc : TT r c tc) (ha : TT r a ta) (hb : TT r b tb) : TT r (Ip.cond c a b) (if tc then ta else tb) := by
  cases tc with
  | true => show Ip.cond c a b r = _; unfold Ip.cond; rw [show c r = _ from hc]; exact ha
  | false => show Ip.cond c a b r = _; unfold Ip.cond; rw [show c r = _ from hc]; exact hb
theorem tk_not {a : M Bool} {o : Rt Bool} (h : TK r a o) : TK r (notB a) (o.bind fun t => .ok (!t)) := by
  cases o with
  | ok t =>
    have h : a r = .ok t r := h
    show notB a r = _
    unfold notB Ip.cond
    rw [h]
    cases t <;> rfl
  | exc x fs => obtain ⟨r', h⟩ := h; exact ⟨r', by unfold notB Ip.cond; rw [h]⟩
  | stuck => trivial
theorem tt_not {a : M Bool} {t : Bool} (h : TT r a t) : TT r (notB a) (!t) := tk_not (o := .ok t) h
theorem tk_and {a b : M Bool} {oa ob : Rt Bool} (ha : TK r a oa) (hb : TK r b ob) : TK r (andB a b) (oa.bind fun t => if t then ob else .ok false) := tk_cond (ob := .ok false) ha hb rfl
theorem tk_or {a b : M Bool} {oa ob : Rt Bool} (ha : TK r a oa) (hb : TK r b ob) : TK r (orB a b) (oa.bind fun t => if t then .ok true else ob) := tk_cond (oa := .ok true) ha rfl hb
theorem tt_and {a b : M Bool} {ta tb : Bool} (ha : TT r a ta) (hb : TT r b tb) : TT r (andB a b) (ta && tb) := by
  have := tt_cond ha hb (tt_kb false)
  cases ta <;> exact this
theorem tt_or {a b : M Bool} {ta tb : Bool} (ha : TT r a ta) (hb : TT r b tb) : TT r (orB a b) (ta || tb) := by
  have := tt_cond ha (tt_kb true) hb
  cases ta <;> exact this
/-! ### a value by a test -/
theorem ek_cond {c : M Bool} {a b : M Rs} {oc : Rt Bool} {oa ob : Rt α} {k : α → Rs} (hc : TK r c oc) (ha : EK r a oa k) (hb : EK r b ob k) : EK r (Ip.cond c a b) (oc.bind fun t => if t then oa else ob) k := by
  cases oc with
  | ok t =>
    have hc : c r = .ok t r := hc
    cases t with
    | true =>
      simp only [Rt.bind, if_true]
      have e : Ip.cond c a b r = a r := by unfold Ip.cond; rw [hc]
      unfold EK at ha ⊢
      rw [e]; exact ha
    | false =>
      simp only [Rt.bind]
      have e : Ip.cond c a b r = b r := by unfold Ip.cond; rw [hc]
      unfold EK at hb ⊢
      rw [e]; exact hb
  | exc x fs => obtain ⟨r', h⟩ := hc; exact ⟨r', by unfold Ip.cond; rw [h]⟩
  | stuck => trivial
theorem gk_cond {c : M Bool} {a b : M Rs} {oc : Rt Bool} {oa ob' : Rt α} {e : α → X} (hc : TK r c oc) (ha : GK ob r a oa e) (hb : GK ob r b ob' e) : GK ob r (Ip.cond c a b) (oc.bind fun t => if t then oa else ob') e := by
  cases oc with
  | ok t =>
    have hc : c r = .ok t r := hc
    cases t with
    | true =>
      simp only [Rt.bind, if_true]
      have e : Ip.cond c a b r = a r := by unfold Ip.cond; rw [hc]
      unfold GK at ha ⊢
      rw [e]; exact ha
    | false =>
      simp only [Rt.bind]
      have e : Ip.cond c a b r = b r := by unfold Ip.cond; rw [hc]
      unfold GK at hb ⊢
      rw [e]; exact hb
  | exc x fs => obtain ⟨r', h⟩ := hc; exact ⟨r', by unfold Ip.cond; rw [h]⟩
  | stuck => trivial
theorem ek_and {a b : M Rs} {oa ob : Rt Bool} (ha : EK r a oa fun b => .dat (.bool b)) (hb : EK r b ob fun b => .dat (.bool b)) : EK r (andV a b) (oa.bind fun t => if t then ob else .ok false) fun b => .dat (.bool b) := ek_cond (ob := .ok false) (tk_tst ha) hb rfl
theorem ek_or {a b : M Rs} {oa ob : Rt Bool} (ha : EK r a oa fun b => .dat (.bool b)) (hb : EK r b ob fun b => .dat (.bool b)) : EK r (orV a b) (oa.bind fun t => if t then .ok true else ob) fun b => .dat (.bool b) := ek_cond (oa := .ok true) (tk_tst ha) rfl hb
/-- a op b op c -/
theorem et_chain {f g : Op} {a b c : M Rs} {x y z : D} {t u : Bool} (ha : GT obV r a x) (hb : GT obV r b y) (hc : GT obV r c z) (hf : f [x, y] = some (.dat (.bool t))) (hg : g [y, z] = some (.dat (.bool u))) : ET r (chainV f g a b c) (.dat (.bool (t && u))) := by
  obtain ⟨xa, a1, a2⟩ := ha
  obtain ⟨xb, b1, b2⟩ := hb
  obtain ⟨xc, c1, c2⟩ := hc
  show chainV f g a b c r = _
  have l1 : looks [hel xa, hel xb] r = .ok [x, y] r := looks_all (xs := [xa, xb]) rfl fun i w h => by
    match i with
    | 0 => cases h; exact ⟨_, rfl, a2⟩
    | 1 => cases h; exact ⟨_, rfl, b2⟩
    | i + 2 => simp at h
  have l2 : looks [hel xb, hel xc] r = .ok [y, z] r := looks_all (xs := [xb, xc]) rfl fun i w h => by
    match i with
    | 0 => cases h; exact ⟨_, rfl, b2⟩
    | 1 => cases h; exact ⟨_, rfl, c2⟩
    | i + 2 => simp at h
  unfold chainV
  simp only [args, a1, b1, hold_hel, l1]
  unfold chain1
  simp only [hf]
  cases t with
  | false => rfl
  | true =>
    unfold chain2
    simp only [c1, hold_hel, l2, hg]
    rfl
/-! ### comprehensions -/
def lcF {β γ : Type} (p : β → Rt Bool) (g : β → Rt γ) : List β → Rt (List γ)
  | [] => .ok []
  | x :: xs => (p x).nox.bind fun t => if t then (g x).nox.bind fun y => (lcF p g xs).bind fun ys => .ok (y :: ys) else lcF p g xs
def mapF {β γ : Type} (g : β → Rt γ) : List β → Rt (List γ)
  | [] => .ok []
  | x :: xs => (g x).nox.bind fun y => (mapF g xs).bind fun ys => .ok (y :: ys)
def SK {β : Type} (r : Ev) (m : M (List D × List Nat)) (o : Rt (List β)) (enc : β → D) (hid : List Nat) : Prop := match o with
  | .ok xs => m r = .ok (xs.map enc, hid) r
  | .exc c fs => ∃ r', m r = .exc c fs r'
  | .stuck => True
theorem sk_C {o : Rt (List β)} {k : List β → Rs} {d : List β → D} {enc : β → D} {hid : List Nat} (h : EK r m o k) (hs : ∀ a, seeC (k a) r = some (d a, hid)) (hi : ∀ a, items (d a) = some (a.map enc)) : SK r (srcC m) o enc hid := by
  cases o with
  | ok a =>
    show srcC m r = _
    unfold srcC
    rw [show m r = _ from h]
    simp only [hs, hi]
  | exc x fs => obtain ⟨r', h⟩ := h; exact ⟨r', by unfold srcC; rw [h]⟩
  | stuck => trivial
def enumF {β : Type} (xs : List β) : List (Int × β) := xs.zipIdx.map fun p => ((p.2 : Int), p.1)
/-- pairs that a source hands out to be taken apart -/
def eZ {α β : Type} (e : α → D) (f : β → D) (p : α × β) : D := pairD (e p.1) (f p.2)
theorem sk_E {o : Rt (List β)} {k : List β → Rs} {d : List β → D} {enc : β → D} {hid : List Nat} (h : EK r m o k) (hs : ∀ a, seeC (k a) r = some (d a, hid)) (hi : ∀ a, items (d a) = some (a.map enc)) : SK r (srcE m) (o.bind fun xs => .ok (enumF xs)) (eZ .int enc) hid := by
  cases o with
  | ok a =>
    show srcE m r = _
    unfold srcE srcC
    rw [show m r = _ from h]
    simp only [hs, hi, enumL_map, enumF, List.map_map]
    rfl
  | exc x fs => obtain ⟨r', h⟩ := h; exact ⟨r', by unfold srcE srcC; rw [h]⟩
  | stuck => trivial
def ups (lo : Int) (n : Nat) : List Int := (List.range n).map fun i : Nat => lo + (i : Int)
def downs (hi : Int) (n : Nat) : List Int := (List.range n).map fun i : Nat => hi - (i : Int)
def rg1 (j : Int) : Rt (List Int) := if inside j then .ok (ups 0 j.toNat) else .stuck
def rg2 (i j : Int) : Rt (List Int) := if inside i && inside j && decide (j - i ≤ 16777216) then .ok (ups i (j - i).toNat) else .stuck
def rg3 (i j : Int) : Rt (List Int) := if inside i && inside j && decide (i - j ≤ 16777216) then .ok (downs i (i - j).toNat) else .stuck
theorem mapM_int : ∀ is : List Int, (is.map PyData.int).mapM intOf = some is
  | [] => rfl
  | i :: is => by
    rw [List.map_cons, List.mapM_cons, mapM_int is]
    rfl
def RgIs (js : List Int) (o : Rt (List Int)) : Prop := match o with
  | .ok zs => rangeOf js = some (zs.map .int)
  | .exc c fs => False
  | .stuck => True
theorem up_rg (lo : Int) (n : Nat) : rangeL lo 1 n = (ups lo n).map .int := by
  unfold rangeL ups
  rw [List.map_map]
  apply List.map_congr_left
  intro i _
  simp
theorem down_rg (lo : Int) (n : Nat) : rangeL lo (-1) n = (downs lo n).map .int := by
  unfold rangeL downs
  rw [List.map_map]
  apply List.map_congr_left
  intro i _
  show PyData.int _ = .int _
  congr 1
  show lo + (i : Int) * -1 = lo - i
  omega
theorem rgis1 (j : Int) : RgIs [j] (rg1 j) := by
  unfold rg1
  by_cases c : inside j = true
  · rw [if_pos c]
    show rangeOf [j] = _
    have c2 : j ≤ 16777216 := by unfold inside at c; simp at c; omega
    rw [range_1, if_pos (by simp [c, c2]), up_rg]
  · rw [if_neg c]; trivial
theorem rgis2 (i j : Int) : RgIs [i, j] (rg2 i j) := by
  unfold rg2
  split
  · rename_i c
    show (if inside i && inside j && decide (j - i ≤ 16777216) then some (rangeL i 1 (j - i).toNat) else none) = _
    rw [if_pos c, up_rg]
  · trivial
theorem rgis3 (i j : Int) : RgIs [i, j, -1] (rg3 i j) := by
  unfold rg3
  split
  · rename_i c
    show rangeOf [i, j, -1] = _
    rw [range_3, if_pos (by rw [c]; rfl), down_rg]
  · trivial
theorem sk_R {o : Rt (List Int)} (h : AX obV r ms o fun ds o' => ∃ js : List Int, ds = js.map .int ∧ RgIs js o') : SK r (srcR ms) o .int [] := by
  rcases ax_go h with ⟨xs, ds, a, l, b, js, rfl, z⟩ | ⟨c, fs, r', a, b⟩ | a
  · have hl := looks_all l b
    cases o with
    | stuck => trivial
    | exc c fs => exact z.elim
    | ok zs =>
      have z : rangeOf js = some (zs.map .int) := z
      show srcR ms r = _
      unfold srcR intsM
      simp only [a, hl, mapM_int]
      show (match (Res.ok js r : Res (List Int)) with
        | .ok is r => match rangeOf is with
          | some ds => Res.ok (ds, ([] : List Nat)) r
          | none => .stuck
        | .exc c fs r => .exc c fs r
        | .stuck => .stuck) = _
      simp only [z]
  · subst a
    exact ⟨r', by unfold srcR intsM; rw [b]⟩
  · subst a; trivial
theorem lcF_go {own : List Nat} {tg : D → M Unit} {test : M Bool} {elt : M Rs} {p : β → Rt Bool} {g : β → Rt γ} {enc : β → D} {eg : γ → D} {ρ : β → Ev} : ∀ (xs : List β),
    (∀ x, tg (enc x) q = .ok () (ρ x)) → (∀ x, hideFrom own [] 0 (ρ x) = q) → (∀ x, TK (ρ x) test (p x)) → (∀ x, GK obD (ρ x) elt (g x) eg) → ∀ ys, lcF p g xs = .ok ys → lcL own tg test elt (xs.map enc) q = .ok (ys.map eg) q
  | [], _, _, _, _, ys, e => by cases e; rfl
  | x :: xs, hg, hh, ht, he, ys, e => by
    have ih := lcF_go xs hg hh ht he
    have h1 := ht x
    have h2 := he x
    unfold lcF at e
    rw [List.map_cons]
    unfold lcL
    simp only [hg x]
    cases hp : p x with
    | stuck => rw [hp] at e; cases e
    | exc c fs => rw [hp] at e; cases e
    | ok t =>
      rw [hp] at e h1
      have h1 : test (ρ x) = .ok t (ρ x) := h1
      simp only [Rt.nox, Rt.bind] at e
      simp only [h1]
      cases t with
      | false =>
        simp only [hh x]
        exact ih ys e
      | true =>
        simp only [if_true] at e
        cases hx : g x with
        | stuck => rw [hx] at e; cases e
        | exc c fs => rw [hx] at e; cases e
        | ok y =>
          rw [hx] at e h2
          obtain ⟨v, e1, e2⟩ := h2
          cases hr : lcF p g xs with
          | stuck => rw [hr] at e; cases e
          | exc c fs => rw [hr] at e; cases e
          | ok zs =>
            rw [hr] at e
            cases e
            have hk : keep (hel v) (ρ x) = .ok (eg y) (ρ x) := by
              cases v with
              | dat z => cases e2; rfl
              | fresh z => cases e2; rfl
              | var i => cases e2
            simp only [e1, hold_hel, hk, hh x, ih zs hr]
            rfl
def eL {α : Type} (e : α → D) (xs : List α) : D := .list (xs.map e)
def eT {α : Type} (e : α → D) (xs : List α) : D := .tuple (xs.map e)
theorem lcF_exc {p : β → Rt Bool} {g : β → Rt γ} : ∀ (xs : List β) c fs, lcF p g xs ≠ .exc c fs
  | [], c, fs, e => by cases e
  | x :: xs, c, fs, e => by
    have ih := lcF_exc (p := p) (g := g) xs c fs
    unfold lcF at e
    cases hp : p x with
    | stuck => rw [hp] at e; cases e
    | exc c fs => rw [hp] at e; cases e
    | ok t =>
      rw [hp] at e
      cases t with
      | false => exact ih e
      | true =>
        simp only [Rt.nox, Rt.bind, if_true] at e
        cases hx : g x with
        | stuck => rw [hx] at e; cases e
        | exc c fs => rw [hx] at e; cases e
        | ok y =>
          rw [hx] at e
          cases hr : lcF p g xs with
          | stuck => rw [hr] at e; cases e
          | exc c fs => exact lcF_exc xs c fs hr
          | ok zs => rw [hr] at e; cases e
theorem ek_lc {own : List Nat} {src : M (List D × List Nat)} {tg : D → M Unit} {test : M Bool} {elt : M Rs} {os : Rt (List β)} {p : β → Rt Bool} {g : β → Rt γ} {enc : β → D} {eg : γ → D} {ρ : β → Ev} {hid : List Nat}
    (hs : SK r src os enc hid) (hio : (own.any fun i => isIo r[i]?) = false) (hq : hideFrom own hid 0 r = q) (hg : ∀ x, tg (enc x) q = .ok () (ρ x)) (hh : ∀ x, hideFrom own [] 0 (ρ x) = q) (ht : ∀ x, TK (ρ x) test (p x)) (he : ∀ x, GK obD (ρ x) elt (g x) eg) :
    EK r (lcV own src tg test elt) (os.bind fun xs => lcF p g xs) (fun ys => .fresh (eL eg ys)) := by
  cases os with
  | stuck => trivial
  | exc c fs => obtain ⟨r', h⟩ := hs; exact ⟨r', by unfold lcV; rw [h]⟩
  | ok xs =>
    have hs : src r = .ok (xs.map enc, hid) r := hs
    simp only [Rt.bind]
    cases hr : lcF p g xs with
    | stuck => trivial
    | exc c fs => exact absurd hr (lcF_exc xs c fs)
    | ok ys =>
      show lcV own src tg test elt r = _
      have := lcF_go xs hg hh ht he ys hr
      unfold lcV
      simp only [hs, hio, hq, this]
      rw [← hq, show_hide]
      rfl
theorem lcF_map (g : β → Rt γ) : ∀ xs : List β, lcF (fun _ => .ok true) g xs = mapF g xs
  | [] => rfl
  | x :: xs => by unfold lcF mapF; rw [lcF_map g xs]; rfl
theorem ek_lcM {own : List Nat} {src : M (List D × List Nat)} {tg : D → M Unit} {elt : M Rs} {os : Rt (List β)} {g : β → Rt γ} {enc : β → D} {eg : γ → D} {ρ : β → Ev} {hid : List Nat}
    (hs : SK r src os enc hid) (hio : (own.any fun i => isIo r[i]?) = false) (hq : hideFrom own hid 0 r = q) (hg : ∀ x, tg (enc x) q = .ok () (ρ x)) (hh : ∀ x, hideFrom own [] 0 (ρ x) = q) (he : ∀ x, GK obD (ρ x) elt (g x) eg) :
    EK r (lcV own src tg (kb true) elt) (os.bind fun xs => mapF g xs) (fun ys => .fresh (eL eg ys)) := by
  have := ek_lc (p := fun _ => .ok true) (test := kb true) hs hio hq hg hh (fun _ => rfl) he
  simp only [lcF_map] at this
  exact this
/-! ### statements -/
def ST (r : Ev) (t : M Fl) (r' : Ev) : Prop := t r = .ok .next r'
/-- goes on; ρ: what is forgotten behind it -/
def SN (ρ : Ev → Ev) (r : Ev) (t : M Fl) (o : Rt σ) (E : σ → Ev) : Prop := match o with
  | .ok a => ∃ r', t r = .ok .next r' ∧ ρ r' = E a
  | .exc c fs => ∃ r', t r = .exc c fs r'
  | .stuck => True
def S1 (r : Ev) (t : M Fl) (o : Rt σ) (E : σ → Ev) : Prop := match o with
  | .ok a => t r = .ok .next (E a)
  | .exc c fs => ∃ r', t r = .exc c fs r'
  | .stuck => True
/-- always an answer; n: the parameters -/
def SR (n : Nat) (r : Ev) (t : M Fl) (o : Rt δ) (K : δ → Ro) (O : δ → List (Option D)) : Prop := match o with
  | .ok v => ∃ r', t r = .ok (.ret (K v)) r' ∧ outs n r' = O v
  | .exc c fs => ∃ r', t r = .exc c fs r'
  | .stuck => True
def SB (ρ : Ev → Ev) (n : Nat) (r : Ev) (t : M Fl) (o : Rt (Lp σ δ)) (E : σ → Ev) (K : δ → Ro) (O : δ → List (Option D)) : Prop := match o with
  | .ok (.go a) => ∃ r', t r = .ok .next r' ∧ ρ r' = E a
  | .ok (.out v) => ∃ r', t r = .ok (.ret (K v)) r' ∧ outs n r' = O v
  | .exc c fs => ∃ r', t r = .exc c fs r'
  | .stuck => True
variable {t u : M Fl} {K : δ → Ro} {O : δ → List (Option D)} {n : Nat} {Z : Ev → Ev}
theorem seq_eq {r r1 : Ev} (h : t r = .ok .next r1) : seqS t u r = u r1 := by unfold seqS; rw [h]
theorem seq_exc {r r1 : Ev} {c : Nat} {fs : List D} (h : t r = .exc c fs r1) : seqS t u r = .exc c fs r1 := by unfold seqS; rw [h]
theorem next_n {a : σ} (h : Z r = E a) : SN Z r nextS (.ok a) E := ⟨r, rfl, h⟩
theorem next_b {a : σ} (h : Z r = E a) : SB Z n r nextS (.ok (.go a)) E K O := ⟨r, rfl, h⟩
theorem seqT_n {r1 : Ev} {o : Rt σ} (h : ST r t r1) (g : SN Z r1 u o E) : SN Z r (seqS t u) o E := by
  unfold SN at g ⊢
  rw [seq_eq h]; exact g
theorem seqT_r {r1 : Ev} {o : Rt δ} (h : ST r t r1) (g : SR n r1 u o K O) : SR n r (seqS t u) o K O := by
  unfold SR at g ⊢
  rw [seq_eq h]; exact g
theorem seqT_b {r1 : Ev} {o : Rt (Lp σ δ)} (h : ST r t r1) (g : SB Z n r1 u o E K O) : SB Z n r (seqS t u) o E K O := by
  unfold SB at g ⊢
  rw [seq_eq h]; exact g
theorem seq1_n {o1 : Rt α} {E1 : α → Ev} {o2 : α → Rt σ} (h : S1 r t o1 E1) (g : ∀ a, SN Z (E1 a) u (o2 a) E) : SN Z r (seqS t u) (o1.bind o2) E := by
  cases o1 with
  | ok a => exact seqT_n h (g a)
  | exc c fs => obtain ⟨r', h⟩ := h; exact ⟨r', seq_exc h⟩
  | stuck => trivial
theorem seq1_r {o1 : Rt α} {E1 : α → Ev} {o2 : α → Rt δ} (h : S1 r t o1 E1) (g : ∀ a, SR n (E1 a) u (o2 a) K O) : SR n r (seqS t u) (o1.bind o2) K O := by
  cases o1 with
  | ok a => exact seqT_r h (g a)
  | exc c fs => obtain ⟨r', h⟩ := h; exact ⟨r', seq_exc h⟩
  | stuck => trivial
theorem seq1_b {o1 : Rt α} {E1 : α → Ev} {o2 : α → Rt (Lp σ δ)} (h : S1 r t o1 E1) (g : ∀ a, SB Z n (E1 a) u (o2 a) E K O) : SB Z n r (seqS t u) (o1.bind o2) E K O := by
  cases o1 with
  | ok a => exact seqT_b h (g a)
  | exc c fs => obtain ⟨r', h⟩ := h; exact ⟨r', seq_exc h⟩
  | stuck => trivial
/-- behind what may answer -/
def Rt.next {σ δ τ : Type} (o : Rt (Lp σ δ)) (f : σ → Rt τ) (g : δ → Rt τ) : Rt τ := o.bind fun l => match l with
  | .go s => f s
  | .out v => g v
@[simp] theorem Rt.next_go {σ δ τ : Type} (s : σ) (f : σ → Rt τ) (g : δ → Rt τ) : Rt.next (.ok (.go s)) f g = f s := rfl
@[simp] theorem Rt.next_out {σ δ τ : Type} (v : δ) (f : σ → Rt τ) (g : δ → Rt τ) : Rt.next (.ok (.out v : Lp σ δ)) f g = g v := rfl
@[simp] theorem Rt.next_stuck {σ δ τ : Type} (f : σ → Rt τ) (g : δ → Rt τ) : Rt.next (.stuck : Rt (Lp σ δ)) f g = .stuck := rfl
theorem seqB_r {o1 : Rt (Lp α δ)} {E1 : α → Ev} {o2 : α → Rt δ} (h : SB id n r t o1 E1 K O) (g : ∀ a, SR n (E1 a) u (o2 a) K O) : SR n r (seqS t u) (o1.next o2 .ok) K O := by
  cases o1 with
  | ok l =>
    cases l with
    | go a => obtain ⟨r', h, rfl⟩ := h; exact seqT_r h (g a)
    | out v =>
      obtain ⟨r', h, e⟩ := h
      exact ⟨r', by unfold seqS; rw [h], e⟩
  | exc c fs => obtain ⟨r', h⟩ := h; exact ⟨r', seq_exc h⟩
  | stuck => trivial
theorem seqB_b {o1 : Rt (Lp α δ)} {E1 : α → Ev} {o2 : α → Rt (Lp σ δ)} (h : SB id n r t o1 E1 K O) (g : ∀ a, SB Z n (E1 a) u (o2 a) E K O) : SB Z n r (seqS t u) (o1.next o2 fun v => .ok (.out v)) E K O := by
  cases o1 with
  | ok l =>
    cases l with
    | go a => obtain ⟨r', h, rfl⟩ := h; exact seqT_b h (g a)
    | out v =>
      obtain ⟨r', h, e⟩ := h
      exact ⟨r', by unfold seqS; rw [h], e⟩
  | exc c fs => obtain ⟨r', h⟩ := h; exact ⟨r', seq_exc h⟩
  | stuck => trivial
/-- an answer, then nothing -/
theorem seqR_r {o : Rt δ} (h : SR n r t o K O) : SR n r (seqS t u) o K O := by
  cases o with
  | ok v => obtain ⟨r', h, e⟩ := h; exact ⟨r', by unfold seqS; rw [h], e⟩
  | exc c fs => obtain ⟨r', h⟩ := h; exact ⟨r', seq_exc h⟩
  | stuck => trivial
/-! #### by a test -/
theorem cond_t {A : Type} {c : M Bool} {a b : M A} {x : Bool} (h : c r = .ok x r) : Ip.cond c a b r = if x then a r else b r := by
  unfold Ip.cond
  rw [h]
  cases x <;> rfl
theorem cond_x {A : Type} {c : M Bool} {a b : M A} {r' : Ev} {k : Nat} {fs : List D} (h : c r = .exc k fs r') : Ip.cond c a b r = .exc k fs r' := by
  unfold Ip.cond
  rw [h]
theorem if_n {c : M Bool} {a b : M Fl} {oc : Rt Bool} {oa ob : Rt σ} (hc : TK r c oc) (ha : SN Z r a oa E) (hb : SN Z r b ob E) : SN Z r (Ip.cond c a b) (oc.bind fun x => if x then oa else ob) E := by
  cases oc with
  | ok x =>
    have e := cond_t (a := a) (b := b) (show c r = .ok x r from hc)
    unfold SN at ha hb ⊢
    cases x with
    | true => simp only [Rt.bind, if_true] at e ⊢; rw [e]; exact ha
    | false => simp only [Rt.bind] at e ⊢; rw [e]; exact hb
  | exc k fs => obtain ⟨r', h⟩ := hc; exact ⟨r', cond_x h⟩
  | stuck => trivial
theorem if_r {c : M Bool} {a b : M Fl} {oc : Rt Bool} {oa ob : Rt δ} (hc : TK r c oc) (ha : SR n r a oa K O) (hb : SR n r b ob K O) : SR n r (Ip.cond c a b) (oc.bind fun x => if x then oa else ob) K O := by
  cases oc with
  | ok x =>
    have e := cond_t (a := a) (b := b) (show c r = .ok x r from hc)
    unfold SR at ha hb ⊢
    cases x with
    | true => simp only [Rt.bind, if_true] at e ⊢; rw [e]; exact ha
    | false => simp only [Rt.bind] at e ⊢; rw [e]; exact hb
  | exc k fs => obtain ⟨r', h⟩ := hc; exact ⟨r', cond_x h⟩
  | stuck => trivial
theorem if_b {c : M Bool} {a b : M Fl} {oc : Rt Bool} {oa ob : Rt (Lp σ δ)} (hc : TK r c oc) (ha : SB Z n r a oa E K O) (hb : SB Z n r b ob E K O) : SB Z n r (Ip.cond c a b) (oc.bind fun x => if x then oa else ob) E K O := by
  cases oc with
  | ok x =>
    have e := cond_t (a := a) (b := b) (show c r = .ok x r from hc)
    unfold SB at ha hb ⊢
    cases x with
    | true => simp only [Rt.bind, if_true] at e ⊢; rw [e]; exact ha
    | false => simp only [Rt.bind] at e ⊢; rw [e]; exact hb
  | exc k fs => obtain ⟨r', h⟩ := hc; exact ⟨r', cond_x h⟩
  | stuck => trivial
theorem SN.s1 {o : Rt σ} (h : SN id r t o E) : S1 r t o E := by
  cases o with
  | ok a => obtain ⟨r', h, rfl⟩ := h; exact h
  | exc c fs => exact h
  | stuck => trivial
theorem SN.sb {o : Rt σ} (h : SN Z r t o E) : SB Z n r t (o.bind fun s => .ok (.go s)) E K O := by
  cases o with
  | ok a => exact h
  | exc c fs => exact h
  | stuck => trivial
theorem SR.sb {o : Rt δ} (h : SR n r t o K O) : SB Z n r t (o.bind fun s => .ok (.out s)) E K O := by
  cases o with
  | ok a => exact h
  | exc c fs => exact h
  | stuck => trivial
/-- if ..: an answer; else on -/
theorem gd_r {c : M Bool} {a : M Fl} {oc : Rt Bool} {oa ob : Rt δ} (hc : TK r c oc) (ha : SR n r a oa K O) (hb : SR n r u ob K O) : SR n r (seqS (Ip.cond c a nextS) u) (oc.bind fun x => if x then oa else ob) K O := by
  cases oc with
  | ok x =>
    have e := cond_t (a := a) (b := nextS) (show c r = .ok x r from hc)
    cases x with
    | true =>
      simp only [if_true] at e
      refine seqR_r (u := u) ?_
      simp only [Rt.bind, if_true]
      unfold SR at ha ⊢
      rw [e]; exact ha
    | false => exact seqT_r (show ST r _ r from e) hb
  | exc k fs => obtain ⟨r', h⟩ := hc; exact ⟨r', seq_exc (cond_x h)⟩
  | stuck => trivial
theorem gd_b {c : M Bool} {a : M Fl} {oc : Rt Bool} {oa : Rt δ} {ob : Rt (Lp σ δ)} (hc : TK r c oc) (ha : SR n r a oa K O) (hb : SB Z n r u ob E K O) : SB Z n r (seqS (Ip.cond c a nextS) u) (oc.bind fun x => if x then oa.bind (fun v => .ok (.out v)) else ob) E K O := by
  cases oc with
  | ok x =>
    have e := cond_t (a := a) (b := nextS) (show c r = .ok x r from hc)
    cases x with
    | true =>
      simp only [if_true] at e
      have h1 : SR n r (seqS (Ip.cond c a nextS) u) oa K O := by
        refine seqR_r (u := u) ?_
        unfold SR at ha ⊢
        rw [e]; exact ha
      exact SR.sb h1
    | false => exact seqT_b (show ST r _ r from e) hb
  | exc k fs => obtain ⟨r', h⟩ := hc; exact ⟨r', seq_exc (cond_x h)⟩
  | stuck => trivial
/-- if ..: no way on -/
theorem gx_n {c : M Bool} {a : M Fl} {oc : Rt Bool} {ob : Rt σ} (hc : TK r c oc) (hb : SN Z r u ob E) : SN Z r (seqS (Ip.cond c a nextS) u) (oc.bind fun x => if x then .stuck else ob) E := by
  cases oc with
  | ok x =>
    have e := cond_t (a := a) (b := nextS) (show c r = .ok x r from hc)
    cases x with
    | true => trivial
    | false => exact seqT_n (show ST r _ r from e) hb
  | exc k fs => obtain ⟨r', h⟩ := hc; exact ⟨r', seq_exc (cond_x h)⟩
  | stuck => trivial
theorem gx_r {c : M Bool} {a : M Fl} {oc : Rt Bool} {ob : Rt δ} (hc : TK r c oc) (hb : SR n r u ob K O) : SR n r (seqS (Ip.cond c a nextS) u) (oc.bind fun x => if x then .stuck else ob) K O := by
  cases oc with
  | ok x =>
    have e := cond_t (a := a) (b := nextS) (show c r = .ok x r from hc)
    cases x with
    | true => trivial
    | false => exact seqT_r (show ST r _ r from e) hb
  | exc k fs => obtain ⟨r', h⟩ := hc; exact ⟨r', seq_exc (cond_x h)⟩
  | stuck => trivial
theorem fgt_b {o : Rt (Lp σ δ)} (h : SB (forget r) n r t o E K O) : SB id n r (fgt t) o E K O := by
  cases o with
  | ok l =>
    cases l with
    | go a =>
      obtain ⟨r', h1, h2⟩ := h
      exact ⟨_, by unfold fgt; rw [h1], h2⟩
    | out v =>
      obtain ⟨r', h1, h2⟩ := h
      exact ⟨r', by unfold fgt; rw [h1], h2⟩
  | exc c fs => obtain ⟨r', h⟩ := h; exact ⟨r', by unfold fgt; rw [h]⟩
  | stuck => trivial
theorem fgt_n {o : Rt σ} (h : SN (forget r) r t o E) : SN id r (fgt t) o E := by
  cases o with
  | ok a =>
    obtain ⟨r', h1, h2⟩ := h
    exact ⟨_, by unfold fgt; rw [h1], h2⟩
  | exc c fs => obtain ⟨r', h⟩ := h; exact ⟨r', by unfold fgt; rw [h]⟩
  | stuck => trivial
/-! #### a name's new value -/
def setRs (i : Nat) (x : Rs) (r : Ev) : Option Ev := match toRo x r with
  | .ok y r1 => if setOk r1[i]? then some (r1.set i y.sl) else none
  | _ => none
theorem set_eq {i : Nat} {x : Rs} {r0 r1 : Ev} (h : m r = .ok x r0) (hs : setRs i x r0 = some r1) : setS i m r = .ok .next r1 := by
  unfold setRs at hs
  unfold setS val1
  rw [h]
  cases e : toRo x r0 with
  | stuck => rw [e] at hs; cases hs
  | exc c fs r2 => rw [e] at hs; cases hs
  | ok y r2 =>
    rw [e] at hs
    simp only at hs ⊢
    split at hs
    · rename_i hk
      cases hs
      unfold put1
      simp only [hk, e, if_true]
    · cases hs
theorem st_set {i : Nat} {x : Rs} {r1 : Ev} (h : ET r m x) (hs : setRs i x r = some r1) : ST r (setS i m) r1 := set_eq h hs
theorem s1_set {i : Nat} {o : Rt α} {k : α → Rs} {E1 : α → Ev} (h : EK r m o k) (hs : ∀ a, setRs i (k a) r = some (E1 a)) : S1 r (setS i m) o E1 := by
  cases o with
  | ok a => exact set_eq h (hs a)
  | exc c fs =>
    obtain ⟨r', h⟩ := h
    exact ⟨r', by unfold setS val1; rw [h]⟩
  | stuck => trivial
theorem s1_drop {o : Rt α} {k : α → Rs} (h : EK r m o k) : S1 r (dropS m) o (fun _ => r) := by
  cases o with
  | ok a => show dropS m r = _; unfold dropS; rw [show m r = _ from h]
  | exc c fs => obtain ⟨r', h⟩ := h; exact ⟨r', by unfold dropS; rw [h]⟩
  | stuck => trivial
/-! #### answers -/
def retRs (x : Rs) (r : Ev) : Option (Ro × Ev) := match toRet x r with
  | .ok y r1 => some (y, r1)
  | _ => none
theorem ret_eq {x : Rs} {y : Ro} {r0 r1 : Ev} (h : m r = .ok x r0) (hs : retRs x r0 = some (y, r1)) : retS m r = .ok (.ret y) r1 := by
  unfold retRs at hs
  unfold retS val1'
  rw [h]
  cases e : toRet x r0 with
  | stuck => rw [e] at hs; cases hs
  | exc c fs r2 => rw [e] at hs; cases hs
  | ok y r2 => rw [e] at hs; cases hs; simp only [e]
theorem sr_ret {o : Rt δ} {k : δ → Rs} {E1 : δ → Ev} (h : EK r m o k) (hs : ∀ a, retRs (k a) r = some (K a, E1 a)) (ho : ∀ a, outs n (E1 a) = O a) : SR n r (retS m) o K O := by
  cases o with
  | ok a => exact ⟨E1 a, ret_eq h (hs a), ho a⟩
  | exc c fs => obtain ⟨r', h⟩ := h; exact ⟨r', by unfold retS val1'; rw [h]⟩
  | stuck => trivial
/-! #### for -/
def foldR {β σ : Type} (f : σ → β → Rt σ) : List β → σ → Rt σ
  | [], s => .ok s
  | x :: xs, s => (f s x).bind fun s' => foldR f xs s'
def foldB {β σ δ : Type} (f : σ → β → Rt (Lp σ δ)) : List β → σ → Rt (Lp σ δ)
  | [], s => .ok (.go s)
  | x :: xs, s => (f s x).bind fun l => match l with
    | .go s' => foldB f xs s'
    | .out v => .ok (.out v)
def FK {β : Type} (r : Ev) (m : M (List D)) (o : Rt (List β)) (enc : β → D) (r1 : Ev) : Prop := match o with
  | .ok xs => m r = .ok (xs.map enc) r1
  | .exc c fs => ∃ r', m r = .exc c fs r'
  | .stuck => True
theorem SK.fk {src : M (List D × List Nat)} {o : Rt (List β)} {enc : β → D} {hid : List Nat} {r1 : Ev} (h : SK r src o enc hid) (hd : demoteL hid r = r1) : FK r (unhid src) o enc r1 := by
  cases o with
  | ok xs => show unhid src r = _; unfold unhid; rw [show src r = _ from h, ← hd]
  | exc c fs => obtain ⟨r', h⟩ := h; exact ⟨r', by unfold unhid; rw [h]⟩
  | stuck => trivial
theorem FK.dem {src : M (List D)} {o : Rt (List β)} {enc : β → D} {ds : List Nat} {r1 r2 : Ev} (h : FK r src o enc r1) (hd : demoteL ds r1 = r2) : FK r (demM ds src) o enc r2 := by
  cases o with
  | ok xs => show demM ds src r = _; unfold demM; rw [show src r = _ from h, ← hd]
  | exc c fs => obtain ⟨r', h⟩ := h; exact ⟨r', by unfold demM; rw [h]⟩
  | stuck => trivial
theorem for_go {β : Type} {r0 : Ev} {tg : D → M Unit} {body : M Fl} {enc : β → D} {G : σ → β → Ev} {f : σ → β → Rt σ} (hg : ∀ s x, tg (enc x) (E s) = .ok () (G s x)) (hb : ∀ s x, SN (forget r0) (G s x) body (f s x) E) : ∀ (xs : List β) (s : σ), S1 (E s) (forL r0 tg body (xs.map enc)) (foldR f xs s) E
  | [], s => rfl
  | x :: xs, s => by
    have ih := for_go hg hb xs
    have h := hb s x
    unfold foldR
    cases e : f s x with
    | stuck => trivial
    | exc c fs =>
      rw [e] at h
      obtain ⟨r', h⟩ := h
      exact ⟨r', by rw [List.map_cons]; unfold forL; simp only [hg, h]⟩
    | ok s' =>
      rw [e] at h
      obtain ⟨r', h1, h2⟩ := h
      have ih := ih s'
      simp only [Rt.bind]
      unfold S1 at ih ⊢
      rw [List.map_cons]
      unfold forL
      simp only [hg, h1, h2]
      exact ih
theorem for_1 {β : Type} {r1 : Ev} {src : M (List D)} {tg : D → M Unit} {body : M Fl} {os : Rt (List β)} {enc : β → D} {G : σ → β → Ev} {f : σ → β → Rt σ} (s0 : σ) (hs : FK r src os enc r1) (h0 : r1 = E s0) (hg : ∀ s x, tg (enc x) (E s) = .ok () (G s x)) (hb : ∀ s x, SN (forget r1) (G s x) body (f s x) E) : S1 r (forS src tg body) (os.bind fun xs => foldR f xs s0) E := by
  cases os with
  | stuck => trivial
  | exc c fs => obtain ⟨r', h⟩ := hs; exact ⟨r', by unfold forS; rw [h]⟩
  | ok xs =>
    have hs : src r = .ok (xs.map enc) r1 := hs
    have h := for_go hg hb xs s0
    rw [← h0] at h
    simp only [Rt.bind]
    have e : forS src tg body r = forL r1 tg body (xs.map enc) r1 := by unfold forS; rw [hs]
    unfold S1 at h ⊢
    rw [e]
    exact h
theorem forB_go {β : Type} {r0 : Ev} {tg : D → M Unit} {body : M Fl} {enc : β → D} {G : σ → β → Ev} {f : σ → β → Rt (Lp σ δ)} (hg : ∀ s x, tg (enc x) (E s) = .ok () (G s x)) (hb : ∀ s x, SB (forget r0) n (G s x) body (f s x) E K O) : ∀ (xs : List β) (s : σ), SB id n (E s) (forL r0 tg body (xs.map enc)) (foldB f xs s) E K O
  | [], s => ⟨_, rfl, rfl⟩
  | x :: xs, s => by
    have ih := forB_go hg hb xs
    have h := hb s x
    unfold foldB
    cases e : f s x with
    | stuck => trivial
    | exc c fs =>
      rw [e] at h
      obtain ⟨r', h⟩ := h
      exact ⟨r', by rw [List.map_cons]; unfold forL; simp only [hg, h]⟩
    | ok l =>
      rw [e] at h
      cases l with
      | go s' =>
        obtain ⟨r', h1, h2⟩ := h
        have ih := ih s'
        simp only [Rt.bind]
        unfold SB at ih ⊢
        rw [List.map_cons]
        unfold forL
        simp only [hg, h1, h2]
        exact ih
      | out v =>
        obtain ⟨r', h1, h2⟩ := h
        exact ⟨r', by rw [List.map_cons]; unfold forL; simp only [hg, h1], h2⟩
theorem for_b {β : Type} {r1 : Ev} {src : M (List D)} {tg : D → M Unit} {body : M Fl} {os : Rt (List β)} {enc : β → D} {G : σ → β → Ev} {f : σ → β → Rt (Lp σ δ)} (s0 : σ) (hs : FK r src os enc r1) (h0 : r1 = E s0) (hg : ∀ s x, tg (enc x) (E s) = .ok () (G s x)) (hb : ∀ s x, SB (forget r1) n (G s x) body (f s x) E K O) : SB id n r (forS src tg body) (os.bind fun xs => foldB f xs s0) E K O := by
  cases os with
  | stuck => trivial
  | exc c fs => obtain ⟨r', h⟩ := hs; exact ⟨r', by unfold forS; rw [h]⟩
  | ok xs =>
    have hs : src r = .ok (xs.map enc) r1 := hs
    have h := forB_go (E := E) hg hb xs s0
    rw [← h0] at h
    simp only [Rt.bind]
    have e : forS src tg body r = forL r1 tg body (xs.map enc) r1 := by unfold forS; rw [hs]
    unfold SB at h ⊢
    rw [e]
    exact h
/-! #### while -/
def whlF {σ : Type} (c : σ → Rt Bool) (f : σ → Rt σ) : Nat → σ → Rt σ
  | 0, _ => .stuck
  | n + 1, s => (c s).bind fun t => if t then (f s).bind fun s' => whlF c f n s' else .ok s
theorem whl_1 {N : Nat} {c : M Bool} {body : M Fl} {oc : σ → Rt Bool} {f : σ → Rt σ} (s0 : σ) (h0 : r = E s0) (hc : ∀ s, TK (E s) c (oc s)) (hb : ∀ s, SN (forget r) (E s) body (f s) E) : S1 r (whlS N c body) (whlF oc f N s0) E := by
  have key : ∀ (N : Nat) (s : σ), S1 (E s) (whlL r c body N) (whlF oc f N s) E := by
    intro N
    induction N with
    | zero => intro s; trivial
    | succ N ih =>
      intro s
      have h1 := hc s
      have h2 := hb s
      unfold whlF
      cases e : oc s with
      | stuck => trivial
      | exc k fs =>
        rw [e] at h1
        obtain ⟨r', h⟩ := h1
        exact ⟨r', by unfold whlL; simp only [h]⟩
      | ok t =>
        rw [e] at h1
        have h1 : c (E s) = .ok t (E s) := h1
        cases t with
        | false =>
          show whlL r c body (N + 1) (E s) = _
          unfold whlL
          simp only [h1]
        | true =>
          simp only [Rt.bind, if_true]
          cases e2 : f s with
          | stuck => trivial
          | exc k fs =>
            rw [e2] at h2
            obtain ⟨r', h⟩ := h2
            exact ⟨r', by unfold whlL; simp only [h1, h]⟩
          | ok s' =>
            rw [e2] at h2
            obtain ⟨r', h3, h4⟩ := h2
            have ih := ih s'
            simp only
            unfold S1 at ih ⊢
            unfold whlL
            simp only [h1, h3, h4]
            exact ih
  have := key N s0
  rw [← h0] at this
  exact this
/-! #### a def -/
theorem def_r {k N : Nat} {body : M Fl} {ss : List Sl} {o : Rt δ} (hl : ss.length = k) (h : SR k (ss ++ List.replicate (N - k) .no) body o K (fun _ => List.replicate k none)) : CallK k (runBody k N body ss) o K := by
  cases o with
  | ok v =>
    obtain ⟨r', h1, h2⟩ := h
    exact ⟨_, by unfold runBody; rw [if_pos hl, h1], by rw [h2, List.length_replicate]⟩
  | exc c fs =>
    obtain ⟨r', h1⟩ := h
    show runBody k N body ss = _
    unfold runBody; rw [if_pos hl, h1]
  | stuck => trivial
theorem def_n {k N : Nat} {body : M Fl} {ss : List Sl} {o : Rt σ} (hl : ss.length = k) (h : SN id (ss ++ List.replicate (N - k) .no) body o E) (hk : ∀ s, (outs k (E s)).length = k) : CallK k (runBody k N body ss) (o.bind fun _ => .ok ()) (fun _ => .dat .none) := by
  cases o with
  | ok v =>
    obtain ⟨r', h1, rfl⟩ := h
    exact ⟨_, by unfold runBody; rw [if_pos hl, h1], hk v⟩
  | exc c fs =>
    obtain ⟨r', h1⟩ := h
    show runBody k N body ss = _
    unfold runBody; rw [if_pos hl, h1]
  | stuck => trivial
end
end Ip

set_option Elab.async false
set_option linter.all false
set_option maxRecDepth 100000
set_option maxHeartbeats 1000000
/-! Operations on typed data; what changes lists; displays with *; two fors. -/
namespace Ip
open PySem L2
section
variable {α β γ δ η σ X : Type} {r q : Ev} {m : M Rs} {ms : List (M Rs)} {E : σ → Ev} {s : σ}
def eP (e : α → D) (f : β → D) (p : α × β) : D := .tuple [e p.1, f p.2]
def eU : Unit → D := fun _ => .none
def eO (e : α → D) : Option α → D
  | none => .none
  | some a => e a
/-- data that are equal just if they are the same -/
structure Gd (k : Nat) (e : α → D) : Prop where
  flat : ∀ a, Flat k (e a)
  eqv : ∀ a b, PyData.eqv (e a) (e b) = true ↔ a = b
theorem gd_int : Gd 0 PyData.int := ⟨fun a => flat_int 0 a, fun a b => by simp [PyData.eqv]⟩
theorem gd_bool : Gd 0 PyData.bool := ⟨fun a => flat_bool 0 a, fun a b => by simp [PyData.eqv]⟩
theorem eqvAll_map {e : α → D} (h : ∀ a b, PyData.eqv (e a) (e b) = true ↔ a = b) : ∀ xs ys : List α, PyData.eqvAll (xs.map e) (ys.map e) = true ↔ xs = ys
  | [], [] => by simp [PyData.eqvAll]
  | [], _ :: _ => by simp [PyData.eqvAll]
  | _ :: _, [] => by simp [PyData.eqvAll]
  | x :: xs, y :: ys => by
    simp only [List.map_cons, PyData.eqvAll, Bool.and_eq_true, h, eqvAll_map h xs ys, List.cons.injEq]
theorem gd_T {k : Nat} {e : α → D} (h : Gd k e) : Gd (k + 1) (eT e) := by
  refine ⟨fun xs => flat_tup fun d hd => ?_, fun a b => ?_⟩
  · obtain ⟨i, _, rfl⟩ := List.mem_map.mp hd
    exact h.flat i
  · unfold eT
    simp only [PyData.eqv]
    exact eqvAll_map h.eqv a b
theorem gd_L {k : Nat} {e : α → D} (h : Gd k e) : Gd (k + 1) (eL e) := by
  refine ⟨fun xs => flat_lst fun d hd => ?_, fun a b => ?_⟩
  · obtain ⟨i, _, rfl⟩ := List.mem_map.mp hd
    exact h.flat i
  · unfold eL
    simp only [PyData.eqv]
    exact eqvAll_map h.eqv a b
theorem Gd.mono {k k' : Nat} {e : α → D} (h : Gd k e) (hk : k ≤ k') : Gd k' e := ⟨fun a => (h.flat a).mono hk, h.eqv⟩
theorem gd_P {k : Nat} {e : α → D} {f : β → D} (h : Gd k e) (g : Gd k f) : Gd (k + 1) (eP e f) := by
  refine ⟨fun p => flat_tup fun d hd => ?_, fun a b => ?_⟩
  · simp only [List.mem_cons, List.not_mem_nil, or_false] at hd
    rcases hd with rfl | rfl
    · exact h.flat _
    · exact g.flat _
  · unfold eP
    simp only [PyData.eqv, PyData.eqvAll, Bool.and_true, Bool.and_eq_true, h.eqv, g.eqv]
    rw [Prod.ext_iff]
theorem Gd.dec {k : Nat} {e : α → D} [DecidableEq α] (h : Gd k e) (a b : α) : PyData.eqv (e a) (e b) = decide (a = b) := by
  by_cases c : a = b
  · rw [decide_eq_true c]; exact (h.eqv a b).mpr c
  · rw [decide_eq_false c]
    cases q : PyData.eqv (e a) (e b) with
    | false => rfl
    | true => exact absurd ((h.eqv a b).mp q) c
theorem Gd.shp {k : Nat} {e : α → D} (h : Gd k e) (hk : k ≤ 64) (a : α) : Ip.shp (e a) = true := (h.flat a).shp hk
theorem Gd.any {k : Nat} {e : α → D} [DecidableEq α] (h : Gd k e) (a : α) : ∀ xs : List α, anyEq (e a) (xs.map e) = decide (a ∈ xs)
  | [] => by simp [anyEq]
  | x :: xs => by
    have ih := Gd.any h a xs
    unfold anyEq at ih ⊢
    rw [List.map_cons, List.any_cons, ih, h.dec]
    simp only [List.mem_cons]
    by_cases c : x = a
    · subst c; simp
    · have c' : ¬ a = x := fun z => c z.symm
      simp [c, c']
/-! ### operations -/
theorem OpT.k {v : Option Ro} {a : α} {k : α → Rs} (h : OpT v (k a)) : OpK v (.ok a) k := h
theorem q_eq {k : Nat} {e : α → D} [DecidableEq α] (h : Gd k e) (hk : k ≤ 64) (a b : α) : OpT (oEq [e a, e b]) (.dat (.bool (decide (a = b)))) := by
  unfold OpT oEq
  simp only [h.shp hk, Bool.and_self, if_true, h.dec]
  rfl
theorem q_ne {k : Nat} {e : α → D} [DecidableEq α] (h : Gd k e) (hk : k ≤ 64) (a b : α) : OpT (oNe [e a, e b]) (.dat (.bool (decide (a ≠ b)))) := by
  unfold OpT oNe
  simp only [h.shp hk, Bool.and_self, if_true, h.dec]
  by_cases c : a = b <;> simp [c, Ro.rs]
theorem q_inT {k : Nat} {e : α → D} [DecidableEq α] (h : Gd k e) (hk : k < 64) (a : α) (xs : List α) : OpT (oIn [e a, eT e xs]) (.dat (.bool (decide (a ∈ xs)))) := by
  have e1 : Ip.shp (.tuple (xs.map e)) = true := (gd_T h).shp (by omega) xs
  unfold OpT oIn eT inOf
  simp only [h.shp (by omega), e1, Bool.and_self, if_true, h.any, Option.map_some]
  rfl
theorem q_inL {k : Nat} {e : α → D} [DecidableEq α] (h : Gd k e) (hk : k < 64) (a : α) (xs : List α) : OpT (oIn [e a, eL e xs]) (.dat (.bool (decide (a ∈ xs)))) := by
  have e1 : Ip.shp (.list (xs.map e)) = true := (gd_L h).shp (by omega) xs
  unfold OpT oIn eL inOf
  simp only [h.shp (by omega), e1, Bool.and_self, if_true, h.any, Option.map_some]
  rfl
theorem q_ninT {k : Nat} {e : α → D} [DecidableEq α] (h : Gd k e) (hk : k < 64) (a : α) (xs : List α) : OpT (oNotIn [e a, eT e xs]) (.dat (.bool (decide (a ∉ xs)))) := by
  have e1 : Ip.shp (.tuple (xs.map e)) = true := (gd_T h).shp (by omega) xs
  unfold OpT oNotIn eT inOf
  simp only [h.shp (by omega), e1, Bool.and_self, if_true, h.any, Option.map_some]
  by_cases c : a ∈ xs <;> simp [c, Ro.rs]
theorem q_ninL {k : Nat} {e : α → D} [DecidableEq α] (h : Gd k e) (hk : k < 64) (a : α) (xs : List α) : OpT (oNotIn [e a, eL e xs]) (.dat (.bool (decide (a ∉ xs)))) := by
  have e1 : Ip.shp (.list (xs.map e)) = true := (gd_L h).shp (by omega) xs
  unfold OpT oNotIn eL inOf
  simp only [h.shp (by omega), e1, Bool.and_self, if_true, h.any, Option.map_some]
  by_cases c : a ∈ xs <;> simp [c, Ro.rs]
theorem q_opt {v : Option Ro} {o : Option α} {k : α → Rs} (h : v.map Ro.rs = o.map k) : OpK v (Rt.opt o) k := by
  cases o with
  | none => trivial
  | some a => exact h
theorem q_gd {v : Option Ro} {c : Bool} {a : α} {k : α → Rs} (h : c = true → v.map Ro.rs = some (k a)) : OpK v (Rt.gd c a) k := by
  cases c with
  | false => trivial
  | true => exact h rfl
def ixF (xs : List α) (i : Int) : Rt α := Rt.opt (atI xs i)
theorem q_ixT (e : α → D) (xs : List α) (i : Int) : OpK (oIx [eT e xs, .int i]) (ixF xs i) (fun a => .dat (e a)) := by
  refine q_opt ?_
  unfold eT
  rw [z_ix2, atI_map, Option.map_map, Option.map_map]
  rfl
theorem q_ixL (e : α → D) (xs : List α) (i : Int) : OpK (oIx [eL e xs, .int i]) (ixF xs i) (fun a => .dat (e a)) := by
  refine q_opt ?_
  unfold eL
  rw [z_ix1, atI_map, Option.map_map, Option.map_map]
  rfl
theorem q_ixP0 (e : α → D) (f : β → D) (p : α × β) : OpT (oIx [eP e f p, .int 0]) (.dat (e p.1)) := rfl
theorem q_ixP1 (e : α → D) (f : β → D) (p : α × β) : OpT (oIx [eP e f p, .int 1]) (.dat (f p.2)) := rfl
theorem q_lenT (e : α → D) (xs : List α) : OpT (oLen [eT e xs]) (.dat (.int (xs.length : Int))) := by
  unfold OpT eT oLen
  simp [Ro.rs]
theorem q_lenL (e : α → D) (xs : List α) : OpT (oLen [eL e xs]) (.dat (.int (xs.length : Int))) := by
  unfold OpT eL oLen
  simp [Ro.rs]
def lenD (d : D) : Rt Int := match d with
  | .list x => .ok (x.length : Int)
  | .tuple x => .ok (x.length : Int)
  | _ => .stuck
@[simp] theorem lenD_T (e : α → D) (xs : List α) : lenD (eT e xs) = .ok (xs.length : Int) := by unfold lenD eT; simp
@[simp] theorem lenD_P (e : α → D) (f : β → D) (p : α × β) : lenD (eP e f p) = .ok 2 := rfl
theorem q_lenV (d : D) : OpK (oLen [d]) (lenD d) (fun a => .dat (.int a)) := by
  unfold lenD
  split
  · rfl
  · rfl
  · trivial
theorem q_listT (e : α → D) (xs : List α) : OpT (oListA [eT e xs]) (.fresh (eL e xs)) := rfl
theorem q_listL (e : α → D) (xs : List α) : OpT (oListA [eL e xs]) (.fresh (eL e xs)) := rfl
theorem q_tupT (e : α → D) (xs : List α) : OpT (oTuple [eT e xs]) (.dat (eT e xs)) := rfl
theorem q_tupL (e : α → D) (xs : List α) : OpT (oTuple [eL e xs]) (.dat (eT e xs)) := rfl
theorem q_any (bs : List Bool) : OpT (oAny [eL PyData.bool bs]) (.dat (.bool (bs.any id))) := by
  unfold OpT eL; rw [oAny_map]; rfl
theorem q_all (bs : List Bool) : OpT (oAll [eL PyData.bool bs]) (.dat (.bool (bs.all id))) := by
  unfold OpT eL; rw [oAll_map]; rfl
theorem q_sum (ns : List Int) : OpT (oSum [eL PyData.int ns]) (.dat (.int ns.sum)) := by
  unfold OpT eL oSum; simp only [intsOf_map]; rfl
theorem q_max (ns : List Int) : OpK (oMax [eL PyData.int ns]) (Rt.opt (maxI ns)) (fun a => .dat (.int a)) := by
  refine q_opt ?_
  unfold eL oMax
  simp only [intsOf_map, Option.bind_some, Option.map_map]
  rfl
theorem q_sorted (ns : List Int) : OpT (oSorted [eL PyData.int ns]) (.fresh (eL PyData.int (isort ns))) := by
  unfold OpT eL oSorted; simp only [intsOf_map]; rfl
def sortSetF (ns : List Int) : Rt (List Int) := Rt.gd (decide (ns.length < 64)) (usort ns)
theorem q_sortSet (ns : List Int) : OpK (oSortSet [eT PyData.int ns]) (sortSetF ns) (fun a => .fresh (eL PyData.int a)) := by
  refine q_gd fun h => ?_
  have := oSortSet_dT ns (by simpa using h)
  show Option.map Ro.rs (oSortSet [dT ns]) = _
  rw [this]; rfl
theorem q_addI (a b : Int) : OpT (oAdd' [.int a, .int b]) (.dat (.int (a + b))) := rfl
def catF (xs ys : List α) : Rt (List α) := Rt.gd (decide (xs.length + ys.length ≤ sizeLine)) (xs ++ ys)
theorem q_addT (e : α → D) (xs ys : List α) : OpK (oAdd' [eT e xs, eT e ys]) (catF xs ys) (fun a => .dat (eT e a)) := by
  refine q_gd fun h => ?_
  unfold eT oAdd'
  simp only [List.length_map]
  rw [if_pos (by simpa using h), List.map_append]
  rfl
theorem q_addL (e : α → D) (xs ys : List α) : OpK (oAdd' [eL e xs, eL e ys]) (catF xs ys) (fun a => .fresh (eL e a)) := by
  refine q_gd fun h => ?_
  unfold eL oAdd'
  simp only [List.length_map]
  rw [if_pos (by simpa using h), List.map_append]
  rfl
def repF (xs : List α) (k : Int) : Rt (List α) := Rt.gd (decide (-1000 ≤ k ∧ k ≤ 1000 ∧ xs.length ≤ 1000)) (List.replicate k.toNat xs).flatten
theorem q_mulT (e : α → D) (xs : List α) (k : Int) : OpK (oMulA [eT e xs, .int k]) (repF xs k) (fun a => .dat (eT e a)) := by
  refine q_gd fun h => ?_
  unfold eT
  rw [z_mulT, if_pos (by simpa using h)]
  simp [Ro.rs]
theorem q_mulL (e : α → D) (xs : List α) (k : Int) : OpK (oMulA [eL e xs, .int k]) (repF xs k) (fun a => .fresh (eL e a)) := by
  refine q_gd fun h => ?_
  unfold eL
  rw [z_mulL, if_pos (by simpa using h)]
  simp [Ro.rs]
def mulF (i j : Int) : Rt Int := Rt.gd (decide ((-(2 ^ 64) < i ∧ i < 2 ^ 64) ∨ (-(2 ^ 64) < j ∧ j < 2 ^ 64))) (i * j)
theorem q_mulI (i j : Int) : OpK (oMulA [.int i, .int j]) (mulF i j) (fun a => .dat (.int a)) := by
  refine q_gd fun h => ?_
  rw [z_mulI, if_pos (by simpa using h)]; rfl
def modF (i j : Int) : Rt Int := Rt.gd (decide (0 < j)) (i % j)
theorem q_mod (i j : Int) : OpK (oMod [.int i, .int j]) (modF i j) (fun a => .dat (.int a)) := by
  refine q_gd fun h => ?_
  have h := of_decide_eq_true h
  show Option.map Ro.rs (if 0 < j then some (Ro.dat (PyData.int (i % j))) else none) = _
  rw [if_pos h]; rfl
def divF (i j : Int) : Rt Int := Rt.gd (decide (0 < j ∧ j < 1073741824)) (i / j)
theorem q_div (i j : Int) : OpK (oFdiv [.int i, .int j]) (divF i j) (fun a => .dat (.int a)) := by
  refine q_gd fun h => ?_
  have h := of_decide_eq_true h
  show Option.map Ro.rs (if 0 < j ∧ j < 1073741824 then some (Ro.dat (PyData.int (i / j))) else none) = _
  rw [if_pos h]; rfl
def powF (i j : Int) : Rt Int := Rt.gd (decide (0 ≤ j ∧ j ≤ 1000000 ∧ i.natAbs < 2 ^ 64)) (i ^ j.toNat)
theorem q_pow (i j : Int) : OpK (oPow [.int i, .int j]) (powF i j) (fun a => .dat (.int a)) := by
  refine q_gd fun h => ?_
  have h := of_decide_eq_true h
  show Option.map Ro.rs (if 0 ≤ j ∧ j ≤ 1000000 ∧ i.natAbs < 2 ^ 64 then some (Ro.dat (PyData.int (i ^ j.toNat))) else none) = _
  rw [if_pos h]; rfl
theorem q_sub (a b : Int) : OpT (oSub [.int a, .int b]) (.dat (.int (a - b))) := rfl
theorem q_neg (a : Int) : OpT (oNeg [.int a]) (.dat (.int (-a))) := rfl
theorem q_lt (a b : Int) : OpT (oLt [.int a, .int b]) (.dat (.bool (decide (a < b)))) := rfl
theorem q_le (a b : Int) : OpT (oLe [.int a, .int b]) (.dat (.bool (decide (a ≤ b)))) := rfl
theorem q_gt (a b : Int) : OpT (oGt [.int a, .int b]) (.dat (.bool (decide (b < a)))) := rfl
theorem q_ge (a b : Int) : OpT (oGe [.int a, .int b]) (.dat (.bool (decide (b ≤ a)))) := rfl
theorem q_not (b : Bool) : OpT (oNot [.bool b]) (.dat (.bool (!b))) := rfl
theorem q_intI (a : Int) : OpT (oInt [.int a]) (.dat (.int a)) := rfl
theorem q_intB (b : Bool) : OpT (oInt [.bool b]) (.dat (.int (if b then 1 else 0))) := rfl
theorem q_isi (ts : List Ty) (d : D) : OpT (oIsiA ts [d]) (.dat (.bool (ts.any fun t => tyOf t d))) := rfl
theorem q_isN (d : D) : OpT (oIsN [d, .none]) (.dat (.bool (isNone d))) := rfl
theorem q_notN (d : D) : OpT (oNotN [d, .none]) (.dat (.bool (!isNone d))) := rfl
theorem et_and {a b : M Rs} {x y : Bool} (ha : ET r a (.dat (.bool x))) (hb : ET r b (.dat (.bool y))) : ET r (andV a b) (.dat (.bool (x && y))) := by
  have := ek_and (ha.ek (k := fun b => .dat (.bool b))) (hb.ek (k := fun b => .dat (.bool b)))
  cases x <;> exact this
theorem et_or {a b : M Rs} {x y : Bool} (ha : ET r a (.dat (.bool x))) (hb : ET r b (.dat (.bool y))) : ET r (orV a b) (.dat (.bool (x || y))) := by
  have := ek_or (ha.ek (k := fun b => .dat (.bool b))) (hb.ek (k := fun b => .dat (.bool b)))
  cases x <;> exact this
theorem et_nm (i : Nat) {x : Rs} (h : named i r[i]? = some x) : ET r (nm i) x := by
  show nm i r = _
  unfold nm
  rw [h]
  rfl
theorem et_kst (d : D) : ET r (kst d) (.dat d) := rfl
/-- a call that has an answer -/
theorem CallK.et {g : List Sl → CR} {mu : List Bool} {ss : List Sl} {x : Ro} (hm : mu.any id = false) (hn : mu.length = ms.length) (h : AT obC r ms ss) (hg : CallK ms.length (g ss) (.ok ()) (fun _ => x)) : ET r (callV g mu ms) x.rs := by
  have := ek_call (o := .ok ()) (k := fun _ => x) (g := g) hm hn (ax_mono (at_go h) fun ds o e => by rw [e.1, e.2]; exact hg)
  exact this
/-! ### comprehensions and displays -/
@[simp] theorem mapF_ok (g : β → γ) : ∀ xs : List β, mapF (fun x => .ok (g x)) xs = .ok (xs.map g)
  | [] => rfl
  | x :: xs => by unfold mapF; rw [mapF_ok g xs]; rfl
theorem mapF_of {f : β → Rt γ} {g : β → γ} : ∀ {xs : List β}, (∀ x ∈ xs, f x = .ok (g x)) → mapF f xs = .ok (xs.map g)
  | [], _ => rfl
  | x :: xs, h => by unfold mapF; rw [h x List.mem_cons_self, mapF_of fun y hy => h y (List.mem_cons_of_mem _ hy)]; rfl
theorem lcF_of {p : β → Rt Bool} {f : β → Rt γ} {b : β → Bool} {g : β → γ} : ∀ {xs : List β}, (∀ x ∈ xs, p x = .ok (b x)) → (∀ x ∈ xs, b x = true → f x = .ok (g x)) → lcF p f xs = .ok ((xs.filter b).map g)
  | [], _, _ => rfl
  | x :: xs, h, h2 => by
    unfold lcF
    rw [h x List.mem_cons_self, lcF_of (fun y hy => h y (List.mem_cons_of_mem _ hy)) fun y hy => h2 y (List.mem_cons_of_mem _ hy)]
    simp only [Rt.nox, Rt.bind]
    cases c : b x with
    | false => simp [c]
    | true => simp [c, h2 x List.mem_cons_self c]
@[simp] theorem lcF_ok (p : β → Bool) (g : β → γ) (xs : List β) : lcF (fun x => .ok (p x)) (fun x => .ok (g x)) xs = .ok ((xs.filter p).map g) := lcF_of (fun _ _ => rfl) fun _ _ _ => rfl
/-- two fors, the second over a tuple, no tests -/
def lc2F (xs : List α) (ys : List β) (g : α → β → γ) : List γ := xs.flatMap fun x => ys.map fun y => g x y
theorem lc2_go {own vs1 : List Nat} {tg tg1 : D → M Unit} {m1 elt : M Rs} {enc : α → D} {enc1 : β → D} {g : α → β → γ} {eg : γ → D} {ρ : α → Ev} {ρ1 : α → β → Ev} {ys : List β} {okx : α → Bool} (hy : ys.length ≤ 1000) :
    ∀ (xs : List α), xs.all okx = true → (∀ x, tg (enc x) q = .ok () (ρ x)) → (∀ x, ET (ρ x) m1 (.dat (.tuple (ys.map enc1)))) → (∀ x, hideFrom vs1 [] 0 (ρ x) = ρ x) → (∀ x y, tg1 (enc1 y) (ρ x) = .ok () (ρ1 x y)) → (∀ x y, okx x = true → GT obD (ρ1 x y) elt (eg (g x y))) → (∀ x y, hideFrom vs1 [] 0 (ρ1 x y) = ρ x) → (∀ x, hideFrom own [] 0 (ρ x) = q) →
    lc2L own vs1 tg (kb true) m1 tg1 (kb true) elt (xs.map enc) q = .ok ((lc2F xs ys g).map eg) q
  | [], _, _, _, _, _, _, _, _ => rfl
  | x :: xs, h0, h1, h2, h3, h4, h5, h6, h7 => by
    simp only [List.all_cons, Bool.and_eq_true] at h0
    have ih := lc2_go hy xs h0.2 h1 h2 h3 h4 h5 h6 h7
    have inner : lcL vs1 tg1 (kb true) elt (ys.map enc1) (ρ x) = .ok ((ys.map (g x)).map eg) (ρ x) := by
      have := lcF_go (own := vs1) (tg := tg1) (test := kb true) (elt := elt) (p := fun _ : β => .ok true) (g := fun y => .ok (g x y)) (enc := enc1) (eg := eg) (ρ := ρ1 x) (q := ρ x) ys (h4 x) (h6 x) (fun _ => rfl) (fun y => h5 x y h0.1) (ys.map (g x)) (by rw [lcF_map]; exact mapF_ok _ _)
      exact this
    have h2' : m1 (ρ x) = .ok (.dat (.tuple (ys.map enc1))) (ρ x) := h2 x
    rw [List.map_cons]
    unfold lc2L
    simp only [h1 x, kb, h2', tupOf, List.length_map, hy, if_true, h3 x, inner, h7 x, ih]
    rw [show lc2F (x :: xs) ys g = ys.map (g x) ++ lc2F xs ys g from rfl, List.map_append]
theorem ek_lc2 {own vs1 : List Nat} {src : M (List D × List Nat)} {tg tg1 : D → M Unit} {m1 elt : M Rs} {os : Rt (List α)} {enc : α → D} {enc1 : β → D} {g : α → β → γ} {eg : γ → D} {ρ : α → Ev} {ρ1 : α → β → Ev} {hid : List Nat} {okx : α → Bool} (ys : List β) (hy : ys.length ≤ 1000)
    (hs : SK r src os enc hid) (hio : (own.any fun i => isIo r[i]?) = false) (hq : hideFrom own hid 0 r = q) (h1 : ∀ x, tg (enc x) q = .ok () (ρ x)) (h2 : ∀ x, ET (ρ x) m1 (.dat (.tuple (ys.map enc1)))) (h3 : ∀ x, hideFrom vs1 [] 0 (ρ x) = ρ x)
    (h4 : ∀ x y, tg1 (enc1 y) (ρ x) = .ok () (ρ1 x y)) (h5 : ∀ x y, okx x = true → GT obD (ρ1 x y) elt (eg (g x y))) (h6 : ∀ x y, hideFrom vs1 [] 0 (ρ1 x y) = ρ x) (h7 : ∀ x, hideFrom own [] 0 (ρ x) = q) :
    EK r (lc2V own vs1 src tg (kb true) m1 tg1 (kb true) elt) (os.bind fun xs => Rt.gd (xs.all okx && decide ((lc2F xs ys g).length ≤ sizeLine)) (lc2F xs ys g)) (fun zs => .fresh (eL eg zs)) := by
  cases os with
  | stuck => trivial
  | exc c fs => obtain ⟨r', h⟩ := hs; exact ⟨r', by unfold lc2V; rw [h]⟩
  | ok xs =>
    have hs : src r = .ok (xs.map enc, hid) r := hs
    simp only [Rt.bind]
    by_cases c : (xs.all okx && decide ((lc2F xs ys g).length ≤ sizeLine)) = true
    · rw [c]
      simp only [Bool.and_eq_true, decide_eq_true_eq] at c
      show lc2V own vs1 src tg (kb true) m1 tg1 (kb true) elt r = _
      have := lc2_go hy xs c.1 h1 h2 h3 h4 h5 h6 h7
      unfold lc2V
      simp only [hs, hio, hq, this, List.length_map, c.2, if_true]
      rw [← hq, show_hide]
      rfl
    · simp only [Bool.not_eq_true] at c
      rw [c]; trivial
/-- (*xs, x) -/
theorem et_snoc {a b : M Rs} {xs : List α} {x : α} {e : α → D} {d : Rs} (ha : ET r a d) (hs : (seeC d r).map (·.1) = some (eT e xs) ∨ (seeC d r).map (·.1) = some (eL e xs)) (hb : GT obD r b (e x)) (hl : xs.length < sizeLine) : ET r (tupA (sargs [(true, a), (false, b)])) (.dat (eT e (xs ++ [x]))) := by
  obtain ⟨y, b1, b2⟩ := hb
  have hk : ∀ zs : List D, keeps (zs.map .dat ++ [hel y]) r = .ok (zs ++ [e x]) r := by
    intro zs
    induction zs with
    | nil =>
      have : keep (hel y) r = .ok (e x) r := by
        cases y with
        | dat z => cases b2; rfl
        | fresh z => cases b2; rfl
        | var i => cases b2
      simp only [List.map_nil, List.nil_append, keeps, this]
    | cons z zs ih => simp only [List.map_cons, List.cons_append, keeps, keep, ih]
  have key : ∀ d' hid, seeC d r = some (d', hid) → items d' = some (xs.map e) → tupA (sargs [(true, a), (false, b)]) r = .ok (.dat (eT e (xs ++ [x]))) r := by
    intro d' hid e1 e2
    unfold tupA sargs sargs sargs
    simp only [show a r = _ from ha, e1, e2, b1, hold_hel, hk]
    rw [if_pos (by simp; omega)]
    unfold eT
    simp
  show tupA (sargs [(true, a), (false, b)]) r = _
  rcases hs with hs | hs
  · obtain ⟨⟨d', hid⟩, e1, e2⟩ := Option.map_eq_some_iff.mp hs
    simp only at e2
    subst e2
    exact key _ hid e1 rfl
  · obtain ⟨⟨d', hid⟩, e1, e2⟩ := Option.map_eq_some_iff.mp hs
    simp only at e2
    subst e2
    exact key _ hid e1 rfl
def snocF (xs : List α) (x : α) : Rt (List α) := Rt.gd (decide (xs.length < sizeLine)) (xs ++ [x])
theorem ek_snoc {a b : M Rs} {xs : List α} {x : α} {e : α → D} {d : Rs} (ha : ET r a d) (hs : (seeC d r).map (·.1) = some (eT e xs) ∨ (seeC d r).map (·.1) = some (eL e xs)) (hb : GT obD r b (e x)) : EK r (tupA (sargs [(true, a), (false, b)])) (snocF xs x) (fun z => .dat (eT e z)) := by
  unfold snocF
  by_cases c : xs.length < sizeLine
  · rw [decide_eq_true c]; exact et_snoc ha hs hb c
  · rw [decide_eq_false c]; trivial
/-! ### what changes a list -/
def addF (xs : List α) (x : α) : Rt (List α) := Rt.gd (decide (xs.length < sizeLine)) (xs ++ [x])
theorem s1_app {i : Nat} {e : α → D} {xs : List α} {o : Rt α} {r1 : List α → Ev} (h : GK obD r m o e) (hs : r[i]? = some (.own (eL e xs))) (he : ∀ ys, r.set i (.own (eL e ys)) = r1 ys) : S1 r (dropS (mutV i fApp [m])) (o.bind fun x => addF xs x) r1 := by
  cases o with
  | stuck => trivial
  | exc c fs =>
    obtain ⟨r', h⟩ := h
    refine ⟨r', ?_⟩
    unfold dropS mutV
    simp only [hs, isLst, eL, if_true, args, h]
  | ok a =>
    obtain ⟨x, h1, h2⟩ := h
    have hk : keeps [hel x] r = .ok [e a] r := keeps_all (xs := [x]) rfl fun i w z => by
      match i with
      | 0 => cases z; exact ⟨_, rfl, h2⟩
      | i + 1 => simp at z
    simp only [Rt.bind, addF]
    by_cases c : xs.length < sizeLine
    · rw [decide_eq_true c]
      show dropS _ r = _
      unfold dropS mutV
      simp only [hs, isLst, eL, if_true, args, h1, hold_hel, hk, wrAt, fApp, List.length_map, c, Option.map_some]
      rw [← he]
      simp [eL]
    · rw [decide_eq_false c]; trivial
/-- several names at once -/
def putNs : List Nat → List Ro → Ev → Option Ev
  | [], [], r => some r
  | i :: is, x :: xs, r => if setOk r[i]? then putNs is xs (r.set i x.sl) else none
  | _, _, _ => none
theorem putNs_ok : ∀ {is : List Nat} {xs : List Ro} {r r1 : Ev}, putNs is xs r = some r1 → putN is xs r = .ok () r1
  | [], [], _, _, h => by cases h; rfl
  | i :: is, x :: xs, r, r1, h => by
    unfold putNs at h
    split at h
    · rename_i c
      have := putNs_ok h
      unfold putN put1
      simp only [c, if_true, this]
    · cases h
  | [], _ :: _, _, _, h => by cases h
  | _ :: _, [], _, _, h => by cases h
theorem valN_go : ∀ {ms : List (M Rs)} {o : Rt η} {Q : List Ro → Rt η → Prop}, AX obR r ms o Q → (∃ ys, valN ms r = .ok ys r ∧ Q ys o) ∨ (∃ c fs r', o = .exc c fs ∧ valN ms r = .exc c fs r') ∨ o = .stuck := by
  intro ms o Q h
  have one : ∀ (x : Rs) (y : Ro), obR x r = some y → toRo x r = .ok y r := by
    intro x y e
    cases x with
    | dat d => cases e; rfl
    | fresh d => cases e; rfl
    | var i => cases e
  induction h with
  | nil h => exact .inl ⟨[], rfl, h⟩
  | tot g _ ih =>
    obtain ⟨x, e1, e2⟩ := g
    have e3 := one x _ e2
    rcases ih with ⟨ys, a, b⟩ | ⟨c, fs, r', a, b⟩ | a
    · exact .inl ⟨_ :: ys, by simp only [valN, val1, e1, e3, a], b⟩
    · exact .inr (.inl ⟨c, fs, r', a, by simp only [valN, val1, e1, e3, b]⟩)
    · exact .inr (.inr a)
  | par g _ ih =>
    rename_i oa rest Q e _
    cases oa with
    | stuck => exact .inr (.inr rfl)
    | exc c fs =>
      obtain ⟨r', h⟩ := g
      exact .inr (.inl ⟨c, fs, r', rfl, by simp only [valN, val1, h]⟩)
    | ok a0 =>
      obtain ⟨x, e1, e2⟩ := g
      have e3 := one x _ e2
      rcases ih a0 with ⟨ys, a, b⟩ | ⟨c, fs, r', a, b⟩ | a
      · exact .inl ⟨_ :: ys, by simp only [valN, val1, e1, e3, a], b⟩
      · exact .inr (.inl ⟨c, fs, r', a, by simp only [valN, val1, e1, e3, b]⟩)
      · exact .inr (.inr a)
theorem s1_sets {is : List Nat} {o : Rt σ} (h : AX obR r ms o fun ys o' => ∃ a, o' = .ok a ∧ putNs is ys r = some (E a)) : S1 r (setsS is ms) o E := by
  rcases valN_go h with ⟨ys, a, v, rfl, b⟩ | ⟨c, fs, r', a, b⟩ | a
  · show setsS is ms r = _
    unfold setsS
    simp only [a, putNs_ok b]
  · subst a
    exact ⟨r', by unfold setsS; rw [b]⟩
  · subst a; trivial
theorem gt_snoc {a b : M Rs} {xs : List α} {x : α} {e : α → D} {d : Rs} (ha : ET r a d) (hs : (seeC d r).map (·.1) = some (eT e xs) ∨ (seeC d r).map (·.1) = some (eL e xs)) (hb : GT obD r b (e x)) (hl : decide (xs.length < sizeLine) = true) : GT obD r (tupA (sargs [(true, a), (false, b)])) (eT e (xs ++ [x])) :=
  ET.gt (et_snoc ha hs hb (of_decide_eq_true hl)) rfl
theorem sk_T {a : List β} {x : Rs} {d : D} {enc : β → D} {hid : List Nat} (h : ET r m x) (hs : seeC x r = some (d, hid)) (hi : items d = some (a.map enc)) : SK r (srcC m) (.ok a) enc hid := by
  show srcC m r = _
  unfold srcC
  rw [show m r = _ from h]
  simp only [hs, hi]
theorem ske_T {a : List β} {x : Rs} {d : D} {enc : β → D} {hid : List Nat} (h : ET r m x) (hs : seeC x r = some (d, hid)) (hi : items d = some (a.map enc)) : SK r (srcE m) (.ok (enumF a)) (eZ .int enc) hid := by
  show srcE m r = _
  unfold srcE srcC
  rw [show m r = _ from h]
  simp only [hs, hi, enumL_map, enumF, List.map_map]
  rfl
theorem ek_chain {f g : Op} {a b c : M Rs} {x z : D} {o : Rt Int} {t u : Int → Bool} (ha : GT obV r a x) (hb : GK obV r b o PyData.int) (hc : GT obV r c z) (hf : ∀ y, f [x, .int y] = some (.dat (.bool (t y)))) (hg : ∀ y, g [.int y, z] = some (.dat (.bool (u y)))) : EK r (chainV f g a b c) (o.bind fun y => .ok (t y && u y)) fun b => .dat (.bool b) := by
  cases o with
  | ok y => exact et_chain ha hb hc (hf y) (hg y)
  | exc k fs =>
    obtain ⟨r', h⟩ := hb
    obtain ⟨xa, a1, a2⟩ := ha
    exact ⟨r', by unfold chainV; simp only [args, a1, hold_hel, h]⟩
  | stuck => trivial
theorem sr_own {n i : Nat} {a : δ} {e : δ → D} {O : δ → List (Option D)} (h : r[i]? = some (.own (e a))) (ho : outs n (r.set i .no) = O a) : SR n r (retS (nm i)) (.ok a) (fun z => .fresh (e z)) O := by
  refine ⟨r.set i .no, ?_, ho⟩
  have hm : nm i r = .ok (.var i) r := by
    unfold nm
    rw [h]
    rfl
  refine ret_eq hm ?_
  unfold retRs toRet
  simp only [h, ownAt]
theorem def_v {k N : Nat} {body : M Fl} {ss : List Sl} {o : Rt Unit} (hl : ss.length = k) (h : SN (fun r' => (outs k r').map fun o => match o with | some d => Sl.dat d | none => Sl.no) (ss ++ List.replicate (N - k) .no) body o (fun _ => List.replicate k Sl.no)) : CallK k (runBody k N body ss) o (fun z => .dat (eU z)) := by
  cases o with
  | ok v =>
    obtain ⟨r', h1, h2⟩ := h
    have h3 := congrArg List.length h2
    rw [List.length_map, List.length_replicate] at h3
    exact ⟨_, by unfold runBody; rw [if_pos hl, h1]; rfl, h3⟩
  | exc c fs =>
    obtain ⟨r', h1⟩ := h
    show runBody k N body ss = _
    unfold runBody; rw [if_pos hl, h1]
  | stuck => trivial
theorem ek_some {o : Rt α} {e : α → D} (h : EK r m o fun z => .dat (e z)) : EK r m (o.bind fun z => .ok (some z)) fun z => .dat (eO e z) := by
  cases o with
  | ok a => exact h
  | exc c fs => exact h
  | stuck => trivial
theorem q_isNO {e : α → D} (h : ∀ a, isNone (e a) = false) (o : Option α) : OpT (oIsN [eO e o, .none]) (.dat (.bool o.isNone)) := by
  cases o with
  | none => rfl
  | some a =>
    show Option.map Ro.rs (some (Ro.dat (.bool (isNone (e a))))) = _
    rw [h]; rfl
theorem q_notNO {e : α → D} (h : ∀ a, isNone (e a) = false) (o : Option α) : OpT (oNotN [eO e o, .none]) (.dat (.bool o.isSome)) := by
  cases o with
  | none => rfl
  | some a =>
    show Option.map Ro.rs (some (Ro.dat (.bool (!isNone (e a))))) = _
    rw [h]; rfl
theorem st_mv_own {i j : Nat} {d : D} {r1 : Ev} (h : r[j]? = some (.own d)) (hs : (if setOk (r.set j .no)[i]? then some ((r.set j .no).set i (.own d)) else none) = some r1) : ST r (mvS i j) r1 := by
  show mvS i j r = _
  unfold mvS
  simp only [h, ownAt]
  split at hs
  · rename_i c
    cases hs
    rw [if_pos c]
  · cases hs
theorem st_mv_dat {i j : Nat} {r1 : Ev} (h : ownAt r[j]? = none) (g : ST r (setS i (nm j)) r1) : ST r (mvS i j) r1 := by
  show mvS i j r = _
  unfold mvS
  rw [h]
  exact g
def extF (xs ys : List α) : Rt (List α) := Rt.gd (decide (xs.length + ys.length ≤ sizeLine)) (xs ++ ys)
theorem s1_ext {i : Nat} {e : α → D} {xs : List α} {o : Rt (List α)} {r1 : List α → Ev} (h : EK r m o fun z => .fresh (eL e z)) (hs : r[i]? = some (.own (eL e xs))) (he : ∀ ys, r.set i (.own (eL e ys)) = r1 ys) : S1 r (dropS (extV i m)) (o.bind fun x => extF xs x) r1 := by
  cases o with
  | stuck => trivial
  | exc c fs =>
    obtain ⟨r', h⟩ := h
    refine ⟨r', ?_⟩
    unfold dropS extV
    simp only [hs, isLst, eL, if_true, h]
  | ok a =>
    have h : m r = .ok (.fresh (eL e a)) r := h
    simp only [Rt.bind, extF]
    by_cases c : xs.length + a.length ≤ sizeLine
    · rw [decide_eq_true c]
      show dropS _ r = _
      unfold dropS extV
      simp only [eL] at hs h he ⊢
      simp only [hs, isLst, if_true, h, wrAt, extD, List.length_map, c, Option.map_some]
      rw [← he]
      simp
    · rw [decide_eq_false c]; trivial
/-! slices, index -/
theorem et_intM {i : Int} (h : ET r m (.dat (.int i))) : ET r (intM m) (.dat (.int i)) := by
  show intM m r = _
  unfold intM
  rw [show m r = _ from h]
theorem ek_intM {o : Rt Int} (h : EK r m o fun z => .dat (.int z)) : EK r (intM m) o fun z => .dat (.int z) := by
  cases o with
  | ok a =>
    show intM m r = _
    unfold intM
    rw [show m r = .ok (.dat (.int a)) r from h]
  | exc c fs => obtain ⟨r', h⟩ := h; exact ⟨r', by unfold intM; rw [h]⟩
  | stuck => trivial
theorem cutL_map (e : α → D) (xs : List α) (lo hi : Option Int) : cutL (xs.map e) lo hi = (cutL xs lo hi).map e := by
  unfold cutL
  rw [List.length_map, List.map_take, List.map_drop]
theorem q_slTTT (e : α → D) (xs : List α) (i j : Int) : OpT (oSl true true [eT e xs, .int i, .int j]) (.dat (eT e (cutL xs (some i) (some j)))) := by
  show Option.map Ro.rs (some (Ro.dat (.tuple (cutL (xs.map e) (some i) (some j))))) = _
  rw [cutL_map]; rfl
theorem q_slTFT (e : α → D) (xs : List α) (i : Int) : OpT (oSl true false [eT e xs, .int i]) (.dat (eT e (cutL xs (some i) none))) := by
  show Option.map Ro.rs (some (Ro.dat (.tuple (cutL (xs.map e) (some i) none)))) = _
  rw [cutL_map]; rfl
theorem q_slFTT (e : α → D) (xs : List α) (j : Int) : OpT (oSl false true [eT e xs, .int j]) (.dat (eT e (cutL xs none (some j)))) := by
  show Option.map Ro.rs (some (Ro.dat (.tuple (cutL (xs.map e) none (some j))))) = _
  rw [cutL_map]; rfl
theorem q_slFFT (e : α → D) (xs : List α) : OpT (oSl false false [eT e xs]) (.dat (eT e (cutL xs none none))) := by
  show Option.map Ro.rs (some (Ro.dat (.tuple (cutL (xs.map e) none none)))) = _
  rw [cutL_map]; rfl
theorem q_slTTL (e : α → D) (xs : List α) (i j : Int) : OpT (oSl true true [eL e xs, .int i, .int j]) (.fresh (eL e (cutL xs (some i) (some j)))) := by
  show Option.map Ro.rs (some (Ro.fresh (.list (cutL (xs.map e) (some i) (some j))))) = _
  rw [cutL_map]; rfl
theorem q_slTFL (e : α → D) (xs : List α) (i : Int) : OpT (oSl true false [eL e xs, .int i]) (.fresh (eL e (cutL xs (some i) none))) := by
  show Option.map Ro.rs (some (Ro.fresh (.list (cutL (xs.map e) (some i) none)))) = _
  rw [cutL_map]; rfl
theorem q_slFTL (e : α → D) (xs : List α) (j : Int) : OpT (oSl false true [eL e xs, .int j]) (.fresh (eL e (cutL xs none (some j)))) := by
  show Option.map Ro.rs (some (Ro.fresh (.list (cutL (xs.map e) none (some j))))) = _
  rw [cutL_map]; rfl
theorem q_slFFL (e : α → D) (xs : List α) : OpT (oSl false false [eL e xs]) (.fresh (eL e (cutL xs none none))) := by
  show Option.map Ro.rs (some (Ro.fresh (.list (cutL (xs.map e) none none)))) = _
  rw [cutL_map]; rfl
theorem rgD_map (a b : Int) : rgD a b = (ups a (b - a).toNat).map .int := by
  unfold rgD ups
  rw [List.map_map]
  rfl
def lrF (a b : Int) : Rt (List Int) := Rt.gd (rgOk a b) (ups a (b - a).toNat)
theorem q_listR1 (n : Int) : OpK (oListR [.int n]) (lrF 0 n) (fun z => .fresh (eL PyData.int z)) := by
  refine q_gd fun h => ?_
  show Option.map Ro.rs (if rgOk 0 n then some (Ro.fresh (.list (rgD 0 n))) else none) = _
  rw [if_pos h, rgD_map]; rfl
theorem q_listR2 (a b : Int) : OpK (oListR [.int a, .int b]) (lrF a b) (fun z => .fresh (eL PyData.int z)) := by
  refine q_gd fun h => ?_
  show Option.map Ro.rs (if rgOk a b then some (Ro.fresh (.list (rgD a b))) else none) = _
  rw [if_pos h, rgD_map]; rfl
theorem q_tupR1 (n : Int) : OpK (oTupR [.int n]) (lrF 0 n) (fun z => .dat (eT PyData.int z)) := by
  refine q_gd fun h => ?_
  show Option.map Ro.rs (if rgOk 0 n then some (Ro.dat (.tuple (rgD 0 n))) else none) = _
  rw [if_pos h, rgD_map]; rfl
def idxF [DecidableEq α] (x : α) : List α → Option Nat
  | [] => none
  | z :: zs => if z = x then some 0 else (idxF x zs).map (· + 1)
theorem firstIx_map {k : Nat} {e : α → D} [DecidableEq α] (h : Gd k e) (x : α) : ∀ xs : List α, firstIx (e x) (xs.map e) = idxF x xs
  | [] => rfl
  | z :: zs => by
    unfold idxF
    rw [List.map_cons]
    unfold firstIx
    rw [firstIx_map h x zs, h.dec]
    by_cases c : z = x <;> simp [c]
def indexF [DecidableEq α] (xs : List α) (x : α) : Rt Int := Rt.opt ((idxF x xs).map fun j => (j : Int))
theorem ek_index {k : Nat} {e : α → D} [DecidableEq α] {a b : M Rs} {oa : Rt (List α)} {ob : Rt α} (h : Gd k e) (hk : k < 64) (ha : GK obV r a oa (eL e)) (hb : GK obV r b ob e) : EK r (idxV a b) (oa.bind fun xs => ob.bind fun x => indexF xs x) fun z => .dat (.int z) := by
  cases oa with
  | stuck => trivial
  | exc c fs => obtain ⟨r', h1⟩ := ha; exact ⟨r', by unfold idxV; rw [h1]⟩
  | ok xs =>
    obtain ⟨x1, a1, a2⟩ := ha
    have l1 : look (hel x1) r = .ok (eL e xs) r := by
      have := looks_all (r := r) (xs := [x1]) (ds := [eL e xs]) rfl fun i w z => by
        match i with
        | 0 => cases z; exact ⟨_, rfl, a2⟩
        | i + 1 => simp at z
      simp only [List.map_cons, List.map_nil, looks] at this
      cases q : look (hel x1) r with
      | ok d r1 =>
        rw [q] at this
        simp only [Res.ok.injEq, List.cons.injEq, and_true] at this
        rw [this.1, this.2]
      | exc c fs r1 => rw [q] at this; cases this
      | stuck => rw [q] at this; cases this
    cases ob with
    | stuck => trivial
    | exc c fs =>
      obtain ⟨r', h1⟩ := hb
      refine ⟨r', ?_⟩
      unfold idxV
      simp only [a1, hold_hel, l1, isListD, eL, if_true, args, h1]
    | ok y =>
      obtain ⟨x2, b1, b2⟩ := hb
      have l2 : looks [hel x1, hel x2] r = .ok [eL e xs, e y] r := looks_all (xs := [x1, x2]) rfl fun i w z => by
        match i with
        | 0 => cases z; exact ⟨_, rfl, a2⟩
        | 1 => cases z; exact ⟨_, rfl, b2⟩
        | i + 2 => simp at z
      have s1 : Ip.shp (.list (xs.map e)) = true := (gd_L h).shp (by omega) xs
      have ho : oIndex [eL e xs, e y] = ((idxF y xs).map fun j => (Ro.dat (.int (j : Nat)))) := by
        unfold oIndex eL
        simp only [s1, h.shp (by omega : k ≤ 64) y, Bool.and_self, if_true, firstIx_map h]
      simp only [Rt.bind, indexF]
      cases q : idxF y xs with
      | none => trivial
      | some j =>
        rw [q] at ho
        show idxV a b r = _
        unfold idxV
        simp only [a1, hold_hel, l1, args, b1, l2, ho]
        rfl
def stoF (xs : List α) (k : Int) (v : α) : Rt (List α) := Rt.opt ((ixN xs.length k).map fun j => xs.set j v)
theorem s1_sto {i : Nat} {e : α → D} {mk : M Rs} {xs : List α} {ov : Rt α} {ok : Rt Int} {r1 : List α → Ev} (hv : GK obD r m ov e) (hk : GK obV r mk ok PyData.int) (hs : r[i]? = some (.own (eL e xs))) (he : ∀ ys, r.set i (.own (eL e ys)) = r1 ys) : S1 r (storeS i fStore m mk) (ov.bind fun v => ok.bind fun k => stoF xs k v) r1 := by
  cases ov with
  | stuck => trivial
  | exc c fs =>
    obtain ⟨r', h⟩ := hv
    exact ⟨r', by unfold storeS; simp only [h]⟩
  | ok v =>
    obtain ⟨x, h1, h2⟩ := hv
    have hkp : keep (hel x) r = .ok (e v) r := by
      cases x with
      | dat z => cases h2; rfl
      | fresh z => cases h2; rfl
      | var i => cases h2
    cases ok with
    | stuck => trivial
    | exc c fs =>
      obtain ⟨r', h⟩ := hk
      refine ⟨r', ?_⟩
      unfold storeS
      simp only [h1, hold_hel, hkp]
      unfold storeK
      simp only [hs, isBox, if_true, h]
    | ok k =>
      obtain ⟨y, g1, g2⟩ := hk
      have lk : look (hel y) r = .ok (.int k) r := by
        cases y with
        | dat z => cases g2; rfl
        | fresh z => cases g2; rfl
        | var j =>
          have g2 : held r[j]? = some (.int k) := g2
          show lift (held r[j]?) r = _
          rw [g2]; rfl
      simp only [Rt.bind, stoF]
      cases q : ixN xs.length k with
      | none => trivial
      | some j =>
        show storeS i fStore m mk r = _
        unfold storeS
        simp only [h1, hold_hel, hkp]
        unfold storeK
        simp only [eL] at hs he
        simp only [hs, isBox, if_true, g1, hold_hel, lk, wrAt, fStore, List.length_map, q, Option.map_some]
        rw [← he]
        simp
def memB [DecidableEq α] (a : α) (xs : List α) : Bool := decide (a ∈ xs)
theorem memB_iff [DecidableEq α] {a : α} {xs : List α} : memB a xs = true ↔ a ∈ xs := by unfold memB; rw [decide_eq_true_eq]
theorem q_inTM {k : Nat} {e : α → D} [DecidableEq α] (h : Gd k e) (hk : k < 64) (a : α) (xs : List α) : OpT (oIn [e a, eT e xs]) (.dat (.bool (memB a xs))) := q_inT h hk a xs
theorem q_inLM {k : Nat} {e : α → D} [DecidableEq α] (h : Gd k e) (hk : k < 64) (a : α) (xs : List α) : OpT (oIn [e a, eL e xs]) (.dat (.bool (memB a xs))) := q_inL h hk a xs
theorem q_ninTM {k : Nat} {e : α → D} [DecidableEq α] (h : Gd k e) (hk : k < 64) (a : α) (xs : List α) : OpT (oNotIn [e a, eT e xs]) (.dat (.bool (!memB a xs))) := by
  have := q_ninT h hk a xs
  unfold memB
  by_cases c : a ∈ xs <;> simpa [c] using this
theorem q_ninLM {k : Nat} {e : α → D} [DecidableEq α] (h : Gd k e) (hk : k < 64) (a : α) (xs : List α) : OpT (oNotIn [e a, eL e xs]) (.dat (.bool (!memB a xs))) := by
  have := q_ninL h hk a xs
  unfold memB
  by_cases c : a ∈ xs <;> simpa [c] using this
end
end Ip

set_option Elab.async false
set_option linter.all false
set_option maxRecDepth 100000
set_option maxHeartbeats 1000000
/-! Typed reckonings with a state that is changed on the way (the draws). -/
namespace Ip
open PySem L2
/-- as obC; the place i is another's -/
def obN (i : Nat) : Ob Sl
  | .dat d, _ => some (.dat d)
  | .fresh d, _ => some (.dat d)
  | .var j, r => if j = i then none else (held r[j]?).map .bor
section
variable {α β γ δ η σ τ X : Type} {m : M Rs} {ms : List (M Rs)} {E : σ → Ev} {s : σ} {ob : Ob X}
def GTS (ob : Ob X) (E : σ → Ev) (m : M Rs) (d : X) : Prop := ∃ x, (∀ s, m (E s) = .ok x (E s)) ∧ ∀ s, ob x (E s) = some d
theorem gts_of {x : Rs} {d : X} (h : ∀ s, ET (E s) m x) (l : ∀ s, ob x (E s) = some d) : GTS ob E m d := ⟨x, h, l⟩
theorem EK.gs {o : Rt α} {k : α → Rs} {e : α → X} (h : EK (E s) m o k) (l : ∀ a s', ob (k a) (E s') = some (e a)) : GS ob E s m (o.bind fun a => .ok (a, s)) e := (EK.es h).gs l
inductive AW (ob : Ob X) (E : σ → Ev) : σ → List (M Rs) → Rt η → (List X → σ → Rt η → Prop) → Prop
  | nil {s : σ} {o : Rt η} {Q : List X → σ → Rt η → Prop} : Q [] s o → AW ob E s [] o Q
  | tot {s : σ} {m : M Rs} {ms : List (M Rs)} {o : Rt η} {Q : List X → σ → Rt η → Prop} {d : X} : GTS ob E m d → AW ob E s ms o (fun ds s' o' => Q (d :: ds) s' o') → AW ob E s (m :: ms) o Q
  | par {α : Type} {s : σ} {m : M Rs} {ms : List (M Rs)} {oa : Rt (α × σ)} {rest : α × σ → Rt η} {Q : List X → σ → Rt η → Prop} {e : α → X} : GS ob E s m oa e → (∀ p : α × σ, AW ob E p.2 ms (rest p) (fun ds s' o' => Q (e p.1 :: ds) s' o')) → AW ob E s (m :: ms) (oa.bind rest) Q
theorem aw_go : ∀ {ms : List (M Rs)} {s : σ} {o : Rt η} {Q : List X → σ → Rt η → Prop}, AW ob E s ms o Q → (∃ (xs : List Rs) (ds : List X) (s' : σ), args ms (E s) = .ok (xs.map hel) (E s') ∧ xs.length = ds.length ∧ ds.length = ms.length ∧ (∀ (i : Nat) (x : Rs), xs[i]? = some x → ∃ d, ds[i]? = some d ∧ ∀ s'', ob x (E s'') = some d) ∧ Q ds s' o) ∨ (∃ c fs r', o = .exc c fs ∧ args ms (E s) = .exc c fs r') ∨ o = .stuck := by
  intro ms s o Q h
  induction h with
  | nil h => exact .inl ⟨[], [], _, rfl, rfl, rfl, (fun i x z => by simp at z), h⟩
  | tot g _ ih =>
    obtain ⟨x, e1, e2⟩ := g
    have hh := fun r => hold_hel x r
    rcases ih with ⟨xs, ds, s', a, l, l2, b, c⟩ | ⟨c, fs, r', a, b⟩ | a
    · refine .inl ⟨x :: xs, _ :: ds, s', by simp only [args, e1, hh, a, List.map_cons], by simp [l], by simp [l2], fun i y z => ?_, c⟩
      cases i with
      | zero => simp at z; subst z; exact ⟨_, rfl, e2⟩
      | succ i => exact b i y (by simpa using z)
    · exact .inr (.inl ⟨c, fs, r', a, by simp only [args, e1, hh, b]⟩)
    · exact .inr (.inr a)
  | par g _ ih =>
    rename_i oa rest Q e _
    cases oa with
    | stuck => exact .inr (.inr rfl)
    | exc c fs =>
      obtain ⟨r', h⟩ := g
      exact .inr (.inl ⟨c, fs, r', rfl, by simp only [args, h]⟩)
    | ok a0 =>
      obtain ⟨x, e1, e2⟩ := g
      have hh := fun r => hold_hel x r
      rcases ih a0 with ⟨xs, ds, s', a, l, l2, b, c⟩ | ⟨c, fs, r', a, b⟩ | a
      · refine .inl ⟨x :: xs, _ :: ds, s', by simp only [args, e1, hh, a, List.map_cons], by simp [l], by simp [l2], fun i y z => ?_, c⟩
        cases i with
        | zero => simp at z; subst z; exact ⟨_, rfl, e2⟩
        | succ i => exact b i y (by simpa using z)
      · exact .inr (.inl ⟨c, fs, r', a, by simp only [args, e1, hh, b]⟩)
      · exact .inr (.inr a)
/-- an operation, then the state -/
def thn {α σ : Type} (o : Rt α) (s : σ) : Rt (α × σ) := o.bind fun a => .ok (a, s)
@[simp] theorem thn_ok (a : α) (s : σ) : thn (.ok a) s = .ok (a, s) := rfl
theorem es_prim {f : Op} {o : Rt (α × σ)} {k : α → Rs} (h : AW obV E s ms o fun ds s' o' => ∃ oc : Rt α, o' = thn oc s' ∧ OpK (f ds) oc k) : ES E s (prim f ms) o k := by
  rcases aw_go h with ⟨xs, ds, s', a, l, _, b, oc, rfl, c⟩ | ⟨c, fs, r', a, b⟩ | a
  · cases oc with
    | stuck => trivial
    | exc c fs => exact c.elim
    | ok v =>
      show prim f ms (E s) = _
      unfold prim
      rw [a]
      have hl : looks (xs.map hel) (E s') = .ok ds (E s') := looks_all l fun i x z => by
        obtain ⟨d, h1, h2⟩ := b i x z
        exact ⟨d, h1, h2 s'⟩
      simp only [hl]
      obtain ⟨ro, e1, e2⟩ := Option.map_eq_some_iff.mp c
      rw [e1]
      show Res.ok ro.rs (E s') = _
      rw [e2]
  · subst a
    exact ⟨r', by unfold prim; rw [b]⟩
  · subst a; trivial
theorem es_tup {o : Rt (α × σ)} {k : α → D} (h : AW obD E s ms o fun ds s' o' => ∃ a, o' = .ok (a, s') ∧ k a = .tuple ds) (hl : ms.length ≤ 1000) : ES E s (tupV ms) o (fun a => .dat (k a)) := by
  rcases aw_go h with ⟨xs, ds, s', a, l, z, b, v, rfl, e⟩ | ⟨c, fs, r', a, b⟩ | a
  · show tupV ms (E s) = _
    unfold tupV
    rw [a]
    have hk : keeps (xs.map hel) (E s') = .ok ds (E s') := keeps_all l fun i x z => by
      obtain ⟨d, h1, h2⟩ := b i x z
      exact ⟨d, h1, h2 s'⟩
    simp only [hk]
    rw [if_pos (sz_small (by omega)), e]
  · subst a
    exact ⟨r', by unfold tupV; rw [b]⟩
  · subst a; trivial
theorem es_lst {o : Rt (α × σ)} {k : α → D} (h : AW obD E s ms o fun ds s' o' => ∃ a, o' = .ok (a, s') ∧ k a = .list ds) (hl : ms.length ≤ 1000) : ES E s (lstV ms) o (fun a => .fresh (k a)) := by
  rcases aw_go h with ⟨xs, ds, s', a, l, z, b, v, rfl, e⟩ | ⟨c, fs, r', a, b⟩ | a
  · show lstV ms (E s) = _
    unfold lstV
    rw [a]
    have hk : keeps (xs.map hel) (E s') = .ok ds (E s') := keeps_all l fun i x z => by
      obtain ⟨d, h1, h2⟩ := b i x z
      exact ⟨d, h1, h2 s'⟩
    simp only [hk]
    rw [if_pos (sz_small (by omega)), e]
  · subst a
    exact ⟨r', by unfold lstV; rw [b]⟩
  · subst a; trivial
theorem slArgs_N {i : Nat} {r : Ev} : ∀ {mu : List Bool} {xs : List Rs} {ds : List Sl}, mu.any id = false → mu.length = xs.length → xs.length = ds.length → (∀ (j : Nat) (x : Rs), xs[j]? = some x → ∃ d, ds[j]? = some d ∧ obN i x r = some d) → slArgs mu (xs.map hel) r = some ds ∧ sep1 true i mu (xs.map hel) = true := by
  intro mu
  induction mu with
  | nil =>
    intro xs ds hm hl h g
    cases xs with
    | cons _ _ => simp at hl
    | nil =>
      cases ds with
      | cons _ _ => simp at h
      | nil => exact ⟨rfl, by unfold sep1; rfl⟩
  | cons k mu ih =>
    intro xs ds hm hl h g
    cases xs with
    | nil => simp at hl
    | cons x xs =>
      cases ds with
      | nil => simp at h
      | cons d ds =>
        simp only [List.any_cons, Bool.or_eq_false_iff, id] at hm
        obtain ⟨rfl, hm⟩ := hm
        obtain ⟨d', h1, h2⟩ := g 0 x rfl
        cases h1
        obtain ⟨ih1, ih2⟩ := ih (xs := xs) (ds := ds) hm (by simpa using hl) (by simpa using h) fun i y z => g (i + 1) y (by simpa using z)
        cases x with
        | dat z => cases h2; exact ⟨by simp only [List.map_cons, hel, slArgs, slArg, ih1], by unfold sep1; simpa only [List.map_cons, hel] using ih2⟩
        | fresh z => cases h2; exact ⟨by simp only [List.map_cons, hel, slArgs, slArg, ih1], by unfold sep1; simpa only [List.map_cons, hel] using ih2⟩
        | var j =>
          have h2 : (if j = i then none else (held r[j]?).map Sl.bor) = some d := h2
          split at h2
          · cases h2
          · rename_i c
            refine ⟨by simp only [List.map_cons, hel, slArgs, slArg, h2, ih1], ?_⟩
            show sep1 true i (false :: mu) (.var j :: xs.map hel) = true
            unfold sep1
            rw [ih2]
            have : decide (i ≠ j) = true := by simpa using fun z => c z.symm
            rw [this]; rfl
/-- a call that changes its first argument -/
theorem es_call0 {g : List Sl → CR} {mu : List Bool} {es : σ → D} {i : Nat} {o : Rt (α × σ)} {k : α → Ro} (hm : mu.any id = false) (hn : mu.length = ms.length) (hi : ∀ s, named i (E s)[i]? = some (.var i)) (ha : ∀ s, slArg true (.var i) (E s) = some (.io (es s))) (hb : ∀ s s', back1 true (.var i) (some (es s')) (E s) = some (E s'))
    (h : AW (obN i) E s ms o fun ss s' o' => CallS (g (.io (es s') :: ss)) o' k (fun s2 => some (es s2) :: List.replicate ms.length none)) : ES E s (callV g (true :: mu) (nm i :: ms)) o.nox (fun a => (k a).rs) := by
  rcases aw_go h with ⟨xs, ds, s', a, l, z, b, c⟩ | ⟨c, fs, r', a, b⟩ | a
  · have e0 : args (nm i :: ms) (E s) = .ok (.var i :: xs.map hel) (E s') := by
      unfold args nm
      rw [hi s]
      simp only [lift, hold, a]
    obtain ⟨e1, e2⟩ := slArgs_N (mu := mu) (r := E s') hm (by omega) l fun j x q => by
      obtain ⟨d, h1, h2⟩ := b j x q
      exact ⟨d, h1, h2 s'⟩
    cases o with
    | stuck => trivial
    | exc x fs => trivial
    | ok v =>
      have c : g (.io (es s') :: ds) = .ok (k v.1) (some (es v.2) :: List.replicate ms.length none) := c
      show callV g (true :: mu) (nm i :: ms) (E s) = _
      unfold callV
      have e3 : slArgs (true :: mu) (.var i :: xs.map hel) (E s') = some (.io (es s') :: ds) := by
        unfold slArgs
        simp only [ha, e1]
      have e4 : Ip.sepOk (true :: mu) (.var i :: xs.map hel) = true := by
        unfold Ip.sepOk
        rw [e2, sepOk_no hm]; rfl
      have e5 : putBack (true :: mu) (.var i :: xs.map hel) (some (es v.2) :: List.replicate ms.length none) (E s') = some (E v.2) := by
        unfold putBack
        simp only [hb]
        exact putBack_no hm (by rw [List.length_map]; omega) (by rw [List.length_map, List.length_replicate]; omega)
      simp only [e0, e3, e4, c, e5, if_true]
  · subst a; trivial
  · subst a; trivial
/-- a call that changes nothing, its arguments drawn -/
theorem es_callP {g : List Sl → CR} {mu : List Bool} {o : Rt (α × σ)} {k : α → Ro} (hm : mu.any id = false) (hn : mu.length = ms.length) (h : AW obC E s ms o fun ss s' o' => ∃ oc : Rt α, o' = thn oc s' ∧ CallK ms.length (g ss) oc k) : ES E s (callV g mu ms) o (fun a => (k a).rs) := by
  rcases aw_go h with ⟨xs, ds, s', a, l, z, b, oc, rfl, c⟩ | ⟨c, fs, r', a, b⟩ | a
  · have e1 : slArgs mu (xs.map hel) (E s') = some ds := slArgs_all hm (by omega) l fun i x q => by
      obtain ⟨d, h1, h2⟩ := b i x q
      exact ⟨d, h1, h2 s'⟩
    have e2 := sepOk_no (xs := xs.map hel) hm
    cases oc with
    | stuck => trivial
    | exc x fs =>
      refine ⟨E s', ?_⟩
      have c : g ds = .exc x fs := c
      unfold callV
      simp only [a, e1, e2, c, if_true, noMu, hm]
      rfl
    | ok v =>
      obtain ⟨os, c1, c2⟩ := c
      show callV g mu ms (E s) = _
      unfold callV
      simp only [a, e1, e2, c1, if_true, putBack_no (r := E s') (os := os) (xs := xs.map hel) hm (by rw [List.length_map]; omega) (by rw [List.length_map]; omega)]
  · subst a
    exact ⟨r', by unfold callV; rw [b]⟩
  · subst a; trivial
theorem es_cond {c : M Bool} {a b : M Rs} {oc : Rt (Bool × σ)} {oa ob : σ → Rt (α × σ)} {k : α → Rs} (hc : TS E s c oc) (ha : ∀ s', ES E s' a (oa s') k) (hb : ∀ s', ES E s' b (ob s') k) : ES E s (Ip.cond c a b) (oc.bind fun p => if p.1 then oa p.2 else ob p.2) k := by
  cases oc with
  | ok x =>
    obtain ⟨x, s'⟩ := x
    have hc : c (E s) = .ok x (E s') := hc
    have ha := ha s'
    have hb := hb s'
    have e : Ip.cond c a b (E s) = if x then a (E s') else b (E s') := by
      unfold Ip.cond
      rw [hc]
      cases x <;> rfl
    unfold ES at ha hb ⊢
    cases x with
    | true => simp only [Rt.bind, if_true] at e ⊢; rw [e]; exact ha
    | false => simp only [Rt.bind] at e ⊢; rw [e]; exact hb
  | exc k fs => obtain ⟨r', h⟩ := hc; exact ⟨r', cond_x h⟩
  | stuck => trivial
theorem ts_tst0 {o : Rt (Bool × σ)} (h : ES E s m o fun b => .dat (.bool b)) : TS E s (tst m) o := by
  cases o with
  | ok b =>
    have h : m (E s) = .ok (.dat (.bool b.1)) (E b.2) := h
    show tst m (E s) = _
    unfold tst
    rw [h]
    rfl
  | exc c fs => obtain ⟨r', h⟩ := h; exact ⟨r', by unfold tst; rw [h]⟩
  | stuck => trivial
theorem es_and {a b : M Rs} {oa : Rt (Bool × σ)} {ob : σ → Rt (Bool × σ)} (ha : ES E s a oa fun b => .dat (.bool b)) (hb : ∀ s', ES E s' b (ob s') fun b => .dat (.bool b)) : ES E s (andV a b) (oa.bind fun p => if p.1 then ob p.2 else .ok (false, p.2)) fun b => .dat (.bool b) := es_cond (ob := fun s' => .ok (false, s')) (ts_tst0 ha) hb fun _ => rfl
theorem es_or {a b : M Rs} {oa : Rt (Bool × σ)} {ob : σ → Rt (Bool × σ)} (ha : ES E s a oa fun b => .dat (.bool b)) (hb : ∀ s', ES E s' b (ob s') fun b => .dat (.bool b)) : ES E s (orV a b) (oa.bind fun p => if p.1 then .ok (true, p.2) else ob p.2) fun b => .dat (.bool b) := es_cond (oa := fun s' => .ok (true, s')) (ts_tst0 ha) (fun _ => rfl) hb
theorem ts_tst {o : Rt (Bool × σ)} (h : ES E s m o fun b => .dat (.bool b)) : TS E s (tst m) o := by
  cases o with
  | ok b =>
    have h : m (E s) = .ok (.dat (.bool b.1)) (E b.2) := h
    show tst m (E s) = _
    unfold tst
    rw [h]
    rfl
  | exc c fs => obtain ⟨r', h⟩ := h; exact ⟨r', by unfold tst; rw [h]⟩
  | stuck => trivial
/-! ### comprehensions that draw -/
def lcS {β γ σ : Type} (p : β → σ → Rt (Bool × σ)) (g : β → σ → Rt (γ × σ)) : List β → σ → Rt (List γ × σ)
  | [], s => .ok ([], s)
  | x :: xs, s => (p x s).nox.bind fun t => if t.1 then (g x t.2).nox.bind fun y => (lcS p g xs y.2).bind fun ys => .ok (y.1 :: ys.1, ys.2) else lcS p g xs t.2
def mapS {β γ σ : Type} (g : β → σ → Rt (γ × σ)) : List β → σ → Rt (List γ × σ)
  | [], s => .ok ([], s)
  | x :: xs, s => (g x s).nox.bind fun y => (mapS g xs y.2).bind fun ys => .ok (y.1 :: ys.1, ys.2)
theorem lcS_map (g : β → σ → Rt (γ × σ)) : ∀ (xs : List β) (s : σ), lcS (fun _ s => .ok (true, s)) g xs s = mapS g xs s
  | [], s => rfl
  | x :: xs, s => by
    unfold lcS mapS
    simp only [Rt.nox, Rt.bind, if_true, lcS_map g xs]
theorem lcS_go {own : List Nat} {tg : D → M Unit} {test : M Bool} {elt : M Rs} {p : β → σ → Rt (Bool × σ)} {g : β → σ → Rt (γ × σ)} {enc : β → D} {eg : γ → D} {Q : σ → Ev} {ρ : σ → β → Ev} : ∀ (xs : List β),
    (∀ s x, tg (enc x) (Q s) = .ok () (ρ s x)) → (∀ s x, hideFrom own [] 0 (ρ s x) = Q s) → (∀ s x, TS (fun s => ρ s x) s test (p x s)) → (∀ s x, GS obD (fun s => ρ s x) s elt (g x s) eg) → ∀ s ys, lcS p g xs s = .ok ys → lcL own tg test elt (xs.map enc) (Q s) = .ok (ys.1.map eg) (Q ys.2)
  | [], _, _, _, _, s, ys, e => by cases e; rfl
  | x :: xs, hg, hh, ht, he, s, ys, e => by
    have ih := lcS_go xs hg hh ht he
    have h1 := ht s x
    unfold lcS at e
    rw [List.map_cons]
    unfold lcL
    simp only [hg s x]
    cases hp : p x s with
    | stuck => rw [hp] at e; cases e
    | exc c fs => rw [hp] at e; cases e
    | ok t =>
      rw [hp] at e h1
      have h1 : test (ρ s x) = .ok t.1 (ρ t.2 x) := h1
      simp only [Rt.nox, Rt.bind] at e
      simp only [h1]
      obtain ⟨b, s2⟩ := t
      cases b with
      | false =>
        simp only [hh s2 x]
        exact ih s2 ys e
      | true =>
        simp only [if_true] at e
        have h2 := he s2 x
        cases hx : g x s2 with
        | stuck => rw [hx] at e; cases e
        | exc c fs => rw [hx] at e; cases e
        | ok y =>
          rw [hx] at e h2
          obtain ⟨v, e1, e2⟩ := h2
          simp only at e
          cases hr : lcS p g xs y.2 with
          | stuck => rw [hr] at e; cases e
          | exc c fs => rw [hr] at e; cases e
          | ok zs =>
            rw [hr] at e
            cases e
            have hk : keep (hel v) (ρ y.2 x) = .ok (eg y.1) (ρ y.2 x) := by
              have e2 := e2 y.2
              cases v with
              | dat z => cases e2; rfl
              | fresh z => cases e2; rfl
              | var i => cases e2
            simp only [e1, hold_hel, hk, hh y.2 x, ih y.2 zs hr]
            rfl
theorem lcS_exc {p : β → σ → Rt (Bool × σ)} {g : β → σ → Rt (γ × σ)} : ∀ (xs : List β) s c fs, lcS p g xs s ≠ .exc c fs
  | [], s, c, fs, e => by cases e
  | x :: xs, s, c, fs, e => by
    unfold lcS at e
    cases hp : p x s with
    | stuck => rw [hp] at e; cases e
    | exc c fs => rw [hp] at e; cases e
    | ok t =>
      rw [hp] at e
      obtain ⟨b, s2⟩ := t
      cases b with
      | false => exact lcS_exc xs s2 c fs e
      | true =>
        simp only [Rt.nox, Rt.bind, if_true] at e
        cases hx : g x s2 with
        | stuck => rw [hx] at e; cases e
        | exc c fs => rw [hx] at e; cases e
        | ok y =>
          rw [hx] at e
          simp only at e
          cases hr : lcS p g xs y.2 with
          | stuck => rw [hr] at e; cases e
          | exc c fs => exact lcS_exc xs _ c fs hr
          | ok zs => rw [hr] at e; cases e
theorem es_lc {own : List Nat} {src : M (List D × List Nat)} {tg : D → M Unit} {test : M Bool} {elt : M Rs} {os : Rt (List β)} {p : β → σ → Rt (Bool × σ)} {g : β → σ → Rt (γ × σ)} {enc : β → D} {eg : γ → D} {Q : σ → Ev} {ρ : σ → β → Ev} {hid : List Nat}
    (hs : SK (E s) src os enc hid) (hio : (own.any fun i => isIo (E s)[i]?) = false) (hq : hideFrom own hid 0 (E s) = Q s) (hg : ∀ s x, tg (enc x) (Q s) = .ok () (ρ s x)) (hh : ∀ s x, hideFrom own [] 0 (ρ s x) = Q s) (ht : ∀ s x, TS (fun s => ρ s x) s test (p x s)) (he : ∀ s x, GS obD (fun s => ρ s x) s elt (g x s) eg) (hw : ∀ s', showFrom own hid 0 (E s) (Q s') = E s') :
    ES E s (lcV own src tg test elt) (os.bind fun xs => lcS p g xs s) (fun ys => .fresh (eL eg ys)) := by
  cases os with
  | stuck => trivial
  | exc c fs => obtain ⟨r', h⟩ := hs; exact ⟨r', by unfold lcV; rw [h]⟩
  | ok xs =>
    have hs : src (E s) = .ok (xs.map enc, hid) (E s) := hs
    simp only [Rt.bind]
    cases hr : lcS p g xs s with
    | stuck => trivial
    | exc c fs => exact absurd hr (lcS_exc xs s c fs)
    | ok ys =>
      show lcV own src tg test elt (E s) = _
      have := lcS_go xs hg hh ht he s ys hr
      unfold lcV
      simp only [hs, hio, hq, this]
      rw [hw]
      rfl
theorem es_lcM {own : List Nat} {src : M (List D × List Nat)} {tg : D → M Unit} {elt : M Rs} {os : Rt (List β)} {g : β → σ → Rt (γ × σ)} {enc : β → D} {eg : γ → D} {Q : σ → Ev} {ρ : σ → β → Ev} {hid : List Nat}
    (hs : SK (E s) src os enc hid) (hio : (own.any fun i => isIo (E s)[i]?) = false) (hq : hideFrom own hid 0 (E s) = Q s) (hg : ∀ s x, tg (enc x) (Q s) = .ok () (ρ s x)) (hh : ∀ s x, hideFrom own [] 0 (ρ s x) = Q s) (he : ∀ s x, GS obD (fun s => ρ s x) s elt (g x s) eg) (hw : ∀ s', showFrom own hid 0 (E s) (Q s') = E s') :
    ES E s (lcV own src tg (kb true) elt) (os.bind fun xs => mapS g xs s) (fun ys => .fresh (eL eg ys)) := by
  have := es_lc (p := fun _ s => .ok (true, s)) (test := kb true) hs hio hq hg hh (fun _ _ => rfl) he hw
  simp only [lcS_map] at this
  exact this
/-- a range whose end is drawn -/
def SS {β : Type} (E : σ → Ev) (s : σ) (m : M (List D × List Nat)) (o : Rt (List β × σ)) (enc : β → D) (hid : List Nat) : Prop := match o with
  | .ok p => m (E s) = .ok (p.1.map enc, hid) (E p.2)
  | .exc c fs => ∃ r', m (E s) = .exc c fs r'
  | .stuck => True
theorem ss_R {o : Rt (List Int × σ)} (h : AW obV E s ms o fun ds s' o' => ∃ (js : List Int) (oc : Rt (List Int)), ds = js.map .int ∧ o' = thn oc s' ∧ RgIs js oc) : SS E s (srcR ms) o .int [] := by
  rcases aw_go h with ⟨xs, ds, s', a, l, _, b, js, oc, rfl, rfl, z⟩ | ⟨c, fs, r', a, b⟩ | a
  · have hl : looks (xs.map hel) (E s') = .ok (js.map PyData.int) (E s') := looks_all l fun i x z => by
      obtain ⟨d, h1, h2⟩ := b i x z
      exact ⟨d, h1, h2 s'⟩
    cases oc with
    | stuck => trivial
    | exc c fs => exact z.elim
    | ok zs =>
      have z : rangeOf js = some (zs.map .int) := z
      show srcR ms (E s) = _
      unfold srcR intsM
      simp only [a, hl, mapM_int]
      show (match (Res.ok js (E s') : Res (List Int)) with
        | .ok is r => match rangeOf is with
          | some ds => Res.ok (ds, ([] : List Nat)) r
          | none => .stuck
        | .exc c fs r => .exc c fs r
        | .stuck => .stuck) = _
      simp only [z]
  · subst a
    exact ⟨r', by unfold srcR intsM; rw [b]⟩
  · subst a; trivial
theorem es_lcS {own : List Nat} {src : M (List D × List Nat)} {tg : D → M Unit} {test : M Bool} {elt : M Rs} {os : Rt (List β × σ)} {p : β → σ → Rt (Bool × σ)} {g : β → σ → Rt (γ × σ)} {enc : β → D} {eg : γ → D} {Q : σ → Ev} {ρ : σ → β → Ev} {hid : List Nat}
    (hs : SS E s src os enc hid) (hio : ∀ s, (own.any fun i => isIo (E s)[i]?) = false) (hq : ∀ s, hideFrom own hid 0 (E s) = Q s) (hg : ∀ s x, tg (enc x) (Q s) = .ok () (ρ s x)) (hh : ∀ s x, hideFrom own [] 0 (ρ s x) = Q s) (ht : ∀ s x, TS (fun s => ρ s x) s test (p x s)) (he : ∀ s x, GS obD (fun s => ρ s x) s elt (g x s) eg) (hw : ∀ s s', showFrom own hid 0 (E s) (Q s') = E s') :
    ES E s (lcV own src tg test elt) (os.bind fun xs => lcS p g xs.1 xs.2) (fun ys => .fresh (eL eg ys)) := by
  cases os with
  | stuck => trivial
  | exc c fs => obtain ⟨r', h⟩ := hs; exact ⟨r', by unfold lcV; rw [h]⟩
  | ok xs =>
    have hs : src (E s) = .ok (xs.1.map enc, hid) (E xs.2) := hs
    simp only [Rt.bind]
    cases hr : lcS p g xs.1 xs.2 with
    | stuck => trivial
    | exc c fs => exact absurd hr (lcS_exc xs.1 xs.2 c fs)
    | ok ys =>
      show lcV own src tg test elt (E s) = _
      have := lcS_go xs.1 hg hh ht he xs.2 ys hr
      unfold lcV
      simp only [hs, hio, hq, this]
      rw [hw]
      rfl
theorem es_lcSM {own : List Nat} {src : M (List D × List Nat)} {tg : D → M Unit} {elt : M Rs} {os : Rt (List β × σ)} {g : β → σ → Rt (γ × σ)} {enc : β → D} {eg : γ → D} {Q : σ → Ev} {ρ : σ → β → Ev} {hid : List Nat}
    (hs : SS E s src os enc hid) (hio : ∀ s, (own.any fun i => isIo (E s)[i]?) = false) (hq : ∀ s, hideFrom own hid 0 (E s) = Q s) (hg : ∀ s x, tg (enc x) (Q s) = .ok () (ρ s x)) (hh : ∀ s x, hideFrom own [] 0 (ρ s x) = Q s) (he : ∀ s x, GS obD (fun s => ρ s x) s elt (g x s) eg) (hw : ∀ s s', showFrom own hid 0 (E s) (Q s') = E s') :
    ES E s (lcV own src tg (kb true) elt) (os.bind fun xs => mapS g xs.1 xs.2) (fun ys => .fresh (eL eg ys)) := by
  have := es_lcS (p := fun _ s => .ok (true, s)) (test := kb true) hs hio hq hg hh (fun _ _ => rfl) he hw
  simp only [lcS_map] at this
  exact this
/-! ### statements -/
theorem s1_setS {i : Nat} {o : Rt (α × σ)} {k : α → Rs} {E1 : α × σ → Ev} (h : ES E s m o k) (hs : ∀ a s', setRs i (k a) (E s') = some (E1 (a, s'))) : S1 (E s) (setS i m) o E1 := by
  cases o with
  | ok a => exact set_eq (show m (E s) = .ok (k a.1) (E a.2) from h) (hs a.1 a.2)
  | exc c fs =>
    obtain ⟨r', h⟩ := h
    exact ⟨r', by unfold setS val1; rw [h]⟩
  | stuck => trivial
theorem awn_go : ∀ {ms : List (M Rs)} {s : σ} {o : Rt η} {Q : List Ro → σ → Rt η → Prop}, AW obR E s ms o Q → (∃ ys s', valN ms (E s) = .ok ys (E s') ∧ Q ys s' o) ∨ (∃ c fs r', o = .exc c fs ∧ valN ms (E s) = .exc c fs r') ∨ o = .stuck := by
  intro ms s o Q h
  have one : ∀ (x : Rs) (y : Ro) (r : Ev), obR x r = some y → toRo x r = .ok y r := by
    intro x y r e
    cases x with
    | dat d => cases e; rfl
    | fresh d => cases e; rfl
    | var i => cases e
  induction h with
  | nil h => exact .inl ⟨[], _, rfl, h⟩
  | tot g _ ih =>
    rename_i s0 _ _ _ _ _ _
    obtain ⟨x, e1, e2⟩ := g
    have e3 := one x _ _ (e2 s0)
    rcases ih with ⟨ys, s', a, b⟩ | ⟨c, fs, r', a, b⟩ | a
    · exact .inl ⟨_ :: ys, s', by simp only [valN, val1, e1, e3, a], b⟩
    · exact .inr (.inl ⟨c, fs, r', a, by simp only [valN, val1, e1, e3, b]⟩)
    · exact .inr (.inr a)
  | par g _ ih =>
    rename_i oa rest Q e _
    cases oa with
    | stuck => exact .inr (.inr rfl)
    | exc c fs =>
      obtain ⟨r', h⟩ := g
      exact .inr (.inl ⟨c, fs, r', rfl, by simp only [valN, val1, h]⟩)
    | ok a0 =>
      obtain ⟨x, e1, e2⟩ := g
      have e3 := one x _ _ (e2 a0.2)
      rcases ih a0 with ⟨ys, s', a, b⟩ | ⟨c, fs, r', a, b⟩ | a
      · exact .inl ⟨_ :: ys, s', by simp only [valN, val1, e1, e3, a], b⟩
      · exact .inr (.inl ⟨c, fs, r', a, by simp only [valN, val1, e1, e3, b]⟩)
      · exact .inr (.inr a)
theorem s1_setsS {is : List Nat} {o : Rt τ} {E1 : τ → Ev} (h : AW obR E s ms o fun ys s' o' => ∃ a, o' = .ok a ∧ putNs is ys (E s') = some (E1 a)) : S1 (E s) (setsS is ms) o E1 := by
  rcases awn_go h with ⟨ys, s', a, v, rfl, b⟩ | ⟨c, fs, r', a, b⟩ | a
  · show setsS is ms (E s) = _
    unfold setsS
    simp only [a, putNs_ok b]
  · subst a
    exact ⟨r', by unfold setsS; rw [b]⟩
  · subst a; trivial
theorem if_rS {n : Nat} {c : M Bool} {a b : M Fl} {oc : Rt (Bool × σ)} {oa ob : σ → Rt δ} {K : δ → Ro} {O : δ → List (Option D)} (hc : TS E s c oc) (ha : ∀ s', SR n (E s') a (oa s') K O) (hb : ∀ s', SR n (E s') b (ob s') K O) : SR n (E s) (Ip.cond c a b) (oc.bind fun x => if x.1 then oa x.2 else ob x.2) K O := by
  cases oc with
  | ok x =>
    obtain ⟨x, s'⟩ := x
    have hc : c (E s) = .ok x (E s') := hc
    have ha := ha s'
    have hb := hb s'
    unfold SR at ha hb ⊢
    have e : Ip.cond c a b (E s) = if x then a (E s') else b (E s') := by
      unfold Ip.cond
      rw [hc]
      cases x <;> rfl
    cases x with
    | true => simp only [Rt.bind, if_true] at e ⊢; rw [e]; exact ha
    | false => simp only [Rt.bind] at e ⊢; rw [e]; exact hb
  | exc k fs => obtain ⟨r', h⟩ := hc; exact ⟨r', cond_x h⟩
  | stuck => trivial
theorem for_S {β : Type} {El : τ → Ev} {src : M (List D × List Nat)} {tg : D → M Unit} {body : M Fl} {os : Rt (List β × σ)} {enc : β → D} {G : τ → β → Ev} {f : τ → β → Rt τ} {hid : List Nat} (i0 : σ → τ) (hs : SS E s src os enc hid) (h0 : ∀ s', demoteL hid (E s') = El (i0 s')) (hg : ∀ t x, tg (enc x) (El t) = .ok () (G t x)) (hb : ∀ s' t x, SN (forget (El (i0 s'))) (G t x) body (f t x) El) : S1 (E s) (forS (unhid src) tg body) (os.bind fun p => foldR f p.1 (i0 p.2)) El := by
  cases os with
  | stuck => trivial
  | exc c fs => obtain ⟨r', h⟩ := hs; exact ⟨r', by unfold forS unhid; rw [h]⟩
  | ok p =>
    have hs : src (E s) = .ok (p.1.map enc, hid) (E p.2) := hs
    have h := for_go hg (hb p.2) p.1 (i0 p.2)
    simp only [Rt.bind]
    have e : forS (unhid src) tg body (E s) = forL (El (i0 p.2)) tg body (p.1.map enc) (El (i0 p.2)) := by unfold forS unhid; rw [hs]; simp only [h0]
    unfold S1 at h ⊢
    rw [e]
    exact h
/-! ### a def that changes its first argument -/
theorem def_rS {k N : Nat} {body : M Fl} {ss : List Sl} {o : Rt (α × σ)} {K : α → Ro} {os : σ → List (Option D)} (hl : ss.length = k) (h : SR k (ss ++ List.replicate (N - k) .no) body o (fun p => K p.1) (fun p => os p.2)) : CallS (runBody k N body ss) o K os := by
  cases o with
  | ok v =>
    obtain ⟨r', h1, h2⟩ := h
    show runBody k N body ss = _
    unfold runBody
    rw [if_pos hl, h1]
    simp only [h2]
  | exc c fs =>
    obtain ⟨r', h1⟩ := h
    show runBody k N body ss = _
    unfold runBody; rw [if_pos hl, h1]
  | stuck => trivial
/-- the answer of a drawing expression -/
theorem sr_retS {n : Nat} {o : Rt (α × σ)} {k : α → Rs} {K : α → Ro} {O : σ → List (Option D)} {E1 : α → σ → Ev} (h : ES E s m o k) (hs : ∀ a s', retRs (k a) (E s') = some (K a, E1 a s')) (ho : ∀ a s', outs n (E1 a s') = O s') : SR n (E s) (retS m) o (fun p => K p.1) (fun p => O p.2) := by
  cases o with
  | ok a => exact ⟨E1 a.1 a.2, ret_eq (show m (E s) = .ok (k a.1) (E a.2) from h) (hs a.1 a.2), ho a.1 a.2⟩
  | exc c fs => obtain ⟨r', h⟩ := h; exact ⟨r', by unfold retS val1'; rw [h]⟩
  | stuck => trivial
theorem sr_retD {n : Nat} {o : Rt (α × σ)} {k : α → Rs} {K : α → Ro} {O : α → List (Option D)} {E1 : α → σ → Ev} (h : ES E s m o k) (hs : ∀ a s', retRs (k a) (E s') = some (K a, E1 a s')) (ho : ∀ a s', outs n (E1 a s') = O a) : SR n (E s) (retS m) (o.bind fun p => .ok p.1) K O := by
  cases o with
  | ok a => exact ⟨E1 a.1 a.2, ret_eq (show m (E s) = .ok (k a.1) (E a.2) from h) (hs a.1 a.2), ho a.1 a.2⟩
  | exc c fs => obtain ⟨r', h⟩ := h; exact ⟨r', by unfold retS val1'; rw [h]⟩
  | stuck => trivial
/-! ### the draws' row -/
structure Row where
  s : List Int
  i : Int
  c : Int
  q : Int
def eRow (w : Row) : D := .list [eL PyData.int w.s, .int w.i, .int w.c, .int w.q]
def takenF (w : Row) (n : Int) : Rt (Int × Row) :=
  if 0 < n ∧ n < 1000 ∧ 0 ≤ w.i then
    if 0 < w.q then .ok (w.q % n, ⟨w.s, w.i, w.c, w.q / n⟩)
    else if (w.s.length : Int) < w.i + 1 then .ok (((w.c * 48271 + 11) % 2147483647) / 7 % n, ⟨w.s, w.i + 1, (w.c * 48271 + 11) % 2147483647, w.q⟩)
    else (ixF w.s w.i).bind fun cell => .ok (cell % n, ⟨w.s, w.i + 1, (w.c * 48271 + cell + 11) % 2147483647, if 1000000000000000000 ≤ cell then cell / n else w.q⟩)
  else .stuck
/-- a row from which one may draw -/
def Row.ok (w : Row) : Prop := 0 ≤ w.i
theorem taken_ok {w : Row} (h : w.ok) {n : Int} (h0 : 0 < n) (h1 : n < 1000) : ∃ k w', takenF w n = .ok (k, w') ∧ 0 ≤ k ∧ k < n ∧ w'.ok := by
  have md : ∀ x : Int, 0 ≤ x % n ∧ x % n < n := fun x => ⟨Int.emod_nonneg _ (by omega), Int.emod_lt_of_pos _ h0⟩
  unfold takenF
  rw [if_pos ⟨h0, h1, h⟩]
  unfold Row.ok at h
  by_cases c : 0 < w.q
  · rw [if_pos c]; exact ⟨_, _, rfl, (md _).1, (md _).2, h⟩
  · rw [if_neg c]
    by_cases c2 : (w.s.length : Int) < w.i + 1
    · rw [if_pos c2]; exact ⟨_, _, rfl, (md _).1, (md _).2, by show 0 ≤ w.i + 1; omega⟩
    · rw [if_neg c2]
      have e : ∃ z, ixF w.s w.i = .ok z := ⟨_, by unfold ixF; rw [atI_get (xs := w.s) (i := w.i) h (by omega)]; rfl⟩
      obtain ⟨z, e⟩ := e
      rw [e]
      exact ⟨_, _, rfl, (md _).1, (md _).2, by show 0 ≤ w.i + 1; omega⟩
@[simp] theorem eRow_0 (w : Row) : oIx [eRow w, .int 0] = some (.dat (eL PyData.int w.s)) := by simp [eRow]
@[simp] theorem eRow_1 (w : Row) : oIx [eRow w, .int 1] = some (.dat (.int w.i)) := by simp [eRow]
@[simp] theorem eRow_2 (w : Row) : oIx [eRow w, .int 2] = some (.dat (.int w.c)) := by simp [eRow]
@[simp] theorem eRow_3 (w : Row) : oIx [eRow w, .int 3] = some (.dat (.int w.q)) := by simp [eRow]
@[simp] theorem eRow_s1 (w : Row) (x : Int) : fStore (eRow w) (.int 1) (.int x) = some (eRow ⟨w.s, x, w.c, w.q⟩) := rfl
@[simp] theorem eRow_s2 (w : Row) (x : Int) : fStore (eRow w) (.int 2) (.int x) = some (eRow ⟨w.s, w.i, x, w.q⟩) := rfl
@[simp] theorem eRow_s3 (w : Row) (x : Int) : fStore (eRow w) (.int 3) (.int x) = some (eRow ⟨w.s, w.i, w.c, x⟩) := rfl
theorem t_mod {j : Int} (h : 0 < j) (i : Int) : oMod [.int i, .int j] = some (.dat (.int (i % j))) := by
  unfold oMod
  exact if_pos h
theorem t_div {j : Int} (h : 0 < j) (h2 : j < 1073741824) (i : Int) : oFdiv [.int i, .int j] = some (.dat (.int (i / j))) := by
  unfold oFdiv
  exact if_pos ⟨h, h2⟩
@[simp] theorem t_int (i : Int) : oInt [.int i] = some (.dat (.int i)) := rfl
theorem t_mul {j : Int} (h : -(2 ^ 64) < j) (h2 : j < 2 ^ 64) (i : Int) : oMulA [.int i, .int j] = some (.dat (.int (i * j))) := by
  rw [z_mulI]
  exact if_pos (.inr ⟨h, h2⟩)
theorem t_pow : oPow [.int 10, .int 18] = some (.dat (.int 1000000000000000000)) := by
  show (if 0 ≤ (18 : Int) ∧ (18 : Int) ≤ 1000000 ∧ (10 : Int).natAbs < 2 ^ 64 then some (Ro.dat (.int (10 ^ (18 : Int).toNat))) else none) = _
  rw [if_pos (by decide)]
  rfl
@[simp] theorem t_len (ns : List Int) : oLen [eL PyData.int ns] = some (.dat (.int ns.length)) := by simp [eL]
theorem t_ix (ns : List Int) (k : Int) : oIx [eL PyData.int ns, .int k] = (atI ns k).map fun i => .dat (.int i) := oIx_dL ns k
theorem oEq_no {k : Nat} {e : α → D} (h : Gd k e) (hk : k ≤ 64) (hn : ∀ x, PyData.eqv (e x) .none = false) (x : α) : oEq [e x, .none] = some (.dat (.bool false)) := by
  unfold oEq
  simp only [h.shp hk, (flat_none 0).shp (by decide), Bool.and_self, if_true, hn]
def szA {α : Type} (_ : α) : Bool := true
def szL {α : Type} (sz : α → Bool) (xs : List α) : Bool := decide (xs.length ≤ 1000) && xs.all sz
def szP {α β : Type} (s : α → Bool) (t : β → Bool) (p : α × β) : Bool := s p.1 && t p.2
def szO {α : Type} (s : α → Bool) : Option α → Bool
  | some x => s x
  | none => true
theorem szL_of {sz : α → Bool} {xs : List α} (h : xs.length ≤ 1000) (g : ∀ x ∈ xs, sz x = true) : szL sz xs = true := by
  unfold szL
  simp only [Bool.and_eq_true, decide_eq_true_eq]
  exact ⟨h, List.all_eq_true.mpr g⟩
end
end Ip

set_option Elab.async false
set_option linter.all false
set_option maxRecDepth 100000
set_option maxHeartbeats 1000000
/-! Plain laws of the reckonings. -/
namespace Ip
open PySem L2
abbrev Net := Int × List (List Int)
section
variable {α β γ σ δ τ : Type}
theorem foldR_inv {f : σ → β → Rt σ} {g : σ → β → σ} {P : Nat → σ → Prop} (xs : List β) (s : σ) (h0 : P 0 s) (h : ∀ i (hi : i < xs.length) s, P i s → f s xs[i] = .ok (g s xs[i]) ∧ P (i + 1) (g s xs[i])) : foldR f xs s = .ok (xs.foldl g s) ∧ P xs.length (xs.foldl g s) := by
  have key : ∀ (ys : List β) (i : Nat) (s : σ), xs.drop i = ys → P i s → foldR f ys s = .ok (ys.foldl g s) ∧ P (i + ys.length) (ys.foldl g s) := by
    intro ys
    induction ys with
    | nil => intro i s _ hp; exact ⟨rfl, hp⟩
    | cons y ys ih =>
      intro i s e hp
      have hi : i < xs.length := by
        have := congrArg List.length e
        simp only [List.length_drop, List.length_cons] at this
        omega
      have e2 := List.drop_eq_getElem_cons hi
      rw [e] at e2
      injection e2 with e3 e4
      obtain ⟨a, b⟩ := h i hi s hp
      rw [← e3] at a b
      have := ih (i + 1) (g s y) e4.symm b
      unfold foldR
      rw [a]
      refine ⟨this.1, ?_⟩
      rw [List.length_cons, show i + (ys.length + 1) = i + 1 + ys.length by omega]
      exact this.2
  have := key xs 0 s rfl h0
  rw [Nat.zero_add] at this
  exact this
theorem foldR_then {f : σ → β → Rt σ} (g : σ → β → σ) (P : Nat → σ → Prop) {xs : List β} {s : σ} {K : σ → Rt τ} {r : Rt τ} (h0 : P 0 s) (h : ∀ i (hi : i < xs.length) s, P i s → f s xs[i] = .ok (g s xs[i]) ∧ P (i + 1) (g s xs[i])) (k : P xs.length (xs.foldl g s) → K (xs.foldl g s) = r) : (foldR f xs s).bind K = r := by
  obtain ⟨a, b⟩ := foldR_inv (P := P) xs s h0 h
  rw [a]
  exact k b
theorem foldR_ok {f : σ → β → Rt σ} {g : σ → β → σ} {xs : List β} (h : ∀ s, ∀ x ∈ xs, f s x = .ok (g s x)) (s : σ) : foldR f xs s = .ok (xs.foldl g s) :=
  (foldR_inv (P := fun _ _ => True) xs s trivial fun i hi s _ => ⟨h s _ (List.getElem_mem hi), trivial⟩).1
theorem foldR_unit {f : Unit → β → Rt Unit} {xs : List β} (h : ∀ x ∈ xs, f () x = .ok ()) : foldR f xs () = .ok () := foldR_ok (g := fun _ _ => ()) (fun _ => h) ()
/-- the first that is met -/
theorem foldB_find {f : Unit → β → Rt (Lp Unit δ)} {p : β → Bool} {v : β → δ} : ∀ {xs : List β}, (∀ x ∈ xs, f () x = .ok (if p x then .out (v x) else .go ())) → foldB f xs () = .ok (match xs.find? p with | some x => .out (v x) | none => .go ())
  | [], _ => rfl
  | x :: xs, h => by
    unfold foldB
    rw [h x List.mem_cons_self, List.find?_cons]
    cases c : p x with
    | true => simp [Rt.bind]
    | false =>
      simp only [Rt.bind]
      exact foldB_find fun y hy => h y (List.mem_cons_of_mem _ hy)
def gD (d : α) (xs : List α) (i : Int) : α := xs.getD i.toNat d
abbrev gI (xs : List Int) (i : Int) : Int := gD 0 xs i
theorem ixF_ok (d : α) {xs : List α} {i : Int} (h0 : 0 ≤ i) (h1 : i < xs.length) : ixF xs i = .ok (gD d xs i) := by
  unfold ixF gD
  rw [atI_get h0 h1, List.getD_eq_getElem?_getD, List.getElem?_eq_getElem (by omega)]
  rfl
theorem gD_nat (d : α) (xs : List α) (i : Nat) : gD d xs (i : Int) = xs.getD i d := by unfold gD; simp
theorem gD_of (d : α) {xs : List α} {i : Nat} (h : i < xs.length) : gD d xs (i : Int) = xs[i] := by
  rw [gD_nat, List.getD_eq_getElem?_getD, List.getElem?_eq_getElem h]; rfl
theorem atI_neg {xs : List α} {i : Int} (h0 : i < 0) (h1 : -(xs.length : Int) ≤ i) : atI xs i = xs[(xs.length + i).toNat]? := by
  unfold atI ixN
  rw [if_neg (by omega), if_pos (by omega), Int.add_comm]
  rfl
theorem ixF_last (xs : List α) (x : α) : ixF (xs ++ [x]) (-1) = .ok x := by
  unfold ixF
  rw [atI_neg (by omega) (by simp; omega)]
  have : ((xs ++ [x]).length + (-1 : Int)).toNat = xs.length := by simp; omega
  rw [this, List.getElem?_append_right (Nat.le_refl _)]
  simp
theorem ixF_end {xs : List α} (h : xs ≠ []) : ixF xs (-1) = .ok (xs.getLast h) := by
  have := ixF_last xs.dropLast (xs.getLast h)
  rwa [List.dropLast_concat_getLast] at this
theorem rg1_ok {n : Int} (h0 : 0 ≤ n) (h1 : n ≤ 1000) : rg1 n = .ok (ups 0 n.toNat) := by
  unfold rg1
  rw [if_pos (by simp [inside]; omega)]
theorem rg2_ok {a b : Int} (h0 : 0 ≤ a) (h1 : a ≤ 1000) (h2 : 0 ≤ b) (h3 : b ≤ 1000) : rg2 a b = .ok (ups a (b - a).toNat) := by
  unfold rg2
  rw [if_pos (by simp [inside]; omega)]
theorem mem_ups {a i : Int} {n : Nat} : i ∈ ups a n ↔ a ≤ i ∧ i < a + n := by
  unfold ups
  rw [List.mem_map]
  constructor
  · rintro ⟨k, hk, rfl⟩
    have := List.mem_range.mp hk
    omega
  · intro h
    exact ⟨(i - a).toNat, List.mem_range.mpr (by omega), by omega⟩
theorem ups_len (a : Int) (n : Nat) : (ups a n).length = n := by unfold ups; simp
theorem ups_get (a : Int) {n i : Nat} (h : i < (ups a n).length) : (ups a n)[i] = a + i := by
  have : (ups a n)[i]? = some (a + i) := by
    have h' : i < n := by rw [ups_len] at h; exact h
    unfold ups
    rw [List.getElem?_map, List.getElem?_range h']; rfl
  rw [List.getElem?_eq_getElem h] at this
  exact Option.some.inj this
theorem sz_le {n : Nat} (h : n ≤ 10000000) : n ≤ sizeLine := by rw [sizeLine_eq]; omega
theorem addF_ok {xs : List α} {x : α} (h : xs.length < 10000000) : addF xs x = .ok (xs ++ [x]) := by
  unfold addF
  rw [decide_eq_true (Nat.lt_of_lt_of_le h (sz_le (Nat.le_refl _)))]; rfl
theorem catF_ok {xs ys : List α} (h : xs.length + ys.length ≤ 10000000) : catF xs ys = .ok (xs ++ ys) := by
  unfold catF
  rw [decide_eq_true (sz_le h)]; rfl
theorem extF_ok {xs ys : List α} (h : xs.length + ys.length ≤ 10000000) : extF xs ys = .ok (xs ++ ys) := by
  unfold extF
  rw [decide_eq_true (sz_le h)]; rfl
theorem snocF_ok {xs : List α} {x : α} (h : xs.length < 10000000) : snocF xs x = .ok (xs ++ [x]) := by
  unfold snocF
  rw [decide_eq_true (Nat.lt_of_lt_of_le h (sz_le (Nat.le_refl _)))]; rfl
theorem repF1_ok (x : α) {k : Int} (h0 : 0 ≤ k) (h1 : k ≤ 1000) : repF [x] k = .ok (List.replicate k.toNat x) := by
  unfold repF
  rw [decide_eq_true ⟨by omega, h1, by simp⟩]
  simp
theorem stoF_ok {xs : List α} {k : Int} {v : α} (h0 : 0 ≤ k) (h1 : k < xs.length) : stoF xs k v = .ok (xs.set k.toNat v) := by
  unfold stoF ixN
  rw [if_pos h0, if_pos h1]
  rfl
theorem lrF_ok {a b : Int} (h0 : 0 ≤ a) (h1 : a ≤ 1000) (h2 : 0 ≤ b) (h3 : b ≤ 1000) : lrF a b = .ok (ups a (b - a).toNat) := by
  unfold lrF
  rw [show rgOk a b = true by simp [rgOk, inside]; omega]; rfl
theorem sortSetF_ok {ns : List Int} (h : ns.length < 64) (hs : ns.Pairwise (· < ·)) : sortSetF ns = .ok ns := by
  unfold sortSetF
  rw [decide_eq_true h, usort_id hs]; rfl
theorem enumF_mem {xs : List β} {p : Int × β} (h : p ∈ enumF xs) : ∃ i : Nat, p.1 = i ∧ xs[i]? = some p.2 := by
  unfold enumF at h
  obtain ⟨q, hq, rfl⟩ := List.mem_map.mp h
  exact ⟨q.2, rfl, by simpa using List.mem_zipIdx_iff_getElem?.mp hq⟩
theorem any_id_map (xs : List β) (p : β → Bool) : (xs.map p).any id = xs.any p := by rw [List.any_map]; rfl
theorem all_id_map (xs : List β) (p : β → Bool) : (xs.map p).all id = xs.all p := by rw [List.all_map]; rfl
theorem filter_ne_nil (xs : List β) (p : β → Bool) [DecidableEq β] : (decide (xs.filter p ≠ [])) = xs.any p := by
  rw [Bool.eq_iff_iff, decide_eq_true_eq, List.any_eq_true, ne_eq, List.filter_eq_nil_iff]
  simp
theorem filter_nil (xs : List β) (p : β → Bool) [DecidableEq β] : (decide (xs.filter p = [])) = !xs.any p := by
  rw [← filter_ne_nil]
  by_cases h : xs.filter p = [] <;> simp [h]
theorem nox_of {o : Rt α} {a : α} (h : o = .ok a) : o.nox = .ok a := by rw [h]; rfl
theorem if_ok (c : Bool) (a b : α) : (if c then Rt.ok a else Rt.ok b) = .ok (if c then a else b) := by cases c <;> rfl
theorem gd_self [DecidableEq α] {c : Bool} (h : c = true) (a : α) : Rt.gd c (decide (a = a)) = .ok true := by rw [h]; simp [Rt.gd]
theorem gd_t {c : Bool} (h : c = true) : Rt.gd c true = .ok true := by rw [h]; rfl
theorem mapS_ok {g : β → σ → Rt (γ × σ)} {I : σ → Prop} {V : γ → Prop} : ∀ (xs : List β) (s : σ), I s → (∀ x ∈ xs, ∀ s, I s → ∃ y s', g x s = .ok (y, s') ∧ V y ∧ I s') → ∃ ys s', mapS g xs s = .ok (ys, s') ∧ ys.length = xs.length ∧ (∀ y ∈ ys, V y) ∧ I s'
  | [], s, h, _ => ⟨[], s, rfl, rfl, by simp, h⟩
  | x :: xs, s, h, g' => by
    obtain ⟨y, s1, e1, v1, i1⟩ := g' x List.mem_cons_self s h
    obtain ⟨ys, s2, e2, l2, v2, i2⟩ := mapS_ok xs s1 i1 fun z hz => g' z (List.mem_cons_of_mem _ hz)
    refine ⟨y :: ys, s2, ?_, by simp [l2], fun z hz => ?_, i2⟩
    · unfold mapS
      rw [e1]
      simp only [Rt.nox, Rt.bind, e2]
    · rcases List.mem_cons.mp hz with rfl | hz
      · exact v1
      · exact v2 z hz
theorem lcS_sub {p : β → σ → Rt (Bool × σ)} {g : β → σ → Rt (β × σ)} {I : σ → Prop} : ∀ (xs : List β) (s : σ), I s → (∀ x ∈ xs, ∀ s, I s → ∃ b s', p x s = .ok (b, s') ∧ I s') → (∀ x ∈ xs, ∀ s, g x s = .ok (x, s)) → ∃ ys s', lcS p g xs s = .ok (ys, s') ∧ ys.Sublist xs ∧ I s'
  | [], s, h, _, _ => ⟨[], s, rfl, .slnil, h⟩
  | x :: xs, s, h, hp, hg => by
    obtain ⟨b, s1, e1, i1⟩ := hp x List.mem_cons_self s h
    obtain ⟨ys, s2, e2, l2, i2⟩ := lcS_sub xs s1 i1 (fun z hz => hp z (List.mem_cons_of_mem _ hz)) fun z hz => hg z (List.mem_cons_of_mem _ hz)
    unfold lcS
    rw [e1]
    cases b with
    | true => exact ⟨x :: ys, s2, by simp only [Rt.nox, Rt.bind, if_true, hg x List.mem_cons_self, e2], l2.cons₂ x, i2⟩
    | false => exact ⟨ys, s2, by simp only [Rt.nox, Rt.bind]; exact e2, l2.cons x, i2⟩
theorem foldR_ex {f : σ → β → Rt σ} {P : Nat → σ → Prop} (xs : List β) (s : σ) (h0 : P 0 s) (h : ∀ i (hi : i < xs.length) s, P i s → ∃ s', f s xs[i] = .ok s' ∧ P (i + 1) s') : ∃ s', foldR f xs s = .ok s' ∧ P xs.length s' := by
  have key : ∀ (ys : List β) (i : Nat) (s : σ), xs.drop i = ys → P i s → ∃ s', foldR f ys s = .ok s' ∧ P (i + ys.length) s' := by
    intro ys
    induction ys with
    | nil => intro i s _ hp; exact ⟨s, rfl, hp⟩
    | cons y ys ih =>
      intro i s e hp
      have hi : i < xs.length := by
        have := congrArg List.length e
        simp only [List.length_drop, List.length_cons] at this
        omega
      have e2 := List.drop_eq_getElem_cons hi
      rw [e] at e2
      injection e2 with e3 e4
      obtain ⟨s1, a, b⟩ := h i hi s hp
      rw [← e3] at a
      obtain ⟨s2, c, d⟩ := ih (i + 1) s1 e4.symm b
      refine ⟨s2, ?_, ?_⟩
      · unfold foldR
        rw [a]
        exact c
      · rw [List.length_cons, show i + (ys.length + 1) = i + 1 + ys.length by omega]
        exact d
  have := key xs 0 s rfl h0
  simpa using this
theorem foldR_bex {f : σ → β → Rt σ} (P : Nat → σ → Prop) {xs : List β} {s : σ} {K : σ → Rt τ} {Q : τ → Prop} (h0 : P 0 s) (h : ∀ i (hi : i < xs.length) s, P i s → ∃ s', f s xs[i] = .ok s' ∧ P (i + 1) s') (k : ∀ s', P xs.length s' → ∃ r, K s' = .ok r ∧ Q r) : ∃ r, (foldR f xs s).bind K = .ok r ∧ Q r := by
  obtain ⟨s', a, b⟩ := foldR_ex xs s h0 h
  rw [a]
  exact k s' b
theorem lcS_bex {p : β → σ → Rt (Bool × σ)} {g : β → σ → Rt (β × σ)} (I : σ → Prop) {xs : List β} {s : σ} {K : List β × σ → Rt τ} {Q : τ → Prop} (h0 : I s) (hp : ∀ x ∈ xs, ∀ s, I s → ∃ r, p x s = .ok r ∧ I r.2) (hg : ∀ x ∈ xs, ∀ s, g x s = .ok (x, s)) (k : ∀ ys s', ys.Sublist xs → I s' → ∃ r, K (ys, s') = .ok r ∧ Q r) : ∃ r, (lcS p g xs s).bind K = .ok r ∧ Q r := by
  obtain ⟨ys, s', a, b, c⟩ := lcS_sub (I := I) xs s h0 (fun x hx s hs => by
    obtain ⟨r, e, i⟩ := hp x hx s hs
    exact ⟨r.1, r.2, e, i⟩) hg
  rw [a]
  exact k ys s' b c
theorem mapS_bex {g : β → σ → Rt (γ × σ)} (I : σ → Prop) (V : γ → Prop) {xs : List β} {s : σ} {K : List γ × σ → Rt τ} {Q : τ → Prop} (h0 : I s) (hg : ∀ x ∈ xs, ∀ s, I s → ∃ r, g x s = .ok r ∧ V r.1 ∧ I r.2) (k : ∀ ys s', ys.length = xs.length → (∀ y ∈ ys, V y) → I s' → ∃ r, K (ys, s') = .ok r ∧ Q r) : ∃ r, (mapS g xs s).bind K = .ok r ∧ Q r := by
  obtain ⟨ys, s', a, b, c, d⟩ := mapS_ok (I := I) (V := V) xs s h0 fun x hx s hs => by
    obtain ⟨r, e, i⟩ := hg x hx s hs
    exact ⟨r.1, r.2, e, i⟩
  rw [a]
  exact k ys s' b c d
theorem taken_ex {w : Row} (h : w.ok) {n : Int} (h0 : 0 < n) (h1 : n < 1000) : ∃ r, Rt.nox (takenF w n) = .ok r ∧ 0 ≤ r.1 ∧ r.1 < n ∧ r.2.ok := by
  obtain ⟨k, w', e, a⟩ := taken_ok h h0 h1
  exact ⟨(k, w'), by rw [e]; rfl, a⟩
theorem ups_asc (a : Int) (n : Nat) : (ups a n).Pairwise (· < ·) := by
  unfold ups
  rw [List.pairwise_map]
  exact List.pairwise_lt_range.imp fun {i j} h => by omega
theorem bex_ok {r : τ} {Q : τ → Prop} (h : Q r) : ∃ x, (Rt.ok r) = .ok x ∧ Q x := ⟨r, rfl, h⟩
theorem nox_ex {o : Rt τ} {Q : τ → Prop} (h : ∃ r, o = .ok r ∧ Q r) : ∃ r, o.nox = .ok r ∧ Q r := by
  obtain ⟨r, e, q⟩ := h
  exact ⟨r, by rw [e]; rfl, q⟩
/-! ### bits -/
def bitsN : Nat → List (List Int)
  | 0 => [[]]
  | k + 1 => (bitsN k).flatMap fun b => [b ++ [0], b ++ [1]]
theorem bitsN_mem : ∀ {k : Nat} {b : List Int}, b ∈ bitsN k → b.length = k ∧ ∀ x ∈ b, x = 0 ∨ x = 1
  | 0, b, h => by
    simp only [bitsN, List.mem_singleton] at h
    subst h
    exact ⟨rfl, by simp⟩
  | k + 1, b, h => by
    simp only [bitsN, List.mem_flatMap, List.mem_cons, List.not_mem_nil, or_false] at h
    obtain ⟨a, ha, h⟩ := h
    obtain ⟨h1, h2⟩ := bitsN_mem ha
    rcases h with rfl | rfl
    · exact ⟨by simp [h1], fun x hx => by
        rcases List.mem_append.mp hx with q | q
        · exact h2 x q
        · simp at q; exact .inl q⟩
    · exact ⟨by simp [h1], fun x hx => by
        rcases List.mem_append.mp hx with q | q
        · exact h2 x q
        · simp at q; exact .inr q⟩
theorem bitsN_len : ∀ k : Nat, (bitsN k).length = 2 ^ k
  | 0 => rfl
  | k + 1 => by
    have : ∀ l : List (List Int), (l.flatMap fun b => [b ++ [0], b ++ [1]]).length = 2 * l.length := by
      intro l
      induction l with
      | nil => rfl
      | cons a l ih => rw [List.flatMap_cons, List.length_append, ih]; simp; omega
    rw [bitsN, this, bitsN_len k, Nat.pow_succ]; omega
theorem bits_foldl (k : Nat) : ∀ j : Nat, (List.replicate j (0 : Int)).foldl (fun s _ => s.flatMap fun b : List Int => [b ++ [0], b ++ [1]]) (bitsN k) = bitsN (k + j)
  | 0 => rfl
  | j + 1 => by
    rw [List.replicate_succ, List.foldl_cons]
    have := bits_foldl (k + 1) j
    rw [show k + (j + 1) = k + 1 + j by omega, ← this]
    rfl
theorem foldl_const {f : σ → σ} : ∀ (xs : List β) (s : σ), xs.foldl (fun s _ => f s) s = (List.replicate xs.length (0 : Int)).foldl (fun s _ => f s) s
  | [], s => rfl
  | x :: xs, s => by rw [List.foldl_cons, List.length_cons, List.replicate_succ, List.foldl_cons, foldl_const xs]
/-! ### who stands in the end -/
def endStep (f near : List Int) : List Int := f ++ [if near.any (fun o => decide (gI f o = 1)) then 0 else 1]
def ends (N : Net) (b : List Int) : List Int := N.2.foldl endStep b
def sz (N : Net) : Nat := N.1.toNat + N.2.length
theorem endStep_len (f near : List Int) : (endStep f near).length = f.length + 1 := by simp [endStep]
theorem foldEnd_len : ∀ (gs : List (List Int)) (f : List Int), (gs.foldl endStep f).length = f.length + gs.length
  | [], f => rfl
  | g :: gs, f => by rw [List.foldl_cons, foldEnd_len gs, endStep_len, List.length_cons]; omega
theorem ends_len (N : Net) {b : List Int} (h : b.length = N.1.toNat) : (ends N b).length = sz N := by unfold ends sz; rw [foldEnd_len, h]
theorem foldEnd_01 : ∀ (gs : List (List Int)) (f : List Int), (∀ x ∈ f, x = 0 ∨ x = 1) → ∀ x ∈ gs.foldl endStep f, x = 0 ∨ x = 1
  | [], f, h => h
  | g :: gs, f, h => by
    rw [List.foldl_cons]
    refine foldEnd_01 gs _ fun x hx => ?_
    unfold endStep at hx
    rcases List.mem_append.mp hx with q | q
    · exact h x q
    · simp at q
      split at q
      · exact .inl q
      · exact .inr q
theorem ends_01 (N : Net) {b : List Int} (h : ∀ x ∈ b, x = 0 ∨ x = 1) : ∀ x ∈ ends N b, x = 0 ∨ x = 1 := foldEnd_01 _ _ h
/-! ### friends, calls -/
def frI (N : Net) (p : Int) : List Int := if N.1 ≤ p then gD [] N.2 (p - N.1) else []
theorem frI_rng {N : Net} (h : NetOk N.1 N.2) {p k : Int} (hp : p < sz N) (hk : k ∈ frI N p) : 0 ≤ k ∧ k < p := by
  have h1 := h.lo
  unfold frI at hk
  unfold sz at hp
  split at hk
  · rename_i hn
    have hl : (p - N.1).toNat < N.2.length := by omega
    have e : gD [] N.2 (p - N.1) = N.2[(p - N.1).toNat] := by
      unfold gD
      rw [List.getD_eq_getElem?_getD, List.getElem?_eq_getElem hl]; rfl
    rw [e] at hk
    have := h.rng (p - N.1).toNat _ (List.getElem?_eq_getElem hl) k hk
    omega
  · simp at hk
/-- all of some who stand act at once -/
def rndS (N : Net) (st some : List Int) : List Int := (ups 0 st.length).map fun i => if (frI N i).any (fun q => decide (q ∈ some) && decide (gI st q = 1)) then 0 else gI st i
theorem rndS_len (N : Net) (st some : List Int) : (rndS N st some).length = st.length := by unfold rndS; rw [List.length_map, ups_len]
def B01 (st : List Int) : Prop := ∀ x ∈ st, x = 0 ∨ x = 1
theorem B01.at {st : List Int} (h : B01 st) {i : Int} (h0 : 0 ≤ i) (h1 : i < st.length) : gI st i = 0 ∨ gI st i = 1 := by
  have : gI st i = st[i.toNat]'(by omega) := by
    unfold gI gD
    rw [List.getD_eq_getElem?_getD, List.getElem?_eq_getElem (by omega)]; rfl
  rw [this]
  exact h _ (List.getElem_mem _)
theorem rndS_01 (N : Net) {st : List Int} (h : B01 st) (some : List Int) : B01 (rndS N st some) := by
  intro x hx
  unfold rndS at hx
  obtain ⟨i, hi, rfl⟩ := List.mem_map.mp hx
  have := mem_ups.mp hi
  split
  · exact .inl rfl
  · exact h.at (by omega) (by omega)
theorem map_self (st : List Int) : (ups 0 st.length).map (fun i => gI st i) = st := by
  apply List.ext_getElem
  · rw [List.length_map, ups_len]
  · intro i h1 h2
    rw [List.getElem_map, ups_get, Int.zero_add]
    exact gD_of 0 h2
def stoS (N : Net) : List Int → List Int → List (List Int)
  | st, [] => [st]
  | st, p :: ps => st :: stoS N (rndS N st [p]) ps
theorem stoS_len (N : Net) : ∀ (st ps : List Int), (stoS N st ps).length = ps.length + 1
  | st, [] => rfl
  | st, p :: ps => by unfold stoS; rw [List.length_cons, stoS_len N _ ps, List.length_cons]
theorem stoS_mem (N : Net) {n : Nat} : ∀ (st ps : List Int), st.length = n → B01 st → ∀ s ∈ stoS N st ps, s.length = n ∧ B01 s
  | st, [], h, b => fun s hs => by
    simp only [stoS, List.mem_singleton] at hs
    subst hs
    exact ⟨h, b⟩
  | st, p :: ps, h, b => fun s hs => by
    simp only [stoS, List.mem_cons] at hs
    rcases hs with rfl | hs
    · exact ⟨h, b⟩
    · exact stoS_mem N _ ps (by rw [rndS_len]; exact h) (rndS_01 N b _) s hs
def aftS (N : Net) (st ps : List Int) : List Int := ps.foldl (fun s p => rndS N s [p]) st
theorem stoS_last (N : Net) : ∀ (st ps : List Int), ixF (stoS N st ps) (-1) = .ok (aftS N st ps)
  | st, [] => ixF_last [] st
  | st, p :: ps => by
    have ih := stoS_last N (rndS N st [p]) ps
    have hne : stoS N (rndS N st [p]) ps ≠ [] := by intro e; have := congrArg List.length e; rw [stoS_len] at this; simp at this
    unfold stoS
    rw [ixF_end (by simp)]
    rw [ixF_end hne] at ih
    rw [List.getLast_cons hne]
    exact ih
theorem aftS_len (N : Net) : ∀ (ps st : List Int), (aftS N st ps).length = st.length
  | [], st => rfl
  | p :: ps, st => by
    unfold aftS
    rw [List.foldl_cons]
    have := aftS_len N ps (rndS N st [p])
    unfold aftS at this
    rw [this, rndS_len]
theorem aftS_01 (N : Net) : ∀ (ps : List Int) {st : List Int}, B01 st → B01 (aftS N st ps)
  | [], st, h => h
  | p :: ps, st, h => by
    unfold aftS
    rw [List.foldl_cons]
    exact aftS_01 N ps (rndS_01 N h [p])
end
end Ip

set_option Elab.async false
set_option linter.all false
set_option maxRecDepth 100000
set_option maxHeartbeats 1000000
/-! Raw data in typed reckonings. -/
namespace Ip
open PySem L2
section
variable {α β γ σ : Type} {r : Ev} {m : M Rs}
/-- an operation on raw data -/
def rawD (f : Op) (ds : List D) : Rt D := match f ds with
  | some (.dat d) => .ok d
  | _ => .stuck
def rawB (f : Op) (ds : List D) : Rt Bool := match f ds with
  | some (.dat (.bool b)) => .ok b
  | _ => .stuck
theorem q_rawD (f : Op) (ds : List D) : OpK (f ds) (rawD f ds) (fun z => .dat (id z)) := by
  unfold rawD
  split
  · rename_i d h; rw [h]; rfl
  · trivial
theorem q_rawB (f : Op) (ds : List D) : OpK (f ds) (rawB f ds) (fun z => .dat (.bool z)) := by
  unfold rawB
  split
  · rename_i d h; rw [h]; rfl
  · trivial
def itemsR (d : D) : Rt (List D) := Rt.opt (items d)
theorem sk_V {x : Rs} {d : D} {hid : List Nat} (h : ET r m x) (hs : seeC x r = some (d, hid)) : SK r (srcC m) (itemsR d) (id : D → D) hid := by
  unfold itemsR
  cases c : items d with
  | none => trivial
  | some xs => exact sk_T (a := xs) h hs (by rw [c, List.map_id])
theorem ek_map {o : Rt α} {k : α → Rs} {h : α → β} {k' : β → Rs} (x : EK r m o k) (e : ∀ a, k a = k' (h a)) : EK r m (o.bind fun a => .ok (h a)) k' := by
  cases o with
  | ok a => show m r = _; rw [← e]; exact x
  | exc c fs => exact x
  | stuck => trivial
theorem es_map {E : σ → Ev} {s : σ} {o : Rt (α × σ)} {k : α → Rs} {h : α → β} {k' : β → Rs} (x : ES E s m o k) (e : ∀ a, k a = k' (h a)) : ES E s m (o.bind fun a => .ok (h a.1, a.2)) k' := by
  cases o with
  | ok a => show m (E s) = _; rw [← e]; exact x
  | exc c fs => exact x
  | stuck => trivial
theorem eT_map (e : α → D) (xs : List α) : eT (id : D → D) (xs.map e) = eT e xs := by unfold eT; rw [List.map_id]
theorem eL_map (e : α → D) (xs : List α) : eL (id : D → D) (xs.map e) = eL e xs := by unfold eL; rw [List.map_id]
theorem et_mapT {e : α → D} {xs : List α} (h : ET r m (.dat (eT e xs))) : ET r m (.dat (eT (id : D → D) (xs.map e))) := by rw [eT_map]; exact h
theorem et_mapL {e : α → D} {xs : List α} (h : ET r m (.fresh (eL e xs))) : ET r m (.fresh (eL (id : D → D) (xs.map e))) := by rw [eL_map]; exact h
theorem et_mapLd {e : α → D} {xs : List α} (h : ET r m (.dat (eL e xs))) : ET r m (.dat (eL (id : D → D) (xs.map e))) := by rw [eL_map]; exact h
theorem ek_unO {o : Rt (Option Int)} (h : EK r m o fun z => .dat (eO PyData.int z)) : EK r m (o.bind Rt.opt) fun z => .dat (.int z) := by
  cases o with
  | ok a => cases a with
    | none => trivial
    | some a => exact h
  | exc c fs => exact h
  | stuck => trivial
theorem gd_OI : Gd 0 (eO PyData.int) := by
  refine ⟨fun a => ?_, fun a b => ?_⟩
  · cases a with
    | none => exact flat_none 0
    | some a => exact flat_int 0 a
  · cases a <;> cases b <;> simp [eO, PyData.eqv]
theorem s1_stoS {E : σ → Ev} {s : σ} {i : Nat} {e : α → D} {mk : M Rs} {xs : List α} {ov : Rt (α × σ)} {ok : Rt Int} {E1 : List α × σ → Ev} (hv : GS obD E s m ov e) (hk : ∀ s', GK obV (E s') mk ok PyData.int) (hs : ∀ s', (E s')[i]? = some (.own (eL e xs))) (he : ∀ ys s', (E s').set i (.own (eL e ys)) = E1 (ys, s')) : S1 (E s) (storeS i fStore m mk) (ov.bind fun v => ok.bind fun k => (stoF xs k v.1).bind fun ys => .ok (ys, v.2)) E1 := by
  cases ov with
  | stuck => trivial
  | exc c fs =>
    obtain ⟨r', h⟩ := hv
    exact ⟨r', by unfold storeS; simp only [h]⟩
  | ok v =>
    obtain ⟨v, s'⟩ := v
    obtain ⟨x, h1, h2⟩ := hv
    have ee : storeS i fStore m mk (E s) = storeS i fStore (fun _ => .ok x (E s')) mk (E s') := by unfold storeS; simp only [h1]
    have := s1_sto (r := E s') (m := fun _ => .ok x (E s')) (ov := .ok v) (ok := ok) (xs := xs) (r1 := fun ys => E1 (ys, s')) ⟨x, rfl, h2 s'⟩ (hk s') (hs s') (fun ys => he ys s')
    cases ok with
    | stuck => trivial
    | exc c fs =>
      obtain ⟨r', h⟩ := this
      exact ⟨r', by rw [ee]; exact h⟩
    | ok k =>
      simp only [Rt.bind_ok] at this ⊢
      cases q : stoF xs k v with
      | stuck => trivial
      | exc c fs =>
        rw [q] at this
        obtain ⟨r', h⟩ := this
        exact ⟨r', by rw [ee]; exact h⟩
      | ok ys =>
        rw [q] at this
        show storeS i fStore m mk (E s) = _
        rw [ee]
        exact this
theorem ek_chainR {f g : Op} {a b c : M Rs} {x y z : D} (ha : GT obV r a x) (hb : GT obV r b y) (hc : GT obV r c z) : EK r (chainV f g a b c) ((rawB f [x, y]).bind fun t => if t then rawB g [y, z] else .ok false) (fun b => .dat (.bool b)) := by
  obtain ⟨xa, a1, a2⟩ := ha
  obtain ⟨xb, b1, b2⟩ := hb
  obtain ⟨xc, c1, c2⟩ := hc
  have l1 : looks [hel xa, hel xb] r = .ok [x, y] r := looks_all (xs := [xa, xb]) rfl fun i w h => by
    match i with
    | 0 => cases h; exact ⟨_, rfl, a2⟩
    | 1 => cases h; exact ⟨_, rfl, b2⟩
    | i + 2 => simp at h
  have l2 : looks [hel xb, hel xc] r = .ok [y, z] r := looks_all (xs := [xb, xc]) rfl fun i w h => by
    match i with
    | 0 => cases h; exact ⟨_, rfl, b2⟩
    | 1 => cases h; exact ⟨_, rfl, c2⟩
    | i + 2 => simp at h
  have e1 : chainV f g a b c r = chain1 f g c [hel xa, hel xb] [x, y] r := by
    unfold chainV
    simp only [args, a1, b1, hold_hel, l1]
  unfold rawB
  split
  · rename_i t h
    cases t with
    | false =>
      show chainV f g a b c r = _
      rw [e1]
      unfold chain1
      simp only [h]
    | true =>
      simp only [Rt.bind_ok, if_true]
      split
      · rename_i q h2
        show chainV f g a b c r = _
        rw [e1]
        unfold chain1
        simp only [h]
        unfold chain2
        simp only [c1, hold_hel, l2, h2]
        rfl
      · trivial
  · trivial
/-! ### zip, sorted, index, min -/
def zipF (xs : List α) (ys : List β) : Rt (List (α × β)) := Rt.gd (decide (xs.length ≤ sizeLine)) (xs.zip ys)
theorem zipD_map (e : α → D) (f : β → D) : ∀ (xs : List α) (ys : List β), zipD (xs.map e) (ys.map f) = (xs.zip ys).map (eZ e f)
  | [], _ => rfl
  | _ :: _, [] => rfl
  | x :: xs, y :: ys => by
    have := zipD_map e f xs ys
    unfold zipD at this ⊢
    simp only [List.map_cons, List.zipWith_cons_cons, List.zip_cons_cons, this]
    rfl
theorem sk_Z {ms : List (M Rs)} {o : Rt (List (α × β))} {e : α → D} {f : β → D} (h : AX obV r ms o fun ds o' => ∃ (xs : List α) (ys : List β), ds = [eT e xs, eT f ys] ∧ o' = zipF xs ys) : SK r (srcZ ms) o (eZ e f) [] := by
  rcases ax_go h with ⟨xs, ds, a, l, b, us, vs, e1, e2⟩ | ⟨c, fs, r', a, b⟩ | a
  · have hl := looks_all l b
    subst e2
    unfold zipF
    cases c : decide (us.length ≤ sizeLine) with
    | false => trivial
    | true =>
      rw [decide_eq_true_eq] at c
      show srcZ ms r = _
      have hz : zipO ds = some ((us.zip vs).map (eZ e f)) := by
        rw [e1]
        unfold zipO eT
        simp only [List.length_map, zipD_map]
        generalize sizeLine = S at c ⊢
        rw [if_pos c]
      unfold srcZ
      simp only [a, hl, hz]
  · subst a
    exact ⟨r', by unfold srcZ; rw [b]⟩
  · subst a; trivial
def srtF (e : α → D) (xs : List α) : Rt (List α) := Rt.gd (srtOk (xs.map e)) (xs.mergeSort fun a b => dLe (e a) (e b))
theorem srt_map (e : α → D) (xs : List α) : (xs.map e).mergeSort dLe = (xs.mergeSort fun a b => dLe (e a) (e b)).map e :=
  (PySem.W.sort_maps (r := fun a b => dLe (e a) (e b)) (s := dLe) e fun _ _ _ _ => rfl).symm
theorem q_sortedA (ns : List Int) : OpT (oSortA [eL PyData.int ns]) (.fresh (eL PyData.int (isort ns))) := by
  have := q_sorted ns
  unfold OpT at this ⊢
  unfold oSortA oAlt
  cases c : oSorted [eL PyData.int ns] with
  | none => rw [c] at this; cases this
  | some y => rw [c] at this; exact this
theorem q_srtL {e : α → D} (hn : ∀ a i, e a ≠ .int i) (xs : List α) : OpK (oSortA [eL e xs]) (srtF e xs) (fun a => .fresh (eL e a)) := by
  unfold srtF
  cases c : srtOk (xs.map e) with
  | false => trivial
  | true =>
    show Option.map Ro.rs (oSortA [eL e xs]) = some _
    unfold oSortA oAlt
    cases xs with
    | nil => simp [eL, oSorted, intsOf, isort, Ro.rs]
    | cons x xs =>
      have h1 : oSorted [eL e (x :: xs)] = none := by
        unfold eL oSorted
        simp only [List.map_cons]
        have : intsOf (e x :: xs.map e) = none := by
          unfold intsOf
          split
          · rename_i h
            cases h
          · rename_i i r h
            injection h with h1 h2
            exact absurd h1 (hn x i)
          · rfl
        rw [this]
        rfl
      rw [h1]
      unfold eL oSortD
      simp only [c, if_true, srt_map]
      rfl
theorem q_srtT (e : α → D) (xs : List α) : OpK (oSortA [eT e xs]) (srtF e xs) (fun a => .fresh (eL e a)) := by
  unfold srtF
  cases c : srtOk (xs.map e) with
  | false => trivial
  | true =>
    show Option.map Ro.rs (oSortA [eT e xs]) = some _
    unfold oSortA oAlt eT
    have h1 : oSorted [.tuple (xs.map e)] = none := rfl
    rw [h1]
    unfold oSortD eL
    simp only [c, if_true, srt_map]
    rfl
theorem q_min2 (i j : Int) : OpT (oMin2 [.int i, .int j]) (.dat (.int (if j < i then j else i))) := rfl
theorem tup_no {e : α → D} {a : M Rs} {x : Rs} {xs : List α} (h1 : a r = .ok x r) (h2 : obV x r = some (eL e xs)) : tupAt a r = false := by
  have l1 : look (hel x) r = .ok (eL e xs) r := by
    have := looks_all (r := r) (xs := [x]) (ds := [eL e xs]) rfl fun i w z => by
      match i with
      | 0 => cases z; exact ⟨_, rfl, h2⟩
      | i + 1 => simp at z
    simp only [List.map_cons, List.map_nil, looks] at this
    cases q : look (hel x) r with
    | ok d r1 =>
      rw [q] at this
      simp only [Res.ok.injEq, List.cons.injEq, and_true] at this
      rw [this.1, this.2]
    | exc c fs r1 => rw [q] at this; cases this
    | stuck => rw [q] at this; cases this
  unfold tupAt
  simp only [h1, hold_hel, l1]
  rfl
theorem ek_indexW {k : Nat} {e : α → D} [DecidableEq α] {a b : M Rs} {oa : Rt (List α)} {ob : Rt α} (h : Gd k e) (hk : k < 64) (ha : GK obV r a oa (eL e)) (hb : GK obV r b ob e) : EK r (idxW a b) (oa.bind fun xs => ob.bind fun x => indexF xs x) fun z => .dat (.int z) := by
  have base := ek_index h hk ha hb
  cases oa with
  | stuck => trivial
  | ok xs =>
    obtain ⟨x, h1, h2⟩ := ha
    have e1 : idxW a b r = idxV a b r := by unfold idxW; rw [tup_no h1 h2]; rfl
    unfold EK at base ⊢
    rw [e1]
    exact base
  | exc c fs =>
    obtain ⟨r', h1⟩ := ha
    have e0 : tupAt a r = false := by unfold tupAt; rw [h1]
    have e1 : idxW a b r = idxV a b r := by unfold idxW; rw [e0]; rfl
    unfold EK at base ⊢
    rw [e1]
    exact base
def idxI (xs : List Int) (k : Int) : Rt Int := if k ∈ xs then .ok (xs.idxOf k : Nat) else .stuck
theorem ek_indexT {a b : M Rs} {oa : Rt (List Int)} {ob : Rt Int} (ha : GK obV r a oa (eT PyData.int)) (hb : GK obV r b ob PyData.int) : EK r (idxW a b) (oa.bind fun xs => ob.bind fun x => idxI xs x) fun z => .dat (.int z) := by
  cases oa with
  | stuck => trivial
  | exc c fs =>
    obtain ⟨r', h1⟩ := ha
    have e0 : tupAt a r = false := by unfold tupAt; rw [h1]
    exact ⟨r', by unfold idxW; rw [e0]; show idxV a b r = _; unfold idxV; rw [h1]⟩
  | ok xs =>
    obtain ⟨x1, a1, a2⟩ := ha
    have l1 : look (hel x1) r = .ok (eT PyData.int xs) r := by
      have := looks_all (r := r) (xs := [x1]) (ds := [eT PyData.int xs]) rfl fun i w z => by
        match i with
        | 0 => cases z; exact ⟨_, rfl, a2⟩
        | i + 1 => simp at z
      simp only [List.map_cons, List.map_nil, looks] at this
      cases q : look (hel x1) r with
      | ok d r1 =>
        rw [q] at this
        simp only [Res.ok.injEq, List.cons.injEq, and_true] at this
        rw [this.1, this.2]
      | exc c fs r1 => rw [q] at this; cases this
      | stuck => rw [q] at this; cases this
    have e0 : tupAt a r = true := by
      unfold tupAt
      simp only [a1, hold_hel, l1]
      rfl
    have e1 : idxW a b r = idxT a b r := by unfold idxW; rw [e0]; rfl
    cases ob with
    | stuck => trivial
    | exc c fs =>
      obtain ⟨r', h1⟩ := hb
      refine ⟨r', ?_⟩
      rw [e1]
      unfold idxT
      simp only [a1, hold_hel, l1, isTupD, eT, if_true, args, h1]
    | ok y =>
      obtain ⟨x2, b1, b2⟩ := hb
      have l2 : looks [hel x1, hel x2] r = .ok [eT PyData.int xs, .int y] r := looks_all (xs := [x1, x2]) rfl fun i w z => by
        match i with
        | 0 => cases z; exact ⟨_, rfl, a2⟩
        | 1 => cases z; exact ⟨_, rfl, b2⟩
        | i + 2 => simp at z
      simp only [Rt.bind, idxI]
      by_cases c : y ∈ xs
      · rw [if_pos c]
        have ho : oIndexT [eT PyData.int xs, .int y] = some (.dat (.int (xs.idxOf y : Nat))) := by
          unfold oIndexT eT
          simp only [intsOf_map, if_pos c]
        show idxW a b r = _
        rw [e1]
        unfold idxT
        simp only [a1, hold_hel, l1, args, b1, l2, ho]
        rfl
      · rw [if_neg c]
        trivial
theorem erase_map (e : α → D) : ∀ (xs : List α) (n : Nat), (xs.map e).eraseIdx n = (xs.eraseIdx n).map e
  | [], _ => rfl
  | _ :: _, 0 => rfl
  | x :: xs, n + 1 => by
    show e x :: (xs.map e).eraseIdx n = e x :: (xs.eraseIdx n).map e
    rw [erase_map e xs n]
def popF (xs : List α) (k : Int) : Rt (α × List α) := if h : 0 ≤ k ∧ k.toNat < xs.length ∧ xs.length ≤ sizeLine then .ok (xs[k.toNat]'h.2.1, xs.eraseIdx k.toNat) else .stuck
theorem s1_popApp {E : σ → Ev} {s : σ} {i j : Nat} {e : α → D} {xs ys : List α} {o : Rt (Int × σ)} {E1 : σ → List α → List α → Ev} (h : ES E s m o (fun z => .dat (.int z)))
    (hi : ∀ s', (E s')[i]? = some (.own (eL e ys))) (hj : ∀ s', (E s')[j]? = some (.own (eL e xs))) (hij : ∀ s' xs', ((E s').set j (.own (eL e xs')))[i]? = some (.own (eL e ys)))
    (he : ∀ s' xs' ys', ((E s').set j (.own (eL e xs'))).set i (.own (eL e ys')) = E1 s' xs' ys') :
    S1 (E s) (dropS (mutV i fApp [mutV j fPopAt [m]])) (o.bind fun p => (popF xs p.1).bind fun q => (addF ys q.1).bind fun zs => .ok (p.2, q.2, zs)) (fun z => E1 z.1 z.2.1 z.2.2) := by
  cases o with
  | stuck => trivial
  | exc c fs =>
    obtain ⟨r', h⟩ := h
    refine ⟨r', ?_⟩
    have h1 : mutV j fPopAt [m] (E s) = .exc c fs r' := by
      unfold mutV
      simp only [hj, isLst, eL, if_true, args, h]
    unfold dropS
    have h2 : ∀ mm : M Rs, mm (E s) = .exc c fs r' → mutV i fApp [mm] (E s) = .exc c fs r' := fun mm hm => by
      have il : isLst (E s)[i]? = true := by rw [hi s]; rfl
      unfold mutV
      rw [if_pos il]
      simp only [args, hm]
    rw [h2 _ h1]
  | ok p =>
    obtain ⟨k, s'⟩ := p
    have h : m (E s) = .ok (.dat (.int k)) (E s') := h
    simp only [Rt.bind_ok]
    unfold popF
    split
    · rename_i hk
      simp only [Rt.bind_ok]
      unfold addF
      by_cases c : ys.length < sizeLine
      · rw [decide_eq_true c]
        have hg : (xs.map e)[k.toNat]? = some (e (xs[k.toNat]'hk.2.1)) := by
          rw [List.getElem?_map, List.getElem?_eq_getElem hk.2.1]
          rfl
        have h1 : mutV j fPopAt [m] (E s) = .ok (.dat (e (xs[k.toNat]'hk.2.1))) ((E s').set j (.own (eL e (xs.eraseIdx k.toNat)))) := by
          have k1 : keeps [Rs.dat (.int k)] (E s') = .ok [.int k] (E s') := rfl
          have w : wrAt (fun d => fPopAt d [.int k]) (some (.own (eL e xs))) = some (.own (eL e (xs.eraseIdx k.toNat)), e (xs[k.toNat]'hk.2.1)) := by
            have hk' : 0 ≤ k ∧ k.toNat < (xs.map e).length ∧ (xs.map e).length ≤ sizeLine := by rw [List.length_map]; exact hk
            unfold wrAt fPopAt eL
            simp only
            rw [if_pos hk', hg]
            simp only [Option.map_some]
            rw [erase_map]
          have hj2 := hj s'
          unfold mutV
          have il : isLst (E s)[j]? = true := by rw [hj s]; rfl
          rw [if_pos il]
          simp only [args, h, hold, k1]
          rw [hj2, w]
        have h2 : ∀ mm : M Rs, mm (E s) = .ok (.dat (e (xs[k.toNat]'hk.2.1))) ((E s').set j (.own (eL e (xs.eraseIdx k.toNat)))) → mutV i fApp [mm] (E s) = .ok (.dat .none) (E1 s' (xs.eraseIdx k.toNat) (ys ++ [xs[k.toNat]'hk.2.1])) := fun mm hm => by
          have il : isLst (E s)[i]? = true := by rw [hi s]; rfl
          unfold mutV
          rw [if_pos il]
          simp only [args, hm, hold]
          have k1 : ∀ r, keeps [Rs.dat (e (xs[k.toNat]'hk.2.1))] r = .ok [e (xs[k.toNat]'hk.2.1)] r := fun _ => rfl
          simp only [k1]
          have w : wrAt (fun d => fApp d [e (xs[k.toNat]'hk.2.1)]) (some (.own (eL e ys))) = some (.own (eL e (ys ++ [xs[k.toNat]'hk.2.1])), .none) := by
            unfold wrAt fApp eL
            simp only [List.length_map]
            rw [if_pos c]
            simp
          rw [hij s', w]
          simp only
          rw [he]
        show dropS _ (E s) = _
        unfold dropS
        rw [h2 _ h1]
      · rw [decide_eq_false c]; trivial
    · trivial
end
end Ip

set_option maxHeartbeats 1000000
open PySem L2
namespace Own
open Ip
def topS (i : Nat) : Stmt := PySem.Challenge.pw_standgates_k07_whole_orders.main.body.getD i (.Pass ⟨0, 0, 0, 0⟩)
def d0 : DefI := ⟨"is_integer", topS 1, ["value"], ["value"], [false], []⟩
def d1 : DefI := ⟨"is_in", topS 2, ["value", "least", "most"], ["value", "least", "most"], [false, false, false], []⟩
def d2 : DefI := ⟨"is_list", topS 3, ["value", "least", "most"], ["value", "least", "most"], [false, false, false], []⟩
def d3 : DefI := ⟨"need_net", topS 12, ["net", "index", "near", "other"], ["net"], [false], []⟩
def d4 : DefI := ⟨"size_of", topS 13, ["net"], ["net"], [false], []⟩
def d5 : DefI := ⟨"friends_in", topS 14, ["net", "person"], ["net", "person"], [false, false], []⟩
def d6 : DefI := ⟨"all_bits", topS 15, ["inputs", "found", "turn", "bits", "bit"], ["inputs"], [false], []⟩
def d7 : DefI := ⟨"standing_in", topS 17, ["net", "bits", "found", "near", "other"], ["net", "bits"], [false, false], []⟩
def d8 : DefI := ⟨"begin", topS 19, ["net", "bits"], ["net", "bits"], [false, false], []⟩
def d9 : DefI := ⟨"call_in", topS 20, ["net", "state", "person", "who"], ["net", "state", "person"], [false, false, false], []⟩
def d10 : DefI := ⟨"story_in", topS 21, ["net", "bits", "calls", "found", "person"], ["net", "bits", "calls"], [false, false, false], []⟩
def d11 : DefI := ⟨"breaking_in", topS 22, ["net", "calls", "bits", "wrong", "there", "end", "who"], ["net", "calls"], [false, false], []⟩
def d12 : DefI := ⟨"begins", topS 24, ["net", "bits"], ["net"], [false], []⟩
def d13 : DefI := ⟨"goal_of", topS 25, ["net", "bits"], ["net"], [false], []⟩
def d14 : DefI := ⟨"all_call", topS 26, ["net", "states", "person", "state"], ["net", "states", "person"], [false, false, false], []⟩
def d15 : DefI := ⟨"is_lost", topS 27, ["states", "goal", "state", "end", "one", "other"], ["states", "goal"], [false, false], []⟩
def d16 : DefI := ⟨"need_order", topS 30, ["net", "order", "size", "who"], ["net", "order"], [false, false], []⟩
def d17 : DefI := ⟨"need_small", topS 31, ["net"], ["net"], [false], []⟩
def d18 : DefI := ⟨"by_friends", topS 32, ["net", "order"], ["net", "order"], [false, false], []⟩
def d19 : DefI := ⟨"friendly_in", topS 33, ["net", "order", "at", "person", "other"], ["net", "order"], [false, false], []⟩
def d20 : DefI := ⟨"order_breaks", topS 34, ["net", "order"], ["net", "order"], [false, false], []⟩
def d21 : DefI := ⟨"is_right_order", topS 35, ["net", "order"], ["net", "order"], [false, false], []⟩
def d22 : DefI := ⟨"orders_from", topS 36, ["net", "found", "turn", "goal", "size", "later", "row", "here", "person", "there"], ["net"], [false], [(110, [0])]⟩
def d23 : DefI := ⟨"right_orders", topS 37, ["net"], ["net"], [false], []⟩
def d24 : DefI := ⟨"count_right_orders", topS 38, ["net"], ["net"], [false], []⟩
def d25 : DefI := ⟨"friendly_orders", topS 39, ["net", "found", "turn", "later", "row", "person", "other"], ["net"], [false], []⟩
def d26 : DefI := ⟨"count_friendly", topS 40, ["net"], ["net"], [false], []⟩
def d27 : DefI := ⟨"lucky_orders", topS 41, ["net", "order"], ["net"], [false], []⟩
def d28 : DefI := ⟨"always_ahead", topS 42, ["net", "one", "some", "found", "other", "row"], ["net"], [false], []⟩
def d29 : DefI := ⟨"_law_taken", topS 44, ["_law_row", "_law_many", "_law_cell", "_law_found"], ["_law_row", "_law_many"], [true, false], []⟩
def d30 : DefI := ⟨"_law_alike", topS 45, ["_law_found", "_law_due", "_law_k"], ["_law_found", "_law_due"], [false, false], []⟩
def d31 : DefI := ⟨"_law_order", topS 46, ["_law_row", "_law_many", "_law_turn", "_law_left", "_law_found"], ["_law_row", "_law_many"], [true, false], []⟩
def d32 : DefI := ⟨"_law_net", topS 47, ["_law_row", "_law_most", "_law_turn", "_law_size", "_law_gates", "_law_near", "_law_who"], ["_law_row", "_law_most"], [true, false], []⟩
def d33 : DefI := ⟨"_law_bits", topS 48, ["_law_size", "_law_found", "_law_turn", "_law_longer", "_law_bits_here"], ["_law_size"], [false], []⟩
def d34 : DefI := ⟨"_law_end", topS 49, ["_law_net_here", "_law_bits_here", "_law_found", "_law_near", "_law_who"], ["_law_net_here", "_law_bits_here"], [false, false], []⟩
def d35 : DefI := ⟨"_law_round", topS 50, ["_law_net_here", "_law_state", "_law_some", "_law_at", "_law_active", "_law_later", "_law_who"], ["_law_net_here", "_law_state", "_law_some"], [false, false, false], []⟩
def d36 : DefI := ⟨"_law_walk", topS 51, ["_law_net_here", "_law_bits_here", "_law_calls", "_law_found", "_law_person"], ["_law_net_here", "_law_bits_here", "_law_calls"], [false, false, false], []⟩
def d37 : DefI := ⟨"_law_wrong", topS 52, ["_law_net_here", "_law_calls", "_law_bits_here", "_law_some", "_law_there", "_law_end_here", "_law_who"], ["_law_net_here", "_law_calls"], [false, false], []⟩
def d38 : DefI := ⟨"law", topS 53, ["_law_script", "_law_row", "_law_net_here", "_law_turn", "_law_good", "_law_kind", "_law_due", "_law_one", "_law_calls", "_law_size", "_law_some", "_law_longer", "_law_other", "_law_who", "_law_at"], ["_law_script"], [false], []⟩
def prg : Prg := ⟨[d0, d1, d2, d3, d4, d5, d6, d7, d8, d9, d10, d11, d12, d13, d14, d15, d16, d17, d18, d19, d20, d21, d22, d23, d24, d25, d26, d27, d28, d29, d30, d31, d32, d33, d34, d35, d36, d37, d38], [("MOST_INPUTS", 3), ("MOST_GATES", 8), ("MOST_ORDERED", 7)], ["isinstance", "len", "list", "tuple", "int", "min", "any", "all", "range", "enumerate", "sorted", "set", "zip", "str", "bool", "super"], 100000, 40⟩
/-- is_integer -/
def b0 (run : Nat → List Sl → CR) : M Fl := seqS (retS (andV (prim (oIsiA [.int]) [nm 0]) (prim oNot [prim (oIsiA [.bool]) [nm 0]]))) (nextS)
theorem e0 (n : Nat) (run : Nat → List Sl → CR) : prg.body n run d0 = runBody 1 1 (b0 run) := by kernel_rfl
/-- is_in -/
def b1 (run : Nat → List Sl → CR) : M Fl := seqS (retS (andV (callV (run 0) [false] [nm 0]) (chainV oLe oLe (nm 1) (nm 0) (nm 2)))) (nextS)
theorem e1 (n : Nat) (run : Nat → List Sl → CR) : prg.body n run d1 = runBody 3 3 (b1 run) := by kernel_rfl
/-- is_list -/
def b2 (run : Nat → List Sl → CR) : M Fl := seqS (retS (andV (prim (oIsiA [.tuple]) [nm 0]) (chainV oLe oLe (nm 1) (prim oLen [nm 0]) (nm 2)))) (nextS)
theorem e2 (n : Nat) (run : Nat → List Sl → CR) : prg.body n run d2 = runBody 3 3 (b2 run) := by kernel_rfl
/-- need_net -/
def b3 (run : Nat → List Sl → CR) : M Fl := seqS (cond (orB (notB (tst (callV (run 2) [false, false, false] [nm 0, kst (.int 2), kst (.int 2)]))) (orB (notB (tst (callV (run 1) [false, false, false] [prim oIx [nm 0, kst (.int 0)], kst (.int 1), kst (.int 3)]))) (notB (tst (callV (run 2) [false, false, false] [prim oIx [nm 0, kst (.int 1)], kst (.int 0), kst (.int 8)]))))) (seqS (stuckS) (nextS)) (nextS)) (seqS (forS (unhid (srcE (prim oIx [nm 0, kst (.int 1)]))) (tgMany [1, 2]) (seqS (cond (orB (notB (tst (prim (oIsiA [.tuple]) [nm 2]))) (notB (tst (prim oAll [lcV [3] (srcC (nm 2)) (tgOne 3) (kb true) (callV (run 1) [false, false, false] [nm 3, kst (.int 0), prim oSub [prim oAdd' [prim oIx [nm 0, kst (.int 0)], nm 1], kst (.int 1)]])])))) (seqS (stuckS) (nextS)) (nextS)) (seqS (cond (tst (prim oNe [prim oListA [nm 2], prim oSortSet [nm 2]])) (seqS (stuckS) (nextS)) (nextS)) (nextS)))) (nextS))
theorem e3 (n : Nat) (run : Nat → List Sl → CR) : prg.body n run d3 = runBody 1 4 (b3 run) := by kernel_rfl
/-- size_of -/
def b4 (run : Nat → List Sl → CR) : M Fl := seqS (retS (prim oAdd' [prim oIx [nm 0, kst (.int 0)], prim oLen [prim oIx [nm 0, kst (.int 1)]]])) (nextS)
theorem e4 (n : Nat) (run : Nat → List Sl → CR) : prg.body n run d4 = runBody 1 1 (b4 run) := by kernel_rfl
/-- friends_in -/
def b5 (run : Nat → List Sl → CR) : M Fl := seqS (retS (cond (tst (prim oGe [nm 1, prim oIx [nm 0, kst (.int 0)]])) (prim oIx [prim oIx [nm 0, kst (.int 1)], prim oSub [nm 1, prim oIx [nm 0, kst (.int 0)]]]) (tupV []))) (nextS)
theorem e5 (n : Nat) (run : Nat → List Sl → CR) : prg.body n run d5 = runBody 2 2 (b5 run) := by kernel_rfl
/-- all_bits -/
def b6 (run : Nat → List Sl → CR) : M Fl := seqS (setS 1 (lstV [tupV []])) (seqS (forS (unhid (srcR [nm 0])) (tgOne 2) (seqS (setS 1 (lc2V [3, 4] [4] (srcC (nm 1)) (tgOne 3) (kb true) (tupV [kst (.int 0), kst (.int 1)]) (tgOne 4) (kb true) (tupA (sargs [(true, nm 3), (false, nm 4)])))) (nextS))) (seqS (retS (nm 1)) (nextS)))
theorem e6 (n : Nat) (run : Nat → List Sl → CR) : prg.body n run d6 = runBody 1 5 (b6 run) := by kernel_rfl
/-- standing_in -/
def b7 (run : Nat → List Sl → CR) : M Fl := seqS (setS 2 (prim oListA [nm 1])) (seqS (forS (unhid (srcC (prim oIx [nm 0, kst (.int 1)]))) (tgOne 3) (seqS (dropS (mutV 2 fApp [cond (tst (prim oAny [lcV [4] (srcC (nm 3)) (tgOne 4) (kb true) (prim oEq [prim oIx [nm 2, nm 4], kst (.int 1)])])) (kst (.int 0)) (kst (.int 1))])) (nextS))) (seqS (retS (prim oTuple [nm 2])) (nextS)))
theorem e7 (n : Nat) (run : Nat → List Sl → CR) : prg.body n run d7 = runBody 2 5 (b7 run) := by kernel_rfl
/-- begin -/
def b8 (run : Nat → List Sl → CR) : M Fl := seqS (retS (prim oAdd' [prim oTuple [nm 1], prim oMulA [tupV [kst (.int 1)], prim oLen [prim oIx [nm 0, kst (.int 1)]]]])) (nextS)
theorem e8 (n : Nat) (run : Nat → List Sl → CR) : prg.body n run d8 = runBody 2 2 (b8 run) := by kernel_rfl
/-- call_in -/
def b9 (run : Nat → List Sl → CR) : M Fl := seqS (cond (tst (prim oEq [prim oIx [nm 1, nm 2], kst (.int 0)])) (seqS (retS (nm 1)) (nextS)) (nextS)) (seqS (retS (prim oTuple [lcV [3] (srcR [prim oLen [nm 1]]) (tgOne 3) (kb true) (cond (tst (prim oIn [nm 2, callV (run 5) [false, false] [nm 0, nm 3]])) (kst (.int 0)) (prim oIx [nm 1, nm 3]))])) (nextS))
theorem e9 (n : Nat) (run : Nat → List Sl → CR) : prg.body n run d9 = runBody 3 4 (b9 run) := by kernel_rfl
/-- story_in -/
def b10 (run : Nat → List Sl → CR) : M Fl := seqS (setS 3 (lstV [callV (run 8) [false, false] [nm 0, nm 1]])) (seqS (forS (unhid (srcC (nm 2))) (tgOne 4) (seqS (dropS (mutV 3 fApp [callV (run 9) [false, false, false] [nm 0, prim oIx [nm 3, prim oNeg [kst (.int 1)]], nm 4]])) (nextS))) (seqS (retS (nm 3)) (nextS)))
theorem e10 (n : Nat) (run : Nat → List Sl → CR) : prg.body n run d10 = runBody 3 5 (b10 run) := by kernel_rfl
/-- breaking_in -/
def b11 (run : Nat → List Sl → CR) : M Fl := seqS (forS (unhid (srcC (callV (run 6) [false] [prim oIx [nm 0, kst (.int 0)]]))) (tgOne 2) (seqS (setsS [4, 5] [prim oIx [callV (run 10) [false, false, false] [nm 0, nm 2, nm 1], prim oNeg [kst (.int 1)]], callV (run 7) [false, false] [nm 0, nm 2]]) (seqS (setS 3 (lcV [6] (srcR [callV (run 4) [false] [nm 0]]) (tgOne 6) (tst (prim oNe [prim oIx [nm 4, nm 6], prim oIx [nm 5, nm 6]])) (nm 6))) (seqS (cond (tst (prim oNe [nm 3, lstV []])) (seqS (retS (tupV [nm 2, prim oIx [nm 3, kst (.int 0)]])) (nextS)) (nextS)) (nextS))))) (seqS (retS (kst .none)) (nextS))
theorem e11 (n : Nat) (run : Nat → List Sl → CR) : prg.body n run d11 = runBody 2 7 (b11 run) := by kernel_rfl
/-- begins -/
def b12 (run : Nat → List Sl → CR) : M Fl := seqS (retS (prim oTuple [lcV [1] (srcC (callV (run 6) [false] [prim oIx [nm 0, kst (.int 0)]])) (tgOne 1) (kb true) (callV (run 8) [false, false] [nm 0, nm 1])])) (nextS)
theorem e12 (n : Nat) (run : Nat → List Sl → CR) : prg.body n run d12 = runBody 1 2 (b12 run) := by kernel_rfl
/-- goal_of -/
def b13 (run : Nat → List Sl → CR) : M Fl := seqS (retS (prim oTuple [lcV [1] (srcC (callV (run 6) [false] [prim oIx [nm 0, kst (.int 0)]])) (tgOne 1) (kb true) (callV (run 7) [false, false] [nm 0, nm 1])])) (nextS)
theorem e13 (n : Nat) (run : Nat → List Sl → CR) : prg.body n run d13 = runBody 1 2 (b13 run) := by kernel_rfl
/-- all_call -/
def b14 (run : Nat → List Sl → CR) : M Fl := seqS (retS (prim oTuple [lcV [3] (srcC (nm 1)) (tgOne 3) (kb true) (callV (run 9) [false, false, false] [nm 0, nm 3, nm 2])])) (nextS)
theorem e14 (n : Nat) (run : Nat → List Sl → CR) : prg.body n run d14 = runBody 3 4 (b14 run) := by kernel_rfl
/-- is_lost -/
def b15 (run : Nat → List Sl → CR) : M Fl := seqS (retS (prim oAny [lcV [2, 3] (srcZ [nm 0, nm 1]) (tgMany [2, 3]) (kb true) (prim oAny [lcV [4, 5] (srcZ [nm 2, nm 3]) (tgMany [4, 5]) (kb true) (prim oLt [nm 4, nm 5])])])) (nextS)
theorem e15 (n : Nat) (run : Nat → List Sl → CR) : prg.body n run d15 = runBody 2 6 (b15 run) := by kernel_rfl
/-- need_order -/
def b16 (run : Nat → List Sl → CR) : M Fl := seqS (setS 2 (callV (run 4) [false] [nm 0])) (seqS (cond (orB (notB (tst (callV (run 2) [false, false, false] [nm 1, nm 2, nm 2]))) (notB (tst (prim oAll [lcV [3] (srcC (nm 1)) (tgOne 3) (kb true) (callV (run 1) [false, false, false] [nm 3, kst (.int 0), prim oSub [nm 2, kst (.int 1)]])])))) (seqS (stuckS) (nextS)) (nextS)) (seqS (cond (tst (prim oNe [prim oSortA [nm 1], prim oListR [nm 2]])) (seqS (stuckS) (nextS)) (nextS)) (nextS)))
theorem e16 (n : Nat) (run : Nat → List Sl → CR) : prg.body n run d16 = runBody 2 4 (b16 run) := by kernel_rfl
/-- need_small -/
def b17 (run : Nat → List Sl → CR) : M Fl := seqS (cond (tst (prim oGt [callV (run 4) [false] [nm 0], kst (.int 7)])) (seqS (stuckS) (nextS)) (nextS)) (nextS)
theorem e17 (n : Nat) (run : Nat → List Sl → CR) : prg.body n run d17 = runBody 1 1 (b17 run) := by kernel_rfl
/-- by_friends -/
def b18 (run : Nat → List Sl → CR) : M Fl := seqS (dropS (callV (run 3) [false] [nm 0])) (seqS (dropS (callV (run 16) [false, false] [nm 0, nm 1])) (seqS (retS (callV (run 19) [false, false] [nm 0, nm 1])) (nextS)))
theorem e18 (n : Nat) (run : Nat → List Sl → CR) : prg.body n run d18 = runBody 2 2 (b18 run) := by kernel_rfl
/-- friendly_in -/
def b19 (run : Nat → List Sl → CR) : M Fl := seqS (forS (unhid (srcE (nm 1))) (tgMany [2, 3]) (seqS (cond (tst (prim oAny [lcV [4] (srcC (callV (run 5) [false, false] [nm 0, nm 3])) (tgOne 4) (kb true) (prim oIn [nm 4, prim (oSl true false) [nm 1, intM (nm 2)]])])) (seqS (retS (kst (.bool false))) (nextS)) (nextS)) (nextS))) (seqS (retS (kst (.bool true))) (nextS))
theorem e19 (n : Nat) (run : Nat → List Sl → CR) : prg.body n run d19 = runBody 2 5 (b19 run) := by kernel_rfl
/-- order_breaks -/
def b20 (run : Nat → List Sl → CR) : M Fl := seqS (dropS (callV (run 3) [false] [nm 0])) (seqS (dropS (callV (run 16) [false, false] [nm 0, nm 1])) (seqS (retS (callV (run 11) [false, false] [nm 0, nm 1])) (nextS)))
theorem e20 (n : Nat) (run : Nat → List Sl → CR) : prg.body n run d20 = runBody 2 2 (b20 run) := by kernel_rfl
/-- is_right_order -/
def b21 (run : Nat → List Sl → CR) : M Fl := seqS (retS (prim oIsN [callV (run 20) [false, false] [nm 0, nm 1], kst .none])) (nextS)
theorem e21 (n : Nat) (run : Nat → List Sl → CR) : prg.body n run d21 = runBody 2 2 (b21 run) := by kernel_rfl
/-- orders_from -/
def b22 (run : Nat → List Sl → CR) : M Fl := seqS (setsS [3, 4] [callV (run 13) [false] [nm 0], callV (run 4) [false] [nm 0]]) (seqS (setS 1 (lstV [tupV [tupV [], callV (run 12) [false] [nm 0]]])) (seqS (forS (unhid (srcR [nm 4])) (tgOne 2) (seqS (setS 5 (lstV [])) (seqS (forS (unhid (srcC (nm 1))) (tgMany [6, 7]) (seqS (forS (unhid (srcR [nm 4])) (tgOne 8) (seqS (fgt (cond (tst (prim oNotIn [nm 8, nm 6])) (seqS (setS 9 (callV (run 14) [false, false, false] [nm 0, nm 7, nm 8])) (seqS (cond (notB (tst (callV (run 15) [false, false] [nm 9, nm 3]))) (seqS (dropS (mutV 5 fApp [tupV [tupA (sargs [(true, nm 6), (false, nm 8)]), nm 9]])) (nextS)) (nextS)) (nextS))) (nextS))) (nextS))) (nextS))) (seqS (mvS 1 5) (nextS))))) (seqS (retS (prim oSortA [lcV [6, 7] (srcC (nm 1)) (tgMany [6, 7]) (tst (prim oEq [nm 7, nm 3])) (nm 6)])) (nextS))))
theorem e22 (n : Nat) (run : Nat → List Sl → CR) : prg.body n run d22 = runBody 1 10 (b22 run) := by kernel_rfl
/-- right_orders -/
def b23 (run : Nat → List Sl → CR) : M Fl := seqS (dropS (callV (run 3) [false] [nm 0])) (seqS (dropS (callV (run 17) [false] [nm 0])) (seqS (retS (callV (run 22) [false] [nm 0])) (nextS)))
theorem e23 (n : Nat) (run : Nat → List Sl → CR) : prg.body n run d23 = runBody 1 1 (b23 run) := by kernel_rfl
/-- count_right_orders -/
def b24 (run : Nat → List Sl → CR) : M Fl := seqS (dropS (callV (run 3) [false] [nm 0])) (seqS (dropS (callV (run 17) [false] [nm 0])) (seqS (retS (prim oLen [callV (run 22) [false] [nm 0]])) (nextS)))
theorem e24 (n : Nat) (run : Nat → List Sl → CR) : prg.body n run d24 = runBody 1 1 (b24 run) := by kernel_rfl
/-- friendly_orders -/
def b25 (run : Nat → List Sl → CR) : M Fl := seqS (dropS (callV (run 3) [false] [nm 0])) (seqS (dropS (callV (run 17) [false] [nm 0])) (seqS (setS 1 (lstV [tupV []])) (seqS (forS (unhid (srcR [callV (run 4) [false] [nm 0]])) (tgOne 2) (seqS (setS 3 (lstV [])) (seqS (forS (unhid (srcC (nm 1))) (tgOne 4) (seqS (forS (unhid (srcR [callV (run 4) [false] [nm 0]])) (tgOne 5) (seqS (cond (andB (tst (prim oNotIn [nm 5, nm 4])) (tst (prim oAll [lcV [6] (srcC (callV (run 5) [false, false] [nm 0, nm 5])) (tgOne 6) (kb true) (prim oIn [nm 6, nm 4])]))) (seqS (dropS (mutV 3 fApp [tupA (sargs [(true, nm 4), (false, nm 5)])])) (nextS)) (nextS)) (nextS))) (nextS))) (seqS (mvS 1 3) (nextS))))) (seqS (retS (prim oSortA [nm 1])) (nextS)))))
theorem e25 (n : Nat) (run : Nat → List Sl → CR) : prg.body n run d25 = runBody 1 7 (b25 run) := by kernel_rfl
/-- count_friendly -/
def b26 (run : Nat → List Sl → CR) : M Fl := seqS (retS (prim oLen [callV (run 25) [false] [nm 0]])) (nextS)
theorem e26 (n : Nat) (run : Nat → List Sl → CR) : prg.body n run d26 = runBody 1 1 (b26 run) := by kernel_rfl
/-- lucky_orders -/
def b27 (run : Nat → List Sl → CR) : M Fl := seqS (dropS (callV (run 3) [false] [nm 0])) (seqS (dropS (callV (run 17) [false] [nm 0])) (seqS (retS (lcV [1] (srcC (callV (run 22) [false] [nm 0])) (tgOne 1) (notB (tst (callV (run 19) [false, false] [nm 0, nm 1]))) (nm 1))) (nextS)))
theorem e27 (n : Nat) (run : Nat → List Sl → CR) : prg.body n run d27 = runBody 1 2 (b27 run) := by kernel_rfl
/-- always_ahead -/
def b28 (run : Nat → List Sl → CR) : M Fl := seqS (dropS (callV (run 3) [false] [nm 0])) (seqS (dropS (callV (run 17) [false] [nm 0])) (seqS (setsS [2, 3] [callV (run 22) [false] [nm 0], lstV []]) (seqS (forS (unhid (srcR [callV (run 4) [false] [nm 0]])) (tgOne 1) (seqS (forS (unhid (srcR [callV (run 4) [false] [nm 0]])) (tgOne 4) (seqS (cond (andB (tst (prim oNe [nm 1, nm 4])) (tst (prim oAll [lcV [5] (srcC (nm 2)) (tgOne 5) (kb true) (prim oLt [idxW (nm 5) (nm 1), idxW (nm 5) (nm 4)])]))) (seqS (dropS (mutV 3 fApp [tupV [nm 1, nm 4]])) (nextS)) (nextS)) (nextS))) (nextS))) (seqS (retS (prim oTuple [nm 3])) (nextS)))))
theorem e28 (n : Nat) (run : Nat → List Sl → CR) : prg.body n run d28 = runBody 1 6 (b28 run) := by kernel_rfl
/-- _law_taken -/
def b29 (run : Nat → List Sl → CR) : M Fl := seqS (cond (tst (prim oGt [prim oIx [nm 0, kst (.int 3)], kst (.int 0)])) (seqS (setS 3 (prim oMod [prim oInt [prim oIx [nm 0, kst (.int 3)]], nm 1])) (seqS (storeS 0 fStore (prim oFdiv [prim oIx [nm 0, kst (.int 3)], nm 1]) (kst (.int 3))) (seqS (retS (nm 3)) (nextS)))) (nextS)) (seqS (storeS 0 fStore (prim oAdd' [prim oIx [nm 0, kst (.int 1)], kst (.int 1)]) (kst (.int 1))) (seqS (cond (tst (prim oGt [prim oIx [nm 0, kst (.int 1)], prim oLen [prim oIx [nm 0, kst (.int 0)]]])) (seqS (storeS 0 fStore (prim oMod [prim oInt [prim oAdd' [prim oMulA [prim oIx [nm 0, kst (.int 2)], kst (.int 48271)], kst (.int 11)]], kst (.int 2147483647)]) (kst (.int 2))) (seqS (retS (prim oMod [prim oInt [prim oFdiv [prim oIx [nm 0, kst (.int 2)], kst (.int 7)]], nm 1])) (nextS))) (nextS)) (seqS (setS 2 (prim oIx [prim oIx [nm 0, kst (.int 0)], prim oSub [prim oIx [nm 0, kst (.int 1)], kst (.int 1)]])) (seqS (storeS 0 fStore (prim oMod [prim oInt [prim oAdd' [prim oAdd' [prim oMulA [prim oIx [nm 0, kst (.int 2)], kst (.int 48271)], nm 2], kst (.int 11)]], kst (.int 2147483647)]) (kst (.int 2))) (seqS (cond (tst (prim oGe [nm 2, prim oPow [kst (.int 10), kst (.int 18)]])) (seqS (storeS 0 fStore (prim oFdiv [nm 2, nm 1]) (kst (.int 3))) (nextS)) (nextS)) (seqS (retS (prim oMod [prim oInt [nm 2], nm 1])) (nextS)))))))
theorem e29 (n : Nat) (run : Nat → List Sl → CR) : prg.body n run d29 = runBody 2 4 (b29 run) := by kernel_rfl
/-- _law_alike -/
def b30 (run : Nat → List Sl → CR) : M Fl := seqS (cond (tst (prim (oIsiA [.tuple, .list]) [nm 1])) (seqS (cond (orB (notB (tst (prim (oIsiA [.tuple, .list]) [nm 0]))) (tst (prim oNe [prim (oIsiA [.list]) [nm 0], prim (oIsiA [.list]) [nm 1]]))) (seqS (retS (kst (.bool false))) (nextS)) (nextS)) (seqS (cond (tst (prim oNe [prim oLen [nm 0], prim oLen [nm 1]])) (seqS (retS (kst (.bool false))) (nextS)) (nextS)) (seqS (retS (prim oEq [lcV [2] (srcR [prim oLen [nm 1]]) (tgOne 2) (notB (tst (callV (run 30) [false, false] [prim oIx [nm 0, nm 2], prim oIx [nm 1, nm 2]]))) (nm 2), lstV []])) (nextS)))) (nextS)) (seqS (cond (orB (tst (prim oIsN [nm 1, kst .none])) (tst (prim (oIsiA [.str]) [nm 1]))) (seqS (retS (andV (prim oEq [nm 0, nm 1]) (prim oEq [prim (oIsiA [.str]) [nm 0], prim (oIsiA [.str]) [nm 1]]))) (nextS)) (nextS)) (seqS (retS (andV (prim (oIsiA [.int]) [nm 0]) (andV (prim oEq [prim (oIsiA [.bool]) [nm 0], prim (oIsiA [.bool]) [nm 1]]) (prim oEq [nm 0, nm 1])))) (nextS)))
theorem e30 (n : Nat) (run : Nat → List Sl → CR) : prg.body n run d30 = runBody 2 3 (b30 run) := by kernel_rfl
/-- _law_order -/
def b31 (run : Nat → List Sl → CR) : M Fl := seqS (setsS [3, 4] [prim oListR [nm 1], lstV []]) (seqS (forS (unhid (srcR [nm 1])) (tgOne 2) (seqS (dropS (mutV 4 fApp [mutV 3 fPopAt [callV (run 29) [true, false] [nm 0, prim oLen [nm 3]]]])) (nextS))) (seqS (retS (prim oTuple [nm 4])) (nextS)))
theorem e31 (n : Nat) (run : Nat → List Sl → CR) : prg.body n run d31 = runBody 2 5 (b31 run) := by kernel_rfl
/-- _law_net -/
def b32 (run : Nat → List Sl → CR) : M Fl := seqS (setsS [3, 4] [prim oAdd' [kst (.int 1), callV (run 29) [true, false] [nm 0, kst (.int 3)]], tupV []]) (seqS (forS (unhid (srcR [callV (run 29) [true, false] [nm 0, prim oAdd' [nm 1, kst (.int 1)]]])) (tgOne 2) (seqS (setS 5 (prim oTuple [lcV [6] (srcR [prim oAdd' [nm 3, nm 2]]) (tgOne 6) (tst (prim oLt [callV (run 29) [true, false] [nm 0, kst (.int 5)], kst (.int 2)])) (nm 6)])) (seqS (setS 4 (prim oAdd' [nm 4, tupV [nm 5]])) (nextS)))) (seqS (retS (tupV [nm 3, nm 4])) (nextS)))
theorem e32 (n : Nat) (run : Nat → List Sl → CR) : prg.body n run d32 = runBody 2 7 (b32 run) := by kernel_rfl
/-- _law_bits -/
def b33 (run : Nat → List Sl → CR) : M Fl := seqS (setS 1 (lstV [tupV []])) (seqS (forS (unhid (srcR [nm 0])) (tgOne 2) (seqS (setS 3 (lstV [])) (seqS (forS (unhid (srcC (nm 1))) (tgOne 4) (seqS (setS 3 (prim oAdd' [nm 3, lstV [prim oAdd' [nm 4, tupV [kst (.int 0)]], prim oAdd' [nm 4, tupV [kst (.int 1)]]]])) (nextS))) (seqS (mvS 1 3) (nextS))))) (seqS (retS (nm 1)) (nextS)))
theorem e33 (n : Nat) (run : Nat → List Sl → CR) : prg.body n run d33 = runBody 1 5 (b33 run) := by kernel_rfl
/-- _law_end -/
def b34 (run : Nat → List Sl → CR) : M Fl := seqS (setS 2 (prim oListA [nm 1])) (seqS (forS (unhid (srcC (prim oIx [nm 0, kst (.int 1)]))) (tgOne 3) (seqS (dropS (mutV 2 fApp [prim oInt [prim oEq [lcV [4] (srcC (nm 3)) (tgOne 4) (tst (prim oEq [prim oIx [nm 2, nm 4], kst (.int 1)])) (nm 4), lstV []]]])) (nextS))) (seqS (retS (prim oTuple [nm 2])) (nextS)))
theorem e34 (n : Nat) (run : Nat → List Sl → CR) : prg.body n run d34 = runBody 2 5 (b34 run) := by kernel_rfl
/-- _law_round -/
def b35 (run : Nat → List Sl → CR) : M Fl := seqS (setsS [4, 5] [lcV [6] (srcC (nm 2)) (tgOne 6) (tst (prim oEq [prim oIx [nm 1, nm 6], kst (.int 1)])) (nm 6), prim oListA [nm 1]]) (seqS (forS (unhid (srcR [prim oLen [prim oIx [nm 0, kst (.int 1)]]])) (tgOne 3) (seqS (cond (tst (prim oNe [lcV [6] (srcC (prim oIx [prim oIx [nm 0, kst (.int 1)], nm 3])) (tgOne 6) (tst (prim oIn [nm 6, nm 4])) (nm 6), lstV []])) (seqS (storeS 5 fStore (kst (.int 0)) (prim oAdd' [prim oIx [nm 0, kst (.int 0)], nm 3])) (nextS)) (nextS)) (nextS))) (seqS (retS (prim oTuple [nm 5])) (nextS)))
theorem e35 (n : Nat) (run : Nat → List Sl → CR) : prg.body n run d35 = runBody 3 7 (b35 run) := by kernel_rfl
/-- _law_walk -/
def b36 (run : Nat → List Sl → CR) : M Fl := seqS (setS 3 (lstV [prim oAdd' [nm 1, prim oMulA [tupV [kst (.int 1)], prim oLen [prim oIx [nm 0, kst (.int 1)]]]]])) (seqS (forS (unhid (srcC (nm 2))) (tgOne 4) (seqS (dropS (mutV 3 fApp [callV (run 35) [false, false, false] [nm 0, prim oIx [nm 3, prim oNeg [kst (.int 1)]], tupV [nm 4]]])) (nextS))) (seqS (retS (nm 3)) (nextS)))
theorem e36 (n : Nat) (run : Nat → List Sl → CR) : prg.body n run d36 = runBody 3 5 (b36 run) := by kernel_rfl
/-- _law_wrong -/
def b37 (run : Nat → List Sl → CR) : M Fl := seqS (forS (unhid (srcC (callV (run 33) [false] [prim oIx [nm 0, kst (.int 0)]]))) (tgOne 2) (seqS (setsS [4, 5] [prim oIx [callV (run 36) [false, false, false] [nm 0, nm 2, nm 1], prim oNeg [kst (.int 1)]], callV (run 34) [false, false] [nm 0, nm 2]]) (seqS (setS 3 (lcV [6] (srcR [prim oLen [nm 5]]) (tgOne 6) (tst (prim oNe [prim oIx [nm 4, nm 6], prim oIx [nm 5, nm 6]])) (nm 6))) (seqS (cond (tst (prim oNe [nm 3, lstV []])) (seqS (retS (tupV [nm 2, prim oIx [nm 3, kst (.int 0)]])) (nextS)) (nextS)) (nextS))))) (seqS (retS (kst .none)) (nextS))
theorem e37 (n : Nat) (run : Nat → List Sl → CR) : prg.body n run d37 = runBody 2 7 (b37 run) := by kernel_rfl
/-- law -/
def b38 (run : Nat → List Sl → CR) : M Fl := seqS (setS 1 (lstV [nm 0, kst (.int 0), kst (.int 10307), kst (.int 0)])) (seqS (setS 2 (callV (run 32) [true, false] [nm 1, kst (.int 3)])) (seqS (setS 2 (cond (tst (prim oGt [prim oAdd' [prim oLen [prim oIx [nm 2, kst (.int 1)]], prim oIx [nm 2, kst (.int 0)]], kst (.int 5)])) (tupV [prim oMin2 [prim oIx [nm 2, kst (.int 0)], kst (.int 2)], tupV []]) (nm 2))) (seqS (setsS [9, 10] [prim oAdd' [prim oIx [nm 2, kst (.int 0)], prim oLen [prim oIx [nm 2, kst (.int 1)]]], lstV [tupV []]]) (seqS (forS (unhid (srcR [nm 9])) (tgOne 3) (seqS (setS 11 (lstV [])) (seqS (forS (unhid (srcC (nm 10))) (tgOne 8) (seqS (setS 11 (prim oAdd' [nm 11, lcV [13] (srcR [nm 9]) (tgOne 13) (tst (prim oNotIn [nm 13, nm 8])) (prim oAdd' [nm 8, tupV [nm 13]])])) (nextS))) (seqS (mvS 10 11) (nextS))))) (seqS (setS 4 (lcV [8] (srcC (nm 10)) (tgOne 8) (tst (prim oIsN [callV (run 37) [false, false] [nm 2, nm 8], kst .none])) (nm 8))) (seqS (setS 5 (lcV [8] (srcC (nm 10)) (tgOne 8) (tst (prim oEq [lcV [14] (srcR [nm 9]) (tgOne 14) (andB (tst (prim oGe [prim oIx [nm 8, nm 14], prim oIx [nm 2, kst (.int 0)]])) (tst (prim oNe [lcV [7] (srcC (prim oIx [prim oIx [nm 2, kst (.int 1)], prim oSub [prim oIx [nm 8, nm 14], prim oIx [nm 2, kst (.int 0)]]])) (tgOne 7) (tst (prim oIn [nm 7, prim (oSl true false) [nm 8, intM (nm 14)]])) (nm 7), lstV []]))) (nm 14), lstV []])) (nm 8))) (seqS (cond (orB (notB (tst (callV (run 30) [false, false] [callV (run 23) [false] [nm 2], nm 4]))) (notB (tst (callV (run 30) [false, false] [callV (run 24) [false] [nm 2], prim oLen [nm 4]])))) (seqS (retS (kst (.bool false))) (nextS)) (nextS)) (seqS (cond (orB (notB (tst (callV (run 30) [false, false] [callV (run 25) [false] [nm 2], nm 5]))) (notB (tst (callV (run 30) [false, false] [callV (run 26) [false] [nm 2], prim oLen [nm 5]])))) (seqS (retS (kst (.bool false))) (nextS)) (nextS)) (seqS (cond (notB (tst (callV (run 30) [false, false] [callV (run 27) [false] [nm 2], lcV [8] (srcC (nm 4)) (tgOne 8) (tst (prim oNotIn [nm 8, nm 5])) (nm 8)]))) (seqS (retS (kst (.bool false))) (nextS)) (nextS)) (seqS (cond (tst (prim oNe [lcV [8] (srcC (nm 5)) (tgOne 8) (tst (prim oNotIn [nm 8, nm 4])) (nm 8), lstV []])) (seqS (retS (kst (.bool false))) (nextS)) (nextS)) (seqS (setS 6 (lstV [])) (seqS (forS (unhid (srcR [nm 9])) (tgOne 7) (seqS (setS 6 (prim oAdd' [nm 6, lcV [12] (srcR [nm 9]) (tgOne 12) (andB (tst (prim oNe [nm 7, nm 12])) (tst (prim oEq [lcV [8] (srcC (nm 4)) (tgOne 8) (tst (prim oGt [idxW (nm 8) (nm 7), idxW (nm 8) (nm 12)])) (nm 8), lstV []]))) (tupV [nm 7, nm 12])])) (nextS))) (seqS (cond (notB (tst (callV (run 30) [false, false] [callV (run 28) [false] [nm 2], prim oTuple [nm 6]]))) (seqS (retS (kst (.bool false))) (nextS)) (nextS)) (seqS (setS 8 (callV (run 31) [true, false] [nm 1, nm 9])) (seqS (cond (notB (tst (callV (run 30) [false, false] [callV (run 20) [false, false] [nm 2, nm 8], callV (run 37) [false, false] [nm 2, nm 8]]))) (seqS (retS (kst (.bool false))) (nextS)) (nextS)) (seqS (cond (notB (tst (callV (run 30) [false, false] [callV (run 21) [false, false] [nm 2, nm 8], prim oIn [nm 8, nm 4]]))) (seqS (retS (kst (.bool false))) (nextS)) (nextS)) (seqS (retS (callV (run 30) [false, false] [callV (run 18) [false, false] [nm 2, nm 8], prim oIn [nm 8, nm 5]])) (nextS))))))))))))))))))
theorem e38 (n : Nat) (run : Nat → List Sl → CR) : prg.body n run d38 = runBody 1 15 (b38 run) := by kernel_rfl
theorem run_eq (n i : Nat) (d : DefI) (h : prg.ds[i]? = some d) : prg.run (n + 1) i = prg.body n (prg.run n) d := by
  show (match prg.ds[i]? with | some d => prg.body n (prg.run n) d | none => fun _ => .stuck) = _
  rw [h]
structure Alk {α : Type} (k : Nat) (e : α → D) (sz : α → Bool) [DecidableEq α] : Prop where
  ok : ∀ (m : Nat) (x y : α), sz y = true → prg.run (m + k) 30 [.dat (e x), .dat (e y)] = .ok (.dat (.bool (decide (x = y)))) [none, none]
theorem Alk.mono {α : Type} {k k' : Nat} {e : α → D} {sz : α → Bool} [DecidableEq α] (h : Alk k e sz) (hk : k ≤ k') : Alk k' e sz := ⟨fun m x y hy => by
  have := h.ok (m + (k' - k)) x y hy
  rwa [show m + (k' - k) + k = m + k' by omega] at this⟩
theorem Alk.call {α : Type} {k : Nat} {e : α → D} {sz : α → Bool} [DecidableEq α] (h : Alk k e sz) (m : Nat) (x y : α) : CallK 2 (prg.run (m + k) 30 [.dat (e x), .dat (e y)]) (Rt.gd (sz y) (decide (x = y))) (fun z => .dat (.bool z)) := by
  cases c : sz y with
  | false => trivial
  | true => exact ⟨_, h.ok m x y c, rfl⟩
theorem alk_int : Alk 1 PyData.int szA := ⟨fun m x y _ => by
  rw [run_eq _ 30 d30 rfl, e30]
  have e0 : oIsN [.int y, .none] = some (.dat (.bool false)) := rfl
  by_cases h : x = y
  · subst h; simp [b30, e0]
  · simp [b30, e0, h]⟩
theorem alk_bool : Alk 1 PyData.bool szA := ⟨fun m x y _ => by
  rw [run_eq _ 30 d30 rfl, e30]
  have e0 : oIsN [.bool y, .none] = some (.dat (.bool false)) := rfl
  by_cases h : x = y
  · subst h; simp [b30, e0]
  · simp [b30, e0, h]⟩
theorem alk_gen {ds es : List D} {m k : Nat} {p : Nat → Bool} (he : es.length ≤ 1000) (h : ds.length = es.length → ∀ i (h1 : i < ds.length) (h2 : i < es.length), prg.run (m + k) 30 [.dat ds[i], .dat es[i]] = .ok (.dat (.bool (p i))) [none, none]) {s1 s2 : Sl}
    (hs : (s1 = .dat (.tuple ds) ∧ s2 = .dat (.tuple es)) ∨ ((s1 = .dat (.list ds) ∨ s1 = .bor (.list ds)) ∧ (s2 = .dat (.list es) ∨ s2 = .bor (.list es)))) :
    prg.run (m + (k + 1)) 30 [s1, s2] = .ok (.dat (.bool (decide (ds.length = es.length) && (List.range es.length).all p))) [none, none] := by
  rw [show m + (k + 1) = m + k + 1 from rfl, run_eq _ 30 d30 rfl, e30]
  have e0 : ∀ zs : List Int, oEq [.list (zs.map .int), .list []] = some (.dat (.bool (decide (zs = [])))) := fun zs => oEq_dL zs []
  have nl : ∀ a b : Bool, oNe [.bool a, .bool b] = some (.dat (.bool (decide (a ≠ b)))) := z_neb
  have fin : ((List.range es.length).filter fun i => !p i).map (fun i : Nat => (i : Int)) = [] ↔ (List.range es.length).all p = true := by
    rw [List.map_eq_nil_iff, List.filter_eq_nil_iff, List.all_eq_true]
    simp
  by_cases hl : ds.length = es.length
  · have hl' : (ds.length : Int) = es.length := by omega
    have lc : ∀ (t1 t2 : Sl) (f : List D → D) (x1 x2 : Rs), named 0 (some t1) = some x1 → named 1 (some t2) = some x2 → (∀ r : Ev, r[0]? = some t1 → look x1 r = .ok (f ds) r) → (∀ r : Ev, r[1]? = some t2 → look x2 r = .ok (f es) r) → (∀ r, hold x1 r = .ok x1 r) → (∀ r, hold x2 r = .ok x2 r) → (∀ (xs : List D) (i : Int), oIx [f xs, .int i] = (atI xs i).map .dat) → (∀ xs : List D, oLen [f xs] = some (.dat (.int xs.length))) → hideFrom [2] [] 0 [t1, t2, .no] = [t1, t2, .no] →
        lcV [2] (srcR [prim oLen [nm 1]]) (tgOne 2) (notB (tst (callV (prg.run (m + k) 30) [false, false] [prim oIx [nm 0, nm 2], prim oIx [nm 1, nm 2]]))) (nm 2) [t1, t2, .no] = .ok (.fresh (.list (((List.range es.length).filter fun i => !p i).map fun i : Nat => .int (i : Int)))) [t1, t2, .no] := by
      intro t1 t2 f x1 x2 n1 n2 l1 l2 h1 h2 hi hn hh
      refine lc_all (own := [2]) (p := fun i : Nat => !p i) (g := fun i : Nat => .int (i : Int)) (enc := fun i : Nat => .int (i : Int)) (ρ := fun i : Nat => [t1, t2, .dat (.int (i : Int))]) (hid := []) (List.range es.length) ?_ (by rfl) hh (fun _ _ => by rfl) (fun i _ => ?_) (fun i hi' => ?_) fun i hi' _ => ⟨_, by rfl, rfl⟩
      · have rg := range_int (c := (es.length : Int)) (by omega) (by omega)
        have q : srcR [prim oLen [nm 1]] [t1, t2, .no] = .ok (((List.range (es.length : Int).toNat).map fun i : Nat => .int (i : Int)), []) [t1, t2, .no] := by
          simp [n2, h2, l2, hn, rg]
        rw [q]; simp
      · exact hh
      · have hk := List.mem_range.mp hi'
        have a1 := atI_nat (xs := ds) (i := i) (by omega)
        have a2 := atI_nat (xs := es) hk
        simp [n1, n2, h1, h2, l1, l2, hi, a1, a2, h hl i (by omega) hk]
        cases p i <;> rfl
    have e1 : oEq [.list (((List.range es.length).filter fun i => !p i).map fun i : Nat => .int (i : Int)), .list []] = some (.dat (.bool ((List.range es.length).all p))) := by
      have e1 := e0 (((List.range es.length).filter fun i => !p i).map fun i : Nat => (i : Int))
      rw [List.map_map] at e1
      refine e1.trans ?_
      congr 3
      rw [Bool.eq_iff_iff, decide_eq_true_eq]
      exact fin
    have vl : ∀ (i : Nat) (t : Sl) (d : D) (r : Ev), r[i]? = some t → held (some t) = some d → look (.var i) r = .ok d r := fun i t d r z q => by
      show lift (held r[i]?) r = _
      rw [z, q]; rfl
    rcases hs with ⟨rfl, rfl⟩ | ⟨rfl | rfl, rfl | rfl⟩
    · have lc := lc (.dat (.tuple ds)) (.dat (.tuple es)) .tuple (.dat (.tuple ds)) (.dat (.tuple es)) rfl rfl (fun _ _ => rfl) (fun _ _ => rfl) (fun _ => rfl) (fun _ => rfl) (fun _ _ => rfl) (fun _ => rfl) rfl
      simp [b30, lc, hl, sizeLine_eq, e1, nl]
    · have lc := lc (.dat (.list ds)) (.dat (.list es)) .list (.dat (.list ds)) (.dat (.list es)) rfl rfl (fun _ _ => rfl) (fun _ _ => rfl) (fun _ => rfl) (fun _ => rfl) (fun _ _ => rfl) (fun _ => rfl) rfl
      simp [b30, lc, hl, sizeLine_eq, e1, nl]
    · have lc := lc (.dat (.list ds)) (.bor (.list es)) .list (.dat (.list ds)) (.var 1) rfl rfl (fun _ _ => rfl) (fun r z => vl 1 _ _ r z rfl) (fun _ => rfl) (fun _ => rfl) (fun _ _ => rfl) (fun _ => rfl) rfl
      simp [b30, lc, hl, sizeLine_eq, e1, nl]
    · have lc := lc (.bor (.list ds)) (.dat (.list es)) .list (.var 0) (.dat (.list es)) rfl rfl (fun r z => vl 0 _ _ r z rfl) (fun _ _ => rfl) (fun _ => rfl) (fun _ => rfl) (fun _ _ => rfl) (fun _ => rfl) rfl
      simp [b30, lc, hl, sizeLine_eq, e1, nl]
    · have lc := lc (.bor (.list ds)) (.bor (.list es)) .list (.var 0) (.var 1) rfl rfl (fun r z => vl 0 _ _ r z rfl) (fun r z => vl 1 _ _ r z rfl) (fun _ => rfl) (fun _ => rfl) (fun _ _ => rfl) (fun _ => rfl) rfl
      simp [b30, lc, hl, sizeLine_eq, e1, nl]
  · have hl' : ¬ (ds.length : Int) = es.length := by omega
    rcases hs with ⟨rfl, rfl⟩ | ⟨rfl | rfl, rfl | rfl⟩ <;> simp [b30, hl, hl', nl]
theorem all_eq {α : Type} [DecidableEq α] (xs ys : List α) : (decide (xs.length = ys.length) && (List.range ys.length).all fun i => decide (xs[i]? = ys[i]?)) = decide (xs = ys) := by
  by_cases h : xs = ys
  · subst h; simp
  · rw [decide_eq_false h]
    by_cases l : xs.length = ys.length
    · simp only [l, decide_true, Bool.true_and]
      rw [← Bool.not_eq_true, List.all_eq_true]
      intro z
      refine h (List.ext_getElem? fun i => ?_)
      by_cases hi : i < ys.length
      · simpa using z i (List.mem_range.mpr hi)
      · rw [List.getElem?_eq_none (by omega), List.getElem?_eq_none (by omega)]
    · simp [l]
theorem alk_sl {α : Type} {k : Nat} {e : α → D} {sz : α → Bool} [DecidableEq α] (h : Alk k e sz) (m : Nat) (xs ys : List α) (hy : szL sz ys = true) {s1 s2 : Sl}
    (hs : (s1 = .dat (eT e xs) ∧ s2 = .dat (eT e ys)) ∨ ((s1 = .dat (eL e xs) ∨ s1 = .bor (eL e xs)) ∧ (s2 = .dat (eL e ys) ∨ s2 = .bor (eL e ys)))) :
    prg.run (m + (k + 1)) 30 [s1, s2] = .ok (.dat (.bool (decide (xs = ys)))) [none, none] := by
  unfold szL at hy
  simp only [Bool.and_eq_true, decide_eq_true_eq] at hy
  have := alk_gen (ds := xs.map e) (es := ys.map e) (m := m) (k := k) (p := fun i => decide (xs[i]? = ys[i]?)) (by rw [List.length_map]; exact hy.1) (fun hl i h1 h2 => ?_) hs
  · rw [this]
    simp only [List.length_map]
    rw [all_eq]
  · simp only [List.length_map] at h1 h2
    have sy : sz ys[i] = true := List.all_eq_true.mp hy.2 _ (List.getElem_mem _)
    have := h.ok m xs[i] ys[i] sy
    simp only [List.getElem_map, this, List.getElem?_eq_getElem h1, List.getElem?_eq_getElem h2, Option.some.injEq]
theorem alk_T {α : Type} {k : Nat} {e : α → D} {sz : α → Bool} [DecidableEq α] (h : Alk k e sz) : Alk (k + 1) (eT e) (szL sz) := ⟨fun m xs ys hy => alk_sl h m xs ys hy (.inl ⟨rfl, rfl⟩)⟩
theorem alk_L {α : Type} {k : Nat} {e : α → D} {sz : α → Bool} [DecidableEq α] (h : Alk k e sz) : Alk (k + 1) (eL e) (szL sz) := ⟨fun m xs ys hy => alk_sl h m xs ys hy (.inr ⟨.inl rfl, .inl rfl⟩)⟩
theorem alk_Lb {α : Type} {k : Nat} {e : α → D} {sz : α → Bool} [DecidableEq α] (h : Alk k e sz) (m : Nat) (xs ys : List α) {s1 s2 : Sl} (h1 : s1 = .dat (eL e xs) ∨ s1 = .bor (eL e xs)) (h2 : s2 = .dat (eL e ys) ∨ s2 = .bor (eL e ys)) : CallK 2 (prg.run (m + (k + 1)) 30 [s1, s2]) (Rt.gd (szL sz ys) (decide (xs = ys))) (fun z => .dat (.bool z)) := by
  cases c : szL sz ys with
  | false => trivial
  | true => exact ⟨_, alk_sl h m xs ys c (.inr ⟨h1, h2⟩), rfl⟩
theorem alk_P {α β : Type} {k : Nat} {e : α → D} {f : β → D} {sz : α → Bool} {sz2 : β → Bool} [DecidableEq α] [DecidableEq β] (h : Alk k e sz) (g : Alk k f sz2) : Alk (k + 1) (eP e f) (szP sz sz2) := ⟨fun m x y hy => by
  unfold szP at hy
  simp only [Bool.and_eq_true] at hy
  have := alk_gen (ds := [e x.1, f x.2]) (es := [e y.1, f y.2]) (m := m) (k := k) (p := fun i => if i = 0 then decide (x.1 = y.1) else decide (x.2 = y.2)) (by simp) (fun _ i h1 h2 => ?_) (.inl ⟨rfl, rfl⟩)
  · show prg.run (m + (k + 1)) 30 [.dat (.tuple [e x.1, f x.2]), .dat (.tuple [e y.1, f y.2])] = _
    rw [this]
    have : (List.range 2).all (fun i => if i = 0 then decide (x.1 = y.1) else decide (x.2 = y.2)) = decide (x = y) := by
      show ((if 0 = 0 then decide (x.1 = y.1) else _) && ((if 1 = 0 then _ else decide (x.2 = y.2)) && true)) = _
      rw [Bool.eq_iff_iff, decide_eq_true_eq, Prod.ext_iff]
      by_cases q1 : x.1 = y.1 <;> by_cases q2 : x.2 = y.2 <;> simp [q1, q2]
    simp only [List.length_cons, List.length_nil]
    rw [this]
    simp
  · match i, h1 with
    | 0, _ => simpa using h.ok m x.1 y.1 hy.1
    | 1, _ => simpa using g.ok m x.2 y.2 hy.2⟩
theorem alk_O {α : Type} {k : Nat} {e : α → D} {sz : α → Bool} [DecidableEq α] (h : Alk (k + 1) e sz) (hn : ∀ m x, sz x = true → prg.run (m + (k + 1)) 30 [.dat .none, .dat (e x)] = .ok (.dat (.bool false)) [none, none]) (hn2 : ∀ x, oEq [e x, .none] = some (.dat (.bool false))) : Alk (k + 1) (eO e) (szO sz) := ⟨fun m x y hy => by
  cases y with
  | none =>
    rw [show m + (k + 1) = m + k + 1 from rfl, run_eq _ 30 d30 rfl, e30]
    have e0 : oIsN [.none, .none] = some (.dat (.bool true)) := rfl
    cases x with
    | none =>
      have e1 : oEq [.none, .none] = some (.dat (.bool true)) := rfl
      simp [b30, eO, e0, e1, oIsiA, oIsi, tyOf]
    | some a => simp [b30, eO, e0, hn2, oIsiA, oIsi, tyOf]
  | some b =>
    cases x with
    | none =>
      have := hn m b hy
      simpa [eO] using this
    | some a =>
      have := h.ok m a b hy
      simpa [eO] using this⟩
theorem none_int (m : Nat) (x : Int) : prg.run (m + 1) 30 [.dat .none, .dat (.int x)] = .ok (.dat (.bool false)) [none, none] := by
  rw [run_eq _ 30 d30 rfl, e30]
  have e0 : oIsN [.int x, .none] = some (.dat (.bool false)) := rfl
  simp [b30, e0, oIsiA, oIsi, tyOf]
theorem none_tup (m : Nat) (ds : List D) : prg.run (m + 1) 30 [.dat .none, .dat (.tuple ds)] = .ok (.dat (.bool false)) [none, none] := by
  rw [run_eq _ 30 d30 rfl, e30]
  simp [b30, oIsiA, oIsi, tyOf]
def F_is_integer (a0 : D) : Rt Bool := (Rt.ok (([Ty.int].any fun t => tyOf t ((id : D → D) a0)) && (!([Ty.bool].any fun t => tyOf t ((id : D → D) a0)))))
theorem t_is_integer (m : Nat) (a0 : D) : CallK 1 (prg.run (m + 1) 0 [.dat ((id : D → D) a0)]) (F_is_integer a0) (fun z => Ro.dat (PyData.bool z)) := by
  rw [run_eq _ 0 d0 rfl, e0]
  unfold F_is_integer b0
  exact def_r rfl (seqR_r (sr_ret (E1 := fun _ => [.dat ((id : D → D) a0)]) (ET.ek (k := (fun z : Bool => Rs.dat (PyData.bool z))) (et_and (et_prim (AT.cons (ET.gt (d := (id : D → D) a0) (et_nm 0 rfl) rfl) AT.nil) (q_isi _ _)) (et_prim (AT.cons (ET.gt (d := PyData.bool ([Ty.bool].any fun t => tyOf t ((id : D → D) a0))) (et_prim (AT.cons (ET.gt (d := (id : D → D) a0) (et_nm 0 rfl) rfl) AT.nil) (q_isi _ _)) rfl) AT.nil) (q_not _)))) (fun _ => rfl) (fun _ => rfl)))
def F_is_in (a0 : Int) (a1 : Int) (a2 : Int) : Rt Bool := (Rt.bind (F_is_integer (PyData.int a0)) (fun c1 => if c1 then (Rt.ok ((decide (a1 ≤ a0)) && (decide (a0 ≤ a2)))) else Rt.ok false))
theorem t_is_in (m : Nat) (a0 : Int) (a1 : Int) (a2 : Int) : CallK 3 (prg.run (m + 2) 1 [.dat (PyData.int a0), .dat (PyData.int a1), .dat (PyData.int a2)]) (F_is_in a0 a1 a2) (fun z => Ro.dat (PyData.bool z)) := by
  rw [run_eq _ 1 d1 rfl, e1]
  unfold F_is_in b1
  exact def_r rfl (seqR_r (sr_ret (E1 := fun _ => [.dat (PyData.int a0), .dat (PyData.int a1), .dat (PyData.int a2)]) (ek_and (ek_call (k := fun z : Bool => Ro.dat (PyData.bool z)) rfl rfl (AX.tot (ET.gt (et_nm 0 rfl) rfl) (AX.nil (t_is_integer m (PyData.int a0))))) (ET.ek (k := (fun z : Bool => Rs.dat (PyData.bool z))) (et_chain (ET.gt (d := PyData.int a1) (et_nm 1 rfl) rfl) (ET.gt (d := PyData.int a0) (et_nm 0 rfl) rfl) (ET.gt (d := PyData.int a2) (et_nm 2 rfl) rfl) rfl rfl))) (fun _ => rfl) (fun _ => rfl)))
def F_is_list (a0 : D) (a1 : Int) (a2 : Int) : Rt Bool := (Rt.bind (Rt.ok ([Ty.tuple].any fun t => tyOf t ((id : D → D) a0))) (fun c2 => if c2 then (Rt.bind (lenD a0) (fun x1 => Rt.ok ((decide (a1 ≤ x1)) && (decide (x1 ≤ a2))))) else Rt.ok false))
theorem t_is_list (m : Nat) (a0 : D) (a1 : Int) (a2 : Int) : CallK 3 (prg.run (m + 1) 2 [.dat ((id : D → D) a0), .dat (PyData.int a1), .dat (PyData.int a2)]) (F_is_list a0 a1 a2) (fun z => Ro.dat (PyData.bool z)) := by
  rw [run_eq _ 2 d2 rfl, e2]
  unfold F_is_list b2
  exact def_r rfl (seqR_r (sr_ret (E1 := fun _ => [.dat ((id : D → D) a0), .dat (PyData.int a1), .dat (PyData.int a2)]) (ek_and (ET.ek (k := (fun z : Bool => Rs.dat (PyData.bool z))) (et_prim (AT.cons (ET.gt (d := (id : D → D) a0) (et_nm 0 rfl) rfl) AT.nil) (q_isi _ _))) (ek_chain (t := fun x1 => (decide (a1 ≤ x1))) (u := fun x1 => (decide (x1 ≤ a2))) (ET.gt (d := PyData.int a1) (et_nm 1 rfl) rfl) (EK.gk (e := PyData.int) (ek_prim (AX.tot (ET.gt (d := (id : D → D) a0) (et_nm 0 rfl) rfl) (AX.nil (q_lenV _)))) (fun _ => rfl)) (ET.gt (d := PyData.int a2) (et_nm 2 rfl) rfl) (fun _ => rfl) (fun _ => rfl))) (fun _ => rfl) (fun _ => rfl)))
def F_need_net (a0 : (Int × (List (List Int)))) : Rt Unit := (Rt.bind (Rt.bind (Rt.bind (F_is_list ((eP PyData.int (eT (eT PyData.int))) a0) (2 : Int) (2 : Int)) (fun c1 => Rt.ok (!c1))) (fun c5 => if c5 then Rt.ok true else (Rt.bind (Rt.bind (F_is_in a0.1 (1 : Int) 3) (fun c2 => Rt.ok (!c2))) (fun c4 => if c4 then Rt.ok true else (Rt.bind (F_is_list ((eT (eT PyData.int)) a0.2) (0 : Int) 8) (fun c3 => Rt.ok (!c3))))))) (fun c6 => if c6 then Rt.stuck else (Rt.bind (Rt.bind (Rt.ok (enumF a0.2)) (fun l9 => foldR (fun (s7 : Unit) (y8 : (Int × (List Int))) => (Rt.bind (Rt.bind (Rt.ok (!([Ty.tuple].any fun t => tyOf t ((eT PyData.int) y8.2)))) (fun c14 => if c14 then Rt.ok true else (Rt.bind (Rt.bind (Rt.bind (Rt.ok y8.2) (fun l11 => mapF (fun y10 => (F_is_in y10 (0 : Int) ((a0.1 + y8.1) - (1 : Int)))) l11)) (fun x12 => (Rt.ok (x12.all id)))) (fun c13 => Rt.ok (!c13))))) (fun c15 => if c15 then Rt.stuck else (Rt.bind (Rt.bind (sortSetF y8.2) (fun x16 => (Rt.ok (decide (y8.2 ≠ x16))))) (fun c17 => if c17 then Rt.stuck else (Rt.ok ())))))) l9 ())) (fun s7 : Unit => (Rt.ok ())))))
theorem t_need_net (m : Nat) (a0 : (Int × (List (List Int)))) : CallK 1 (prg.run (m + 3) 3 [.dat ((eP PyData.int (eT (eT PyData.int))) a0)]) (F_need_net a0) (fun z => Ro.dat (eU z)) := by
  rw [run_eq _ 3 d3 rfl, e3]
  unfold F_need_net b3
  exact def_v rfl (gx_n (tk_or (tk_not (tk_tst (ek_call (k := fun z : Bool => Ro.dat (PyData.bool z)) rfl rfl (AX.tot (ET.gt (et_nm 0 rfl) rfl) (AX.tot (ET.gt (et_kst (PyData.int 2)) rfl) (AX.tot (ET.gt (et_kst (PyData.int 2)) rfl) (AX.nil (t_is_list (m + 1) ((eP PyData.int (eT (eT PyData.int))) a0) (2 : Int) (2 : Int))))))))) (tk_or (tk_not (tk_tst (ek_call (k := fun z : Bool => Ro.dat (PyData.bool z)) rfl rfl (AX.tot (ET.gt (et_prim (AT.cons (ET.gt (d := (eP PyData.int (eT (eT PyData.int))) a0) (et_nm 0 rfl) rfl) (AT.cons (ET.gt (d := PyData.int 0) (et_kst (PyData.int 0)) rfl) AT.nil)) (q_ixP0 _ _ _)) rfl) (AX.tot (ET.gt (et_kst (PyData.int 1)) rfl) (AX.tot (ET.gt (et_kst (PyData.int 3)) rfl) (AX.nil (t_is_in m a0.1 (1 : Int) 3)))))))) (tk_not (tk_tst (ek_call (k := fun z : Bool => Ro.dat (PyData.bool z)) rfl rfl (AX.tot (ET.gt (et_prim (AT.cons (ET.gt (d := (eP PyData.int (eT (eT PyData.int))) a0) (et_nm 0 rfl) rfl) (AT.cons (ET.gt (d := PyData.int 1) (et_kst (PyData.int 1)) rfl) AT.nil)) (q_ixP1 _ _ _)) rfl) (AX.tot (ET.gt (et_kst (PyData.int 0)) rfl) (AX.tot (ET.gt (et_kst (PyData.int 8)) rfl) (AX.nil (t_is_list (m + 1) ((eT (eT PyData.int)) a0.2) (0 : Int) 8)))))))))) (seq1_n (E1 := fun s7 : Unit => [.dat ((eP PyData.int (eT (eT PyData.int))) a0), .no, .no, .no]) (for_1 (E := fun s7 : Unit => [.dat ((eP PyData.int (eT (eT PyData.int))) a0), .no, .no, .no]) (G := fun (s7 : Unit) (y8 : (Int × (List Int))) => [.dat ((eP PyData.int (eT (eT PyData.int))) a0), .dat (PyData.int y8.1), .dat ((eT PyData.int) y8.2), .no]) (enc := (eZ PyData.int (eT PyData.int))) () (SK.fk (r1 := [.dat ((eP PyData.int (eT (eT PyData.int))) a0), .no, .no, .no]) (ske_T (a := a0.2) (enc := (eT PyData.int)) (et_prim (AT.cons (ET.gt (d := (eP PyData.int (eT (eT PyData.int))) a0) (et_nm 0 rfl) rfl) (AT.cons (ET.gt (d := PyData.int 1) (et_kst (PyData.int 1)) rfl) AT.nil)) (q_ixP1 _ _ _)) rfl rfl) rfl) rfl (fun _ _ => rfl) (fun s7 y8 => (gx_n (tk_or (TT.tk (tt_not (tt_tst (et_prim (AT.cons (ET.gt (d := (eT PyData.int) y8.2) (et_nm 2 rfl) rfl) AT.nil) (q_isi _ _))))) (tk_not (tk_tst (ek_prim (AX.par (EK.gk (e := (eL PyData.bool)) (ek_lcM (q := [.dat ((eP PyData.int (eT (eT PyData.int))) a0), .dat (PyData.int y8.1), .dat ((eT PyData.int) y8.2), .no]) (ρ := fun y10 => [.dat ((eP PyData.int (eT (eT PyData.int))) a0), .dat (PyData.int y8.1), .dat ((eT PyData.int) y8.2), .dat (PyData.int y10)]) (enc := PyData.int) (eg := PyData.bool) (sk_T (a := y8.2) (enc := PyData.int) (et_nm 2 rfl) rfl rfl) rfl rfl (fun _ => rfl) (fun _ => rfl) (fun y10 => (EK.gk (e := PyData.bool) (ek_call (k := fun z : Bool => Ro.dat (PyData.bool z)) rfl rfl (AX.tot (ET.gt (et_nm 3 rfl) rfl) (AX.tot (ET.gt (et_kst (PyData.int 0)) rfl) (AX.tot (ET.gt (et_prim (AT.cons (ET.gt (d := PyData.int (a0.1 + y8.1)) (et_prim (AT.cons (ET.gt (d := PyData.int a0.1) (et_prim (AT.cons (ET.gt (d := (eP PyData.int (eT (eT PyData.int))) a0) (et_nm 0 rfl) rfl) (AT.cons (ET.gt (d := PyData.int 0) (et_kst (PyData.int 0)) rfl) AT.nil)) (q_ixP0 _ _ _)) rfl) (AT.cons (ET.gt (d := PyData.int y8.1) (et_nm 1 rfl) rfl) AT.nil)) (q_addI _ _)) rfl) (AT.cons (ET.gt (d := PyData.int (1 : Int)) (et_kst (PyData.int 1)) rfl) AT.nil)) (q_sub _ _)) rfl) (AX.nil (t_is_in m y10 (0 : Int) ((a0.1 + y8.1) - (1 : Int)))))))) (fun _ => rfl)))) (fun _ => rfl)) (fun x12 => (AX.nil (OpT.k (k := fun z : Bool => Rs.dat (PyData.bool z)) (q_all _))))))))) (gx_n (tk_tst (ek_prim (AX.tot (ET.gt (d := (eL PyData.int) y8.2) (et_prim (AT.cons (ET.gt (d := (eT PyData.int) y8.2) (et_nm 2 rfl) rfl) AT.nil) (q_listT _ _)) rfl) (AX.par (EK.gk (e := (eL PyData.int)) (ek_prim (AX.tot (ET.gt (d := (eT PyData.int) y8.2) (et_nm 2 rfl) rfl) (AX.nil (q_sortSet _)))) (fun _ => rfl)) (fun x16 => (AX.nil (OpT.k (k := fun z : Bool => Rs.dat (PyData.bool z)) (q_ne (gd_L gd_int) (by decide) _ _)))))))) (next_n rfl))))) (fun s7 => (next_n rfl))))
def F_size_of (a0 : (Int × (List (List Int)))) : Rt Int := (Rt.ok (a0.1 + (a0.2.length : Int)))
theorem t_size_of (m : Nat) (a0 : (Int × (List (List Int)))) : CallK 1 (prg.run (m + 1) 4 [.dat ((eP PyData.int (eT (eT PyData.int))) a0)]) (F_size_of a0) (fun z => Ro.dat (PyData.int z)) := by
  rw [run_eq _ 4 d4 rfl, e4]
  unfold F_size_of b4
  exact def_r rfl (seqR_r (sr_ret (E1 := fun _ => [.dat ((eP PyData.int (eT (eT PyData.int))) a0)]) (ET.ek (k := (fun z : Int => Rs.dat (PyData.int z))) (et_prim (AT.cons (ET.gt (d := PyData.int a0.1) (et_prim (AT.cons (ET.gt (d := (eP PyData.int (eT (eT PyData.int))) a0) (et_nm 0 rfl) rfl) (AT.cons (ET.gt (d := PyData.int 0) (et_kst (PyData.int 0)) rfl) AT.nil)) (q_ixP0 _ _ _)) rfl) (AT.cons (ET.gt (d := PyData.int (a0.2.length : Int)) (et_prim (AT.cons (ET.gt (d := (eT (eT PyData.int)) a0.2) (et_prim (AT.cons (ET.gt (d := (eP PyData.int (eT (eT PyData.int))) a0) (et_nm 0 rfl) rfl) (AT.cons (ET.gt (d := PyData.int 1) (et_kst (PyData.int 1)) rfl) AT.nil)) (q_ixP1 _ _ _)) rfl) AT.nil) (q_lenT _ _)) rfl) AT.nil)) (q_addI _ _))) (fun _ => rfl) (fun _ => rfl)))
def F_friends_in (a0 : (Int × (List (List Int)))) (a1 : Int) : Rt (List Int) := (Rt.bind (Rt.ok (decide (a0.1 ≤ a1))) (fun c1 => if c1 then (ixF a0.2 (a1 - a0.1)) else (Rt.ok ([] : (List Int)))))
theorem t_friends_in (m : Nat) (a0 : (Int × (List (List Int)))) (a1 : Int) : CallK 2 (prg.run (m + 1) 5 [.dat ((eP PyData.int (eT (eT PyData.int))) a0), .dat (PyData.int a1)]) (F_friends_in a0 a1) (fun z => Ro.dat ((eT PyData.int) z)) := by
  rw [run_eq _ 5 d5 rfl, e5]
  unfold F_friends_in b5
  exact def_r rfl (seqR_r (sr_ret (E1 := fun _ => [.dat ((eP PyData.int (eT (eT PyData.int))) a0), .dat (PyData.int a1)]) (ek_cond (TT.tk (tt_tst (et_prim (AT.cons (ET.gt (d := PyData.int a1) (et_nm 1 rfl) rfl) (AT.cons (ET.gt (d := PyData.int a0.1) (et_prim (AT.cons (ET.gt (d := (eP PyData.int (eT (eT PyData.int))) a0) (et_nm 0 rfl) rfl) (AT.cons (ET.gt (d := PyData.int 0) (et_kst (PyData.int 0)) rfl) AT.nil)) (q_ixP0 _ _ _)) rfl) AT.nil)) (q_ge _ _)))) (ek_prim (AX.tot (ET.gt (d := (eT (eT PyData.int)) a0.2) (et_prim (AT.cons (ET.gt (d := (eP PyData.int (eT (eT PyData.int))) a0) (et_nm 0 rfl) rfl) (AT.cons (ET.gt (d := PyData.int 1) (et_kst (PyData.int 1)) rfl) AT.nil)) (q_ixP1 _ _ _)) rfl) (AX.tot (ET.gt (d := PyData.int (a1 - a0.1)) (et_prim (AT.cons (ET.gt (d := PyData.int a1) (et_nm 1 rfl) rfl) (AT.cons (ET.gt (d := PyData.int a0.1) (et_prim (AT.cons (ET.gt (d := (eP PyData.int (eT (eT PyData.int))) a0) (et_nm 0 rfl) rfl) (AT.cons (ET.gt (d := PyData.int 0) (et_kst (PyData.int 0)) rfl) AT.nil)) (q_ixP0 _ _ _)) rfl) AT.nil)) (q_sub _ _)) rfl) (AX.nil (q_ixT _ _ _))))) (ET.ek (k := (fun z : (List Int) => Rs.dat ((eT PyData.int) z))) (et_tup AT.nil (Nat.le_of_ble_eq_true rfl)))) (fun _ => rfl) (fun _ => rfl)))
def F_all_bits (a0 : Int) : Rt (List (List Int)) := (Rt.bind (Rt.ok [([] : (List Int))]) (fun found_1 => (Rt.bind (Rt.bind (rg1 a0) (fun l4 => foldR (fun (s2 : (List (List Int))) (y3 : Int) => (Rt.bind (Rt.bind (Rt.ok s2) (fun l7 => Rt.gd (List.all l7 (fun y5 : (List Int) => decide (y5.length < sizeLine)) && decide ((lc2F l7 [(0 : Int), (1 : Int)] (fun (y5 : (List Int)) (y6 : Int) => y5 ++ [y6])).length ≤ sizeLine)) (lc2F l7 [(0 : Int), (1 : Int)] (fun (y5 : (List Int)) (y6 : Int) => y5 ++ [y6])))) (fun found_8 => (Rt.ok found_8)))) l4 found_1)) (fun s2 : (List (List Int)) => (Rt.ok s2)))))
theorem t_all_bits (m : Nat) (a0 : Int) : CallK 1 (prg.run (m + 1) 6 [.dat (PyData.int a0)]) (F_all_bits a0) (fun z => Ro.fresh ((eL (eT PyData.int)) z)) := by
  rw [run_eq _ 6 d6 rfl, e6]
  unfold F_all_bits b6
  exact def_r rfl (seq1_r (E1 := fun found_1 => [.dat (PyData.int a0), .own ((eL (eT PyData.int)) found_1), .no, .no, .no]) (s1_set (ET.ek (k := (fun z : (List (List Int)) => Rs.fresh ((eL (eT PyData.int)) z))) (et_lst (AT.cons (ET.gt (d := (eT PyData.int) ([] : (List Int))) (et_tup AT.nil (Nat.le_of_ble_eq_true rfl)) rfl) AT.nil) (Nat.le_of_ble_eq_true rfl))) (fun _ => rfl)) (fun found_1 => (seq1_r (E1 := fun s2 : (List (List Int)) => [.dat (PyData.int a0), .own ((eL (eT PyData.int)) s2), .no, .no, .no]) (for_1 (E := fun s2 : (List (List Int)) => [.dat (PyData.int a0), .own ((eL (eT PyData.int)) s2), .no, .no, .no]) (G := fun (s2 : (List (List Int))) (y3 : Int) => [.dat (PyData.int a0), .own ((eL (eT PyData.int)) s2), .dat (PyData.int y3), .no, .no]) (enc := PyData.int) found_1 (SK.fk (r1 := [.dat (PyData.int a0), .own ((eL (eT PyData.int)) found_1), .no, .no, .no]) (sk_R (AX.tot (ET.gt (d := PyData.int a0) (et_nm 0 rfl) rfl) (AX.nil ⟨[a0], rfl, rgis1 _ ⟩))) rfl) rfl (fun _ _ => rfl) (fun s2 y3 => (seq1_n (E1 := fun found_8 => [.dat (PyData.int a0), .own ((eL (eT PyData.int)) found_8), .dat (PyData.int y3), .no, .no]) (s1_set (ek_lc2 (q := [.dat (PyData.int a0), .bor ((eL (eT PyData.int)) s2), .dat (PyData.int y3), .no, .no]) (ρ := fun y5 => [.dat (PyData.int a0), .bor ((eL (eT PyData.int)) s2), .dat (PyData.int y3), .dat ((eT PyData.int) y5), .no]) (ρ1 := fun y5 y6 => [.dat (PyData.int a0), .bor ((eL (eT PyData.int)) s2), .dat (PyData.int y3), .dat ((eT PyData.int) y5), .dat (PyData.int y6)]) (enc := (eT PyData.int)) (enc1 := PyData.int) (eg := (eT PyData.int)) (g := fun (y5 : (List Int)) (y6 : Int) => y5 ++ [y6]) (okx := fun y5 : (List Int) => decide (y5.length < sizeLine)) [(0 : Int), (1 : Int)] (by decide) (sk_T (a := s2) (enc := (eT PyData.int)) (et_nm 1 rfl) rfl rfl) rfl rfl (fun _ => rfl) (fun _ => (et_tup (AT.cons (ET.gt (d := PyData.int (0 : Int)) (et_kst (PyData.int 0)) rfl) (AT.cons (ET.gt (d := PyData.int (1 : Int)) (et_kst (PyData.int 1)) rfl) AT.nil)) (Nat.le_of_ble_eq_true rfl))) (fun _ => rfl) (fun _ _ => rfl) (fun y5 y6 h => gt_snoc (et_nm 3 rfl) (.inl rfl) (ET.gt (d := PyData.int y6) (et_nm 4 rfl) rfl) h) (fun _ _ => rfl) (fun _ => rfl)) (fun _ => rfl)) (fun found_8 => (next_n rfl))))) (fun s2 => (seqR_r (sr_own (a := s2) (e := (eL (eT PyData.int))) (i := 1) rfl rfl))))))
def F_standing_in (a0 : (Int × (List (List Int)))) (a1 : (List Int)) : Rt (List Int) := (Rt.bind (Rt.bind (Rt.ok a0.2) (fun l3 => foldR (fun (s1 : (List Int)) (y2 : (List Int)) => (Rt.bind (Rt.bind (Rt.bind (Rt.bind (Rt.bind (Rt.ok y2) (fun l6 => mapF (fun y4 => (Rt.bind (ixF s1 y4) (fun x5 => (Rt.ok (decide (x5 = (1 : Int))))))) l6)) (fun x7 => (Rt.ok (x7.any id)))) (fun c8 => if c8 then (Rt.ok (0 : Int)) else (Rt.ok (1 : Int)))) (fun x10 => addF s1 x10)) (fun found_9 => (Rt.ok found_9)))) l3 a1)) (fun s1 : (List Int) => (Rt.ok s1)))
theorem t_standing_in (m : Nat) (a0 : (Int × (List (List Int)))) (a1 : (List Int)) : CallK 2 (prg.run (m + 1) 7 [.dat ((eP PyData.int (eT (eT PyData.int))) a0), .dat ((eT PyData.int) a1)]) (F_standing_in a0 a1) (fun z => Ro.dat ((eT PyData.int) z)) := by
  rw [run_eq _ 7 d7 rfl, e7]
  unfold F_standing_in b7
  exact def_r rfl (seqT_r (r1 := [.dat ((eP PyData.int (eT (eT PyData.int))) a0), .dat ((eT PyData.int) a1), .own ((eL PyData.int) a1), .no, .no]) (st_set (et_prim (AT.cons (ET.gt (d := (eT PyData.int) a1) (et_nm 1 rfl) rfl) AT.nil) (q_listT _ _)) rfl) (seq1_r (E1 := fun s1 : (List Int) => [.dat ((eP PyData.int (eT (eT PyData.int))) a0), .dat ((eT PyData.int) a1), .own ((eL PyData.int) s1), .no, .no]) (for_1 (E := fun s1 : (List Int) => [.dat ((eP PyData.int (eT (eT PyData.int))) a0), .dat ((eT PyData.int) a1), .own ((eL PyData.int) s1), .no, .no]) (G := fun (s1 : (List Int)) (y2 : (List Int)) => [.dat ((eP PyData.int (eT (eT PyData.int))) a0), .dat ((eT PyData.int) a1), .own ((eL PyData.int) s1), .dat ((eT PyData.int) y2), .no]) (enc := (eT PyData.int)) a1 (SK.fk (r1 := [.dat ((eP PyData.int (eT (eT PyData.int))) a0), .dat ((eT PyData.int) a1), .own ((eL PyData.int) a1), .no, .no]) (sk_T (a := a0.2) (enc := (eT PyData.int)) (et_prim (AT.cons (ET.gt (d := (eP PyData.int (eT (eT PyData.int))) a0) (et_nm 0 rfl) rfl) (AT.cons (ET.gt (d := PyData.int 1) (et_kst (PyData.int 1)) rfl) AT.nil)) (q_ixP1 _ _ _)) rfl rfl) rfl) rfl (fun _ _ => rfl) (fun s1 y2 => (seq1_n (E1 := fun found_9 => [.dat ((eP PyData.int (eT (eT PyData.int))) a0), .dat ((eT PyData.int) a1), .own ((eL PyData.int) found_9), .dat ((eT PyData.int) y2), .no]) (s1_app (EK.gk (e := PyData.int) (ek_cond (tk_tst (ek_prim (AX.par (EK.gk (e := (eL PyData.bool)) (ek_lcM (q := [.dat ((eP PyData.int (eT (eT PyData.int))) a0), .dat ((eT PyData.int) a1), .own ((eL PyData.int) s1), .dat ((eT PyData.int) y2), .no]) (ρ := fun y4 => [.dat ((eP PyData.int (eT (eT PyData.int))) a0), .dat ((eT PyData.int) a1), .own ((eL PyData.int) s1), .dat ((eT PyData.int) y2), .dat (PyData.int y4)]) (enc := PyData.int) (eg := PyData.bool) (sk_T (a := y2) (enc := PyData.int) (et_nm 3 rfl) rfl rfl) rfl rfl (fun _ => rfl) (fun _ => rfl) (fun y4 => (EK.gk (e := PyData.bool) (ek_prim (AX.par (EK.gk (e := PyData.int) (ek_prim (AX.tot (ET.gt (d := (eL PyData.int) s1) (et_nm 2 rfl) rfl) (AX.tot (ET.gt (d := PyData.int y4) (et_nm 4 rfl) rfl) (AX.nil (q_ixL _ _ _))))) (fun _ => rfl)) (fun x5 => (AX.tot (ET.gt (d := PyData.int (1 : Int)) (et_kst (PyData.int 1)) rfl) (AX.nil (OpT.k (k := fun z : Bool => Rs.dat (PyData.bool z)) (q_eq gd_int (by decide) _ _))))))) (fun _ => rfl)))) (fun _ => rfl)) (fun x7 => (AX.nil (OpT.k (k := fun z : Bool => Rs.dat (PyData.bool z)) (q_any _))))))) (ET.ek (k := (fun z : Int => Rs.dat (PyData.int z))) (et_kst (PyData.int 0))) (ET.ek (k := (fun z : Int => Rs.dat (PyData.int z))) (et_kst (PyData.int 1)))) (fun _ => rfl)) rfl (fun _ => rfl)) (fun found_9 => (next_n rfl))))) (fun s1 => (seqR_r (sr_ret (E1 := fun _ => [.dat ((eP PyData.int (eT (eT PyData.int))) a0), .dat ((eT PyData.int) a1), .own ((eL PyData.int) s1), .no, .no]) (ET.ek (k := (fun z : (List Int) => Rs.dat ((eT PyData.int) z))) (et_prim (AT.cons (ET.gt (d := (eL PyData.int) s1) (et_nm 2 rfl) rfl) AT.nil) (q_tupL _ _))) (fun _ => rfl) (fun _ => rfl))))))
def F_begin (a0 : (Int × (List (List Int)))) (a1 : (List Int)) : Rt (List Int) := (Rt.bind (repF [(1 : Int)] (a0.2.length : Int)) (fun x1 => (catF a1 x1)))
theorem t_begin (m : Nat) (a0 : (Int × (List (List Int)))) (a1 : (List Int)) : CallK 2 (prg.run (m + 1) 8 [.dat ((eP PyData.int (eT (eT PyData.int))) a0), .dat ((eT PyData.int) a1)]) (F_begin a0 a1) (fun z => Ro.dat ((eT PyData.int) z)) := by
  rw [run_eq _ 8 d8 rfl, e8]
  unfold F_begin b8
  exact def_r rfl (seqR_r (sr_ret (E1 := fun _ => [.dat ((eP PyData.int (eT (eT PyData.int))) a0), .dat ((eT PyData.int) a1)]) (ek_prim (AX.tot (ET.gt (d := (eT PyData.int) a1) (et_prim (AT.cons (ET.gt (d := (eT PyData.int) a1) (et_nm 1 rfl) rfl) AT.nil) (q_tupT _ _)) rfl) (AX.par (EK.gk (e := (eT PyData.int)) (ek_prim (AX.tot (ET.gt (d := (eT PyData.int) [(1 : Int)]) (et_tup (AT.cons (ET.gt (d := PyData.int (1 : Int)) (et_kst (PyData.int 1)) rfl) AT.nil) (Nat.le_of_ble_eq_true rfl)) rfl) (AX.tot (ET.gt (d := PyData.int (a0.2.length : Int)) (et_prim (AT.cons (ET.gt (d := (eT (eT PyData.int)) a0.2) (et_prim (AT.cons (ET.gt (d := (eP PyData.int (eT (eT PyData.int))) a0) (et_nm 0 rfl) rfl) (AT.cons (ET.gt (d := PyData.int 1) (et_kst (PyData.int 1)) rfl) AT.nil)) (q_ixP1 _ _ _)) rfl) AT.nil) (q_lenT _ _)) rfl) (AX.nil (q_mulT _ _ _))))) (fun _ => rfl)) (fun x1 => (AX.nil (q_addT _ _ _)))))) (fun _ => rfl) (fun _ => rfl)))
def F_call_in (a0 : (Int × (List (List Int)))) (a1 : (List Int)) (a2 : Int) : Rt (List Int) := (Rt.bind (Rt.bind (ixF a1 a2) (fun x1 => (Rt.ok (decide (x1 = (0 : Int)))))) (fun c2 => if c2 then (Rt.ok a1) else (Rt.bind (Rt.bind (rg1 (a1.length : Int)) (fun l6 => mapF (fun y3 => (Rt.bind (Rt.bind (F_friends_in a0 y3) (fun x4 => (Rt.ok (decide (a2 ∈ x4))))) (fun c5 => if c5 then (Rt.ok (0 : Int)) else (ixF a1 y3)))) l6)) (fun x7 => (Rt.ok x7)))))
theorem t_call_in (m : Nat) (a0 : (Int × (List (List Int)))) (a1 : (List Int)) (a2 : Int) : CallK 3 (prg.run (m + 2) 9 [.dat ((eP PyData.int (eT (eT PyData.int))) a0), .dat ((eT PyData.int) a1), .dat (PyData.int a2)]) (F_call_in a0 a1 a2) (fun z => Ro.dat ((eT PyData.int) z)) := by
  rw [run_eq _ 9 d9 rfl, e9]
  unfold F_call_in b9
  exact def_r rfl (gd_r (tk_tst (ek_prim (AX.par (EK.gk (e := PyData.int) (ek_prim (AX.tot (ET.gt (d := (eT PyData.int) a1) (et_nm 1 rfl) rfl) (AX.tot (ET.gt (d := PyData.int a2) (et_nm 2 rfl) rfl) (AX.nil (q_ixT _ _ _))))) (fun _ => rfl)) (fun x1 => (AX.tot (ET.gt (d := PyData.int (0 : Int)) (et_kst (PyData.int 0)) rfl) (AX.nil (OpT.k (k := fun z : Bool => Rs.dat (PyData.bool z)) (q_eq gd_int (by decide) _ _)))))))) (seqR_r (sr_ret (E1 := fun _ => [.dat ((eP PyData.int (eT (eT PyData.int))) a0), .dat ((eT PyData.int) a1), .dat (PyData.int a2), .no]) (ET.ek (k := (fun z : (List Int) => Rs.dat ((eT PyData.int) z))) (et_nm 1 rfl)) (fun _ => rfl) (fun _ => rfl))) (seqR_r (sr_ret (E1 := fun _ => [.dat ((eP PyData.int (eT (eT PyData.int))) a0), .dat ((eT PyData.int) a1), .dat (PyData.int a2), .no]) (ek_prim (AX.par (EK.gk (e := (eL PyData.int)) (ek_lcM (q := [.dat ((eP PyData.int (eT (eT PyData.int))) a0), .dat ((eT PyData.int) a1), .dat (PyData.int a2), .no]) (ρ := fun y3 => [.dat ((eP PyData.int (eT (eT PyData.int))) a0), .dat ((eT PyData.int) a1), .dat (PyData.int a2), .dat (PyData.int y3)]) (enc := PyData.int) (eg := PyData.int) (sk_R (AX.tot (ET.gt (d := PyData.int (a1.length : Int)) (et_prim (AT.cons (ET.gt (d := (eT PyData.int) a1) (et_nm 1 rfl) rfl) AT.nil) (q_lenT _ _)) rfl) (AX.nil ⟨[(a1.length : Int)], rfl, rgis1 _ ⟩))) rfl rfl (fun _ => rfl) (fun _ => rfl) (fun y3 => (EK.gk (e := PyData.int) (ek_cond (tk_tst (ek_prim (AX.tot (ET.gt (d := PyData.int a2) (et_nm 2 rfl) rfl) (AX.par (EK.gk (e := (eT PyData.int)) (ek_call (k := fun z : (List Int) => Ro.dat ((eT PyData.int) z)) rfl rfl (AX.tot (ET.gt (et_nm 0 rfl) rfl) (AX.tot (ET.gt (et_nm 3 rfl) rfl) (AX.nil (t_friends_in m a0 y3))))) (fun _ => rfl)) (fun x4 => (AX.nil (OpT.k (k := fun z : Bool => Rs.dat (PyData.bool z)) (q_inT gd_int (by decide) _ _)))))))) (ET.ek (k := (fun z : Int => Rs.dat (PyData.int z))) (et_kst (PyData.int 0))) (ek_prim (AX.tot (ET.gt (d := (eT PyData.int) a1) (et_nm 1 rfl) rfl) (AX.tot (ET.gt (d := PyData.int y3) (et_nm 3 rfl) rfl) (AX.nil (q_ixT _ _ _)))))) (fun _ => rfl)))) (fun _ => rfl)) (fun x7 => (AX.nil (OpT.k (k := fun z : (List Int) => Rs.dat ((eT PyData.int) z)) (q_tupL _ _)))))) (fun _ => rfl) (fun _ => rfl))))
def F_story_in (a0 : (Int × (List (List Int)))) (a1 : (List Int)) (a2 : (List Int)) : Rt (List (List Int)) := (Rt.bind (Rt.bind (F_begin a0 a1) (fun x1 => (Rt.ok [x1]))) (fun found_2 => (Rt.bind (Rt.bind (Rt.ok a2) (fun l5 => foldR (fun (s3 : (List (List Int))) (y4 : Int) => (Rt.bind (Rt.bind (Rt.bind (ixF s3 (-(1 : Int))) (fun x6 => (F_call_in a0 x6 y4))) (fun x8 => addF s3 x8)) (fun found_7 => (Rt.ok found_7)))) l5 found_2)) (fun s3 : (List (List Int)) => (Rt.ok s3)))))
theorem t_story_in (m : Nat) (a0 : (Int × (List (List Int)))) (a1 : (List Int)) (a2 : (List Int)) : CallK 3 (prg.run (m + 3) 10 [.dat ((eP PyData.int (eT (eT PyData.int))) a0), .dat ((eT PyData.int) a1), .dat ((eT PyData.int) a2)]) (F_story_in a0 a1 a2) (fun z => Ro.fresh ((eL (eT PyData.int)) z)) := by
  rw [run_eq _ 10 d10 rfl, e10]
  unfold F_story_in b10
  exact def_r rfl (seq1_r (E1 := fun found_2 => [.dat ((eP PyData.int (eT (eT PyData.int))) a0), .dat ((eT PyData.int) a1), .dat ((eT PyData.int) a2), .own ((eL (eT PyData.int)) found_2), .no]) (s1_set (ek_lst (k := (eL (eT PyData.int))) (AX.par (EK.gk (e := (eT PyData.int)) (ek_call (k := fun z : (List Int) => Ro.dat ((eT PyData.int) z)) rfl rfl (AX.tot (ET.gt (et_nm 0 rfl) rfl) (AX.tot (ET.gt (et_nm 1 rfl) rfl) (AX.nil (t_begin (m + 1) a0 a1))))) (fun _ => rfl)) (fun x1 => (AX.nil ⟨_, rfl, rfl⟩))) (Nat.le_of_ble_eq_true rfl)) (fun _ => rfl)) (fun found_2 => (seq1_r (E1 := fun s3 : (List (List Int)) => [.dat ((eP PyData.int (eT (eT PyData.int))) a0), .dat ((eT PyData.int) a1), .dat ((eT PyData.int) a2), .own ((eL (eT PyData.int)) s3), .no]) (for_1 (E := fun s3 : (List (List Int)) => [.dat ((eP PyData.int (eT (eT PyData.int))) a0), .dat ((eT PyData.int) a1), .dat ((eT PyData.int) a2), .own ((eL (eT PyData.int)) s3), .no]) (G := fun (s3 : (List (List Int))) (y4 : Int) => [.dat ((eP PyData.int (eT (eT PyData.int))) a0), .dat ((eT PyData.int) a1), .dat ((eT PyData.int) a2), .own ((eL (eT PyData.int)) s3), .dat (PyData.int y4)]) (enc := PyData.int) found_2 (SK.fk (r1 := [.dat ((eP PyData.int (eT (eT PyData.int))) a0), .dat ((eT PyData.int) a1), .dat ((eT PyData.int) a2), .own ((eL (eT PyData.int)) found_2), .no]) (sk_T (a := a2) (enc := PyData.int) (et_nm 2 rfl) rfl rfl) rfl) rfl (fun _ _ => rfl) (fun s3 y4 => (seq1_n (E1 := fun found_7 => [.dat ((eP PyData.int (eT (eT PyData.int))) a0), .dat ((eT PyData.int) a1), .dat ((eT PyData.int) a2), .own ((eL (eT PyData.int)) found_7), .dat (PyData.int y4)]) (s1_app (EK.gk (e := (eT PyData.int)) (ek_call (k := fun z : (List Int) => Ro.dat ((eT PyData.int) z)) rfl rfl (AX.tot (ET.gt (et_nm 0 rfl) rfl) (AX.par (EK.gk (ek_prim (AX.tot (ET.gt (d := (eL (eT PyData.int)) s3) (et_nm 3 rfl) rfl) (AX.tot (ET.gt (d := PyData.int (-(1 : Int))) (et_prim (AT.cons (ET.gt (d := PyData.int (1 : Int)) (et_kst (PyData.int 1)) rfl) AT.nil) (q_neg _)) rfl) (AX.nil (q_ixL _ _ _))))) (fun _ => rfl)) (fun x6 => (AX.tot (ET.gt (et_nm 4 rfl) rfl) (AX.nil (t_call_in m a0 x6 y4))))))) (fun _ => rfl)) rfl (fun _ => rfl)) (fun found_7 => (next_n rfl))))) (fun s3 => (seqR_r (sr_own (a := s3) (e := (eL (eT PyData.int))) (i := 3) rfl rfl))))))
def F_breaking_in (a0 : (Int × (List (List Int)))) (a1 : (List Int)) : Rt (Option ((List Int) × Int)) := (Rt.next (Rt.bind (F_all_bits a0.1) (fun l3 => foldB (fun (s1 : Unit) (y2 : (List Int)) => (Rt.bind (Rt.bind (Rt.bind (F_story_in a0 y2 a1) (fun x4 => (ixF x4 (-(1 : Int))))) (fun x8 => (Rt.bind (F_standing_in a0 y2) (fun x9 => (Rt.ok (x8, x9)))))) (fun p7 : (List Int) × (List Int) => (Rt.bind (Rt.bind (Rt.bind (F_size_of a0) (fun x10 => (rg1 x10))) (fun l12 => lcF (fun y11 => (Rt.bind (ixF p7.1 y11) (fun x13 => (Rt.bind (ixF p7.2 y11) (fun x14 => (Rt.ok (decide (x13 ≠ x14)))))))) (fun y11 => (Rt.ok y11)) l12)) (fun wrong_15 => (Rt.bind (Rt.ok (decide (wrong_15 ≠ ([] : (List Int))))) (fun c16 => if c16 then (Rt.bind (Rt.bind (Rt.bind (ixF wrong_15 (0 : Int)) (fun x17 => (Rt.ok (y2, x17)))) (fun x18 => Rt.ok (some x18))) (fun v19 => Rt.ok (Lp.out v19))) else (Rt.ok (Lp.go ()))))))))) l3 ())) (fun s1 : Unit => (Rt.ok (none : (Option ((List Int) × Int))))) Rt.ok)
theorem t_breaking_in (m : Nat) (a0 : (Int × (List (List Int)))) (a1 : (List Int)) : CallK 2 (prg.run (m + 4) 11 [.dat ((eP PyData.int (eT (eT PyData.int))) a0), .dat ((eT PyData.int) a1)]) (F_breaking_in a0 a1) (fun z => Ro.dat ((eO (eP (eT PyData.int) PyData.int)) z)) := by
  rw [run_eq _ 11 d11 rfl, e11]
  unfold F_breaking_in b11
  exact def_r rfl (seqB_r (E1 := fun s1 : Unit => [.dat ((eP PyData.int (eT (eT PyData.int))) a0), .dat ((eT PyData.int) a1), .no, .no, .no, .no, .no]) (for_b (E := fun s1 : Unit => [.dat ((eP PyData.int (eT (eT PyData.int))) a0), .dat ((eT PyData.int) a1), .no, .no, .no, .no, .no]) (G := fun (s1 : Unit) (y2 : (List Int)) => [.dat ((eP PyData.int (eT (eT PyData.int))) a0), .dat ((eT PyData.int) a1), .dat ((eT PyData.int) y2), .no, .no, .no, .no]) (enc := (eT PyData.int)) () (SK.fk (r1 := [.dat ((eP PyData.int (eT (eT PyData.int))) a0), .dat ((eT PyData.int) a1), .no, .no, .no, .no, .no]) (sk_C (d := (eL (eT PyData.int))) (ek_call (k := fun z : (List (List Int)) => Ro.fresh ((eL (eT PyData.int)) z)) rfl rfl (AX.tot (ET.gt (et_prim (AT.cons (ET.gt (d := (eP PyData.int (eT (eT PyData.int))) a0) (et_nm 0 rfl) rfl) (AT.cons (ET.gt (d := PyData.int 0) (et_kst (PyData.int 0)) rfl) AT.nil)) (q_ixP0 _ _ _)) rfl) (AX.nil (t_all_bits (m + 2) a0.1)))) (fun _ => rfl) (fun _ => rfl)) rfl) rfl (fun _ _ => rfl) (fun s1 y2 => (seq1_b (E1 := fun p7 : (List Int) × (List Int) => [.dat ((eP PyData.int (eT (eT PyData.int))) a0), .dat ((eT PyData.int) a1), .dat ((eT PyData.int) y2), .no, .dat ((eT PyData.int) p7.1), .dat ((eT PyData.int) p7.2), .no]) (s1_sets (AX.par (EK.gk (ek_prim (AX.par (EK.gk (e := (eL (eT PyData.int))) (ek_call (k := fun z : (List (List Int)) => Ro.fresh ((eL (eT PyData.int)) z)) rfl rfl (AX.tot (ET.gt (et_nm 0 rfl) rfl) (AX.tot (ET.gt (et_nm 2 rfl) rfl) (AX.tot (ET.gt (et_nm 1 rfl) rfl) (AX.nil (t_story_in m a0 y2 a1)))))) (fun _ => rfl)) (fun x4 => (AX.tot (ET.gt (d := PyData.int (-(1 : Int))) (et_prim (AT.cons (ET.gt (d := PyData.int (1 : Int)) (et_kst (PyData.int 1)) rfl) AT.nil) (q_neg _)) rfl) (AX.nil (q_ixL _ _ _)))))) (fun _ => rfl)) (fun x8 => (AX.par (EK.gk (ek_call (k := fun z : (List Int) => Ro.dat ((eT PyData.int) z)) rfl rfl (AX.tot (ET.gt (et_nm 0 rfl) rfl) (AX.tot (ET.gt (et_nm 2 rfl) rfl) (AX.nil (t_standing_in (m + 2) a0 y2))))) (fun _ => rfl)) (fun x9 => (AX.nil ⟨(x8, x9), rfl, rfl⟩)))))) (fun p7 => (seq1_b (E1 := fun wrong_15 => [.dat ((eP PyData.int (eT (eT PyData.int))) a0), .dat ((eT PyData.int) a1), .dat ((eT PyData.int) y2), .own ((eL PyData.int) wrong_15), .dat ((eT PyData.int) p7.1), .dat ((eT PyData.int) p7.2), .no]) (s1_set (ek_lc (q := [.dat ((eP PyData.int (eT (eT PyData.int))) a0), .dat ((eT PyData.int) a1), .dat ((eT PyData.int) y2), .no, .dat ((eT PyData.int) p7.1), .dat ((eT PyData.int) p7.2), .no]) (ρ := fun y11 => [.dat ((eP PyData.int (eT (eT PyData.int))) a0), .dat ((eT PyData.int) a1), .dat ((eT PyData.int) y2), .no, .dat ((eT PyData.int) p7.1), .dat ((eT PyData.int) p7.2), .dat (PyData.int y11)]) (enc := PyData.int) (eg := PyData.int) (sk_R (AX.par (EK.gk (e := PyData.int) (ek_call (k := fun z : Int => Ro.dat (PyData.int z)) rfl rfl (AX.tot (ET.gt (et_nm 0 rfl) rfl) (AX.nil (t_size_of (m + 2) a0)))) (fun _ => rfl)) (fun x10 => (AX.nil ⟨[x10], rfl, rgis1 _ ⟩)))) rfl rfl (fun _ => rfl) (fun _ => rfl) (fun y11 => (tk_tst (ek_prim (AX.par (EK.gk (e := PyData.int) (ek_prim (AX.tot (ET.gt (d := (eT PyData.int) p7.1) (et_nm 4 rfl) rfl) (AX.tot (ET.gt (d := PyData.int y11) (et_nm 6 rfl) rfl) (AX.nil (q_ixT _ _ _))))) (fun _ => rfl)) (fun x13 => (AX.par (EK.gk (e := PyData.int) (ek_prim (AX.tot (ET.gt (d := (eT PyData.int) p7.2) (et_nm 5 rfl) rfl) (AX.tot (ET.gt (d := PyData.int y11) (et_nm 6 rfl) rfl) (AX.nil (q_ixT _ _ _))))) (fun _ => rfl)) (fun x14 => (AX.nil (OpT.k (k := fun z : Bool => Rs.dat (PyData.bool z)) (q_ne gd_int (by decide) _ _)))))))))) (fun y11 => (EK.gk (e := PyData.int) (ET.ek (k := (fun z : Int => Rs.dat (PyData.int z))) (et_nm 6 rfl)) (fun _ => rfl)))) (fun _ => rfl)) (fun wrong_15 => (gd_b (TT.tk (tt_tst (et_prim (AT.cons (ET.gt (d := (eL PyData.int) wrong_15) (et_nm 3 rfl) rfl) (AT.cons (ET.gt (d := (eL PyData.int) ([] : (List Int))) (et_lst AT.nil (Nat.le_of_ble_eq_true rfl)) rfl) AT.nil)) (q_ne (gd_L gd_int) (by decide) _ _)))) (seqR_r (sr_ret (E1 := fun _ => [.dat ((eP PyData.int (eT (eT PyData.int))) a0), .dat ((eT PyData.int) a1), .dat ((eT PyData.int) y2), .own ((eL PyData.int) wrong_15), .dat ((eT PyData.int) p7.1), .dat ((eT PyData.int) p7.2), .no]) (ek_some (ek_tup (k := (eP (eT PyData.int) PyData.int)) (AX.tot (ET.gt (d := (eT PyData.int) y2) (et_nm 2 rfl) rfl) (AX.par (EK.gk (e := PyData.int) (ek_prim (AX.tot (ET.gt (d := (eL PyData.int) wrong_15) (et_nm 3 rfl) rfl) (AX.tot (ET.gt (d := PyData.int (0 : Int)) (et_kst (PyData.int 0)) rfl) (AX.nil (q_ixL _ _ _))))) (fun _ => rfl)) (fun x17 => (AX.nil ⟨_, rfl, rfl⟩)))) (Nat.le_of_ble_eq_true rfl))) (fun _ => rfl) (fun _ => rfl))) (next_b rfl)))))))) (fun s1 => (seqR_r (sr_ret (E1 := fun _ => [.dat ((eP PyData.int (eT (eT PyData.int))) a0), .dat ((eT PyData.int) a1), .no, .no, .no, .no, .no]) (ET.ek (k := (fun z : (Option ((List Int) × Int)) => Rs.dat ((eO (eP (eT PyData.int) PyData.int)) z))) (et_kst PyData.none)) (fun _ => rfl) (fun _ => rfl)))))
def F_begins (a0 : (Int × (List (List Int)))) : Rt (List (List Int)) := (Rt.bind (Rt.bind (F_all_bits a0.1) (fun l2 => mapF (fun y1 => (F_begin a0 y1)) l2)) (fun x3 => (Rt.ok x3)))
theorem t_begins (m : Nat) (a0 : (Int × (List (List Int)))) : CallK 1 (prg.run (m + 2) 12 [.dat ((eP PyData.int (eT (eT PyData.int))) a0)]) (F_begins a0) (fun z => Ro.dat ((eT (eT PyData.int)) z)) := by
  rw [run_eq _ 12 d12 rfl, e12]
  unfold F_begins b12
  exact def_r rfl (seqR_r (sr_ret (E1 := fun _ => [.dat ((eP PyData.int (eT (eT PyData.int))) a0), .no]) (ek_prim (AX.par (EK.gk (e := (eL (eT PyData.int))) (ek_lcM (q := [.dat ((eP PyData.int (eT (eT PyData.int))) a0), .no]) (ρ := fun y1 => [.dat ((eP PyData.int (eT (eT PyData.int))) a0), .dat ((eT PyData.int) y1)]) (enc := (eT PyData.int)) (eg := (eT PyData.int)) (sk_C (d := (eL (eT PyData.int))) (ek_call (k := fun z : (List (List Int)) => Ro.fresh ((eL (eT PyData.int)) z)) rfl rfl (AX.tot (ET.gt (et_prim (AT.cons (ET.gt (d := (eP PyData.int (eT (eT PyData.int))) a0) (et_nm 0 rfl) rfl) (AT.cons (ET.gt (d := PyData.int 0) (et_kst (PyData.int 0)) rfl) AT.nil)) (q_ixP0 _ _ _)) rfl) (AX.nil (t_all_bits m a0.1)))) (fun _ => rfl) (fun _ => rfl)) rfl rfl (fun _ => rfl) (fun _ => rfl) (fun y1 => (EK.gk (e := (eT PyData.int)) (ek_call (k := fun z : (List Int) => Ro.dat ((eT PyData.int) z)) rfl rfl (AX.tot (ET.gt (et_nm 0 rfl) rfl) (AX.tot (ET.gt (et_nm 1 rfl) rfl) (AX.nil (t_begin m a0 y1))))) (fun _ => rfl)))) (fun _ => rfl)) (fun x3 => (AX.nil (OpT.k (k := fun z : (List (List Int)) => Rs.dat ((eT (eT PyData.int)) z)) (q_tupL _ _)))))) (fun _ => rfl) (fun _ => rfl)))
def F_goal_of (a0 : (Int × (List (List Int)))) : Rt (List (List Int)) := (Rt.bind (Rt.bind (F_all_bits a0.1) (fun l2 => mapF (fun y1 => (F_standing_in a0 y1)) l2)) (fun x3 => (Rt.ok x3)))
theorem t_goal_of (m : Nat) (a0 : (Int × (List (List Int)))) : CallK 1 (prg.run (m + 2) 13 [.dat ((eP PyData.int (eT (eT PyData.int))) a0)]) (F_goal_of a0) (fun z => Ro.dat ((eT (eT PyData.int)) z)) := by
  rw [run_eq _ 13 d13 rfl, e13]
  unfold F_goal_of b13
  exact def_r rfl (seqR_r (sr_ret (E1 := fun _ => [.dat ((eP PyData.int (eT (eT PyData.int))) a0), .no]) (ek_prim (AX.par (EK.gk (e := (eL (eT PyData.int))) (ek_lcM (q := [.dat ((eP PyData.int (eT (eT PyData.int))) a0), .no]) (ρ := fun y1 => [.dat ((eP PyData.int (eT (eT PyData.int))) a0), .dat ((eT PyData.int) y1)]) (enc := (eT PyData.int)) (eg := (eT PyData.int)) (sk_C (d := (eL (eT PyData.int))) (ek_call (k := fun z : (List (List Int)) => Ro.fresh ((eL (eT PyData.int)) z)) rfl rfl (AX.tot (ET.gt (et_prim (AT.cons (ET.gt (d := (eP PyData.int (eT (eT PyData.int))) a0) (et_nm 0 rfl) rfl) (AT.cons (ET.gt (d := PyData.int 0) (et_kst (PyData.int 0)) rfl) AT.nil)) (q_ixP0 _ _ _)) rfl) (AX.nil (t_all_bits m a0.1)))) (fun _ => rfl) (fun _ => rfl)) rfl rfl (fun _ => rfl) (fun _ => rfl) (fun y1 => (EK.gk (e := (eT PyData.int)) (ek_call (k := fun z : (List Int) => Ro.dat ((eT PyData.int) z)) rfl rfl (AX.tot (ET.gt (et_nm 0 rfl) rfl) (AX.tot (ET.gt (et_nm 1 rfl) rfl) (AX.nil (t_standing_in m a0 y1))))) (fun _ => rfl)))) (fun _ => rfl)) (fun x3 => (AX.nil (OpT.k (k := fun z : (List (List Int)) => Rs.dat ((eT (eT PyData.int)) z)) (q_tupL _ _)))))) (fun _ => rfl) (fun _ => rfl)))
def F_all_call (a0 : (Int × (List (List Int)))) (a1 : (List (List Int))) (a2 : Int) : Rt (List (List Int)) := (Rt.bind (Rt.bind (Rt.ok a1) (fun l2 => mapF (fun y1 => (F_call_in a0 y1 a2)) l2)) (fun x3 => (Rt.ok x3)))
theorem t_all_call (m : Nat) (a0 : (Int × (List (List Int)))) (a1 : (List (List Int))) (a2 : Int) : CallK 3 (prg.run (m + 3) 14 [.dat ((eP PyData.int (eT (eT PyData.int))) a0), .dat ((eT (eT PyData.int)) a1), .dat (PyData.int a2)]) (F_all_call a0 a1 a2) (fun z => Ro.dat ((eT (eT PyData.int)) z)) := by
  rw [run_eq _ 14 d14 rfl, e14]
  unfold F_all_call b14
  exact def_r rfl (seqR_r (sr_ret (E1 := fun _ => [.dat ((eP PyData.int (eT (eT PyData.int))) a0), .dat ((eT (eT PyData.int)) a1), .dat (PyData.int a2), .no]) (ek_prim (AX.par (EK.gk (e := (eL (eT PyData.int))) (ek_lcM (q := [.dat ((eP PyData.int (eT (eT PyData.int))) a0), .dat ((eT (eT PyData.int)) a1), .dat (PyData.int a2), .no]) (ρ := fun y1 => [.dat ((eP PyData.int (eT (eT PyData.int))) a0), .dat ((eT (eT PyData.int)) a1), .dat (PyData.int a2), .dat ((eT PyData.int) y1)]) (enc := (eT PyData.int)) (eg := (eT PyData.int)) (sk_T (a := a1) (enc := (eT PyData.int)) (et_nm 1 rfl) rfl rfl) rfl rfl (fun _ => rfl) (fun _ => rfl) (fun y1 => (EK.gk (e := (eT PyData.int)) (ek_call (k := fun z : (List Int) => Ro.dat ((eT PyData.int) z)) rfl rfl (AX.tot (ET.gt (et_nm 0 rfl) rfl) (AX.tot (ET.gt (et_nm 3 rfl) rfl) (AX.tot (ET.gt (et_nm 2 rfl) rfl) (AX.nil (t_call_in m a0 y1 a2)))))) (fun _ => rfl)))) (fun _ => rfl)) (fun x3 => (AX.nil (OpT.k (k := fun z : (List (List Int)) => Rs.dat ((eT (eT PyData.int)) z)) (q_tupL _ _)))))) (fun _ => rfl) (fun _ => rfl)))
def F_is_lost (a0 : (List (List Int))) (a1 : (List (List Int))) : Rt Bool := (Rt.bind (Rt.bind (zipF a0 a1) (fun l5 => mapF (fun y1 => (Rt.bind (Rt.bind (zipF y1.1 y1.2) (fun l3 => mapF (fun y2 => (Rt.ok (decide (y2.1 < y2.2)))) l3)) (fun x4 => (Rt.ok (x4.any id))))) l5)) (fun x6 => (Rt.ok (x6.any id))))
theorem t_is_lost (m : Nat) (a0 : (List (List Int))) (a1 : (List (List Int))) : CallK 2 (prg.run (m + 1) 15 [.dat ((eT (eT PyData.int)) a0), .dat ((eT (eT PyData.int)) a1)]) (F_is_lost a0 a1) (fun z => Ro.dat (PyData.bool z)) := by
  rw [run_eq _ 15 d15 rfl, e15]
  unfold F_is_lost b15
  exact def_r rfl (seqR_r (sr_ret (E1 := fun _ => [.dat ((eT (eT PyData.int)) a0), .dat ((eT (eT PyData.int)) a1), .no, .no, .no, .no]) (ek_prim (AX.par (EK.gk (e := (eL PyData.bool)) (ek_lcM (q := [.dat ((eT (eT PyData.int)) a0), .dat ((eT (eT PyData.int)) a1), .no, .no, .no, .no]) (ρ := fun y1 => [.dat ((eT (eT PyData.int)) a0), .dat ((eT (eT PyData.int)) a1), .dat ((eT PyData.int) y1.1), .dat ((eT PyData.int) y1.2), .no, .no]) (enc := (eZ (eT PyData.int) (eT PyData.int))) (eg := PyData.bool) (sk_Z (AX.tot (ET.gt (d := (eT (eT PyData.int)) a0) (et_nm 0 rfl) rfl) (AX.tot (ET.gt (d := (eT (eT PyData.int)) a1) (et_nm 1 rfl) rfl) (AX.nil ⟨a0, a1, rfl, rfl⟩)))) rfl rfl (fun _ => rfl) (fun _ => rfl) (fun y1 => (EK.gk (e := PyData.bool) (ek_prim (AX.par (EK.gk (e := (eL PyData.bool)) (ek_lcM (q := [.dat ((eT (eT PyData.int)) a0), .dat ((eT (eT PyData.int)) a1), .dat ((eT PyData.int) y1.1), .dat ((eT PyData.int) y1.2), .no, .no]) (ρ := fun y2 => [.dat ((eT (eT PyData.int)) a0), .dat ((eT (eT PyData.int)) a1), .dat ((eT PyData.int) y1.1), .dat ((eT PyData.int) y1.2), .dat (PyData.int y2.1), .dat (PyData.int y2.2)]) (enc := (eZ PyData.int PyData.int)) (eg := PyData.bool) (sk_Z (AX.tot (ET.gt (d := (eT PyData.int) y1.1) (et_nm 2 rfl) rfl) (AX.tot (ET.gt (d := (eT PyData.int) y1.2) (et_nm 3 rfl) rfl) (AX.nil ⟨y1.1, y1.2, rfl, rfl⟩)))) rfl rfl (fun _ => rfl) (fun _ => rfl) (fun y2 => (EK.gk (e := PyData.bool) (ET.ek (k := (fun z : Bool => Rs.dat (PyData.bool z))) (et_prim (AT.cons (ET.gt (d := PyData.int y2.1) (et_nm 4 rfl) rfl) (AT.cons (ET.gt (d := PyData.int y2.2) (et_nm 5 rfl) rfl) AT.nil)) (q_lt _ _))) (fun _ => rfl)))) (fun _ => rfl)) (fun x4 => (AX.nil (OpT.k (k := fun z : Bool => Rs.dat (PyData.bool z)) (q_any _)))))) (fun _ => rfl)))) (fun _ => rfl)) (fun x6 => (AX.nil (OpT.k (k := fun z : Bool => Rs.dat (PyData.bool z)) (q_any _)))))) (fun _ => rfl) (fun _ => rfl)))
def F_need_order (a0 : (Int × (List (List Int)))) (a1 : (List Int)) : Rt Unit := (Rt.bind (F_size_of a0) (fun size_1 => (Rt.bind (Rt.bind (Rt.bind (F_is_list ((eT PyData.int) a1) size_1 size_1) (fun c2 => Rt.ok (!c2))) (fun c7 => if c7 then Rt.ok true else (Rt.bind (Rt.bind (Rt.bind (Rt.ok a1) (fun l4 => mapF (fun y3 => (F_is_in y3 (0 : Int) (size_1 - (1 : Int)))) l4)) (fun x5 => (Rt.ok (x5.all id)))) (fun c6 => Rt.ok (!c6))))) (fun c8 => if c8 then Rt.stuck else (Rt.bind (Rt.bind (srtF PyData.int a1) (fun x9 => (Rt.bind (lrF (0 : Int) size_1) (fun x10 => (Rt.ok (decide (x9 ≠ x10))))))) (fun c11 => if c11 then Rt.stuck else (Rt.ok ())))))))
theorem t_need_order (m : Nat) (a0 : (Int × (List (List Int)))) (a1 : (List Int)) : CallK 2 (prg.run (m + 3) 16 [.dat ((eP PyData.int (eT (eT PyData.int))) a0), .dat ((eT PyData.int) a1)]) (F_need_order a0 a1) (fun z => Ro.dat (eU z)) := by
  rw [run_eq _ 16 d16 rfl, e16]
  unfold F_need_order b16
  exact def_v rfl (seq1_n (E1 := fun size_1 => [.dat ((eP PyData.int (eT (eT PyData.int))) a0), .dat ((eT PyData.int) a1), .dat (PyData.int size_1), .no]) (s1_set (ek_call (k := fun z : Int => Ro.dat (PyData.int z)) rfl rfl (AX.tot (ET.gt (et_nm 0 rfl) rfl) (AX.nil (t_size_of (m + 1) a0)))) (fun _ => rfl)) (fun size_1 => (gx_n (tk_or (tk_not (tk_tst (ek_call (k := fun z : Bool => Ro.dat (PyData.bool z)) rfl rfl (AX.tot (ET.gt (et_nm 1 rfl) rfl) (AX.tot (ET.gt (et_nm 2 rfl) rfl) (AX.tot (ET.gt (et_nm 2 rfl) rfl) (AX.nil (t_is_list (m + 1) ((eT PyData.int) a1) size_1 size_1)))))))) (tk_not (tk_tst (ek_prim (AX.par (EK.gk (e := (eL PyData.bool)) (ek_lcM (q := [.dat ((eP PyData.int (eT (eT PyData.int))) a0), .dat ((eT PyData.int) a1), .dat (PyData.int size_1), .no]) (ρ := fun y3 => [.dat ((eP PyData.int (eT (eT PyData.int))) a0), .dat ((eT PyData.int) a1), .dat (PyData.int size_1), .dat (PyData.int y3)]) (enc := PyData.int) (eg := PyData.bool) (sk_T (a := a1) (enc := PyData.int) (et_nm 1 rfl) rfl rfl) rfl rfl (fun _ => rfl) (fun _ => rfl) (fun y3 => (EK.gk (e := PyData.bool) (ek_call (k := fun z : Bool => Ro.dat (PyData.bool z)) rfl rfl (AX.tot (ET.gt (et_nm 3 rfl) rfl) (AX.tot (ET.gt (et_kst (PyData.int 0)) rfl) (AX.tot (ET.gt (et_prim (AT.cons (ET.gt (d := PyData.int size_1) (et_nm 2 rfl) rfl) (AT.cons (ET.gt (d := PyData.int (1 : Int)) (et_kst (PyData.int 1)) rfl) AT.nil)) (q_sub _ _)) rfl) (AX.nil (t_is_in m y3 (0 : Int) (size_1 - (1 : Int)))))))) (fun _ => rfl)))) (fun _ => rfl)) (fun x5 => (AX.nil (OpT.k (k := fun z : Bool => Rs.dat (PyData.bool z)) (q_all _))))))))) (gx_n (tk_tst (ek_prim (AX.par (EK.gk (e := (eL PyData.int)) (ek_prim (AX.tot (ET.gt (d := (eT PyData.int) a1) (et_nm 1 rfl) rfl) (AX.nil (q_srtT _ _)))) (fun _ => rfl)) (fun x9 => (AX.par (EK.gk (e := (eL PyData.int)) (ek_prim (AX.tot (ET.gt (d := PyData.int size_1) (et_nm 2 rfl) rfl) (AX.nil (q_listR1 _ )))) (fun _ => rfl)) (fun x10 => (AX.nil (OpT.k (k := fun z : Bool => Rs.dat (PyData.bool z)) (q_ne (gd_L gd_int) (by decide) _ _))))))))) (next_n rfl)))))
def F_need_small (a0 : (Int × (List (List Int)))) : Rt Unit := (Rt.bind (Rt.bind (F_size_of a0) (fun x1 => (Rt.ok (decide (7 < x1))))) (fun c2 => if c2 then Rt.stuck else (Rt.ok ())))
theorem t_need_small (m : Nat) (a0 : (Int × (List (List Int)))) : CallK 1 (prg.run (m + 2) 17 [.dat ((eP PyData.int (eT (eT PyData.int))) a0)]) (F_need_small a0) (fun z => Ro.dat (eU z)) := by
  rw [run_eq _ 17 d17 rfl, e17]
  unfold F_need_small b17
  exact def_v rfl (gx_n (tk_tst (ek_prim (AX.par (EK.gk (e := PyData.int) (ek_call (k := fun z : Int => Ro.dat (PyData.int z)) rfl rfl (AX.tot (ET.gt (et_nm 0 rfl) rfl) (AX.nil (t_size_of m a0)))) (fun _ => rfl)) (fun x1 => (AX.tot (ET.gt (d := PyData.int 7) (et_kst (PyData.int 7)) rfl) (AX.nil (OpT.k (k := fun z : Bool => Rs.dat (PyData.bool z)) (q_gt _ _)))))))) (next_n rfl))
def F_friendly_in (a0 : (Int × (List (List Int)))) (a1 : (List Int)) : Rt Bool := (Rt.next (Rt.bind (Rt.ok (enumF a1)) (fun l3 => foldB (fun (s1 : Unit) (y2 : (Int × Int)) => (Rt.bind (Rt.bind (Rt.bind (F_friends_in a0 y2.2) (fun l5 => mapF (fun y4 => (Rt.ok (decide (y4 ∈ (cutL a1 (some y2.1) none))))) l5)) (fun x6 => (Rt.ok (x6.any id)))) (fun c7 => if c7 then (Rt.bind (Rt.ok false) (fun v8 => Rt.ok (Lp.out v8))) else (Rt.ok (Lp.go ()))))) l3 ())) (fun s1 : Unit => (Rt.ok true)) Rt.ok)
theorem t_friendly_in (m : Nat) (a0 : (Int × (List (List Int)))) (a1 : (List Int)) : CallK 2 (prg.run (m + 2) 19 [.dat ((eP PyData.int (eT (eT PyData.int))) a0), .dat ((eT PyData.int) a1)]) (F_friendly_in a0 a1) (fun z => Ro.dat (PyData.bool z)) := by
  rw [run_eq _ 19 d19 rfl, e19]
  unfold F_friendly_in b19
  exact def_r rfl (seqB_r (E1 := fun s1 : Unit => [.dat ((eP PyData.int (eT (eT PyData.int))) a0), .dat ((eT PyData.int) a1), .no, .no, .no]) (for_b (E := fun s1 : Unit => [.dat ((eP PyData.int (eT (eT PyData.int))) a0), .dat ((eT PyData.int) a1), .no, .no, .no]) (G := fun (s1 : Unit) (y2 : (Int × Int)) => [.dat ((eP PyData.int (eT (eT PyData.int))) a0), .dat ((eT PyData.int) a1), .dat (PyData.int y2.1), .dat (PyData.int y2.2), .no]) (enc := (eZ PyData.int PyData.int)) () (SK.fk (r1 := [.dat ((eP PyData.int (eT (eT PyData.int))) a0), .dat ((eT PyData.int) a1), .no, .no, .no]) (ske_T (a := a1) (enc := PyData.int) (et_nm 1 rfl) rfl rfl) rfl) rfl (fun _ _ => rfl) (fun s1 y2 => (gd_b (tk_tst (ek_prim (AX.par (EK.gk (e := (eL PyData.bool)) (ek_lcM (q := [.dat ((eP PyData.int (eT (eT PyData.int))) a0), .dat ((eT PyData.int) a1), .dat (PyData.int y2.1), .dat (PyData.int y2.2), .no]) (ρ := fun y4 => [.dat ((eP PyData.int (eT (eT PyData.int))) a0), .dat ((eT PyData.int) a1), .dat (PyData.int y2.1), .dat (PyData.int y2.2), .dat (PyData.int y4)]) (enc := PyData.int) (eg := PyData.bool) (sk_C (d := (eT PyData.int)) (ek_call (k := fun z : (List Int) => Ro.dat ((eT PyData.int) z)) rfl rfl (AX.tot (ET.gt (et_nm 0 rfl) rfl) (AX.tot (ET.gt (et_nm 3 rfl) rfl) (AX.nil (t_friends_in m a0 y2.2))))) (fun _ => rfl) (fun _ => rfl)) rfl rfl (fun _ => rfl) (fun _ => rfl) (fun y4 => (EK.gk (e := PyData.bool) (ET.ek (k := (fun z : Bool => Rs.dat (PyData.bool z))) (et_prim (AT.cons (ET.gt (d := PyData.int y4) (et_nm 4 rfl) rfl) (AT.cons (ET.gt (d := (eT PyData.int) (cutL a1 (some y2.1) none)) (et_prim (AT.cons (ET.gt (d := (eT PyData.int) a1) (et_nm 1 rfl) rfl) (AT.cons (ET.gt (d := PyData.int y2.1) (et_intM (et_nm 2 rfl)) rfl) AT.nil)) (q_slTFT _ _ _ )) rfl) AT.nil)) (q_inT gd_int (by decide) _ _))) (fun _ => rfl)))) (fun _ => rfl)) (fun x6 => (AX.nil (OpT.k (k := fun z : Bool => Rs.dat (PyData.bool z)) (q_any _))))))) (seqR_r (sr_ret (E1 := fun _ => [.dat ((eP PyData.int (eT (eT PyData.int))) a0), .dat ((eT PyData.int) a1), .dat (PyData.int y2.1), .dat (PyData.int y2.2), .no]) (ET.ek (k := (fun z : Bool => Rs.dat (PyData.bool z))) (et_kst (PyData.bool false))) (fun _ => rfl) (fun _ => rfl))) (next_b rfl)))) (fun s1 => (seqR_r (sr_ret (E1 := fun _ => [.dat ((eP PyData.int (eT (eT PyData.int))) a0), .dat ((eT PyData.int) a1), .no, .no, .no]) (ET.ek (k := (fun z : Bool => Rs.dat (PyData.bool z))) (et_kst (PyData.bool true))) (fun _ => rfl) (fun _ => rfl)))))
def F_by_friends (a0 : (Int × (List (List Int)))) (a1 : (List Int)) : Rt Bool := (Rt.bind (F_need_net a0) (fun u1 => (Rt.bind (F_need_order a0 a1) (fun u2 => (F_friendly_in a0 a1)))))
theorem t_by_friends (m : Nat) (a0 : (Int × (List (List Int)))) (a1 : (List Int)) : CallK 2 (prg.run (m + 4) 18 [.dat ((eP PyData.int (eT (eT PyData.int))) a0), .dat ((eT PyData.int) a1)]) (F_by_friends a0 a1) (fun z => Ro.dat (PyData.bool z)) := by
  rw [run_eq _ 18 d18 rfl, e18]
  unfold F_by_friends b18
  exact def_r rfl (seq1_r (E1 := fun _ => [.dat ((eP PyData.int (eT (eT PyData.int))) a0), .dat ((eT PyData.int) a1)]) (s1_drop (ek_call (k := fun z : Unit => Ro.dat (eU z)) rfl rfl (AX.tot (ET.gt (et_nm 0 rfl) rfl) (AX.nil (t_need_net m a0))))) (fun u1 => (seq1_r (E1 := fun _ => [.dat ((eP PyData.int (eT (eT PyData.int))) a0), .dat ((eT PyData.int) a1)]) (s1_drop (ek_call (k := fun z : Unit => Ro.dat (eU z)) rfl rfl (AX.tot (ET.gt (et_nm 0 rfl) rfl) (AX.tot (ET.gt (et_nm 1 rfl) rfl) (AX.nil (t_need_order m a0 a1)))))) (fun u2 => (seqR_r (sr_ret (E1 := fun _ => [.dat ((eP PyData.int (eT (eT PyData.int))) a0), .dat ((eT PyData.int) a1)]) (ek_call (k := fun z : Bool => Ro.dat (PyData.bool z)) rfl rfl (AX.tot (ET.gt (et_nm 0 rfl) rfl) (AX.tot (ET.gt (et_nm 1 rfl) rfl) (AX.nil (t_friendly_in (m + 1) a0 a1))))) (fun _ => rfl) (fun _ => rfl)))))))
def F_order_breaks (a0 : (Int × (List (List Int)))) (a1 : (List Int)) : Rt (Option ((List Int) × Int)) := (Rt.bind (F_need_net a0) (fun u1 => (Rt.bind (F_need_order a0 a1) (fun u2 => (F_breaking_in a0 a1)))))
theorem t_order_breaks (m : Nat) (a0 : (Int × (List (List Int)))) (a1 : (List Int)) : CallK 2 (prg.run (m + 5) 20 [.dat ((eP PyData.int (eT (eT PyData.int))) a0), .dat ((eT PyData.int) a1)]) (F_order_breaks a0 a1) (fun z => Ro.dat ((eO (eP (eT PyData.int) PyData.int)) z)) := by
  rw [run_eq _ 20 d20 rfl, e20]
  unfold F_order_breaks b20
  exact def_r rfl (seq1_r (E1 := fun _ => [.dat ((eP PyData.int (eT (eT PyData.int))) a0), .dat ((eT PyData.int) a1)]) (s1_drop (ek_call (k := fun z : Unit => Ro.dat (eU z)) rfl rfl (AX.tot (ET.gt (et_nm 0 rfl) rfl) (AX.nil (t_need_net (m + 1) a0))))) (fun u1 => (seq1_r (E1 := fun _ => [.dat ((eP PyData.int (eT (eT PyData.int))) a0), .dat ((eT PyData.int) a1)]) (s1_drop (ek_call (k := fun z : Unit => Ro.dat (eU z)) rfl rfl (AX.tot (ET.gt (et_nm 0 rfl) rfl) (AX.tot (ET.gt (et_nm 1 rfl) rfl) (AX.nil (t_need_order (m + 1) a0 a1)))))) (fun u2 => (seqR_r (sr_ret (E1 := fun _ => [.dat ((eP PyData.int (eT (eT PyData.int))) a0), .dat ((eT PyData.int) a1)]) (ek_call (k := fun z : (Option ((List Int) × Int)) => Ro.dat ((eO (eP (eT PyData.int) PyData.int)) z)) rfl rfl (AX.tot (ET.gt (et_nm 0 rfl) rfl) (AX.tot (ET.gt (et_nm 1 rfl) rfl) (AX.nil (t_breaking_in m a0 a1))))) (fun _ => rfl) (fun _ => rfl)))))))
def F_is_right_order (a0 : (Int × (List (List Int)))) (a1 : (List Int)) : Rt Bool := (Rt.bind (F_order_breaks a0 a1) (fun x1 => (Rt.ok x1.isNone)))
theorem t_is_right_order (m : Nat) (a0 : (Int × (List (List Int)))) (a1 : (List Int)) : CallK 2 (prg.run (m + 6) 21 [.dat ((eP PyData.int (eT (eT PyData.int))) a0), .dat ((eT PyData.int) a1)]) (F_is_right_order a0 a1) (fun z => Ro.dat (PyData.bool z)) := by
  rw [run_eq _ 21 d21 rfl, e21]
  unfold F_is_right_order b21
  exact def_r rfl (seqR_r (sr_ret (E1 := fun _ => [.dat ((eP PyData.int (eT (eT PyData.int))) a0), .dat ((eT PyData.int) a1)]) (ek_prim (AX.par (EK.gk (e := (eO (eP (eT PyData.int) PyData.int))) (ek_call (k := fun z : (Option ((List Int) × Int)) => Ro.dat ((eO (eP (eT PyData.int) PyData.int)) z)) rfl rfl (AX.tot (ET.gt (et_nm 0 rfl) rfl) (AX.tot (ET.gt (et_nm 1 rfl) rfl) (AX.nil (t_order_breaks m a0 a1))))) (fun _ => rfl)) (fun x1 => (AX.tot (ET.gt (d := eU ()) (et_kst PyData.none) rfl) (AX.nil (OpT.k (k := fun z : Bool => Rs.dat (PyData.bool z)) (q_isNO (fun _ => rfl) _))))))) (fun _ => rfl) (fun _ => rfl)))
def F_orders_from (a0 : (Int × (List (List Int)))) : Rt (List (List Int)) := (Rt.bind (Rt.bind (F_goal_of a0) (fun x4 => (Rt.bind (F_size_of a0) (fun x5 => (Rt.ok (x4, x5)))))) (fun p3 : (List (List Int)) × Int => (Rt.bind (Rt.bind (Rt.bind (F_begins a0) (fun x6 => (Rt.ok (([] : (List Int)), x6)))) (fun x7 => (Rt.ok [x7]))) (fun found_8 => (Rt.bind (Rt.bind (rg1 p3.2) (fun l11 => foldR (fun (s9 : (List ((List Int) × (List (List Int))))) (y10 : Int) => (Rt.bind (Rt.ok ([] : (List ((List Int) × (List (List Int)))))) (fun later_12 => (Rt.bind (Rt.bind (Rt.ok s9) (fun l15 => foldR (fun (s13 : (List ((List Int) × (List (List Int))))) (y14 : ((List Int) × (List (List Int)))) => (Rt.bind (Rt.bind (rg1 p3.2) (fun l18 => foldR (fun (s16 : (List ((List Int) × (List (List Int))))) (y17 : Int) => (Rt.bind (Rt.bind (Rt.ok (decide (y17 ∉ y14.1))) (fun c19 => if c19 then (Rt.bind (F_all_call a0 y14.2 y17) (fun there_21 => (Rt.bind (Rt.bind (Rt.bind (F_is_lost there_21 p3.1) (fun c22 => Rt.ok (!c22))) (fun c23 => if c23 then (Rt.bind (Rt.bind (Rt.bind (snocF y14.1 y17) (fun x25 => (Rt.ok (x25, there_21)))) (fun x27 => addF s16 x27)) (fun later_26 => (Rt.ok later_26))) else (Rt.ok s16))) (fun s24 : (List ((List Int) × (List (List Int)))) => (Rt.ok s24))))) else (Rt.ok s16))) (fun s20 : (List ((List Int) × (List (List Int)))) => (Rt.ok s20)))) l18 s13)) (fun s16 : (List ((List Int) × (List (List Int)))) => (Rt.ok s16)))) l15 later_12)) (fun s13 : (List ((List Int) × (List (List Int)))) => (Rt.ok s13)))))) l11 found_8)) (fun s9 : (List ((List Int) × (List (List Int)))) => (Rt.bind (Rt.bind (Rt.ok s9) (fun l29 => lcF (fun y28 => (Rt.ok (decide (y28.2 = p3.1)))) (fun y28 => (Rt.ok y28.1)) l29)) (fun x30 => (srtF (eT PyData.int) x30)))))))))
theorem t_orders_from (m : Nat) (a0 : (Int × (List (List Int)))) : CallK 1 (prg.run (m + 4) 22 [.dat ((eP PyData.int (eT (eT PyData.int))) a0)]) (F_orders_from a0) (fun z => Ro.fresh ((eL (eT PyData.int)) z)) := by
  rw [run_eq _ 22 d22 rfl, e22]
  unfold F_orders_from b22
  exact def_r rfl (seq1_r (E1 := fun p3 : (List (List Int)) × Int => [.dat ((eP PyData.int (eT (eT PyData.int))) a0), .no, .no, .dat ((eT (eT PyData.int)) p3.1), .dat (PyData.int p3.2), .no, .no, .no, .no, .no]) (s1_sets (AX.par (EK.gk (ek_call (k := fun z : (List (List Int)) => Ro.dat ((eT (eT PyData.int)) z)) rfl rfl (AX.tot (ET.gt (et_nm 0 rfl) rfl) (AX.nil (t_goal_of (m + 1) a0)))) (fun _ => rfl)) (fun x4 => (AX.par (EK.gk (ek_call (k := fun z : Int => Ro.dat (PyData.int z)) rfl rfl (AX.tot (ET.gt (et_nm 0 rfl) rfl) (AX.nil (t_size_of (m + 2) a0)))) (fun _ => rfl)) (fun x5 => (AX.nil ⟨(x4, x5), rfl, rfl⟩)))))) (fun p3 => (seq1_r (E1 := fun found_8 => [.dat ((eP PyData.int (eT (eT PyData.int))) a0), .own ((eL (eP (eT PyData.int) (eT (eT PyData.int)))) found_8), .no, .dat ((eT (eT PyData.int)) p3.1), .dat (PyData.int p3.2), .no, .no, .no, .no, .no]) (s1_set (ek_lst (k := (eL (eP (eT PyData.int) (eT (eT PyData.int))))) (AX.par (EK.gk (e := (eP (eT PyData.int) (eT (eT PyData.int)))) (ek_tup (k := (eP (eT PyData.int) (eT (eT PyData.int)))) (AX.tot (ET.gt (d := (eT PyData.int) ([] : (List Int))) (et_tup AT.nil (Nat.le_of_ble_eq_true rfl)) rfl) (AX.par (EK.gk (e := (eT (eT PyData.int))) (ek_call (k := fun z : (List (List Int)) => Ro.dat ((eT (eT PyData.int)) z)) rfl rfl (AX.tot (ET.gt (et_nm 0 rfl) rfl) (AX.nil (t_begins (m + 1) a0)))) (fun _ => rfl)) (fun x6 => (AX.nil ⟨_, rfl, rfl⟩)))) (Nat.le_of_ble_eq_true rfl)) (fun _ => rfl)) (fun x7 => (AX.nil ⟨_, rfl, rfl⟩))) (Nat.le_of_ble_eq_true rfl)) (fun _ => rfl)) (fun found_8 => (seq1_r (E1 := fun s9 : (List ((List Int) × (List (List Int)))) => [.dat ((eP PyData.int (eT (eT PyData.int))) a0), .own ((eL (eP (eT PyData.int) (eT (eT PyData.int)))) s9), .no, .dat ((eT (eT PyData.int)) p3.1), .dat (PyData.int p3.2), .no, .no, .no, .no, .no]) (for_1 (E := fun s9 : (List ((List Int) × (List (List Int)))) => [.dat ((eP PyData.int (eT (eT PyData.int))) a0), .own ((eL (eP (eT PyData.int) (eT (eT PyData.int)))) s9), .no, .dat ((eT (eT PyData.int)) p3.1), .dat (PyData.int p3.2), .no, .no, .no, .no, .no]) (G := fun (s9 : (List ((List Int) × (List (List Int))))) (y10 : Int) => [.dat ((eP PyData.int (eT (eT PyData.int))) a0), .own ((eL (eP (eT PyData.int) (eT (eT PyData.int)))) s9), .dat (PyData.int y10), .dat ((eT (eT PyData.int)) p3.1), .dat (PyData.int p3.2), .no, .no, .no, .no, .no]) (enc := PyData.int) found_8 (SK.fk (r1 := [.dat ((eP PyData.int (eT (eT PyData.int))) a0), .own ((eL (eP (eT PyData.int) (eT (eT PyData.int)))) found_8), .no, .dat ((eT (eT PyData.int)) p3.1), .dat (PyData.int p3.2), .no, .no, .no, .no, .no]) (sk_R (AX.tot (ET.gt (d := PyData.int p3.2) (et_nm 4 rfl) rfl) (AX.nil ⟨[p3.2], rfl, rgis1 _ ⟩))) rfl) rfl (fun _ _ => rfl) (fun s9 y10 => (seq1_n (E1 := fun later_12 => [.dat ((eP PyData.int (eT (eT PyData.int))) a0), .own ((eL (eP (eT PyData.int) (eT (eT PyData.int)))) s9), .dat (PyData.int y10), .dat ((eT (eT PyData.int)) p3.1), .dat (PyData.int p3.2), .own ((eL (eP (eT PyData.int) (eT (eT PyData.int)))) later_12), .no, .no, .no, .no]) (s1_set (ET.ek (k := (fun z : (List ((List Int) × (List (List Int)))) => Rs.fresh ((eL (eP (eT PyData.int) (eT (eT PyData.int)))) z))) (et_lst AT.nil (Nat.le_of_ble_eq_true rfl))) (fun _ => rfl)) (fun later_12 => (seq1_n (E1 := fun s13 : (List ((List Int) × (List (List Int)))) => [.dat ((eP PyData.int (eT (eT PyData.int))) a0), .dat ((eL (eP (eT PyData.int) (eT (eT PyData.int)))) s9), .dat (PyData.int y10), .dat ((eT (eT PyData.int)) p3.1), .dat (PyData.int p3.2), .own ((eL (eP (eT PyData.int) (eT (eT PyData.int)))) s13), .no, .no, .no, .no]) (for_1 (E := fun s13 : (List ((List Int) × (List (List Int)))) => [.dat ((eP PyData.int (eT (eT PyData.int))) a0), .dat ((eL (eP (eT PyData.int) (eT (eT PyData.int)))) s9), .dat (PyData.int y10), .dat ((eT (eT PyData.int)) p3.1), .dat (PyData.int p3.2), .own ((eL (eP (eT PyData.int) (eT (eT PyData.int)))) s13), .no, .no, .no, .no]) (G := fun (s13 : (List ((List Int) × (List (List Int))))) (y14 : ((List Int) × (List (List Int)))) => [.dat ((eP PyData.int (eT (eT PyData.int))) a0), .dat ((eL (eP (eT PyData.int) (eT (eT PyData.int)))) s9), .dat (PyData.int y10), .dat ((eT (eT PyData.int)) p3.1), .dat (PyData.int p3.2), .own ((eL (eP (eT PyData.int) (eT (eT PyData.int)))) s13), .dat ((eT PyData.int) y14.1), .dat ((eT (eT PyData.int)) y14.2), .no, .no]) (enc := (eP (eT PyData.int) (eT (eT PyData.int)))) later_12 (SK.fk (r1 := [.dat ((eP PyData.int (eT (eT PyData.int))) a0), .dat ((eL (eP (eT PyData.int) (eT (eT PyData.int)))) s9), .dat (PyData.int y10), .dat ((eT (eT PyData.int)) p3.1), .dat (PyData.int p3.2), .own ((eL (eP (eT PyData.int) (eT (eT PyData.int)))) later_12), .no, .no, .no, .no]) (sk_T (a := s9) (enc := (eP (eT PyData.int) (eT (eT PyData.int)))) (et_nm 1 rfl) rfl rfl) rfl) rfl (fun _ _ => rfl) (fun s13 y14 => (seq1_n (E1 := fun s16 : (List ((List Int) × (List (List Int)))) => [.dat ((eP PyData.int (eT (eT PyData.int))) a0), .dat ((eL (eP (eT PyData.int) (eT (eT PyData.int)))) s9), .dat (PyData.int y10), .dat ((eT (eT PyData.int)) p3.1), .dat (PyData.int p3.2), .own ((eL (eP (eT PyData.int) (eT (eT PyData.int)))) s16), .dat ((eT PyData.int) y14.1), .dat ((eT (eT PyData.int)) y14.2), .no, .no]) (for_1 (E := fun s16 : (List ((List Int) × (List (List Int)))) => [.dat ((eP PyData.int (eT (eT PyData.int))) a0), .dat ((eL (eP (eT PyData.int) (eT (eT PyData.int)))) s9), .dat (PyData.int y10), .dat ((eT (eT PyData.int)) p3.1), .dat (PyData.int p3.2), .own ((eL (eP (eT PyData.int) (eT (eT PyData.int)))) s16), .dat ((eT PyData.int) y14.1), .dat ((eT (eT PyData.int)) y14.2), .no, .no]) (G := fun (s16 : (List ((List Int) × (List (List Int))))) (y17 : Int) => [.dat ((eP PyData.int (eT (eT PyData.int))) a0), .dat ((eL (eP (eT PyData.int) (eT (eT PyData.int)))) s9), .dat (PyData.int y10), .dat ((eT (eT PyData.int)) p3.1), .dat (PyData.int p3.2), .own ((eL (eP (eT PyData.int) (eT (eT PyData.int)))) s16), .dat ((eT PyData.int) y14.1), .dat ((eT (eT PyData.int)) y14.2), .dat (PyData.int y17), .no]) (enc := PyData.int) s13 (SK.fk (r1 := [.dat ((eP PyData.int (eT (eT PyData.int))) a0), .dat ((eL (eP (eT PyData.int) (eT (eT PyData.int)))) s9), .dat (PyData.int y10), .dat ((eT (eT PyData.int)) p3.1), .dat (PyData.int p3.2), .own ((eL (eP (eT PyData.int) (eT (eT PyData.int)))) s13), .dat ((eT PyData.int) y14.1), .dat ((eT (eT PyData.int)) y14.2), .no, .no]) (sk_R (AX.tot (ET.gt (d := PyData.int p3.2) (et_nm 4 rfl) rfl) (AX.nil ⟨[p3.2], rfl, rgis1 _ ⟩))) rfl) rfl (fun _ _ => rfl) (fun s16 y17 => (seq1_n (E1 := fun s20 : (List ((List Int) × (List (List Int)))) => [.dat ((eP PyData.int (eT (eT PyData.int))) a0), .dat ((eL (eP (eT PyData.int) (eT (eT PyData.int)))) s9), .dat (PyData.int y10), .dat ((eT (eT PyData.int)) p3.1), .dat (PyData.int p3.2), .own ((eL (eP (eT PyData.int) (eT (eT PyData.int)))) s20), .dat ((eT PyData.int) y14.1), .dat ((eT (eT PyData.int)) y14.2), .dat (PyData.int y17), .no]) (SN.s1 (fgt_n (if_n (TT.tk (tt_tst (et_prim (AT.cons (ET.gt (d := PyData.int y17) (et_nm 8 rfl) rfl) (AT.cons (ET.gt (d := (eT PyData.int) y14.1) (et_nm 6 rfl) rfl) AT.nil)) (q_ninT gd_int (by decide) _ _)))) (seq1_n (E1 := fun there_21 => [.dat ((eP PyData.int (eT (eT PyData.int))) a0), .dat ((eL (eP (eT PyData.int) (eT (eT PyData.int)))) s9), .dat (PyData.int y10), .dat ((eT (eT PyData.int)) p3.1), .dat (PyData.int p3.2), .own ((eL (eP (eT PyData.int) (eT (eT PyData.int)))) s16), .dat ((eT PyData.int) y14.1), .dat ((eT (eT PyData.int)) y14.2), .dat (PyData.int y17), .dat ((eT (eT PyData.int)) there_21)]) (s1_set (ek_call (k := fun z : (List (List Int)) => Ro.dat ((eT (eT PyData.int)) z)) rfl rfl (AX.tot (ET.gt (et_nm 0 rfl) rfl) (AX.tot (ET.gt (et_nm 7 rfl) rfl) (AX.tot (ET.gt (et_nm 8 rfl) rfl) (AX.nil (t_all_call m a0 y14.2 y17)))))) (fun _ => rfl)) (fun there_21 => (seq1_n (E1 := fun s24 : (List ((List Int) × (List (List Int)))) => [.dat ((eP PyData.int (eT (eT PyData.int))) a0), .dat ((eL (eP (eT PyData.int) (eT (eT PyData.int)))) s9), .dat (PyData.int y10), .dat ((eT (eT PyData.int)) p3.1), .dat (PyData.int p3.2), .own ((eL (eP (eT PyData.int) (eT (eT PyData.int)))) s24), .dat ((eT PyData.int) y14.1), .dat ((eT (eT PyData.int)) y14.2), .dat (PyData.int y17), .dat ((eT (eT PyData.int)) there_21)]) (SN.s1 (if_n (Z := id) (tk_not (tk_tst (ek_call (k := fun z : Bool => Ro.dat (PyData.bool z)) rfl rfl (AX.tot (ET.gt (et_nm 9 rfl) rfl) (AX.tot (ET.gt (et_nm 3 rfl) rfl) (AX.nil (t_is_lost (m + 2) there_21 p3.1))))))) (seq1_n (E1 := fun later_26 => [.dat ((eP PyData.int (eT (eT PyData.int))) a0), .dat ((eL (eP (eT PyData.int) (eT (eT PyData.int)))) s9), .dat (PyData.int y10), .dat ((eT (eT PyData.int)) p3.1), .dat (PyData.int p3.2), .own ((eL (eP (eT PyData.int) (eT (eT PyData.int)))) later_26), .dat ((eT PyData.int) y14.1), .dat ((eT (eT PyData.int)) y14.2), .dat (PyData.int y17), .dat ((eT (eT PyData.int)) there_21)]) (s1_app (EK.gk (e := (eP (eT PyData.int) (eT (eT PyData.int)))) (ek_tup (k := (eP (eT PyData.int) (eT (eT PyData.int)))) (AX.par (EK.gk (e := (eT PyData.int)) (ek_snoc (et_nm 6 rfl) (.inl rfl) (ET.gt (d := PyData.int y17) (et_nm 8 rfl) rfl)) (fun _ => rfl)) (fun x25 => (AX.tot (ET.gt (d := (eT (eT PyData.int)) there_21) (et_nm 9 rfl) rfl) (AX.nil ⟨_, rfl, rfl⟩)))) (Nat.le_of_ble_eq_true rfl)) (fun _ => rfl)) rfl (fun _ => rfl)) (fun later_26 => (next_n rfl))) (next_n rfl))) (fun s24 => (next_n rfl))))) (next_n rfl)))) (fun s20 => (next_n rfl))))) (fun s16 => (next_n rfl))))) (fun s13 => (seqT_n (r1 := [.dat ((eP PyData.int (eT (eT PyData.int))) a0), .own ((eL (eP (eT PyData.int) (eT (eT PyData.int)))) s13), .dat (PyData.int y10), .dat ((eT (eT PyData.int)) p3.1), .dat (PyData.int p3.2), .no, .no, .no, .no, .no]) (st_mv_own rfl rfl) (next_n rfl)))))))) (fun s9 => (seqR_r (sr_ret (E1 := fun _ => [.dat ((eP PyData.int (eT (eT PyData.int))) a0), .own ((eL (eP (eT PyData.int) (eT (eT PyData.int)))) s9), .no, .dat ((eT (eT PyData.int)) p3.1), .dat (PyData.int p3.2), .no, .no, .no, .no, .no]) (ek_prim (AX.par (EK.gk (e := (eL (eT PyData.int))) (ek_lc (q := [.dat ((eP PyData.int (eT (eT PyData.int))) a0), .bor ((eL (eP (eT PyData.int) (eT (eT PyData.int)))) s9), .no, .dat ((eT (eT PyData.int)) p3.1), .dat (PyData.int p3.2), .no, .no, .no, .no, .no]) (ρ := fun y28 => [.dat ((eP PyData.int (eT (eT PyData.int))) a0), .bor ((eL (eP (eT PyData.int) (eT (eT PyData.int)))) s9), .no, .dat ((eT (eT PyData.int)) p3.1), .dat (PyData.int p3.2), .no, .dat ((eT PyData.int) y28.1), .dat ((eT (eT PyData.int)) y28.2), .no, .no]) (enc := (eP (eT PyData.int) (eT (eT PyData.int)))) (eg := (eT PyData.int)) (sk_T (a := s9) (enc := (eP (eT PyData.int) (eT (eT PyData.int)))) (et_nm 1 rfl) rfl rfl) rfl rfl (fun _ => rfl) (fun _ => rfl) (fun y28 => (TT.tk (tt_tst (et_prim (AT.cons (ET.gt (d := (eT (eT PyData.int)) y28.2) (et_nm 7 rfl) rfl) (AT.cons (ET.gt (d := (eT (eT PyData.int)) p3.1) (et_nm 3 rfl) rfl) AT.nil)) (q_eq (gd_T (gd_T gd_int)) (by decide) _ _))))) (fun y28 => (EK.gk (e := (eT PyData.int)) (ET.ek (k := (fun z : (List Int) => Rs.dat ((eT PyData.int) z))) (et_nm 6 rfl)) (fun _ => rfl)))) (fun _ => rfl)) (fun x30 => (AX.nil (q_srtL (fun _ _ e => by cases e) _))))) (fun _ => rfl) (fun _ => rfl)))))))))
def F_right_orders (a0 : (Int × (List (List Int)))) : Rt (List (List Int)) := (Rt.bind (F_need_net a0) (fun u1 => (Rt.bind (F_need_small a0) (fun u2 => (F_orders_from a0)))))
theorem t_right_orders (m : Nat) (a0 : (Int × (List (List Int)))) : CallK 1 (prg.run (m + 5) 23 [.dat ((eP PyData.int (eT (eT PyData.int))) a0)]) (F_right_orders a0) (fun z => Ro.fresh ((eL (eT PyData.int)) z)) := by
  rw [run_eq _ 23 d23 rfl, e23]
  unfold F_right_orders b23
  exact def_r rfl (seq1_r (E1 := fun _ => [.dat ((eP PyData.int (eT (eT PyData.int))) a0)]) (s1_drop (ek_call (k := fun z : Unit => Ro.dat (eU z)) rfl rfl (AX.tot (ET.gt (et_nm 0 rfl) rfl) (AX.nil (t_need_net (m + 1) a0))))) (fun u1 => (seq1_r (E1 := fun _ => [.dat ((eP PyData.int (eT (eT PyData.int))) a0)]) (s1_drop (ek_call (k := fun z : Unit => Ro.dat (eU z)) rfl rfl (AX.tot (ET.gt (et_nm 0 rfl) rfl) (AX.nil (t_need_small (m + 2) a0))))) (fun u2 => (seqR_r (sr_ret (E1 := fun _ => [.dat ((eP PyData.int (eT (eT PyData.int))) a0)]) (ek_call (k := fun z : (List (List Int)) => Ro.fresh ((eL (eT PyData.int)) z)) rfl rfl (AX.tot (ET.gt (et_nm 0 rfl) rfl) (AX.nil (t_orders_from m a0)))) (fun _ => rfl) (fun _ => rfl)))))))
def F_count_right_orders (a0 : (Int × (List (List Int)))) : Rt Int := (Rt.bind (F_need_net a0) (fun u1 => (Rt.bind (F_need_small a0) (fun u2 => (Rt.bind (F_orders_from a0) (fun x3 => (Rt.ok (x3.length : Int))))))))
theorem t_count_right_orders (m : Nat) (a0 : (Int × (List (List Int)))) : CallK 1 (prg.run (m + 5) 24 [.dat ((eP PyData.int (eT (eT PyData.int))) a0)]) (F_count_right_orders a0) (fun z => Ro.dat (PyData.int z)) := by
  rw [run_eq _ 24 d24 rfl, e24]
  unfold F_count_right_orders b24
  exact def_r rfl (seq1_r (E1 := fun _ => [.dat ((eP PyData.int (eT (eT PyData.int))) a0)]) (s1_drop (ek_call (k := fun z : Unit => Ro.dat (eU z)) rfl rfl (AX.tot (ET.gt (et_nm 0 rfl) rfl) (AX.nil (t_need_net (m + 1) a0))))) (fun u1 => (seq1_r (E1 := fun _ => [.dat ((eP PyData.int (eT (eT PyData.int))) a0)]) (s1_drop (ek_call (k := fun z : Unit => Ro.dat (eU z)) rfl rfl (AX.tot (ET.gt (et_nm 0 rfl) rfl) (AX.nil (t_need_small (m + 2) a0))))) (fun u2 => (seqR_r (sr_ret (E1 := fun _ => [.dat ((eP PyData.int (eT (eT PyData.int))) a0)]) (ek_prim (AX.par (EK.gk (e := (eL (eT PyData.int))) (ek_call (k := fun z : (List (List Int)) => Ro.fresh ((eL (eT PyData.int)) z)) rfl rfl (AX.tot (ET.gt (et_nm 0 rfl) rfl) (AX.nil (t_orders_from m a0)))) (fun _ => rfl)) (fun x3 => (AX.nil (OpT.k (k := fun z : Int => Rs.dat (PyData.int z)) (q_lenL _ _)))))) (fun _ => rfl) (fun _ => rfl)))))))
def F_friendly_orders (a0 : (Int × (List (List Int)))) : Rt (List (List Int)) := (Rt.bind (F_need_net a0) (fun u1 => (Rt.bind (F_need_small a0) (fun u2 => (Rt.bind (Rt.ok [([] : (List Int))]) (fun found_3 => (Rt.bind (Rt.bind (Rt.bind (F_size_of a0) (fun x4 => (rg1 x4))) (fun l7 => foldR (fun (s5 : (List (List Int))) (y6 : Int) => (Rt.bind (Rt.ok ([] : (List (List Int)))) (fun later_8 => (Rt.bind (Rt.bind (Rt.ok s5) (fun l11 => foldR (fun (s9 : (List (List Int))) (y10 : (List Int)) => (Rt.bind (Rt.bind (Rt.bind (F_size_of a0) (fun x12 => (rg1 x12))) (fun l15 => foldR (fun (s13 : (List (List Int))) (y14 : Int) => (Rt.bind (Rt.bind (Rt.bind (Rt.ok (decide (y14 ∉ y10))) (fun c19 => if c19 then (Rt.bind (Rt.bind (F_friends_in a0 y14) (fun l17 => mapF (fun y16 => (Rt.ok (decide (y16 ∈ y10)))) l17)) (fun x18 => (Rt.ok (x18.all id)))) else Rt.ok false)) (fun c20 => if c20 then (Rt.bind (Rt.bind (snocF y10 y14) (fun x23 => addF s13 x23)) (fun later_22 => (Rt.ok later_22))) else (Rt.ok s13))) (fun s21 : (List (List Int)) => (Rt.ok s21)))) l15 s9)) (fun s13 : (List (List Int)) => (Rt.ok s13)))) l11 later_8)) (fun s9 : (List (List Int)) => (Rt.ok s9)))))) l7 found_3)) (fun s5 : (List (List Int)) => (srtF (eT PyData.int) s5)))))))))
theorem t_friendly_orders (m : Nat) (a0 : (Int × (List (List Int)))) : CallK 1 (prg.run (m + 4) 25 [.dat ((eP PyData.int (eT (eT PyData.int))) a0)]) (F_friendly_orders a0) (fun z => Ro.fresh ((eL (eT PyData.int)) z)) := by
  rw [run_eq _ 25 d25 rfl, e25]
  unfold F_friendly_orders b25
  exact def_r rfl (seq1_r (E1 := fun _ => [.dat ((eP PyData.int (eT (eT PyData.int))) a0), .no, .no, .no, .no, .no, .no]) (s1_drop (ek_call (k := fun z : Unit => Ro.dat (eU z)) rfl rfl (AX.tot (ET.gt (et_nm 0 rfl) rfl) (AX.nil (t_need_net m a0))))) (fun u1 => (seq1_r (E1 := fun _ => [.dat ((eP PyData.int (eT (eT PyData.int))) a0), .no, .no, .no, .no, .no, .no]) (s1_drop (ek_call (k := fun z : Unit => Ro.dat (eU z)) rfl rfl (AX.tot (ET.gt (et_nm 0 rfl) rfl) (AX.nil (t_need_small (m + 1) a0))))) (fun u2 => (seq1_r (E1 := fun found_3 => [.dat ((eP PyData.int (eT (eT PyData.int))) a0), .own ((eL (eT PyData.int)) found_3), .no, .no, .no, .no, .no]) (s1_set (ET.ek (k := (fun z : (List (List Int)) => Rs.fresh ((eL (eT PyData.int)) z))) (et_lst (AT.cons (ET.gt (d := (eT PyData.int) ([] : (List Int))) (et_tup AT.nil (Nat.le_of_ble_eq_true rfl)) rfl) AT.nil) (Nat.le_of_ble_eq_true rfl))) (fun _ => rfl)) (fun found_3 => (seq1_r (E1 := fun s5 : (List (List Int)) => [.dat ((eP PyData.int (eT (eT PyData.int))) a0), .own ((eL (eT PyData.int)) s5), .no, .no, .no, .no, .no]) (for_1 (E := fun s5 : (List (List Int)) => [.dat ((eP PyData.int (eT (eT PyData.int))) a0), .own ((eL (eT PyData.int)) s5), .no, .no, .no, .no, .no]) (G := fun (s5 : (List (List Int))) (y6 : Int) => [.dat ((eP PyData.int (eT (eT PyData.int))) a0), .own ((eL (eT PyData.int)) s5), .dat (PyData.int y6), .no, .no, .no, .no]) (enc := PyData.int) found_3 (SK.fk (r1 := [.dat ((eP PyData.int (eT (eT PyData.int))) a0), .own ((eL (eT PyData.int)) found_3), .no, .no, .no, .no, .no]) (sk_R (AX.par (EK.gk (e := PyData.int) (ek_call (k := fun z : Int => Ro.dat (PyData.int z)) rfl rfl (AX.tot (ET.gt (et_nm 0 rfl) rfl) (AX.nil (t_size_of (m + 2) a0)))) (fun _ => rfl)) (fun x4 => (AX.nil ⟨[x4], rfl, rgis1 _ ⟩)))) rfl) rfl (fun _ _ => rfl) (fun s5 y6 => (seq1_n (E1 := fun later_8 => [.dat ((eP PyData.int (eT (eT PyData.int))) a0), .own ((eL (eT PyData.int)) s5), .dat (PyData.int y6), .own ((eL (eT PyData.int)) later_8), .no, .no, .no]) (s1_set (ET.ek (k := (fun z : (List (List Int)) => Rs.fresh ((eL (eT PyData.int)) z))) (et_lst AT.nil (Nat.le_of_ble_eq_true rfl))) (fun _ => rfl)) (fun later_8 => (seq1_n (E1 := fun s9 : (List (List Int)) => [.dat ((eP PyData.int (eT (eT PyData.int))) a0), .dat ((eL (eT PyData.int)) s5), .dat (PyData.int y6), .own ((eL (eT PyData.int)) s9), .no, .no, .no]) (for_1 (E := fun s9 : (List (List Int)) => [.dat ((eP PyData.int (eT (eT PyData.int))) a0), .dat ((eL (eT PyData.int)) s5), .dat (PyData.int y6), .own ((eL (eT PyData.int)) s9), .no, .no, .no]) (G := fun (s9 : (List (List Int))) (y10 : (List Int)) => [.dat ((eP PyData.int (eT (eT PyData.int))) a0), .dat ((eL (eT PyData.int)) s5), .dat (PyData.int y6), .own ((eL (eT PyData.int)) s9), .dat ((eT PyData.int) y10), .no, .no]) (enc := (eT PyData.int)) later_8 (SK.fk (r1 := [.dat ((eP PyData.int (eT (eT PyData.int))) a0), .dat ((eL (eT PyData.int)) s5), .dat (PyData.int y6), .own ((eL (eT PyData.int)) later_8), .no, .no, .no]) (sk_T (a := s5) (enc := (eT PyData.int)) (et_nm 1 rfl) rfl rfl) rfl) rfl (fun _ _ => rfl) (fun s9 y10 => (seq1_n (E1 := fun s13 : (List (List Int)) => [.dat ((eP PyData.int (eT (eT PyData.int))) a0), .dat ((eL (eT PyData.int)) s5), .dat (PyData.int y6), .own ((eL (eT PyData.int)) s13), .dat ((eT PyData.int) y10), .no, .no]) (for_1 (E := fun s13 : (List (List Int)) => [.dat ((eP PyData.int (eT (eT PyData.int))) a0), .dat ((eL (eT PyData.int)) s5), .dat (PyData.int y6), .own ((eL (eT PyData.int)) s13), .dat ((eT PyData.int) y10), .no, .no]) (G := fun (s13 : (List (List Int))) (y14 : Int) => [.dat ((eP PyData.int (eT (eT PyData.int))) a0), .dat ((eL (eT PyData.int)) s5), .dat (PyData.int y6), .own ((eL (eT PyData.int)) s13), .dat ((eT PyData.int) y10), .dat (PyData.int y14), .no]) (enc := PyData.int) s9 (SK.fk (r1 := [.dat ((eP PyData.int (eT (eT PyData.int))) a0), .dat ((eL (eT PyData.int)) s5), .dat (PyData.int y6), .own ((eL (eT PyData.int)) s9), .dat ((eT PyData.int) y10), .no, .no]) (sk_R (AX.par (EK.gk (e := PyData.int) (ek_call (k := fun z : Int => Ro.dat (PyData.int z)) rfl rfl (AX.tot (ET.gt (et_nm 0 rfl) rfl) (AX.nil (t_size_of (m + 2) a0)))) (fun _ => rfl)) (fun x12 => (AX.nil ⟨[x12], rfl, rgis1 _ ⟩)))) rfl) rfl (fun _ _ => rfl) (fun s13 y14 => (seq1_n (E1 := fun s21 : (List (List Int)) => [.dat ((eP PyData.int (eT (eT PyData.int))) a0), .dat ((eL (eT PyData.int)) s5), .dat (PyData.int y6), .own ((eL (eT PyData.int)) s21), .dat ((eT PyData.int) y10), .dat (PyData.int y14), .no]) (SN.s1 (if_n (Z := id) (tk_and (TT.tk (tt_tst (et_prim (AT.cons (ET.gt (d := PyData.int y14) (et_nm 5 rfl) rfl) (AT.cons (ET.gt (d := (eT PyData.int) y10) (et_nm 4 rfl) rfl) AT.nil)) (q_ninT gd_int (by decide) _ _)))) (tk_tst (ek_prim (AX.par (EK.gk (e := (eL PyData.bool)) (ek_lcM (q := [.dat ((eP PyData.int (eT (eT PyData.int))) a0), .dat ((eL (eT PyData.int)) s5), .dat (PyData.int y6), .own ((eL (eT PyData.int)) s13), .dat ((eT PyData.int) y10), .dat (PyData.int y14), .no]) (ρ := fun y16 => [.dat ((eP PyData.int (eT (eT PyData.int))) a0), .dat ((eL (eT PyData.int)) s5), .dat (PyData.int y6), .own ((eL (eT PyData.int)) s13), .dat ((eT PyData.int) y10), .dat (PyData.int y14), .dat (PyData.int y16)]) (enc := PyData.int) (eg := PyData.bool) (sk_C (d := (eT PyData.int)) (ek_call (k := fun z : (List Int) => Ro.dat ((eT PyData.int) z)) rfl rfl (AX.tot (ET.gt (et_nm 0 rfl) rfl) (AX.tot (ET.gt (et_nm 5 rfl) rfl) (AX.nil (t_friends_in (m + 2) a0 y14))))) (fun _ => rfl) (fun _ => rfl)) rfl rfl (fun _ => rfl) (fun _ => rfl) (fun y16 => (EK.gk (e := PyData.bool) (ET.ek (k := (fun z : Bool => Rs.dat (PyData.bool z))) (et_prim (AT.cons (ET.gt (d := PyData.int y16) (et_nm 6 rfl) rfl) (AT.cons (ET.gt (d := (eT PyData.int) y10) (et_nm 4 rfl) rfl) AT.nil)) (q_inT gd_int (by decide) _ _))) (fun _ => rfl)))) (fun _ => rfl)) (fun x18 => (AX.nil (OpT.k (k := fun z : Bool => Rs.dat (PyData.bool z)) (q_all _)))))))) (seq1_n (E1 := fun later_22 => [.dat ((eP PyData.int (eT (eT PyData.int))) a0), .dat ((eL (eT PyData.int)) s5), .dat (PyData.int y6), .own ((eL (eT PyData.int)) later_22), .dat ((eT PyData.int) y10), .dat (PyData.int y14), .no]) (s1_app (EK.gk (e := (eT PyData.int)) (ek_snoc (et_nm 4 rfl) (.inl rfl) (ET.gt (d := PyData.int y14) (et_nm 5 rfl) rfl)) (fun _ => rfl)) rfl (fun _ => rfl)) (fun later_22 => (next_n rfl))) (next_n rfl))) (fun s21 => (next_n rfl))))) (fun s13 => (next_n rfl))))) (fun s9 => (seqT_n (r1 := [.dat ((eP PyData.int (eT (eT PyData.int))) a0), .own ((eL (eT PyData.int)) s9), .dat (PyData.int y6), .no, .no, .no, .no]) (st_mv_own rfl rfl) (next_n rfl)))))))) (fun s5 => (seqR_r (sr_ret (E1 := fun _ => [.dat ((eP PyData.int (eT (eT PyData.int))) a0), .own ((eL (eT PyData.int)) s5), .no, .no, .no, .no, .no]) (ek_prim (AX.tot (ET.gt (d := (eL (eT PyData.int)) s5) (et_nm 1 rfl) rfl) (AX.nil (q_srtL (fun _ _ e => by cases e) _)))) (fun _ => rfl) (fun _ => rfl)))))))))))
def F_count_friendly (a0 : (Int × (List (List Int)))) : Rt Int := (Rt.bind (F_friendly_orders a0) (fun x1 => (Rt.ok (x1.length : Int))))
theorem t_count_friendly (m : Nat) (a0 : (Int × (List (List Int)))) : CallK 1 (prg.run (m + 5) 26 [.dat ((eP PyData.int (eT (eT PyData.int))) a0)]) (F_count_friendly a0) (fun z => Ro.dat (PyData.int z)) := by
  rw [run_eq _ 26 d26 rfl, e26]
  unfold F_count_friendly b26
  exact def_r rfl (seqR_r (sr_ret (E1 := fun _ => [.dat ((eP PyData.int (eT (eT PyData.int))) a0)]) (ek_prim (AX.par (EK.gk (e := (eL (eT PyData.int))) (ek_call (k := fun z : (List (List Int)) => Ro.fresh ((eL (eT PyData.int)) z)) rfl rfl (AX.tot (ET.gt (et_nm 0 rfl) rfl) (AX.nil (t_friendly_orders m a0)))) (fun _ => rfl)) (fun x1 => (AX.nil (OpT.k (k := fun z : Int => Rs.dat (PyData.int z)) (q_lenL _ _)))))) (fun _ => rfl) (fun _ => rfl)))
def F_lucky_orders (a0 : (Int × (List (List Int)))) : Rt (List (List Int)) := (Rt.bind (F_need_net a0) (fun u1 => (Rt.bind (F_need_small a0) (fun u2 => (Rt.bind (F_orders_from a0) (fun l4 => lcF (fun y3 => (Rt.bind (F_friendly_in a0 y3) (fun c5 => Rt.ok (!c5)))) (fun y3 => (Rt.ok y3)) l4))))))
theorem t_lucky_orders (m : Nat) (a0 : (Int × (List (List Int)))) : CallK 1 (prg.run (m + 5) 27 [.dat ((eP PyData.int (eT (eT PyData.int))) a0)]) (F_lucky_orders a0) (fun z => Ro.fresh ((eL (eT PyData.int)) z)) := by
  rw [run_eq _ 27 d27 rfl, e27]
  unfold F_lucky_orders b27
  exact def_r rfl (seq1_r (E1 := fun _ => [.dat ((eP PyData.int (eT (eT PyData.int))) a0), .no]) (s1_drop (ek_call (k := fun z : Unit => Ro.dat (eU z)) rfl rfl (AX.tot (ET.gt (et_nm 0 rfl) rfl) (AX.nil (t_need_net (m + 1) a0))))) (fun u1 => (seq1_r (E1 := fun _ => [.dat ((eP PyData.int (eT (eT PyData.int))) a0), .no]) (s1_drop (ek_call (k := fun z : Unit => Ro.dat (eU z)) rfl rfl (AX.tot (ET.gt (et_nm 0 rfl) rfl) (AX.nil (t_need_small (m + 2) a0))))) (fun u2 => (seqR_r (sr_ret (E1 := fun _ => [.dat ((eP PyData.int (eT (eT PyData.int))) a0), .no]) (ek_lc (q := [.dat ((eP PyData.int (eT (eT PyData.int))) a0), .no]) (ρ := fun y3 => [.dat ((eP PyData.int (eT (eT PyData.int))) a0), .dat ((eT PyData.int) y3)]) (enc := (eT PyData.int)) (eg := (eT PyData.int)) (sk_C (d := (eL (eT PyData.int))) (ek_call (k := fun z : (List (List Int)) => Ro.fresh ((eL (eT PyData.int)) z)) rfl rfl (AX.tot (ET.gt (et_nm 0 rfl) rfl) (AX.nil (t_orders_from m a0)))) (fun _ => rfl) (fun _ => rfl)) rfl rfl (fun _ => rfl) (fun _ => rfl) (fun y3 => (tk_not (tk_tst (ek_call (k := fun z : Bool => Ro.dat (PyData.bool z)) rfl rfl (AX.tot (ET.gt (et_nm 0 rfl) rfl) (AX.tot (ET.gt (et_nm 1 rfl) rfl) (AX.nil (t_friendly_in (m + 2) a0 y3)))))))) (fun y3 => (EK.gk (e := (eT PyData.int)) (ET.ek (k := (fun z : (List Int) => Rs.dat ((eT PyData.int) z))) (et_nm 1 rfl)) (fun _ => rfl)))) (fun _ => rfl) (fun _ => rfl)))))))
def F_always_ahead (a0 : (Int × (List (List Int)))) : Rt (List (Int × Int)) := (Rt.bind (F_need_net a0) (fun u1 => (Rt.bind (F_need_small a0) (fun u2 => (Rt.bind (Rt.bind (F_orders_from a0) (fun x6 => (Rt.ok (x6, ([] : (List (Int × Int))))))) (fun p5 : (List (List Int)) × (List (Int × Int)) => (Rt.bind (Rt.bind (Rt.bind (F_size_of a0) (fun x7 => (rg1 x7))) (fun l10 => foldR (fun (s8 : (List (Int × Int))) (y9 : Int) => (Rt.bind (Rt.bind (Rt.bind (F_size_of a0) (fun x11 => (rg1 x11))) (fun l14 => foldR (fun (s12 : (List (Int × Int))) (y13 : Int) => (Rt.bind (Rt.bind (Rt.bind (Rt.ok (decide (y9 ≠ y13))) (fun c24 => if c24 then (Rt.bind (Rt.bind (Rt.ok p5.1) (fun l22 => mapF (fun y15 => (Rt.bind (Rt.bind (Rt.ok y15) (fun x16 => Rt.bind (Rt.ok y9) (fun x17 => idxI x16 x17))) (fun x20 => (Rt.bind (Rt.bind (Rt.ok y15) (fun x18 => Rt.bind (Rt.ok y13) (fun x19 => idxI x18 x19))) (fun x21 => (Rt.ok (decide (x20 < x21)))))))) l22)) (fun x23 => (Rt.ok (x23.all id)))) else Rt.ok false)) (fun c25 => if c25 then (Rt.bind (Rt.bind (Rt.ok (y9, y13)) (fun x28 => addF s12 x28)) (fun found_27 => (Rt.ok found_27))) else (Rt.ok s12))) (fun s26 : (List (Int × Int)) => (Rt.ok s26)))) l14 s8)) (fun s12 : (List (Int × Int)) => (Rt.ok s12)))) l10 p5.2)) (fun s8 : (List (Int × Int)) => (Rt.ok s8)))))))))
theorem t_always_ahead (m : Nat) (a0 : (Int × (List (List Int)))) : CallK 1 (prg.run (m + 5) 28 [.dat ((eP PyData.int (eT (eT PyData.int))) a0)]) (F_always_ahead a0) (fun z => Ro.dat ((eT (eP PyData.int PyData.int)) z)) := by
  rw [run_eq _ 28 d28 rfl, e28]
  unfold F_always_ahead b28
  exact def_r rfl (seq1_r (E1 := fun _ => [.dat ((eP PyData.int (eT (eT PyData.int))) a0), .no, .no, .no, .no, .no]) (s1_drop (ek_call (k := fun z : Unit => Ro.dat (eU z)) rfl rfl (AX.tot (ET.gt (et_nm 0 rfl) rfl) (AX.nil (t_need_net (m + 1) a0))))) (fun u1 => (seq1_r (E1 := fun _ => [.dat ((eP PyData.int (eT (eT PyData.int))) a0), .no, .no, .no, .no, .no]) (s1_drop (ek_call (k := fun z : Unit => Ro.dat (eU z)) rfl rfl (AX.tot (ET.gt (et_nm 0 rfl) rfl) (AX.nil (t_need_small (m + 2) a0))))) (fun u2 => (seq1_r (E1 := fun p5 : (List (List Int)) × (List (Int × Int)) => [.dat ((eP PyData.int (eT (eT PyData.int))) a0), .no, .own ((eL (eT PyData.int)) p5.1), .own ((eL (eP PyData.int PyData.int)) p5.2), .no, .no]) (s1_sets (AX.par (EK.gk (ek_call (k := fun z : (List (List Int)) => Ro.fresh ((eL (eT PyData.int)) z)) rfl rfl (AX.tot (ET.gt (et_nm 0 rfl) rfl) (AX.nil (t_orders_from m a0)))) (fun _ => rfl)) (fun x6 => (AX.tot (ET.gt (et_lst AT.nil (Nat.le_of_ble_eq_true rfl)) rfl) (AX.nil ⟨(x6, ([] : (List (Int × Int)))), rfl, rfl⟩))))) (fun p5 => (seq1_r (E1 := fun s8 : (List (Int × Int)) => [.dat ((eP PyData.int (eT (eT PyData.int))) a0), .no, .own ((eL (eT PyData.int)) p5.1), .own ((eL (eP PyData.int PyData.int)) s8), .no, .no]) (for_1 (E := fun s8 : (List (Int × Int)) => [.dat ((eP PyData.int (eT (eT PyData.int))) a0), .no, .own ((eL (eT PyData.int)) p5.1), .own ((eL (eP PyData.int PyData.int)) s8), .no, .no]) (G := fun (s8 : (List (Int × Int))) (y9 : Int) => [.dat ((eP PyData.int (eT (eT PyData.int))) a0), .dat (PyData.int y9), .own ((eL (eT PyData.int)) p5.1), .own ((eL (eP PyData.int PyData.int)) s8), .no, .no]) (enc := PyData.int) p5.2 (SK.fk (r1 := [.dat ((eP PyData.int (eT (eT PyData.int))) a0), .no, .own ((eL (eT PyData.int)) p5.1), .own ((eL (eP PyData.int PyData.int)) p5.2), .no, .no]) (sk_R (AX.par (EK.gk (e := PyData.int) (ek_call (k := fun z : Int => Ro.dat (PyData.int z)) rfl rfl (AX.tot (ET.gt (et_nm 0 rfl) rfl) (AX.nil (t_size_of (m + 3) a0)))) (fun _ => rfl)) (fun x7 => (AX.nil ⟨[x7], rfl, rgis1 _ ⟩)))) rfl) rfl (fun _ _ => rfl) (fun s8 y9 => (seq1_n (E1 := fun s12 : (List (Int × Int)) => [.dat ((eP PyData.int (eT (eT PyData.int))) a0), .dat (PyData.int y9), .own ((eL (eT PyData.int)) p5.1), .own ((eL (eP PyData.int PyData.int)) s12), .no, .no]) (for_1 (E := fun s12 : (List (Int × Int)) => [.dat ((eP PyData.int (eT (eT PyData.int))) a0), .dat (PyData.int y9), .own ((eL (eT PyData.int)) p5.1), .own ((eL (eP PyData.int PyData.int)) s12), .no, .no]) (G := fun (s12 : (List (Int × Int))) (y13 : Int) => [.dat ((eP PyData.int (eT (eT PyData.int))) a0), .dat (PyData.int y9), .own ((eL (eT PyData.int)) p5.1), .own ((eL (eP PyData.int PyData.int)) s12), .dat (PyData.int y13), .no]) (enc := PyData.int) s8 (SK.fk (r1 := [.dat ((eP PyData.int (eT (eT PyData.int))) a0), .dat (PyData.int y9), .own ((eL (eT PyData.int)) p5.1), .own ((eL (eP PyData.int PyData.int)) s8), .no, .no]) (sk_R (AX.par (EK.gk (e := PyData.int) (ek_call (k := fun z : Int => Ro.dat (PyData.int z)) rfl rfl (AX.tot (ET.gt (et_nm 0 rfl) rfl) (AX.nil (t_size_of (m + 3) a0)))) (fun _ => rfl)) (fun x11 => (AX.nil ⟨[x11], rfl, rgis1 _ ⟩)))) rfl) rfl (fun _ _ => rfl) (fun s12 y13 => (seq1_n (E1 := fun s26 : (List (Int × Int)) => [.dat ((eP PyData.int (eT (eT PyData.int))) a0), .dat (PyData.int y9), .own ((eL (eT PyData.int)) p5.1), .own ((eL (eP PyData.int PyData.int)) s26), .dat (PyData.int y13), .no]) (SN.s1 (if_n (Z := id) (tk_and (TT.tk (tt_tst (et_prim (AT.cons (ET.gt (d := PyData.int y9) (et_nm 1 rfl) rfl) (AT.cons (ET.gt (d := PyData.int y13) (et_nm 4 rfl) rfl) AT.nil)) (q_ne gd_int (by decide) _ _)))) (tk_tst (ek_prim (AX.par (EK.gk (e := (eL PyData.bool)) (ek_lcM (q := [.dat ((eP PyData.int (eT (eT PyData.int))) a0), .dat (PyData.int y9), .bor ((eL (eT PyData.int)) p5.1), .own ((eL (eP PyData.int PyData.int)) s12), .dat (PyData.int y13), .no]) (ρ := fun y15 => [.dat ((eP PyData.int (eT (eT PyData.int))) a0), .dat (PyData.int y9), .bor ((eL (eT PyData.int)) p5.1), .own ((eL (eP PyData.int PyData.int)) s12), .dat (PyData.int y13), .dat ((eT PyData.int) y15)]) (enc := (eT PyData.int)) (eg := PyData.bool) (sk_T (a := p5.1) (enc := (eT PyData.int)) (et_nm 2 rfl) rfl rfl) rfl rfl (fun _ => rfl) (fun _ => rfl) (fun y15 => (EK.gk (e := PyData.bool) (ek_prim (AX.par (EK.gk (e := PyData.int) (ek_indexT (GT.gk (a := y15) (e := (eT PyData.int)) (ET.gt (d := (eT PyData.int) y15) (et_nm 5 rfl) rfl) rfl) (GT.gk (a := y9) (e := PyData.int) (ET.gt (d := PyData.int y9) (et_nm 1 rfl) rfl) rfl)) (fun _ => rfl)) (fun x20 => (AX.par (EK.gk (e := PyData.int) (ek_indexT (GT.gk (a := y15) (e := (eT PyData.int)) (ET.gt (d := (eT PyData.int) y15) (et_nm 5 rfl) rfl) rfl) (GT.gk (a := y13) (e := PyData.int) (ET.gt (d := PyData.int y13) (et_nm 4 rfl) rfl) rfl)) (fun _ => rfl)) (fun x21 => (AX.nil (OpT.k (k := fun z : Bool => Rs.dat (PyData.bool z)) (q_lt _ _)))))))) (fun _ => rfl)))) (fun _ => rfl)) (fun x23 => (AX.nil (OpT.k (k := fun z : Bool => Rs.dat (PyData.bool z)) (q_all _)))))))) (seq1_n (E1 := fun found_27 => [.dat ((eP PyData.int (eT (eT PyData.int))) a0), .dat (PyData.int y9), .own ((eL (eT PyData.int)) p5.1), .own ((eL (eP PyData.int PyData.int)) found_27), .dat (PyData.int y13), .no]) (s1_app (EK.gk (e := (eP PyData.int PyData.int)) (ET.ek (k := (fun z : (Int × Int) => Rs.dat ((eP PyData.int PyData.int) z))) (et_tup (AT.cons (ET.gt (d := PyData.int y9) (et_nm 1 rfl) rfl) (AT.cons (ET.gt (d := PyData.int y13) (et_nm 4 rfl) rfl) AT.nil)) (Nat.le_of_ble_eq_true rfl))) (fun _ => rfl)) rfl (fun _ => rfl)) (fun found_27 => (next_n rfl))) (next_n rfl))) (fun s26 => (next_n rfl))))) (fun s12 => (next_n rfl))))) (fun s8 => (seqR_r (sr_ret (E1 := fun _ => [.dat ((eP PyData.int (eT (eT PyData.int))) a0), .no, .own ((eL (eT PyData.int)) p5.1), .own ((eL (eP PyData.int PyData.int)) s8), .no, .no]) (ET.ek (k := (fun z : (List (Int × Int)) => Rs.dat ((eT (eP PyData.int PyData.int)) z))) (et_prim (AT.cons (ET.gt (d := (eL (eP PyData.int PyData.int)) s8) (et_nm 3 rfl) rfl) AT.nil) (q_tupL _ _))) (fun _ => rfl) (fun _ => rfl)))))))))))
abbrev F_law_taken := takenF
theorem t_law_taken (m : Nat) (w : Row) (n : Int) : CallS (prg.run (m + 1) 29 [.io (eRow w), .dat (.int n)]) (takenF w n) (fun z => .dat (.int z)) (fun w => [some (eRow w), none]) := by
  rw [run_eq _ 29 d29 rfl, e29]
  unfold takenF
  by_cases hn : 0 < n ∧ n < 1000 ∧ 0 ≤ w.i
  · obtain ⟨hm, hm2, hi⟩ := hn
    rw [if_pos ⟨hm, hm2, hi⟩]
    by_cases c : 0 < w.q
    · rw [if_pos c]
      show runBody 2 4 _ _ = _
      simp [b29, c, t_mod hm, t_div hm (by omega)]
    · rw [if_neg c]
      by_cases c2 : (w.s.length : Int) < w.i + 1
      · rw [if_pos c2]
        show runBody 2 4 _ _ = _
        simp [b29, c, c2, t_mod hm, t_mul, t_mod (j := 2147483647) (by omega), t_div (j := 7)]
      · rw [if_neg c2]
        have ix2 := atI_get (xs := w.s) (i := w.i) hi (by omega)
        unfold ixF
        rw [ix2]
        generalize (w.s[w.i.toNat]'(by omega)) = cell at ix2
        show runBody 2 4 _ _ = _
        by_cases c3 : 1000000000000000000 ≤ cell
        · simp [b29, c, c2, c3, t_ix, ix2, t_mod hm, t_mul, t_mod (j := 2147483647) (by omega), t_div hm (by omega), t_pow]
        · simp [b29, c, c2, c3, t_ix, ix2, t_mod hm, t_mul, t_mod (j := 2147483647) (by omega), t_pow]
  · rw [if_neg hn]; trivial
def F_law_order (a0 : Row) (a1 : Int) : Rt ((List Int) × Row) := (Rt.bind (Rt.bind (lrF (0 : Int) a1) (fun x4 => (Rt.ok (x4, ([] : (List Int)))))) (fun p3 : (List Int) × (List Int) => (Rt.bind (Rt.bind (rg1 a1) (fun l7 => foldR (fun (s5 : (List Int) × Row × (List Int)) (y6 : Int) => (Rt.bind (Rt.bind (Rt.nox (F_law_taken s5.2.1 (s5.2.2.length : Int))) (fun p9 => Rt.bind (popF s5.2.2 p9.1) (fun q10 => Rt.bind (addF s5.1 q10.1) (fun z11 => Rt.ok (p9.2, q10.2, z11))))) (fun found_8 => (Rt.ok (found_8.2.2, found_8.1, found_8.2.1))))) l7 (p3.2, a0, p3.1))) (fun s5 : (List Int) × Row × (List Int) => (Rt.bind (Rt.ok s5.1) (fun v12 => Rt.ok (v12, s5.2.1)))))))
theorem t_law_order (m : Nat) (a0 : Row) (a1 : Int) : CallS (prg.run (m + 2) 31 [.io (eRow a0), .dat (PyData.int a1)]) (F_law_order a0 a1) (fun z => Ro.dat ((eT PyData.int) z)) (fun w => some (eRow w) :: List.replicate 1 none) := by
  rw [run_eq _ 31 d31 rfl, e31]
  unfold F_law_order b31
  exact def_rS rfl (seq1_r (E1 := fun p3 : (List Int) × (List Int) => [.io (eRow a0), .dat (PyData.int a1), .no, .own ((eL PyData.int) p3.1), .own ((eL PyData.int) p3.2)]) (s1_sets (AX.par (EK.gk (ek_prim (AX.tot (ET.gt (d := PyData.int a1) (et_nm 1 rfl) rfl) (AX.nil (q_listR1 _ )))) (fun _ => rfl)) (fun x4 => (AX.tot (ET.gt (et_lst AT.nil (Nat.le_of_ble_eq_true rfl)) rfl) (AX.nil ⟨(x4, ([] : (List Int))), rfl, rfl⟩))))) (fun p3 => (seq1_r (E1 := fun s5 : (List Int) × Row × (List Int) => [.io (eRow s5.2.1), .dat (PyData.int a1), .no, .own ((eL PyData.int) s5.2.2), .own ((eL PyData.int) s5.1)]) (for_1 (E := fun s5 : (List Int) × Row × (List Int) => [.io (eRow s5.2.1), .dat (PyData.int a1), .no, .own ((eL PyData.int) s5.2.2), .own ((eL PyData.int) s5.1)]) (G := fun (s5 : (List Int) × Row × (List Int)) (y6 : Int) => [.io (eRow s5.2.1), .dat (PyData.int a1), .dat (PyData.int y6), .own ((eL PyData.int) s5.2.2), .own ((eL PyData.int) s5.1)]) (enc := PyData.int) (p3.2, a0, p3.1) (SK.fk (r1 := [.io (eRow a0), .dat (PyData.int a1), .no, .own ((eL PyData.int) p3.1), .own ((eL PyData.int) p3.2)]) (sk_R (AX.tot (ET.gt (d := PyData.int a1) (et_nm 1 rfl) rfl) (AX.nil ⟨[a1], rfl, rgis1 _ ⟩))) rfl) rfl (fun _ _ => rfl) (fun s5 y6 => (seq1_n (E1 := fun found_8 => [.io (eRow found_8.1), .dat (PyData.int a1), .dat (PyData.int y6), .own ((eL PyData.int) found_8.2.1), .own ((eL PyData.int) found_8.2.2)]) (s1_popApp (E := fun ww : Row => [.io (eRow ww), .dat (PyData.int a1), .dat (PyData.int y6), .own ((eL PyData.int) s5.2.2), .own ((eL PyData.int) s5.1)]) (s := s5.2.1) (E1 := fun ww xx yy => [.io (eRow ww), .dat (PyData.int a1), .dat (PyData.int y6), .own ((eL PyData.int) xx), .own ((eL PyData.int) yy)]) (es_call0 (E := fun ww : Row => [.io (eRow ww), .dat (PyData.int a1), .dat (PyData.int y6), .own ((eL PyData.int) s5.2.2), .own ((eL PyData.int) s5.1)]) (s := s5.2.1) (k := fun z : Int => Ro.dat (PyData.int z)) (es := eRow) rfl rfl (fun _ => rfl) (fun _ => rfl) (fun _ _ => rfl) (AW.tot (gts_of (fun ww => (et_prim (AT.cons (ET.gt (d := (eL PyData.int) s5.2.2) (et_nm 3 rfl) rfl) AT.nil) (q_lenL _ _))) (fun _ => rfl)) (AW.nil (t_law_taken m s5.2.1 (s5.2.2.length : Int))))) (fun _ => rfl) (fun _ => rfl) (fun _ _ => rfl) (fun _ _ _ => rfl)) (fun found_8 => (next_n rfl))))) (fun s5 => (seqR_r (sr_retS (E := fun ww : Row => [.io (eRow ww), .dat (PyData.int a1), .no, .own ((eL PyData.int) s5.2.2), .own ((eL PyData.int) s5.1)]) (s := s5.2.1) (E1 := fun _ ww => [.io (eRow ww), .dat (PyData.int a1), .no, .own ((eL PyData.int) s5.2.2), .own ((eL PyData.int) s5.1)]) (EK.es (E := fun ww : Row => [.io (eRow ww), .dat (PyData.int a1), .no, .own ((eL PyData.int) s5.2.2), .own ((eL PyData.int) s5.1)]) (s := s5.2.1) (ET.ek (k := (fun z : (List Int) => Rs.dat ((eT PyData.int) z))) (et_prim (AT.cons (ET.gt (d := (eL PyData.int) s5.1) (et_nm 4 rfl) rfl) AT.nil) (q_tupL _ _)))) (fun _ _ => rfl) (fun _ _ => rfl)))))))
def F_law_net (a0 : Row) (a1 : Int) : Rt ((Int × (List (List Int))) × Row) := (Rt.bind (Rt.bind (Rt.bind (Rt.nox (F_law_taken a0 (3 : Int))) (fun p1 => (thn (Rt.ok ((1 : Int) + p1.1)) p1.2))) (fun p2 => (Rt.ok (p2.1, ([] : (List (List Int))), p2.2)))) (fun p3 : Int × (List (List Int)) × Row => (Rt.bind (Rt.bind (Rt.bind (Rt.nox (F_law_taken p3.2.2 (a1 + (1 : Int)))) (fun p4 => (thn (rg1 p4.1) p4.2))) (fun l7 => foldR (fun (s5 : Row × (List (List Int))) (y6 : Int) => (Rt.bind (Rt.bind (Rt.bind (rg1 (p3.1 + y6)) (fun l9 => lcS (fun (y8 : Int) (ww : Row) => (Rt.bind (Rt.nox (F_law_taken ww (5 : Int))) (fun p10 => (thn (Rt.ok (decide (p10.1 < (2 : Int)))) p10.2)))) (fun (y8 : Int) (ww : Row) => (Rt.bind (Rt.ok y8) (fun b => Rt.ok (b, ww)))) l9 s5.1)) (fun p11 => (thn (Rt.ok p11.1) p11.2))) (fun near_12 => (Rt.bind (catF s5.2 [near_12.1]) (fun gates_13 => (Rt.ok (near_12.2, gates_13))))))) l7.1 ((fun ww : Row => (ww, p3.2.1)) l7.2))) (fun s5 : Row × (List (List Int)) => (Rt.bind (Rt.ok (p3.1, s5.2)) (fun v14 => Rt.ok (v14, s5.1)))))))
theorem t_law_net (m : Nat) (a0 : Row) (a1 : Int) : CallS (prg.run (m + 2) 32 [.io (eRow a0), .dat (PyData.int a1)]) (F_law_net a0 a1) (fun z => Ro.dat ((eP PyData.int (eT (eT PyData.int))) z)) (fun w => some (eRow w) :: List.replicate 1 none) := by
  rw [run_eq _ 32 d32 rfl, e32]
  unfold F_law_net b32
  exact def_rS rfl (seq1_r (E1 := fun p3 : Int × (List (List Int)) × Row => [.io (eRow p3.2.2), .dat (PyData.int a1), .no, .dat (PyData.int p3.1), .dat ((eT (eT PyData.int)) p3.2.1), .no, .no]) (s1_setsS (E := fun ww : Row => [.io (eRow ww), .dat (PyData.int a1), .no, .no, .no, .no, .no]) (s := a0) (AW.par (ES.gs (es_prim (E := fun ww : Row => [.io (eRow ww), .dat (PyData.int a1), .no, .no, .no, .no, .no]) (s := a0) (AW.tot (gts_of (d := PyData.int (1 : Int)) (fun ww => (et_kst (PyData.int 1))) (fun _ => rfl)) (AW.par (ES.gs (e := PyData.int) (es_call0 (E := fun ww : Row => [.io (eRow ww), .dat (PyData.int a1), .no, .no, .no, .no, .no]) (s := a0) (k := fun z : Int => Ro.dat (PyData.int z)) (es := eRow) rfl rfl (fun _ => rfl) (fun _ => rfl) (fun _ _ => rfl) (AW.tot (gts_of (fun ww => (et_kst (PyData.int 3))) (fun _ => rfl)) (AW.nil (t_law_taken m a0 (3 : Int))))) (fun _ _ => rfl)) (fun p1 => (AW.nil ⟨(Rt.ok ((1 : Int) + p1.1)), rfl, (OpT.k (k := fun z : Int => Rs.dat (PyData.int z)) (q_addI _ _))⟩))))) (fun _ _ => rfl)) (fun p2 => (AW.tot (gts_of (fun ww => (et_tup AT.nil (Nat.le_of_ble_eq_true rfl))) (fun _ => rfl)) (AW.nil ⟨(p2.1, ([] : (List (List Int))), p2.2), rfl, rfl⟩))))) (fun p3 => (seq1_r (E1 := fun s5 : Row × (List (List Int)) => [.io (eRow s5.1), .dat (PyData.int a1), .no, .dat (PyData.int p3.1), .dat ((eT (eT PyData.int)) s5.2), .no, .no]) (for_S (E := fun ww : Row => [.io (eRow ww), .dat (PyData.int a1), .no, .dat (PyData.int p3.1), .dat ((eT (eT PyData.int)) p3.2.1), .no, .no]) (s := p3.2.2) (El := fun s5 : Row × (List (List Int)) => [.io (eRow s5.1), .dat (PyData.int a1), .no, .dat (PyData.int p3.1), .dat ((eT (eT PyData.int)) s5.2), .no, .no]) (G := fun (s5 : Row × (List (List Int))) (y6 : Int) => [.io (eRow s5.1), .dat (PyData.int a1), .dat (PyData.int y6), .dat (PyData.int p3.1), .dat ((eT (eT PyData.int)) s5.2), .no, .no]) (enc := PyData.int) (fun ww : Row => (ww, p3.2.1)) (ss_R (AW.par (ES.gs (e := PyData.int) (es_call0 (E := fun ww : Row => [.io (eRow ww), .dat (PyData.int a1), .no, .dat (PyData.int p3.1), .dat ((eT (eT PyData.int)) p3.2.1), .no, .no]) (s := p3.2.2) (k := fun z : Int => Ro.dat (PyData.int z)) (es := eRow) rfl rfl (fun _ => rfl) (fun _ => rfl) (fun _ _ => rfl) (AW.tot (gts_of (fun ww => (et_prim (AT.cons (ET.gt (d := PyData.int a1) (et_nm 1 rfl) rfl) (AT.cons (ET.gt (d := PyData.int (1 : Int)) (et_kst (PyData.int 1)) rfl) AT.nil)) (q_addI _ _))) (fun _ => rfl)) (AW.nil (t_law_taken m p3.2.2 (a1 + (1 : Int)))))) (fun _ _ => rfl)) (fun p4 => (AW.nil ⟨[p4.1], rg1 p4.1, rfl, rfl, rgis1 _⟩)))) (fun _ => rfl) (fun _ _ => rfl) (fun _ s5 y6 => (seq1_n (E1 := fun near_12 => [.io (eRow near_12.2), .dat (PyData.int a1), .dat (PyData.int y6), .dat (PyData.int p3.1), .dat ((eT (eT PyData.int)) s5.2), .dat ((eT PyData.int) near_12.1), .no]) (s1_setS (es_prim (E := fun ww : Row => [.io (eRow ww), .dat (PyData.int a1), .dat (PyData.int y6), .dat (PyData.int p3.1), .dat ((eT (eT PyData.int)) s5.2), .no, .no]) (s := s5.1) (AW.par (ES.gs (e := (eL PyData.int)) (es_lc (E := fun ww : Row => [.io (eRow ww), .dat (PyData.int a1), .dat (PyData.int y6), .dat (PyData.int p3.1), .dat ((eT (eT PyData.int)) s5.2), .no, .no]) (s := s5.1) (Q := fun ww : Row => [.io (eRow ww), .dat (PyData.int a1), .dat (PyData.int y6), .dat (PyData.int p3.1), .dat ((eT (eT PyData.int)) s5.2), .no, .no]) (ρ := fun (ww : Row) (y8 : Int) => [.io (eRow ww), .dat (PyData.int a1), .dat (PyData.int y6), .dat (PyData.int p3.1), .dat ((eT (eT PyData.int)) s5.2), .no, .dat (PyData.int y8)]) (enc := PyData.int) (eg := PyData.int) (sk_R (AX.tot (ET.gt (d := PyData.int (p3.1 + y6)) (et_prim (AT.cons (ET.gt (d := PyData.int p3.1) (et_nm 3 rfl) rfl) (AT.cons (ET.gt (d := PyData.int y6) (et_nm 2 rfl) rfl) AT.nil)) (q_addI _ _)) rfl) (AX.nil ⟨[(p3.1 + y6)], rfl, rgis1 _ ⟩))) rfl rfl (fun _ _ => rfl) (fun _ _ => rfl) (fun ww y8 => (ts_tst (es_prim (E := fun ww : Row => [.io (eRow ww), .dat (PyData.int a1), .dat (PyData.int y6), .dat (PyData.int p3.1), .dat ((eT (eT PyData.int)) s5.2), .no, .dat (PyData.int y8)]) (s := ww) (AW.par (ES.gs (e := PyData.int) (es_call0 (E := fun ww : Row => [.io (eRow ww), .dat (PyData.int a1), .dat (PyData.int y6), .dat (PyData.int p3.1), .dat ((eT (eT PyData.int)) s5.2), .no, .dat (PyData.int y8)]) (s := ww) (k := fun z : Int => Ro.dat (PyData.int z)) (es := eRow) rfl rfl (fun _ => rfl) (fun _ => rfl) (fun _ _ => rfl) (AW.tot (gts_of (fun ww => (et_kst (PyData.int 5))) (fun _ => rfl)) (AW.nil (t_law_taken m ww (5 : Int))))) (fun _ _ => rfl)) (fun p10 => (AW.tot (gts_of (d := PyData.int (2 : Int)) (fun ww => (et_kst (PyData.int 2))) (fun _ => rfl)) (AW.nil ⟨(Rt.ok (decide (p10.1 < (2 : Int)))), rfl, (OpT.k (k := fun z : Bool => Rs.dat (PyData.bool z)) (q_lt _ _))⟩))))))) (fun ww y8 => (EK.gs (e := PyData.int) (ET.ek (k := (fun z : Int => Rs.dat (PyData.int z))) (et_nm 6 rfl)) (fun _ _ => rfl))) (fun _ => rfl)) (fun _ _ => rfl)) (fun p11 => (AW.nil ⟨(Rt.ok p11.1), rfl, (OpT.k (k := fun z : (List Int) => Rs.dat ((eT PyData.int) z)) (q_tupL _ _))⟩)))) (fun _ _ => rfl)) (fun near_12 => (seq1_n (E1 := fun gates_13 => [.io (eRow near_12.2), .dat (PyData.int a1), .dat (PyData.int y6), .dat (PyData.int p3.1), .dat ((eT (eT PyData.int)) gates_13), .dat ((eT PyData.int) near_12.1), .no]) (s1_set (ek_prim (AX.tot (ET.gt (d := (eT (eT PyData.int)) s5.2) (et_nm 4 rfl) rfl) (AX.tot (ET.gt (d := (eT (eT PyData.int)) [near_12.1]) (et_tup (AT.cons (ET.gt (d := (eT PyData.int) near_12.1) (et_nm 5 rfl) rfl) AT.nil) (Nat.le_of_ble_eq_true rfl)) rfl) (AX.nil (q_addT _ _ _))))) (fun _ => rfl)) (fun gates_13 => (next_n rfl))))))) (fun s5 => (seqR_r (sr_retS (E := fun ww : Row => [.io (eRow ww), .dat (PyData.int a1), .no, .dat (PyData.int p3.1), .dat ((eT (eT PyData.int)) s5.2), .no, .no]) (s := s5.1) (E1 := fun _ ww => [.io (eRow ww), .dat (PyData.int a1), .no, .dat (PyData.int p3.1), .dat ((eT (eT PyData.int)) s5.2), .no, .no]) (EK.es (E := fun ww : Row => [.io (eRow ww), .dat (PyData.int a1), .no, .dat (PyData.int p3.1), .dat ((eT (eT PyData.int)) s5.2), .no, .no]) (s := s5.1) (ET.ek (k := (fun z : (Int × (List (List Int))) => Rs.dat ((eP PyData.int (eT (eT PyData.int))) z))) (et_tup (AT.cons (ET.gt (d := PyData.int p3.1) (et_nm 3 rfl) rfl) (AT.cons (ET.gt (d := (eT (eT PyData.int)) s5.2) (et_nm 4 rfl) rfl) AT.nil)) (Nat.le_of_ble_eq_true rfl)))) (fun _ _ => rfl) (fun _ _ => rfl)))))))
def F_law_bits (a0 : Int) : Rt (List (List Int)) := (Rt.bind (Rt.ok [([] : (List Int))]) (fun found_1 => (Rt.bind (Rt.bind (rg1 a0) (fun l4 => foldR (fun (s2 : (List (List Int))) (y3 : Int) => (Rt.bind (Rt.ok ([] : (List (List Int)))) (fun longer_5 => (Rt.bind (Rt.bind (Rt.ok s2) (fun l8 => foldR (fun (s6 : (List (List Int))) (y7 : (List Int)) => (Rt.bind (Rt.bind (Rt.bind (catF y7 [(0 : Int)]) (fun x9 => (Rt.bind (catF y7 [(1 : Int)]) (fun x10 => (Rt.ok [x9, x10]))))) (fun x11 => (catF s6 x11))) (fun longer_12 => (Rt.ok longer_12)))) l8 longer_5)) (fun s6 : (List (List Int)) => (Rt.ok s6)))))) l4 found_1)) (fun s2 : (List (List Int)) => (Rt.ok s2)))))
theorem t_law_bits (m : Nat) (a0 : Int) : CallK 1 (prg.run (m + 1) 33 [.dat (PyData.int a0)]) (F_law_bits a0) (fun z => Ro.fresh ((eL (eT PyData.int)) z)) := by
  rw [run_eq _ 33 d33 rfl, e33]
  unfold F_law_bits b33
  exact def_r rfl (seq1_r (E1 := fun found_1 => [.dat (PyData.int a0), .own ((eL (eT PyData.int)) found_1), .no, .no, .no]) (s1_set (ET.ek (k := (fun z : (List (List Int)) => Rs.fresh ((eL (eT PyData.int)) z))) (et_lst (AT.cons (ET.gt (d := (eT PyData.int) ([] : (List Int))) (et_tup AT.nil (Nat.le_of_ble_eq_true rfl)) rfl) AT.nil) (Nat.le_of_ble_eq_true rfl))) (fun _ => rfl)) (fun found_1 => (seq1_r (E1 := fun s2 : (List (List Int)) => [.dat (PyData.int a0), .own ((eL (eT PyData.int)) s2), .no, .no, .no]) (for_1 (E := fun s2 : (List (List Int)) => [.dat (PyData.int a0), .own ((eL (eT PyData.int)) s2), .no, .no, .no]) (G := fun (s2 : (List (List Int))) (y3 : Int) => [.dat (PyData.int a0), .own ((eL (eT PyData.int)) s2), .dat (PyData.int y3), .no, .no]) (enc := PyData.int) found_1 (SK.fk (r1 := [.dat (PyData.int a0), .own ((eL (eT PyData.int)) found_1), .no, .no, .no]) (sk_R (AX.tot (ET.gt (d := PyData.int a0) (et_nm 0 rfl) rfl) (AX.nil ⟨[a0], rfl, rgis1 _ ⟩))) rfl) rfl (fun _ _ => rfl) (fun s2 y3 => (seq1_n (E1 := fun longer_5 => [.dat (PyData.int a0), .own ((eL (eT PyData.int)) s2), .dat (PyData.int y3), .own ((eL (eT PyData.int)) longer_5), .no]) (s1_set (ET.ek (k := (fun z : (List (List Int)) => Rs.fresh ((eL (eT PyData.int)) z))) (et_lst AT.nil (Nat.le_of_ble_eq_true rfl))) (fun _ => rfl)) (fun longer_5 => (seq1_n (E1 := fun s6 : (List (List Int)) => [.dat (PyData.int a0), .dat ((eL (eT PyData.int)) s2), .dat (PyData.int y3), .own ((eL (eT PyData.int)) s6), .no]) (for_1 (E := fun s6 : (List (List Int)) => [.dat (PyData.int a0), .dat ((eL (eT PyData.int)) s2), .dat (PyData.int y3), .own ((eL (eT PyData.int)) s6), .no]) (G := fun (s6 : (List (List Int))) (y7 : (List Int)) => [.dat (PyData.int a0), .dat ((eL (eT PyData.int)) s2), .dat (PyData.int y3), .own ((eL (eT PyData.int)) s6), .dat ((eT PyData.int) y7)]) (enc := (eT PyData.int)) longer_5 (SK.fk (r1 := [.dat (PyData.int a0), .dat ((eL (eT PyData.int)) s2), .dat (PyData.int y3), .own ((eL (eT PyData.int)) longer_5), .no]) (sk_T (a := s2) (enc := (eT PyData.int)) (et_nm 1 rfl) rfl rfl) rfl) rfl (fun _ _ => rfl) (fun s6 y7 => (seq1_n (E1 := fun longer_12 => [.dat (PyData.int a0), .dat ((eL (eT PyData.int)) s2), .dat (PyData.int y3), .own ((eL (eT PyData.int)) longer_12), .dat ((eT PyData.int) y7)]) (s1_set (ek_prim (AX.tot (ET.gt (d := (eL (eT PyData.int)) s6) (et_nm 3 rfl) rfl) (AX.par (EK.gk (e := (eL (eT PyData.int))) (ek_lst (k := (eL (eT PyData.int))) (AX.par (EK.gk (e := (eT PyData.int)) (ek_prim (AX.tot (ET.gt (d := (eT PyData.int) y7) (et_nm 4 rfl) rfl) (AX.tot (ET.gt (d := (eT PyData.int) [(0 : Int)]) (et_tup (AT.cons (ET.gt (d := PyData.int (0 : Int)) (et_kst (PyData.int 0)) rfl) AT.nil) (Nat.le_of_ble_eq_true rfl)) rfl) (AX.nil (q_addT _ _ _))))) (fun _ => rfl)) (fun x9 => (AX.par (EK.gk (e := (eT PyData.int)) (ek_prim (AX.tot (ET.gt (d := (eT PyData.int) y7) (et_nm 4 rfl) rfl) (AX.tot (ET.gt (d := (eT PyData.int) [(1 : Int)]) (et_tup (AT.cons (ET.gt (d := PyData.int (1 : Int)) (et_kst (PyData.int 1)) rfl) AT.nil) (Nat.le_of_ble_eq_true rfl)) rfl) (AX.nil (q_addT _ _ _))))) (fun _ => rfl)) (fun x10 => (AX.nil ⟨_, rfl, rfl⟩))))) (Nat.le_of_ble_eq_true rfl)) (fun _ => rfl)) (fun x11 => (AX.nil (q_addL _ _ _)))))) (fun _ => rfl)) (fun longer_12 => (next_n rfl))))) (fun s6 => (seqT_n (r1 := [.dat (PyData.int a0), .own ((eL (eT PyData.int)) s6), .dat (PyData.int y3), .no, .no]) (st_mv_own rfl rfl) (next_n rfl)))))))) (fun s2 => (seqR_r (sr_own (a := s2) (e := (eL (eT PyData.int))) (i := 1) rfl rfl))))))
def F_law_end (a0 : (Int × (List (List Int)))) (a1 : (List Int)) : Rt (List Int) := (Rt.bind (Rt.bind (Rt.ok a0.2) (fun l3 => foldR (fun (s1 : (List Int)) (y2 : (List Int)) => (Rt.bind (Rt.bind (Rt.bind (Rt.bind (Rt.bind (Rt.ok y2) (fun l5 => lcF (fun y4 => (Rt.bind (ixF s1 y4) (fun x6 => (Rt.ok (decide (x6 = (1 : Int))))))) (fun y4 => (Rt.ok y4)) l5)) (fun x7 => (Rt.ok (decide (x7 = ([] : (List Int))))))) (fun x8 => (Rt.ok (if x8 then 1 else 0)))) (fun x10 => addF s1 x10)) (fun found_9 => (Rt.ok found_9)))) l3 a1)) (fun s1 : (List Int) => (Rt.ok s1)))
theorem t_law_end (m : Nat) (a0 : (Int × (List (List Int)))) (a1 : (List Int)) : CallK 2 (prg.run (m + 1) 34 [.dat ((eP PyData.int (eT (eT PyData.int))) a0), .dat ((eT PyData.int) a1)]) (F_law_end a0 a1) (fun z => Ro.dat ((eT PyData.int) z)) := by
  rw [run_eq _ 34 d34 rfl, e34]
  unfold F_law_end b34
  exact def_r rfl (seqT_r (r1 := [.dat ((eP PyData.int (eT (eT PyData.int))) a0), .dat ((eT PyData.int) a1), .own ((eL PyData.int) a1), .no, .no]) (st_set (et_prim (AT.cons (ET.gt (d := (eT PyData.int) a1) (et_nm 1 rfl) rfl) AT.nil) (q_listT _ _)) rfl) (seq1_r (E1 := fun s1 : (List Int) => [.dat ((eP PyData.int (eT (eT PyData.int))) a0), .dat ((eT PyData.int) a1), .own ((eL PyData.int) s1), .no, .no]) (for_1 (E := fun s1 : (List Int) => [.dat ((eP PyData.int (eT (eT PyData.int))) a0), .dat ((eT PyData.int) a1), .own ((eL PyData.int) s1), .no, .no]) (G := fun (s1 : (List Int)) (y2 : (List Int)) => [.dat ((eP PyData.int (eT (eT PyData.int))) a0), .dat ((eT PyData.int) a1), .own ((eL PyData.int) s1), .dat ((eT PyData.int) y2), .no]) (enc := (eT PyData.int)) a1 (SK.fk (r1 := [.dat ((eP PyData.int (eT (eT PyData.int))) a0), .dat ((eT PyData.int) a1), .own ((eL PyData.int) a1), .no, .no]) (sk_T (a := a0.2) (enc := (eT PyData.int)) (et_prim (AT.cons (ET.gt (d := (eP PyData.int (eT (eT PyData.int))) a0) (et_nm 0 rfl) rfl) (AT.cons (ET.gt (d := PyData.int 1) (et_kst (PyData.int 1)) rfl) AT.nil)) (q_ixP1 _ _ _)) rfl rfl) rfl) rfl (fun _ _ => rfl) (fun s1 y2 => (seq1_n (E1 := fun found_9 => [.dat ((eP PyData.int (eT (eT PyData.int))) a0), .dat ((eT PyData.int) a1), .own ((eL PyData.int) found_9), .dat ((eT PyData.int) y2), .no]) (s1_app (EK.gk (e := PyData.int) (ek_prim (AX.par (EK.gk (e := PyData.bool) (ek_prim (AX.par (EK.gk (e := (eL PyData.int)) (ek_lc (q := [.dat ((eP PyData.int (eT (eT PyData.int))) a0), .dat ((eT PyData.int) a1), .own ((eL PyData.int) s1), .dat ((eT PyData.int) y2), .no]) (ρ := fun y4 => [.dat ((eP PyData.int (eT (eT PyData.int))) a0), .dat ((eT PyData.int) a1), .own ((eL PyData.int) s1), .dat ((eT PyData.int) y2), .dat (PyData.int y4)]) (enc := PyData.int) (eg := PyData.int) (sk_T (a := y2) (enc := PyData.int) (et_nm 3 rfl) rfl rfl) rfl rfl (fun _ => rfl) (fun _ => rfl) (fun y4 => (tk_tst (ek_prim (AX.par (EK.gk (e := PyData.int) (ek_prim (AX.tot (ET.gt (d := (eL PyData.int) s1) (et_nm 2 rfl) rfl) (AX.tot (ET.gt (d := PyData.int y4) (et_nm 4 rfl) rfl) (AX.nil (q_ixL _ _ _))))) (fun _ => rfl)) (fun x6 => (AX.tot (ET.gt (d := PyData.int (1 : Int)) (et_kst (PyData.int 1)) rfl) (AX.nil (OpT.k (k := fun z : Bool => Rs.dat (PyData.bool z)) (q_eq gd_int (by decide) _ _))))))))) (fun y4 => (EK.gk (e := PyData.int) (ET.ek (k := (fun z : Int => Rs.dat (PyData.int z))) (et_nm 4 rfl)) (fun _ => rfl)))) (fun _ => rfl)) (fun x7 => (AX.tot (ET.gt (d := (eL PyData.int) ([] : (List Int))) (et_lst AT.nil (Nat.le_of_ble_eq_true rfl)) rfl) (AX.nil (OpT.k (k := fun z : Bool => Rs.dat (PyData.bool z)) (q_eq (gd_L gd_int) (by decide) _ _))))))) (fun _ => rfl)) (fun x8 => (AX.nil (OpT.k (k := fun z : Int => Rs.dat (PyData.int z)) (q_intB _)))))) (fun _ => rfl)) rfl (fun _ => rfl)) (fun found_9 => (next_n rfl))))) (fun s1 => (seqR_r (sr_ret (E1 := fun _ => [.dat ((eP PyData.int (eT (eT PyData.int))) a0), .dat ((eT PyData.int) a1), .own ((eL PyData.int) s1), .no, .no]) (ET.ek (k := (fun z : (List Int) => Rs.dat ((eT PyData.int) z))) (et_prim (AT.cons (ET.gt (d := (eL PyData.int) s1) (et_nm 2 rfl) rfl) AT.nil) (q_tupL _ _))) (fun _ => rfl) (fun _ => rfl))))))
def F_law_round (a0 : (Int × (List (List Int)))) (a1 : (List Int)) (a2 : (List Int)) : Rt (List Int) := (Rt.bind (Rt.bind (Rt.bind (Rt.ok a2) (fun l2 => lcF (fun y1 => (Rt.bind (ixF a1 y1) (fun x3 => (Rt.ok (decide (x3 = (1 : Int))))))) (fun y1 => (Rt.ok y1)) l2)) (fun x7 => (Rt.ok (x7, a1)))) (fun p6 : (List Int) × (List Int) => (Rt.bind (Rt.bind (rg1 (a0.2.length : Int)) (fun l10 => foldR (fun (s8 : (List Int)) (y9 : Int) => (Rt.bind (Rt.bind (Rt.bind (Rt.bind (ixF a0.2 y9) (fun l12 => lcF (fun y11 => (Rt.ok (decide (y11 ∈ p6.1)))) (fun y11 => (Rt.ok y11)) l12)) (fun x13 => (Rt.ok (decide (x13 ≠ ([] : (List Int))))))) (fun c14 => if c14 then (Rt.bind (Rt.bind (Rt.ok (0 : Int)) (fun x17 => Rt.bind (Rt.ok (a0.1 + y9)) (fun x18 => stoF s8 x18 x17))) (fun later_16 => (Rt.ok later_16))) else (Rt.ok s8))) (fun s15 : (List Int) => (Rt.ok s15)))) l10 p6.2)) (fun s8 : (List Int) => (Rt.ok s8)))))
theorem t_law_round (m : Nat) (a0 : (Int × (List (List Int)))) (a1 : (List Int)) (a2 : (List Int)) : CallK 3 (prg.run (m + 1) 35 [.dat ((eP PyData.int (eT (eT PyData.int))) a0), .dat ((eT PyData.int) a1), .dat ((eT PyData.int) a2)]) (F_law_round a0 a1 a2) (fun z => Ro.dat ((eT PyData.int) z)) := by
  rw [run_eq _ 35 d35 rfl, e35]
  unfold F_law_round b35
  exact def_r rfl (seq1_r (E1 := fun p6 : (List Int) × (List Int) => [.dat ((eP PyData.int (eT (eT PyData.int))) a0), .dat ((eT PyData.int) a1), .dat ((eT PyData.int) a2), .no, .own ((eL PyData.int) p6.1), .own ((eL PyData.int) p6.2), .no]) (s1_sets (AX.par (EK.gk (ek_lc (q := [.dat ((eP PyData.int (eT (eT PyData.int))) a0), .dat ((eT PyData.int) a1), .dat ((eT PyData.int) a2), .no, .no, .no, .no]) (ρ := fun y1 => [.dat ((eP PyData.int (eT (eT PyData.int))) a0), .dat ((eT PyData.int) a1), .dat ((eT PyData.int) a2), .no, .no, .no, .dat (PyData.int y1)]) (enc := PyData.int) (eg := PyData.int) (sk_T (a := a2) (enc := PyData.int) (et_nm 2 rfl) rfl rfl) rfl rfl (fun _ => rfl) (fun _ => rfl) (fun y1 => (tk_tst (ek_prim (AX.par (EK.gk (e := PyData.int) (ek_prim (AX.tot (ET.gt (d := (eT PyData.int) a1) (et_nm 1 rfl) rfl) (AX.tot (ET.gt (d := PyData.int y1) (et_nm 6 rfl) rfl) (AX.nil (q_ixT _ _ _))))) (fun _ => rfl)) (fun x3 => (AX.tot (ET.gt (d := PyData.int (1 : Int)) (et_kst (PyData.int 1)) rfl) (AX.nil (OpT.k (k := fun z : Bool => Rs.dat (PyData.bool z)) (q_eq gd_int (by decide) _ _))))))))) (fun y1 => (EK.gk (e := PyData.int) (ET.ek (k := (fun z : Int => Rs.dat (PyData.int z))) (et_nm 6 rfl)) (fun _ => rfl)))) (fun _ => rfl)) (fun x7 => (AX.tot (ET.gt (et_prim (AT.cons (ET.gt (d := (eT PyData.int) a1) (et_nm 1 rfl) rfl) AT.nil) (q_listT _ _)) rfl) (AX.nil ⟨(x7, a1), rfl, rfl⟩))))) (fun p6 => (seq1_r (E1 := fun s8 : (List Int) => [.dat ((eP PyData.int (eT (eT PyData.int))) a0), .dat ((eT PyData.int) a1), .dat ((eT PyData.int) a2), .no, .own ((eL PyData.int) p6.1), .own ((eL PyData.int) s8), .no]) (for_1 (E := fun s8 : (List Int) => [.dat ((eP PyData.int (eT (eT PyData.int))) a0), .dat ((eT PyData.int) a1), .dat ((eT PyData.int) a2), .no, .own ((eL PyData.int) p6.1), .own ((eL PyData.int) s8), .no]) (G := fun (s8 : (List Int)) (y9 : Int) => [.dat ((eP PyData.int (eT (eT PyData.int))) a0), .dat ((eT PyData.int) a1), .dat ((eT PyData.int) a2), .dat (PyData.int y9), .own ((eL PyData.int) p6.1), .own ((eL PyData.int) s8), .no]) (enc := PyData.int) p6.2 (SK.fk (r1 := [.dat ((eP PyData.int (eT (eT PyData.int))) a0), .dat ((eT PyData.int) a1), .dat ((eT PyData.int) a2), .no, .own ((eL PyData.int) p6.1), .own ((eL PyData.int) p6.2), .no]) (sk_R (AX.tot (ET.gt (d := PyData.int (a0.2.length : Int)) (et_prim (AT.cons (ET.gt (d := (eT (eT PyData.int)) a0.2) (et_prim (AT.cons (ET.gt (d := (eP PyData.int (eT (eT PyData.int))) a0) (et_nm 0 rfl) rfl) (AT.cons (ET.gt (d := PyData.int 1) (et_kst (PyData.int 1)) rfl) AT.nil)) (q_ixP1 _ _ _)) rfl) AT.nil) (q_lenT _ _)) rfl) (AX.nil ⟨[(a0.2.length : Int)], rfl, rgis1 _ ⟩))) rfl) rfl (fun _ _ => rfl) (fun s8 y9 => (seq1_n (E1 := fun s15 : (List Int) => [.dat ((eP PyData.int (eT (eT PyData.int))) a0), .dat ((eT PyData.int) a1), .dat ((eT PyData.int) a2), .dat (PyData.int y9), .own ((eL PyData.int) p6.1), .own ((eL PyData.int) s15), .no]) (SN.s1 (if_n (Z := id) (tk_tst (ek_prim (AX.par (EK.gk (e := (eL PyData.int)) (ek_lc (q := [.dat ((eP PyData.int (eT (eT PyData.int))) a0), .dat ((eT PyData.int) a1), .dat ((eT PyData.int) a2), .dat (PyData.int y9), .own ((eL PyData.int) p6.1), .own ((eL PyData.int) s8), .no]) (ρ := fun y11 => [.dat ((eP PyData.int (eT (eT PyData.int))) a0), .dat ((eT PyData.int) a1), .dat ((eT PyData.int) a2), .dat (PyData.int y9), .own ((eL PyData.int) p6.1), .own ((eL PyData.int) s8), .dat (PyData.int y11)]) (enc := PyData.int) (eg := PyData.int) (sk_C (d := (eT PyData.int)) (ek_prim (AX.tot (ET.gt (d := (eT (eT PyData.int)) a0.2) (et_prim (AT.cons (ET.gt (d := (eP PyData.int (eT (eT PyData.int))) a0) (et_nm 0 rfl) rfl) (AT.cons (ET.gt (d := PyData.int 1) (et_kst (PyData.int 1)) rfl) AT.nil)) (q_ixP1 _ _ _)) rfl) (AX.tot (ET.gt (d := PyData.int y9) (et_nm 3 rfl) rfl) (AX.nil (q_ixT _ _ _))))) (fun _ => rfl) (fun _ => rfl)) rfl rfl (fun _ => rfl) (fun _ => rfl) (fun y11 => (TT.tk (tt_tst (et_prim (AT.cons (ET.gt (d := PyData.int y11) (et_nm 6 rfl) rfl) (AT.cons (ET.gt (d := (eL PyData.int) p6.1) (et_nm 4 rfl) rfl) AT.nil)) (q_inL gd_int (by decide) _ _))))) (fun y11 => (EK.gk (e := PyData.int) (ET.ek (k := (fun z : Int => Rs.dat (PyData.int z))) (et_nm 6 rfl)) (fun _ => rfl)))) (fun _ => rfl)) (fun x13 => (AX.tot (ET.gt (d := (eL PyData.int) ([] : (List Int))) (et_lst AT.nil (Nat.le_of_ble_eq_true rfl)) rfl) (AX.nil (OpT.k (k := fun z : Bool => Rs.dat (PyData.bool z)) (q_ne (gd_L gd_int) (by decide) _ _)))))))) (seq1_n (E1 := fun later_16 => [.dat ((eP PyData.int (eT (eT PyData.int))) a0), .dat ((eT PyData.int) a1), .dat ((eT PyData.int) a2), .dat (PyData.int y9), .own ((eL PyData.int) p6.1), .own ((eL PyData.int) later_16), .no]) (s1_sto (EK.gk (e := PyData.int) (ET.ek (k := (fun z : Int => Rs.dat (PyData.int z))) (et_kst (PyData.int 0))) (fun _ => rfl)) (EK.gk (e := PyData.int) (ET.ek (k := (fun z : Int => Rs.dat (PyData.int z))) (et_prim (AT.cons (ET.gt (d := PyData.int a0.1) (et_prim (AT.cons (ET.gt (d := (eP PyData.int (eT (eT PyData.int))) a0) (et_nm 0 rfl) rfl) (AT.cons (ET.gt (d := PyData.int 0) (et_kst (PyData.int 0)) rfl) AT.nil)) (q_ixP0 _ _ _)) rfl) (AT.cons (ET.gt (d := PyData.int y9) (et_nm 3 rfl) rfl) AT.nil)) (q_addI _ _))) (fun _ => rfl)) rfl (fun _ => rfl)) (fun later_16 => (next_n rfl))) (next_n rfl))) (fun s15 => (next_n rfl))))) (fun s8 => (seqR_r (sr_ret (E1 := fun _ => [.dat ((eP PyData.int (eT (eT PyData.int))) a0), .dat ((eT PyData.int) a1), .dat ((eT PyData.int) a2), .no, .own ((eL PyData.int) p6.1), .own ((eL PyData.int) s8), .no]) (ET.ek (k := (fun z : (List Int) => Rs.dat ((eT PyData.int) z))) (et_prim (AT.cons (ET.gt (d := (eL PyData.int) s8) (et_nm 5 rfl) rfl) AT.nil) (q_tupL _ _))) (fun _ => rfl) (fun _ => rfl)))))))
def F_law_walk (a0 : (Int × (List (List Int)))) (a1 : (List Int)) (a2 : (List Int)) : Rt (List (List Int)) := (Rt.bind (Rt.bind (Rt.bind (repF [(1 : Int)] (a0.2.length : Int)) (fun x1 => (catF a1 x1))) (fun x2 => (Rt.ok [x2]))) (fun found_3 => (Rt.bind (Rt.bind (Rt.ok a2) (fun l6 => foldR (fun (s4 : (List (List Int))) (y5 : Int) => (Rt.bind (Rt.bind (Rt.bind (ixF s4 (-(1 : Int))) (fun x7 => (F_law_round a0 x7 [y5]))) (fun x9 => addF s4 x9)) (fun found_8 => (Rt.ok found_8)))) l6 found_3)) (fun s4 : (List (List Int)) => (Rt.ok s4)))))
theorem t_law_walk (m : Nat) (a0 : (Int × (List (List Int)))) (a1 : (List Int)) (a2 : (List Int)) : CallK 3 (prg.run (m + 2) 36 [.dat ((eP PyData.int (eT (eT PyData.int))) a0), .dat ((eT PyData.int) a1), .dat ((eT PyData.int) a2)]) (F_law_walk a0 a1 a2) (fun z => Ro.fresh ((eL (eT PyData.int)) z)) := by
  rw [run_eq _ 36 d36 rfl, e36]
  unfold F_law_walk b36
  exact def_r rfl (seq1_r (E1 := fun found_3 => [.dat ((eP PyData.int (eT (eT PyData.int))) a0), .dat ((eT PyData.int) a1), .dat ((eT PyData.int) a2), .own ((eL (eT PyData.int)) found_3), .no]) (s1_set (ek_lst (k := (eL (eT PyData.int))) (AX.par (EK.gk (e := (eT PyData.int)) (ek_prim (AX.tot (ET.gt (d := (eT PyData.int) a1) (et_nm 1 rfl) rfl) (AX.par (EK.gk (e := (eT PyData.int)) (ek_prim (AX.tot (ET.gt (d := (eT PyData.int) [(1 : Int)]) (et_tup (AT.cons (ET.gt (d := PyData.int (1 : Int)) (et_kst (PyData.int 1)) rfl) AT.nil) (Nat.le_of_ble_eq_true rfl)) rfl) (AX.tot (ET.gt (d := PyData.int (a0.2.length : Int)) (et_prim (AT.cons (ET.gt (d := (eT (eT PyData.int)) a0.2) (et_prim (AT.cons (ET.gt (d := (eP PyData.int (eT (eT PyData.int))) a0) (et_nm 0 rfl) rfl) (AT.cons (ET.gt (d := PyData.int 1) (et_kst (PyData.int 1)) rfl) AT.nil)) (q_ixP1 _ _ _)) rfl) AT.nil) (q_lenT _ _)) rfl) (AX.nil (q_mulT _ _ _))))) (fun _ => rfl)) (fun x1 => (AX.nil (q_addT _ _ _)))))) (fun _ => rfl)) (fun x2 => (AX.nil ⟨_, rfl, rfl⟩))) (Nat.le_of_ble_eq_true rfl)) (fun _ => rfl)) (fun found_3 => (seq1_r (E1 := fun s4 : (List (List Int)) => [.dat ((eP PyData.int (eT (eT PyData.int))) a0), .dat ((eT PyData.int) a1), .dat ((eT PyData.int) a2), .own ((eL (eT PyData.int)) s4), .no]) (for_1 (E := fun s4 : (List (List Int)) => [.dat ((eP PyData.int (eT (eT PyData.int))) a0), .dat ((eT PyData.int) a1), .dat ((eT PyData.int) a2), .own ((eL (eT PyData.int)) s4), .no]) (G := fun (s4 : (List (List Int))) (y5 : Int) => [.dat ((eP PyData.int (eT (eT PyData.int))) a0), .dat ((eT PyData.int) a1), .dat ((eT PyData.int) a2), .own ((eL (eT PyData.int)) s4), .dat (PyData.int y5)]) (enc := PyData.int) found_3 (SK.fk (r1 := [.dat ((eP PyData.int (eT (eT PyData.int))) a0), .dat ((eT PyData.int) a1), .dat ((eT PyData.int) a2), .own ((eL (eT PyData.int)) found_3), .no]) (sk_T (a := a2) (enc := PyData.int) (et_nm 2 rfl) rfl rfl) rfl) rfl (fun _ _ => rfl) (fun s4 y5 => (seq1_n (E1 := fun found_8 => [.dat ((eP PyData.int (eT (eT PyData.int))) a0), .dat ((eT PyData.int) a1), .dat ((eT PyData.int) a2), .own ((eL (eT PyData.int)) found_8), .dat (PyData.int y5)]) (s1_app (EK.gk (e := (eT PyData.int)) (ek_call (k := fun z : (List Int) => Ro.dat ((eT PyData.int) z)) rfl rfl (AX.tot (ET.gt (et_nm 0 rfl) rfl) (AX.par (EK.gk (ek_prim (AX.tot (ET.gt (d := (eL (eT PyData.int)) s4) (et_nm 3 rfl) rfl) (AX.tot (ET.gt (d := PyData.int (-(1 : Int))) (et_prim (AT.cons (ET.gt (d := PyData.int (1 : Int)) (et_kst (PyData.int 1)) rfl) AT.nil) (q_neg _)) rfl) (AX.nil (q_ixL _ _ _))))) (fun _ => rfl)) (fun x7 => (AX.tot (ET.gt (et_tup (AT.cons (ET.gt (d := PyData.int y5) (et_nm 4 rfl) rfl) AT.nil) (Nat.le_of_ble_eq_true rfl)) rfl) (AX.nil (t_law_round m a0 x7 [y5]))))))) (fun _ => rfl)) rfl (fun _ => rfl)) (fun found_8 => (next_n rfl))))) (fun s4 => (seqR_r (sr_own (a := s4) (e := (eL (eT PyData.int))) (i := 3) rfl rfl))))))
def F_law_wrong (a0 : (Int × (List (List Int)))) (a1 : (List Int)) : Rt (Option ((List Int) × Int)) := (Rt.next (Rt.bind (F_law_bits a0.1) (fun l3 => foldB (fun (s1 : Unit) (y2 : (List Int)) => (Rt.bind (Rt.bind (Rt.bind (F_law_walk a0 y2 a1) (fun x4 => (ixF x4 (-(1 : Int))))) (fun x8 => (Rt.bind (F_law_end a0 y2) (fun x9 => (Rt.ok (x8, x9)))))) (fun p7 : (List Int) × (List Int) => (Rt.bind (Rt.bind (rg1 (p7.2.length : Int)) (fun l11 => lcF (fun y10 => (Rt.bind (ixF p7.1 y10) (fun x12 => (Rt.bind (ixF p7.2 y10) (fun x13 => (Rt.ok (decide (x12 ≠ x13)))))))) (fun y10 => (Rt.ok y10)) l11)) (fun some_14 => (Rt.bind (Rt.ok (decide (some_14 ≠ ([] : (List Int))))) (fun c15 => if c15 then (Rt.bind (Rt.bind (Rt.bind (ixF some_14 (0 : Int)) (fun x16 => (Rt.ok (y2, x16)))) (fun x17 => Rt.ok (some x17))) (fun v18 => Rt.ok (Lp.out v18))) else (Rt.ok (Lp.go ()))))))))) l3 ())) (fun s1 : Unit => (Rt.ok (none : (Option ((List Int) × Int))))) Rt.ok)
theorem t_law_wrong (m : Nat) (a0 : (Int × (List (List Int)))) (a1 : (List Int)) : CallK 2 (prg.run (m + 3) 37 [.dat ((eP PyData.int (eT (eT PyData.int))) a0), .dat ((eT PyData.int) a1)]) (F_law_wrong a0 a1) (fun z => Ro.dat ((eO (eP (eT PyData.int) PyData.int)) z)) := by
  rw [run_eq _ 37 d37 rfl, e37]
  unfold F_law_wrong b37
  exact def_r rfl (seqB_r (E1 := fun s1 : Unit => [.dat ((eP PyData.int (eT (eT PyData.int))) a0), .dat ((eT PyData.int) a1), .no, .no, .no, .no, .no]) (for_b (E := fun s1 : Unit => [.dat ((eP PyData.int (eT (eT PyData.int))) a0), .dat ((eT PyData.int) a1), .no, .no, .no, .no, .no]) (G := fun (s1 : Unit) (y2 : (List Int)) => [.dat ((eP PyData.int (eT (eT PyData.int))) a0), .dat ((eT PyData.int) a1), .dat ((eT PyData.int) y2), .no, .no, .no, .no]) (enc := (eT PyData.int)) () (SK.fk (r1 := [.dat ((eP PyData.int (eT (eT PyData.int))) a0), .dat ((eT PyData.int) a1), .no, .no, .no, .no, .no]) (sk_C (d := (eL (eT PyData.int))) (ek_call (k := fun z : (List (List Int)) => Ro.fresh ((eL (eT PyData.int)) z)) rfl rfl (AX.tot (ET.gt (et_prim (AT.cons (ET.gt (d := (eP PyData.int (eT (eT PyData.int))) a0) (et_nm 0 rfl) rfl) (AT.cons (ET.gt (d := PyData.int 0) (et_kst (PyData.int 0)) rfl) AT.nil)) (q_ixP0 _ _ _)) rfl) (AX.nil (t_law_bits (m + 1) a0.1)))) (fun _ => rfl) (fun _ => rfl)) rfl) rfl (fun _ _ => rfl) (fun s1 y2 => (seq1_b (E1 := fun p7 : (List Int) × (List Int) => [.dat ((eP PyData.int (eT (eT PyData.int))) a0), .dat ((eT PyData.int) a1), .dat ((eT PyData.int) y2), .no, .dat ((eT PyData.int) p7.1), .dat ((eT PyData.int) p7.2), .no]) (s1_sets (AX.par (EK.gk (ek_prim (AX.par (EK.gk (e := (eL (eT PyData.int))) (ek_call (k := fun z : (List (List Int)) => Ro.fresh ((eL (eT PyData.int)) z)) rfl rfl (AX.tot (ET.gt (et_nm 0 rfl) rfl) (AX.tot (ET.gt (et_nm 2 rfl) rfl) (AX.tot (ET.gt (et_nm 1 rfl) rfl) (AX.nil (t_law_walk m a0 y2 a1)))))) (fun _ => rfl)) (fun x4 => (AX.tot (ET.gt (d := PyData.int (-(1 : Int))) (et_prim (AT.cons (ET.gt (d := PyData.int (1 : Int)) (et_kst (PyData.int 1)) rfl) AT.nil) (q_neg _)) rfl) (AX.nil (q_ixL _ _ _)))))) (fun _ => rfl)) (fun x8 => (AX.par (EK.gk (ek_call (k := fun z : (List Int) => Ro.dat ((eT PyData.int) z)) rfl rfl (AX.tot (ET.gt (et_nm 0 rfl) rfl) (AX.tot (ET.gt (et_nm 2 rfl) rfl) (AX.nil (t_law_end (m + 1) a0 y2))))) (fun _ => rfl)) (fun x9 => (AX.nil ⟨(x8, x9), rfl, rfl⟩)))))) (fun p7 => (seq1_b (E1 := fun some_14 => [.dat ((eP PyData.int (eT (eT PyData.int))) a0), .dat ((eT PyData.int) a1), .dat ((eT PyData.int) y2), .own ((eL PyData.int) some_14), .dat ((eT PyData.int) p7.1), .dat ((eT PyData.int) p7.2), .no]) (s1_set (ek_lc (q := [.dat ((eP PyData.int (eT (eT PyData.int))) a0), .dat ((eT PyData.int) a1), .dat ((eT PyData.int) y2), .no, .dat ((eT PyData.int) p7.1), .dat ((eT PyData.int) p7.2), .no]) (ρ := fun y10 => [.dat ((eP PyData.int (eT (eT PyData.int))) a0), .dat ((eT PyData.int) a1), .dat ((eT PyData.int) y2), .no, .dat ((eT PyData.int) p7.1), .dat ((eT PyData.int) p7.2), .dat (PyData.int y10)]) (enc := PyData.int) (eg := PyData.int) (sk_R (AX.tot (ET.gt (d := PyData.int (p7.2.length : Int)) (et_prim (AT.cons (ET.gt (d := (eT PyData.int) p7.2) (et_nm 5 rfl) rfl) AT.nil) (q_lenT _ _)) rfl) (AX.nil ⟨[(p7.2.length : Int)], rfl, rgis1 _ ⟩))) rfl rfl (fun _ => rfl) (fun _ => rfl) (fun y10 => (tk_tst (ek_prim (AX.par (EK.gk (e := PyData.int) (ek_prim (AX.tot (ET.gt (d := (eT PyData.int) p7.1) (et_nm 4 rfl) rfl) (AX.tot (ET.gt (d := PyData.int y10) (et_nm 6 rfl) rfl) (AX.nil (q_ixT _ _ _))))) (fun _ => rfl)) (fun x12 => (AX.par (EK.gk (e := PyData.int) (ek_prim (AX.tot (ET.gt (d := (eT PyData.int) p7.2) (et_nm 5 rfl) rfl) (AX.tot (ET.gt (d := PyData.int y10) (et_nm 6 rfl) rfl) (AX.nil (q_ixT _ _ _))))) (fun _ => rfl)) (fun x13 => (AX.nil (OpT.k (k := fun z : Bool => Rs.dat (PyData.bool z)) (q_ne gd_int (by decide) _ _)))))))))) (fun y10 => (EK.gk (e := PyData.int) (ET.ek (k := (fun z : Int => Rs.dat (PyData.int z))) (et_nm 6 rfl)) (fun _ => rfl)))) (fun _ => rfl)) (fun some_14 => (gd_b (TT.tk (tt_tst (et_prim (AT.cons (ET.gt (d := (eL PyData.int) some_14) (et_nm 3 rfl) rfl) (AT.cons (ET.gt (d := (eL PyData.int) ([] : (List Int))) (et_lst AT.nil (Nat.le_of_ble_eq_true rfl)) rfl) AT.nil)) (q_ne (gd_L gd_int) (by decide) _ _)))) (seqR_r (sr_ret (E1 := fun _ => [.dat ((eP PyData.int (eT (eT PyData.int))) a0), .dat ((eT PyData.int) a1), .dat ((eT PyData.int) y2), .own ((eL PyData.int) some_14), .dat ((eT PyData.int) p7.1), .dat ((eT PyData.int) p7.2), .no]) (ek_some (ek_tup (k := (eP (eT PyData.int) PyData.int)) (AX.tot (ET.gt (d := (eT PyData.int) y2) (et_nm 2 rfl) rfl) (AX.par (EK.gk (e := PyData.int) (ek_prim (AX.tot (ET.gt (d := (eL PyData.int) some_14) (et_nm 3 rfl) rfl) (AX.tot (ET.gt (d := PyData.int (0 : Int)) (et_kst (PyData.int 0)) rfl) (AX.nil (q_ixL _ _ _))))) (fun _ => rfl)) (fun x16 => (AX.nil ⟨_, rfl, rfl⟩)))) (Nat.le_of_ble_eq_true rfl))) (fun _ => rfl) (fun _ => rfl))) (next_b rfl)))))))) (fun s1 => (seqR_r (sr_ret (E1 := fun _ => [.dat ((eP PyData.int (eT (eT PyData.int))) a0), .dat ((eT PyData.int) a1), .no, .no, .no, .no, .no]) (ET.ek (k := (fun z : (Option ((List Int) × Int)) => Rs.dat ((eO (eP (eT PyData.int) PyData.int)) z))) (et_kst PyData.none)) (fun _ => rfl) (fun _ => rfl)))))
def F_law (a0 : (List Int)) : Rt Bool := (Rt.bind (Rt.ok (Row.mk a0 (0 : Int) (10307 : Int) (0 : Int))) (fun w1 => (Rt.bind (Rt.nox (F_law_net w1 (3 : Int))) (fun net_here_2 => (Rt.bind (Rt.bind (Rt.ok (decide ((5 : Int) < ((net_here_2.1.2.length : Int) + net_here_2.1.1)))) (fun c3 => if c3 then (Rt.ok ((if (2 : Int) < net_here_2.1.1 then (2 : Int) else net_here_2.1.1), ([] : (List (List Int))))) else (Rt.ok net_here_2.1))) (fun net_here_4 => (Rt.bind (Rt.ok ((net_here_4.1 + (net_here_4.2.length : Int)), [([] : (List Int))])) (fun p7 : Int × (List (List Int)) => (Rt.bind (Rt.bind (rg1 p7.1) (fun l10 => foldR (fun (s8 : (List (List Int))) (y9 : Int) => (Rt.bind (Rt.ok ([] : (List (List Int)))) (fun longer_11 => (Rt.bind (Rt.bind (Rt.ok s8) (fun l14 => foldR (fun (s12 : (List (List Int))) (y13 : (List Int)) => (Rt.bind (Rt.bind (Rt.bind (rg1 p7.1) (fun l16 => lcF (fun y15 => (Rt.ok (decide (y15 ∉ y13)))) (fun y15 => (catF y13 [y15])) l16)) (fun x17 => (catF s12 x17))) (fun longer_18 => (Rt.ok longer_18)))) l14 longer_11)) (fun s12 : (List (List Int)) => (Rt.ok s12)))))) l10 p7.2)) (fun s8 : (List (List Int)) => (Rt.bind (Rt.bind (Rt.ok s8) (fun l20 => lcF (fun y19 => (Rt.bind (F_law_wrong net_here_4 y19) (fun x21 => (Rt.ok x21.isNone)))) (fun y19 => (Rt.ok y19)) l20)) (fun good_22 => (Rt.bind (Rt.bind (Rt.ok s8) (fun l24 => lcF (fun y23 => (Rt.bind (Rt.bind (rg1 p7.1) (fun l26 => lcF (fun y25 => (Rt.bind (Rt.bind (ixF y23 y25) (fun x27 => (Rt.ok (decide (net_here_4.1 ≤ x27))))) (fun c33 => if c33 then (Rt.bind (Rt.bind (Rt.bind (Rt.bind (ixF y23 y25) (fun x28 => (Rt.ok (x28 - net_here_4.1)))) (fun x29 => (ixF net_here_4.2 x29))) (fun l31 => lcF (fun y30 => (Rt.ok (decide (y30 ∈ (cutL y23 (some y25) none))))) (fun y30 => (Rt.ok y30)) l31)) (fun x32 => (Rt.ok (decide (x32 ≠ ([] : (List Int))))))) else Rt.ok false))) (fun y25 => (Rt.ok y25)) l26)) (fun x34 => (Rt.ok (decide (x34 = ([] : (List Int)))))))) (fun y23 => (Rt.ok y23)) l24)) (fun kind_35 => (Rt.bind (Rt.bind (Rt.bind (Rt.bind (F_right_orders net_here_4) (fun x36 => (Rt.gd ((szL (szL szA)) good_22) (decide (x36 = good_22))))) (fun c37 => Rt.ok (!c37))) (fun c40 => if c40 then Rt.ok true else (Rt.bind (Rt.bind (F_count_right_orders net_here_4) (fun x38 => (Rt.gd (szA (good_22.length : Int)) (decide (x38 = (good_22.length : Int)))))) (fun c39 => Rt.ok (!c39))))) (fun c41 => if c41 then (Rt.ok false) else (Rt.bind (Rt.bind (Rt.bind (Rt.bind (F_friendly_orders net_here_4) (fun x42 => (Rt.gd ((szL (szL szA)) kind_35) (decide (x42 = kind_35))))) (fun c43 => Rt.ok (!c43))) (fun c46 => if c46 then Rt.ok true else (Rt.bind (Rt.bind (F_count_friendly net_here_4) (fun x44 => (Rt.gd (szA (kind_35.length : Int)) (decide (x44 = (kind_35.length : Int)))))) (fun c45 => Rt.ok (!c45))))) (fun c47 => if c47 then (Rt.ok false) else (Rt.bind (Rt.bind (Rt.bind (F_lucky_orders net_here_4) (fun x50 => (Rt.bind (Rt.bind (Rt.ok good_22) (fun l49 => lcF (fun y48 => (Rt.ok (!memB y48 kind_35))) (fun y48 => (Rt.ok y48)) l49)) (fun x51 => (Rt.gd ((szL (szL szA)) x51) (decide (x50 = x51))))))) (fun c52 => Rt.ok (!c52))) (fun c53 => if c53 then (Rt.ok false) else (Rt.bind (Rt.bind (Rt.bind (Rt.ok kind_35) (fun l55 => lcF (fun y54 => (Rt.ok (!memB y54 good_22))) (fun y54 => (Rt.ok y54)) l55)) (fun x56 => (Rt.ok (decide (x56 ≠ ([] : (List (List Int)))))))) (fun c57 => if c57 then (Rt.ok false) else (Rt.bind (Rt.ok ([] : (List (Int × Int)))) (fun due_58 => (Rt.bind (Rt.bind (rg1 p7.1) (fun l61 => foldR (fun (s59 : (List (Int × Int))) (y60 : Int) => (Rt.bind (Rt.bind (Rt.bind (rg1 p7.1) (fun l63 => lcF (fun y62 => (Rt.bind (Rt.ok (decide (y60 ≠ y62))) (fun c73 => if c73 then (Rt.bind (Rt.bind (Rt.ok good_22) (fun l65 => lcF (fun y64 => (Rt.bind (Rt.bind (Rt.ok y64) (fun x66 => Rt.bind (Rt.ok y60) (fun x67 => idxI x66 x67))) (fun x70 => (Rt.bind (Rt.bind (Rt.ok y64) (fun x68 => Rt.bind (Rt.ok y62) (fun x69 => idxI x68 x69))) (fun x71 => (Rt.ok (decide (x71 < x70)))))))) (fun y64 => (Rt.ok y64)) l65)) (fun x72 => (Rt.ok (decide (x72 = ([] : (List (List Int)))))))) else Rt.ok false))) (fun y62 => (Rt.ok (y60, y62))) l63)) (fun x74 => (catF s59 x74))) (fun due_75 => (Rt.ok due_75)))) l61 due_58)) (fun s59 : (List (Int × Int)) => (Rt.bind (Rt.bind (Rt.bind (F_always_ahead net_here_4) (fun x76 => (Rt.gd ((szL (szP szA szA)) s59) (decide (x76 = s59))))) (fun c77 => Rt.ok (!c77))) (fun c78 => if c78 then (Rt.ok false) else (Rt.bind (Rt.nox (F_law_order net_here_2.2 p7.1)) (fun calls_79 => (Rt.bind (Rt.bind (Rt.bind (F_order_breaks net_here_4 calls_79.1) (fun x80 => (Rt.bind (F_law_wrong net_here_4 calls_79.1) (fun x81 => (Rt.gd ((szO (szP (szL szA) szA)) x81) (decide (x80 = x81))))))) (fun c82 => Rt.ok (!c82))) (fun c83 => if c83 then (Rt.ok false) else (Rt.bind (Rt.bind (Rt.bind (F_is_right_order net_here_4 calls_79.1) (fun x84 => (Rt.gd (szA (memB calls_79.1 good_22)) (decide (x84 = (memB calls_79.1 good_22)))))) (fun c85 => Rt.ok (!c85))) (fun c86 => if c86 then (Rt.ok false) else (Rt.bind (F_by_friends net_here_4 calls_79.1) (fun x87 => (Rt.gd (szA (memB calls_79.1 kind_35)) (decide (x87 = (memB calls_79.1 kind_35))))))))))))))))))))))))))))))))))))))))
theorem t_law (m : Nat) (a0 : (List Int)) : CallK 1 (prg.run (m + 8) 38 [.dat ((eL PyData.int) a0)]) (F_law a0) (fun z => Ro.dat (PyData.bool z)) := by
  rw [run_eq _ 38 d38 rfl, e38]
  unfold F_law b38
  exact def_r rfl (seq1_r (E1 := fun w1 => [.dat ((eL PyData.int) a0), .own (eRow w1), .no, .no, .no, .no, .no, .no, .no, .no, .no, .no, .no, .no, .no]) (s1_set (ET.ek (a := (Row.mk a0 (0 : Int) (10307 : Int) (0 : Int))) (k := fun z : Row => Rs.fresh (eRow z)) (et_lst (AT.cons (ET.gt (et_nm 0 rfl) rfl) (AT.cons (ET.gt (et_kst (PyData.int 0)) rfl) (AT.cons (ET.gt (et_kst (PyData.int 10307)) rfl) (AT.cons (ET.gt (et_kst (PyData.int 0)) rfl) AT.nil)))) (Nat.le_of_ble_eq_true rfl))) (fun _ => rfl)) (fun w1 => (seq1_r (E1 := fun net_here_2 => [.dat ((eL PyData.int) a0), .own (eRow net_here_2.2), .dat ((eP PyData.int (eT (eT PyData.int))) net_here_2.1), .no, .no, .no, .no, .no, .no, .no, .no, .no, .no, .no, .no]) (s1_setS (es_call0 (E := fun ww : Row => [.dat ((eL PyData.int) a0), .own (eRow ww), .no, .no, .no, .no, .no, .no, .no, .no, .no, .no, .no, .no, .no]) (s := w1) (k := fun z : (Int × (List (List Int))) => Ro.dat ((eP PyData.int (eT (eT PyData.int))) z)) (es := eRow) rfl rfl (fun _ => rfl) (fun _ => rfl) (fun _ _ => rfl) (AW.tot (gts_of (fun ww => (et_kst (PyData.int 3))) (fun _ => rfl)) (AW.nil (t_law_net (m + 5) w1 (3 : Int))))) (fun _ _ => rfl)) (fun net_here_2 => (seq1_r (E1 := fun net_here_4 => [.dat ((eL PyData.int) a0), .own (eRow net_here_2.2), .dat ((eP PyData.int (eT (eT PyData.int))) net_here_4), .no, .no, .no, .no, .no, .no, .no, .no, .no, .no, .no, .no]) (s1_set (ek_cond (TT.tk (tt_tst (et_prim (AT.cons (ET.gt (d := PyData.int ((net_here_2.1.2.length : Int) + net_here_2.1.1)) (et_prim (AT.cons (ET.gt (d := PyData.int (net_here_2.1.2.length : Int)) (et_prim (AT.cons (ET.gt (d := (eT (eT PyData.int)) net_here_2.1.2) (et_prim (AT.cons (ET.gt (d := (eP PyData.int (eT (eT PyData.int))) net_here_2.1) (et_nm 2 rfl) rfl) (AT.cons (ET.gt (d := PyData.int 1) (et_kst (PyData.int 1)) rfl) AT.nil)) (q_ixP1 _ _ _)) rfl) AT.nil) (q_lenT _ _)) rfl) (AT.cons (ET.gt (d := PyData.int net_here_2.1.1) (et_prim (AT.cons (ET.gt (d := (eP PyData.int (eT (eT PyData.int))) net_here_2.1) (et_nm 2 rfl) rfl) (AT.cons (ET.gt (d := PyData.int 0) (et_kst (PyData.int 0)) rfl) AT.nil)) (q_ixP0 _ _ _)) rfl) AT.nil)) (q_addI _ _)) rfl) (AT.cons (ET.gt (d := PyData.int (5 : Int)) (et_kst (PyData.int 5)) rfl) AT.nil)) (q_gt _ _)))) (ET.ek (k := (fun z : (Int × (List (List Int))) => Rs.dat ((eP PyData.int (eT (eT PyData.int))) z))) (et_tup (AT.cons (ET.gt (d := PyData.int (if (2 : Int) < net_here_2.1.1 then (2 : Int) else net_here_2.1.1)) (et_prim (AT.cons (ET.gt (d := PyData.int net_here_2.1.1) (et_prim (AT.cons (ET.gt (d := (eP PyData.int (eT (eT PyData.int))) net_here_2.1) (et_nm 2 rfl) rfl) (AT.cons (ET.gt (d := PyData.int 0) (et_kst (PyData.int 0)) rfl) AT.nil)) (q_ixP0 _ _ _)) rfl) (AT.cons (ET.gt (d := PyData.int (2 : Int)) (et_kst (PyData.int 2)) rfl) AT.nil)) (q_min2 _ _)) rfl) (AT.cons (ET.gt (d := (eT (eT PyData.int)) ([] : (List (List Int)))) (et_tup AT.nil (Nat.le_of_ble_eq_true rfl)) rfl) AT.nil)) (Nat.le_of_ble_eq_true rfl))) (ET.ek (k := (fun z : (Int × (List (List Int))) => Rs.dat ((eP PyData.int (eT (eT PyData.int))) z))) (et_nm 2 rfl))) (fun _ => rfl)) (fun net_here_4 => (seq1_r (E1 := fun p7 : Int × (List (List Int)) => [.dat ((eL PyData.int) a0), .own (eRow net_here_2.2), .dat ((eP PyData.int (eT (eT PyData.int))) net_here_4), .no, .no, .no, .no, .no, .no, .dat (PyData.int p7.1), .own ((eL (eT PyData.int)) p7.2), .no, .no, .no, .no]) (s1_sets (AX.tot (ET.gt (et_prim (AT.cons (ET.gt (d := PyData.int net_here_4.1) (et_prim (AT.cons (ET.gt (d := (eP PyData.int (eT (eT PyData.int))) net_here_4) (et_nm 2 rfl) rfl) (AT.cons (ET.gt (d := PyData.int 0) (et_kst (PyData.int 0)) rfl) AT.nil)) (q_ixP0 _ _ _)) rfl) (AT.cons (ET.gt (d := PyData.int (net_here_4.2.length : Int)) (et_prim (AT.cons (ET.gt (d := (eT (eT PyData.int)) net_here_4.2) (et_prim (AT.cons (ET.gt (d := (eP PyData.int (eT (eT PyData.int))) net_here_4) (et_nm 2 rfl) rfl) (AT.cons (ET.gt (d := PyData.int 1) (et_kst (PyData.int 1)) rfl) AT.nil)) (q_ixP1 _ _ _)) rfl) AT.nil) (q_lenT _ _)) rfl) AT.nil)) (q_addI _ _)) rfl) (AX.tot (ET.gt (et_lst (AT.cons (ET.gt (d := (eT PyData.int) ([] : (List Int))) (et_tup AT.nil (Nat.le_of_ble_eq_true rfl)) rfl) AT.nil) (Nat.le_of_ble_eq_true rfl)) rfl) (AX.nil ⟨((net_here_4.1 + (net_here_4.2.length : Int)), [([] : (List Int))]), rfl, rfl⟩)))) (fun p7 => (seq1_r (E1 := fun s8 : (List (List Int)) => [.dat ((eL PyData.int) a0), .own (eRow net_here_2.2), .dat ((eP PyData.int (eT (eT PyData.int))) net_here_4), .no, .no, .no, .no, .no, .no, .dat (PyData.int p7.1), .own ((eL (eT PyData.int)) s8), .no, .no, .no, .no]) (for_1 (E := fun s8 : (List (List Int)) => [.dat ((eL PyData.int) a0), .own (eRow net_here_2.2), .dat ((eP PyData.int (eT (eT PyData.int))) net_here_4), .no, .no, .no, .no, .no, .no, .dat (PyData.int p7.1), .own ((eL (eT PyData.int)) s8), .no, .no, .no, .no]) (G := fun (s8 : (List (List Int))) (y9 : Int) => [.dat ((eL PyData.int) a0), .own (eRow net_here_2.2), .dat ((eP PyData.int (eT (eT PyData.int))) net_here_4), .dat (PyData.int y9), .no, .no, .no, .no, .no, .dat (PyData.int p7.1), .own ((eL (eT PyData.int)) s8), .no, .no, .no, .no]) (enc := PyData.int) p7.2 (SK.fk (r1 := [.dat ((eL PyData.int) a0), .own (eRow net_here_2.2), .dat ((eP PyData.int (eT (eT PyData.int))) net_here_4), .no, .no, .no, .no, .no, .no, .dat (PyData.int p7.1), .own ((eL (eT PyData.int)) p7.2), .no, .no, .no, .no]) (sk_R (AX.tot (ET.gt (d := PyData.int p7.1) (et_nm 9 rfl) rfl) (AX.nil ⟨[p7.1], rfl, rgis1 _ ⟩))) rfl) rfl (fun _ _ => rfl) (fun s8 y9 => (seq1_n (E1 := fun longer_11 => [.dat ((eL PyData.int) a0), .own (eRow net_here_2.2), .dat ((eP PyData.int (eT (eT PyData.int))) net_here_4), .dat (PyData.int y9), .no, .no, .no, .no, .no, .dat (PyData.int p7.1), .own ((eL (eT PyData.int)) s8), .own ((eL (eT PyData.int)) longer_11), .no, .no, .no]) (s1_set (ET.ek (k := (fun z : (List (List Int)) => Rs.fresh ((eL (eT PyData.int)) z))) (et_lst AT.nil (Nat.le_of_ble_eq_true rfl))) (fun _ => rfl)) (fun longer_11 => (seq1_n (E1 := fun s12 : (List (List Int)) => [.dat ((eL PyData.int) a0), .own (eRow net_here_2.2), .dat ((eP PyData.int (eT (eT PyData.int))) net_here_4), .dat (PyData.int y9), .no, .no, .no, .no, .no, .dat (PyData.int p7.1), .dat ((eL (eT PyData.int)) s8), .own ((eL (eT PyData.int)) s12), .no, .no, .no]) (for_1 (E := fun s12 : (List (List Int)) => [.dat ((eL PyData.int) a0), .own (eRow net_here_2.2), .dat ((eP PyData.int (eT (eT PyData.int))) net_here_4), .dat (PyData.int y9), .no, .no, .no, .no, .no, .dat (PyData.int p7.1), .dat ((eL (eT PyData.int)) s8), .own ((eL (eT PyData.int)) s12), .no, .no, .no]) (G := fun (s12 : (List (List Int))) (y13 : (List Int)) => [.dat ((eL PyData.int) a0), .own (eRow net_here_2.2), .dat ((eP PyData.int (eT (eT PyData.int))) net_here_4), .dat (PyData.int y9), .no, .no, .no, .no, .dat ((eT PyData.int) y13), .dat (PyData.int p7.1), .dat ((eL (eT PyData.int)) s8), .own ((eL (eT PyData.int)) s12), .no, .no, .no]) (enc := (eT PyData.int)) longer_11 (SK.fk (r1 := [.dat ((eL PyData.int) a0), .own (eRow net_here_2.2), .dat ((eP PyData.int (eT (eT PyData.int))) net_here_4), .dat (PyData.int y9), .no, .no, .no, .no, .no, .dat (PyData.int p7.1), .dat ((eL (eT PyData.int)) s8), .own ((eL (eT PyData.int)) longer_11), .no, .no, .no]) (sk_T (a := s8) (enc := (eT PyData.int)) (et_nm 10 rfl) rfl rfl) rfl) rfl (fun _ _ => rfl) (fun s12 y13 => (seq1_n (E1 := fun longer_18 => [.dat ((eL PyData.int) a0), .own (eRow net_here_2.2), .dat ((eP PyData.int (eT (eT PyData.int))) net_here_4), .dat (PyData.int y9), .no, .no, .no, .no, .dat ((eT PyData.int) y13), .dat (PyData.int p7.1), .dat ((eL (eT PyData.int)) s8), .own ((eL (eT PyData.int)) longer_18), .no, .no, .no]) (s1_set (ek_prim (AX.tot (ET.gt (d := (eL (eT PyData.int)) s12) (et_nm 11 rfl) rfl) (AX.par (EK.gk (e := (eL (eT PyData.int))) (ek_lc (q := [.dat ((eL PyData.int) a0), .own (eRow net_here_2.2), .dat ((eP PyData.int (eT (eT PyData.int))) net_here_4), .dat (PyData.int y9), .no, .no, .no, .no, .dat ((eT PyData.int) y13), .dat (PyData.int p7.1), .dat ((eL (eT PyData.int)) s8), .own ((eL (eT PyData.int)) s12), .no, .no, .no]) (ρ := fun y15 => [.dat ((eL PyData.int) a0), .own (eRow net_here_2.2), .dat ((eP PyData.int (eT (eT PyData.int))) net_here_4), .dat (PyData.int y9), .no, .no, .no, .no, .dat ((eT PyData.int) y13), .dat (PyData.int p7.1), .dat ((eL (eT PyData.int)) s8), .own ((eL (eT PyData.int)) s12), .no, .dat (PyData.int y15), .no]) (enc := PyData.int) (eg := (eT PyData.int)) (sk_R (AX.tot (ET.gt (d := PyData.int p7.1) (et_nm 9 rfl) rfl) (AX.nil ⟨[p7.1], rfl, rgis1 _ ⟩))) rfl rfl (fun _ => rfl) (fun _ => rfl) (fun y15 => (TT.tk (tt_tst (et_prim (AT.cons (ET.gt (d := PyData.int y15) (et_nm 13 rfl) rfl) (AT.cons (ET.gt (d := (eT PyData.int) y13) (et_nm 8 rfl) rfl) AT.nil)) (q_ninT gd_int (by decide) _ _))))) (fun y15 => (EK.gk (e := (eT PyData.int)) (ek_prim (AX.tot (ET.gt (d := (eT PyData.int) y13) (et_nm 8 rfl) rfl) (AX.tot (ET.gt (d := (eT PyData.int) [y15]) (et_tup (AT.cons (ET.gt (d := PyData.int y15) (et_nm 13 rfl) rfl) AT.nil) (Nat.le_of_ble_eq_true rfl)) rfl) (AX.nil (q_addT _ _ _))))) (fun _ => rfl)))) (fun _ => rfl)) (fun x17 => (AX.nil (q_addL _ _ _)))))) (fun _ => rfl)) (fun longer_18 => (next_n rfl))))) (fun s12 => (seqT_n (r1 := [.dat ((eL PyData.int) a0), .own (eRow net_here_2.2), .dat ((eP PyData.int (eT (eT PyData.int))) net_here_4), .dat (PyData.int y9), .no, .no, .no, .no, .no, .dat (PyData.int p7.1), .own ((eL (eT PyData.int)) s12), .no, .no, .no, .no]) (st_mv_own rfl rfl) (next_n rfl)))))))) (fun s8 => (seq1_r (E1 := fun good_22 => [.dat ((eL PyData.int) a0), .own (eRow net_here_2.2), .dat ((eP PyData.int (eT (eT PyData.int))) net_here_4), .no, .own ((eL (eT PyData.int)) good_22), .no, .no, .no, .no, .dat (PyData.int p7.1), .own ((eL (eT PyData.int)) s8), .no, .no, .no, .no]) (s1_set (ek_lc (q := [.dat ((eL PyData.int) a0), .own (eRow net_here_2.2), .dat ((eP PyData.int (eT (eT PyData.int))) net_here_4), .no, .no, .no, .no, .no, .no, .dat (PyData.int p7.1), .bor ((eL (eT PyData.int)) s8), .no, .no, .no, .no]) (ρ := fun y19 => [.dat ((eL PyData.int) a0), .own (eRow net_here_2.2), .dat ((eP PyData.int (eT (eT PyData.int))) net_here_4), .no, .no, .no, .no, .no, .dat ((eT PyData.int) y19), .dat (PyData.int p7.1), .bor ((eL (eT PyData.int)) s8), .no, .no, .no, .no]) (enc := (eT PyData.int)) (eg := (eT PyData.int)) (sk_T (a := s8) (enc := (eT PyData.int)) (et_nm 10 rfl) rfl rfl) rfl rfl (fun _ => rfl) (fun _ => rfl) (fun y19 => (tk_tst (ek_prim (AX.par (EK.gk (e := (eO (eP (eT PyData.int) PyData.int))) (ek_call (k := fun z : (Option ((List Int) × Int)) => Ro.dat ((eO (eP (eT PyData.int) PyData.int)) z)) rfl rfl (AX.tot (ET.gt (et_nm 2 rfl) rfl) (AX.tot (ET.gt (et_nm 8 rfl) rfl) (AX.nil (t_law_wrong (m + 4) net_here_4 y19))))) (fun _ => rfl)) (fun x21 => (AX.tot (ET.gt (d := eU ()) (et_kst PyData.none) rfl) (AX.nil (OpT.k (k := fun z : Bool => Rs.dat (PyData.bool z)) (q_isNO (fun _ => rfl) _))))))))) (fun y19 => (EK.gk (e := (eT PyData.int)) (ET.ek (k := (fun z : (List Int) => Rs.dat ((eT PyData.int) z))) (et_nm 8 rfl)) (fun _ => rfl)))) (fun _ => rfl)) (fun good_22 => (seq1_r (E1 := fun kind_35 => [.dat ((eL PyData.int) a0), .own (eRow net_here_2.2), .dat ((eP PyData.int (eT (eT PyData.int))) net_here_4), .no, .own ((eL (eT PyData.int)) good_22), .own ((eL (eT PyData.int)) kind_35), .no, .no, .no, .dat (PyData.int p7.1), .own ((eL (eT PyData.int)) s8), .no, .no, .no, .no]) (s1_set (ek_lc (q := [.dat ((eL PyData.int) a0), .own (eRow net_here_2.2), .dat ((eP PyData.int (eT (eT PyData.int))) net_here_4), .no, .own ((eL (eT PyData.int)) good_22), .no, .no, .no, .no, .dat (PyData.int p7.1), .bor ((eL (eT PyData.int)) s8), .no, .no, .no, .no]) (ρ := fun y23 => [.dat ((eL PyData.int) a0), .own (eRow net_here_2.2), .dat ((eP PyData.int (eT (eT PyData.int))) net_here_4), .no, .own ((eL (eT PyData.int)) good_22), .no, .no, .no, .dat ((eT PyData.int) y23), .dat (PyData.int p7.1), .bor ((eL (eT PyData.int)) s8), .no, .no, .no, .no]) (enc := (eT PyData.int)) (eg := (eT PyData.int)) (sk_T (a := s8) (enc := (eT PyData.int)) (et_nm 10 rfl) rfl rfl) rfl rfl (fun _ => rfl) (fun _ => rfl) (fun y23 => (tk_tst (ek_prim (AX.par (EK.gk (e := (eL PyData.int)) (ek_lc (q := [.dat ((eL PyData.int) a0), .own (eRow net_here_2.2), .dat ((eP PyData.int (eT (eT PyData.int))) net_here_4), .no, .own ((eL (eT PyData.int)) good_22), .no, .no, .no, .dat ((eT PyData.int) y23), .dat (PyData.int p7.1), .bor ((eL (eT PyData.int)) s8), .no, .no, .no, .no]) (ρ := fun y25 => [.dat ((eL PyData.int) a0), .own (eRow net_here_2.2), .dat ((eP PyData.int (eT (eT PyData.int))) net_here_4), .no, .own ((eL (eT PyData.int)) good_22), .no, .no, .no, .dat ((eT PyData.int) y23), .dat (PyData.int p7.1), .bor ((eL (eT PyData.int)) s8), .no, .no, .no, .dat (PyData.int y25)]) (enc := PyData.int) (eg := PyData.int) (sk_R (AX.tot (ET.gt (d := PyData.int p7.1) (et_nm 9 rfl) rfl) (AX.nil ⟨[p7.1], rfl, rgis1 _ ⟩))) rfl rfl (fun _ => rfl) (fun _ => rfl) (fun y25 => (tk_and (tk_tst (ek_prim (AX.par (EK.gk (e := PyData.int) (ek_prim (AX.tot (ET.gt (d := (eT PyData.int) y23) (et_nm 8 rfl) rfl) (AX.tot (ET.gt (d := PyData.int y25) (et_nm 14 rfl) rfl) (AX.nil (q_ixT _ _ _))))) (fun _ => rfl)) (fun x27 => (AX.tot (ET.gt (d := PyData.int net_here_4.1) (et_prim (AT.cons (ET.gt (d := (eP PyData.int (eT (eT PyData.int))) net_here_4) (et_nm 2 rfl) rfl) (AT.cons (ET.gt (d := PyData.int 0) (et_kst (PyData.int 0)) rfl) AT.nil)) (q_ixP0 _ _ _)) rfl) (AX.nil (OpT.k (k := fun z : Bool => Rs.dat (PyData.bool z)) (q_ge _ _)))))))) (tk_tst (ek_prim (AX.par (EK.gk (e := (eL PyData.int)) (ek_lc (q := [.dat ((eL PyData.int) a0), .own (eRow net_here_2.2), .dat ((eP PyData.int (eT (eT PyData.int))) net_here_4), .no, .own ((eL (eT PyData.int)) good_22), .no, .no, .no, .dat ((eT PyData.int) y23), .dat (PyData.int p7.1), .bor ((eL (eT PyData.int)) s8), .no, .no, .no, .dat (PyData.int y25)]) (ρ := fun y30 => [.dat ((eL PyData.int) a0), .own (eRow net_here_2.2), .dat ((eP PyData.int (eT (eT PyData.int))) net_here_4), .no, .own ((eL (eT PyData.int)) good_22), .no, .no, .dat (PyData.int y30), .dat ((eT PyData.int) y23), .dat (PyData.int p7.1), .bor ((eL (eT PyData.int)) s8), .no, .no, .no, .dat (PyData.int y25)]) (enc := PyData.int) (eg := PyData.int) (sk_C (d := (eT PyData.int)) (ek_prim (AX.tot (ET.gt (d := (eT (eT PyData.int)) net_here_4.2) (et_prim (AT.cons (ET.gt (d := (eP PyData.int (eT (eT PyData.int))) net_here_4) (et_nm 2 rfl) rfl) (AT.cons (ET.gt (d := PyData.int 1) (et_kst (PyData.int 1)) rfl) AT.nil)) (q_ixP1 _ _ _)) rfl) (AX.par (EK.gk (e := PyData.int) (ek_prim (AX.par (EK.gk (e := PyData.int) (ek_prim (AX.tot (ET.gt (d := (eT PyData.int) y23) (et_nm 8 rfl) rfl) (AX.tot (ET.gt (d := PyData.int y25) (et_nm 14 rfl) rfl) (AX.nil (q_ixT _ _ _))))) (fun _ => rfl)) (fun x28 => (AX.tot (ET.gt (d := PyData.int net_here_4.1) (et_prim (AT.cons (ET.gt (d := (eP PyData.int (eT (eT PyData.int))) net_here_4) (et_nm 2 rfl) rfl) (AT.cons (ET.gt (d := PyData.int 0) (et_kst (PyData.int 0)) rfl) AT.nil)) (q_ixP0 _ _ _)) rfl) (AX.nil (OpT.k (k := fun z : Int => Rs.dat (PyData.int z)) (q_sub _ _))))))) (fun _ => rfl)) (fun x29 => (AX.nil (q_ixT _ _ _)))))) (fun _ => rfl) (fun _ => rfl)) rfl rfl (fun _ => rfl) (fun _ => rfl) (fun y30 => (TT.tk (tt_tst (et_prim (AT.cons (ET.gt (d := PyData.int y30) (et_nm 7 rfl) rfl) (AT.cons (ET.gt (d := (eT PyData.int) (cutL y23 (some y25) none)) (et_prim (AT.cons (ET.gt (d := (eT PyData.int) y23) (et_nm 8 rfl) rfl) (AT.cons (ET.gt (d := PyData.int y25) (et_intM (et_nm 14 rfl)) rfl) AT.nil)) (q_slTFT _ _ _ )) rfl) AT.nil)) (q_inT gd_int (by decide) _ _))))) (fun y30 => (EK.gk (e := PyData.int) (ET.ek (k := (fun z : Int => Rs.dat (PyData.int z))) (et_nm 7 rfl)) (fun _ => rfl)))) (fun _ => rfl)) (fun x32 => (AX.tot (ET.gt (d := (eL PyData.int) ([] : (List Int))) (et_lst AT.nil (Nat.le_of_ble_eq_true rfl)) rfl) (AX.nil (OpT.k (k := fun z : Bool => Rs.dat (PyData.bool z)) (q_ne (gd_L gd_int) (by decide) _ _)))))))))) (fun y25 => (EK.gk (e := PyData.int) (ET.ek (k := (fun z : Int => Rs.dat (PyData.int z))) (et_nm 14 rfl)) (fun _ => rfl)))) (fun _ => rfl)) (fun x34 => (AX.tot (ET.gt (d := (eL PyData.int) ([] : (List Int))) (et_lst AT.nil (Nat.le_of_ble_eq_true rfl)) rfl) (AX.nil (OpT.k (k := fun z : Bool => Rs.dat (PyData.bool z)) (q_eq (gd_L gd_int) (by decide) _ _))))))))) (fun y23 => (EK.gk (e := (eT PyData.int)) (ET.ek (k := (fun z : (List Int) => Rs.dat ((eT PyData.int) z))) (et_nm 8 rfl)) (fun _ => rfl)))) (fun _ => rfl)) (fun kind_35 => (gd_r (tk_or (tk_not (tk_tst (ek_call (k := fun z : Bool => Ro.dat (PyData.bool z)) rfl rfl (AX.par (EK.gk (ek_call (k := fun z : (List (List Int)) => Ro.fresh ((eL (eT PyData.int)) z)) rfl rfl (AX.tot (ET.gt (et_nm 2 rfl) rfl) (AX.nil (t_right_orders (m + 2) net_here_4)))) (fun _ => rfl)) (fun x36 => (AX.tot (ET.gt (et_nm 4 rfl) rfl) (AX.nil (alk_Lb (alk_T alk_int) (m + 4) x36 good_22 (.inl rfl) (.inr rfl))))))))) (tk_not (tk_tst (ek_call (k := fun z : Bool => Ro.dat (PyData.bool z)) rfl rfl (AX.par (EK.gk (ek_call (k := fun z : Int => Ro.dat (PyData.int z)) rfl rfl (AX.tot (ET.gt (et_nm 2 rfl) rfl) (AX.nil (t_count_right_orders (m + 2) net_here_4)))) (fun _ => rfl)) (fun x38 => (AX.tot (ET.gt (et_prim (AT.cons (ET.gt (d := (eL (eT PyData.int)) good_22) (et_nm 4 rfl) rfl) AT.nil) (q_lenL _ _)) rfl) (AX.nil (Alk.call alk_int (m + 6) x38 (good_22.length : Int)))))))))) (seqR_r (sr_ret (E1 := fun _ => [.dat ((eL PyData.int) a0), .own (eRow net_here_2.2), .dat ((eP PyData.int (eT (eT PyData.int))) net_here_4), .no, .own ((eL (eT PyData.int)) good_22), .own ((eL (eT PyData.int)) kind_35), .no, .no, .no, .dat (PyData.int p7.1), .own ((eL (eT PyData.int)) s8), .no, .no, .no, .no]) (ET.ek (k := (fun z : Bool => Rs.dat (PyData.bool z))) (et_kst (PyData.bool false))) (fun _ => rfl) (fun _ => rfl))) (gd_r (tk_or (tk_not (tk_tst (ek_call (k := fun z : Bool => Ro.dat (PyData.bool z)) rfl rfl (AX.par (EK.gk (ek_call (k := fun z : (List (List Int)) => Ro.fresh ((eL (eT PyData.int)) z)) rfl rfl (AX.tot (ET.gt (et_nm 2 rfl) rfl) (AX.nil (t_friendly_orders (m + 3) net_here_4)))) (fun _ => rfl)) (fun x42 => (AX.tot (ET.gt (et_nm 5 rfl) rfl) (AX.nil (alk_Lb (alk_T alk_int) (m + 4) x42 kind_35 (.inl rfl) (.inr rfl))))))))) (tk_not (tk_tst (ek_call (k := fun z : Bool => Ro.dat (PyData.bool z)) rfl rfl (AX.par (EK.gk (ek_call (k := fun z : Int => Ro.dat (PyData.int z)) rfl rfl (AX.tot (ET.gt (et_nm 2 rfl) rfl) (AX.nil (t_count_friendly (m + 2) net_here_4)))) (fun _ => rfl)) (fun x44 => (AX.tot (ET.gt (et_prim (AT.cons (ET.gt (d := (eL (eT PyData.int)) kind_35) (et_nm 5 rfl) rfl) AT.nil) (q_lenL _ _)) rfl) (AX.nil (Alk.call alk_int (m + 6) x44 (kind_35.length : Int)))))))))) (seqR_r (sr_ret (E1 := fun _ => [.dat ((eL PyData.int) a0), .own (eRow net_here_2.2), .dat ((eP PyData.int (eT (eT PyData.int))) net_here_4), .no, .own ((eL (eT PyData.int)) good_22), .own ((eL (eT PyData.int)) kind_35), .no, .no, .no, .dat (PyData.int p7.1), .own ((eL (eT PyData.int)) s8), .no, .no, .no, .no]) (ET.ek (k := (fun z : Bool => Rs.dat (PyData.bool z))) (et_kst (PyData.bool false))) (fun _ => rfl) (fun _ => rfl))) (gd_r (tk_not (tk_tst (ek_call (k := fun z : Bool => Ro.dat (PyData.bool z)) rfl rfl (AX.par (EK.gk (ek_call (k := fun z : (List (List Int)) => Ro.fresh ((eL (eT PyData.int)) z)) rfl rfl (AX.tot (ET.gt (et_nm 2 rfl) rfl) (AX.nil (t_lucky_orders (m + 2) net_here_4)))) (fun _ => rfl)) (fun x50 => (AX.par (EK.gk (ek_lc (q := [.dat ((eL PyData.int) a0), .own (eRow net_here_2.2), .dat ((eP PyData.int (eT (eT PyData.int))) net_here_4), .no, .bor ((eL (eT PyData.int)) good_22), .own ((eL (eT PyData.int)) kind_35), .no, .no, .no, .dat (PyData.int p7.1), .own ((eL (eT PyData.int)) s8), .no, .no, .no, .no]) (ρ := fun y48 => [.dat ((eL PyData.int) a0), .own (eRow net_here_2.2), .dat ((eP PyData.int (eT (eT PyData.int))) net_here_4), .no, .bor ((eL (eT PyData.int)) good_22), .own ((eL (eT PyData.int)) kind_35), .no, .no, .dat ((eT PyData.int) y48), .dat (PyData.int p7.1), .own ((eL (eT PyData.int)) s8), .no, .no, .no, .no]) (enc := (eT PyData.int)) (eg := (eT PyData.int)) (sk_T (a := good_22) (enc := (eT PyData.int)) (et_nm 4 rfl) rfl rfl) rfl rfl (fun _ => rfl) (fun _ => rfl) (fun y48 => (TT.tk (tt_tst (et_prim (AT.cons (ET.gt (d := (eT PyData.int) y48) (et_nm 8 rfl) rfl) (AT.cons (ET.gt (d := (eL (eT PyData.int)) kind_35) (et_nm 5 rfl) rfl) AT.nil)) (q_ninLM (gd_T gd_int) (by decide) _ _))))) (fun y48 => (EK.gk (e := (eT PyData.int)) (ET.ek (k := (fun z : (List Int) => Rs.dat ((eT PyData.int) z))) (et_nm 8 rfl)) (fun _ => rfl)))) (fun _ => rfl)) (fun x51 => (AX.nil (Alk.call (alk_L (alk_T alk_int)) (m + 4) x50 x51))))))))) (seqR_r (sr_ret (E1 := fun _ => [.dat ((eL PyData.int) a0), .own (eRow net_here_2.2), .dat ((eP PyData.int (eT (eT PyData.int))) net_here_4), .no, .own ((eL (eT PyData.int)) good_22), .own ((eL (eT PyData.int)) kind_35), .no, .no, .no, .dat (PyData.int p7.1), .own ((eL (eT PyData.int)) s8), .no, .no, .no, .no]) (ET.ek (k := (fun z : Bool => Rs.dat (PyData.bool z))) (et_kst (PyData.bool false))) (fun _ => rfl) (fun _ => rfl))) (gd_r (tk_tst (ek_prim (AX.par (EK.gk (e := (eL (eT PyData.int))) (ek_lc (q := [.dat ((eL PyData.int) a0), .own (eRow net_here_2.2), .dat ((eP PyData.int (eT (eT PyData.int))) net_here_4), .no, .own ((eL (eT PyData.int)) good_22), .bor ((eL (eT PyData.int)) kind_35), .no, .no, .no, .dat (PyData.int p7.1), .own ((eL (eT PyData.int)) s8), .no, .no, .no, .no]) (ρ := fun y54 => [.dat ((eL PyData.int) a0), .own (eRow net_here_2.2), .dat ((eP PyData.int (eT (eT PyData.int))) net_here_4), .no, .own ((eL (eT PyData.int)) good_22), .bor ((eL (eT PyData.int)) kind_35), .no, .no, .dat ((eT PyData.int) y54), .dat (PyData.int p7.1), .own ((eL (eT PyData.int)) s8), .no, .no, .no, .no]) (enc := (eT PyData.int)) (eg := (eT PyData.int)) (sk_T (a := kind_35) (enc := (eT PyData.int)) (et_nm 5 rfl) rfl rfl) rfl rfl (fun _ => rfl) (fun _ => rfl) (fun y54 => (TT.tk (tt_tst (et_prim (AT.cons (ET.gt (d := (eT PyData.int) y54) (et_nm 8 rfl) rfl) (AT.cons (ET.gt (d := (eL (eT PyData.int)) good_22) (et_nm 4 rfl) rfl) AT.nil)) (q_ninLM (gd_T gd_int) (by decide) _ _))))) (fun y54 => (EK.gk (e := (eT PyData.int)) (ET.ek (k := (fun z : (List Int) => Rs.dat ((eT PyData.int) z))) (et_nm 8 rfl)) (fun _ => rfl)))) (fun _ => rfl)) (fun x56 => (AX.tot (ET.gt (d := (eL (eT PyData.int)) ([] : (List (List Int)))) (et_lst AT.nil (Nat.le_of_ble_eq_true rfl)) rfl) (AX.nil (OpT.k (k := fun z : Bool => Rs.dat (PyData.bool z)) (q_ne (gd_L (gd_T gd_int)) (by decide) _ _)))))))) (seqR_r (sr_ret (E1 := fun _ => [.dat ((eL PyData.int) a0), .own (eRow net_here_2.2), .dat ((eP PyData.int (eT (eT PyData.int))) net_here_4), .no, .own ((eL (eT PyData.int)) good_22), .own ((eL (eT PyData.int)) kind_35), .no, .no, .no, .dat (PyData.int p7.1), .own ((eL (eT PyData.int)) s8), .no, .no, .no, .no]) (ET.ek (k := (fun z : Bool => Rs.dat (PyData.bool z))) (et_kst (PyData.bool false))) (fun _ => rfl) (fun _ => rfl))) (seq1_r (E1 := fun due_58 => [.dat ((eL PyData.int) a0), .own (eRow net_here_2.2), .dat ((eP PyData.int (eT (eT PyData.int))) net_here_4), .no, .own ((eL (eT PyData.int)) good_22), .own ((eL (eT PyData.int)) kind_35), .own ((eL (eP PyData.int PyData.int)) due_58), .no, .no, .dat (PyData.int p7.1), .own ((eL (eT PyData.int)) s8), .no, .no, .no, .no]) (s1_set (ET.ek (k := (fun z : (List (Int × Int)) => Rs.fresh ((eL (eP PyData.int PyData.int)) z))) (et_lst AT.nil (Nat.le_of_ble_eq_true rfl))) (fun _ => rfl)) (fun due_58 => (seq1_r (E1 := fun s59 : (List (Int × Int)) => [.dat ((eL PyData.int) a0), .own (eRow net_here_2.2), .dat ((eP PyData.int (eT (eT PyData.int))) net_here_4), .no, .own ((eL (eT PyData.int)) good_22), .own ((eL (eT PyData.int)) kind_35), .own ((eL (eP PyData.int PyData.int)) s59), .no, .no, .dat (PyData.int p7.1), .own ((eL (eT PyData.int)) s8), .no, .no, .no, .no]) (for_1 (E := fun s59 : (List (Int × Int)) => [.dat ((eL PyData.int) a0), .own (eRow net_here_2.2), .dat ((eP PyData.int (eT (eT PyData.int))) net_here_4), .no, .own ((eL (eT PyData.int)) good_22), .own ((eL (eT PyData.int)) kind_35), .own ((eL (eP PyData.int PyData.int)) s59), .no, .no, .dat (PyData.int p7.1), .own ((eL (eT PyData.int)) s8), .no, .no, .no, .no]) (G := fun (s59 : (List (Int × Int))) (y60 : Int) => [.dat ((eL PyData.int) a0), .own (eRow net_here_2.2), .dat ((eP PyData.int (eT (eT PyData.int))) net_here_4), .no, .own ((eL (eT PyData.int)) good_22), .own ((eL (eT PyData.int)) kind_35), .own ((eL (eP PyData.int PyData.int)) s59), .dat (PyData.int y60), .no, .dat (PyData.int p7.1), .own ((eL (eT PyData.int)) s8), .no, .no, .no, .no]) (enc := PyData.int) due_58 (SK.fk (r1 := [.dat ((eL PyData.int) a0), .own (eRow net_here_2.2), .dat ((eP PyData.int (eT (eT PyData.int))) net_here_4), .no, .own ((eL (eT PyData.int)) good_22), .own ((eL (eT PyData.int)) kind_35), .own ((eL (eP PyData.int PyData.int)) due_58), .no, .no, .dat (PyData.int p7.1), .own ((eL (eT PyData.int)) s8), .no, .no, .no, .no]) (sk_R (AX.tot (ET.gt (d := PyData.int p7.1) (et_nm 9 rfl) rfl) (AX.nil ⟨[p7.1], rfl, rgis1 _ ⟩))) rfl) rfl (fun _ _ => rfl) (fun s59 y60 => (seq1_n (E1 := fun due_75 => [.dat ((eL PyData.int) a0), .own (eRow net_here_2.2), .dat ((eP PyData.int (eT (eT PyData.int))) net_here_4), .no, .own ((eL (eT PyData.int)) good_22), .own ((eL (eT PyData.int)) kind_35), .own ((eL (eP PyData.int PyData.int)) due_75), .dat (PyData.int y60), .no, .dat (PyData.int p7.1), .own ((eL (eT PyData.int)) s8), .no, .no, .no, .no]) (s1_set (ek_prim (AX.tot (ET.gt (d := (eL (eP PyData.int PyData.int)) s59) (et_nm 6 rfl) rfl) (AX.par (EK.gk (e := (eL (eP PyData.int PyData.int))) (ek_lc (q := [.dat ((eL PyData.int) a0), .own (eRow net_here_2.2), .dat ((eP PyData.int (eT (eT PyData.int))) net_here_4), .no, .own ((eL (eT PyData.int)) good_22), .own ((eL (eT PyData.int)) kind_35), .own ((eL (eP PyData.int PyData.int)) s59), .dat (PyData.int y60), .no, .dat (PyData.int p7.1), .own ((eL (eT PyData.int)) s8), .no, .no, .no, .no]) (ρ := fun y62 => [.dat ((eL PyData.int) a0), .own (eRow net_here_2.2), .dat ((eP PyData.int (eT (eT PyData.int))) net_here_4), .no, .own ((eL (eT PyData.int)) good_22), .own ((eL (eT PyData.int)) kind_35), .own ((eL (eP PyData.int PyData.int)) s59), .dat (PyData.int y60), .no, .dat (PyData.int p7.1), .own ((eL (eT PyData.int)) s8), .no, .dat (PyData.int y62), .no, .no]) (enc := PyData.int) (eg := (eP PyData.int PyData.int)) (sk_R (AX.tot (ET.gt (d := PyData.int p7.1) (et_nm 9 rfl) rfl) (AX.nil ⟨[p7.1], rfl, rgis1 _ ⟩))) rfl rfl (fun _ => rfl) (fun _ => rfl) (fun y62 => (tk_and (TT.tk (tt_tst (et_prim (AT.cons (ET.gt (d := PyData.int y60) (et_nm 7 rfl) rfl) (AT.cons (ET.gt (d := PyData.int y62) (et_nm 12 rfl) rfl) AT.nil)) (q_ne gd_int (by decide) _ _)))) (tk_tst (ek_prim (AX.par (EK.gk (e := (eL (eT PyData.int))) (ek_lc (q := [.dat ((eL PyData.int) a0), .own (eRow net_here_2.2), .dat ((eP PyData.int (eT (eT PyData.int))) net_here_4), .no, .bor ((eL (eT PyData.int)) good_22), .own ((eL (eT PyData.int)) kind_35), .own ((eL (eP PyData.int PyData.int)) s59), .dat (PyData.int y60), .no, .dat (PyData.int p7.1), .own ((eL (eT PyData.int)) s8), .no, .dat (PyData.int y62), .no, .no]) (ρ := fun y64 => [.dat ((eL PyData.int) a0), .own (eRow net_here_2.2), .dat ((eP PyData.int (eT (eT PyData.int))) net_here_4), .no, .bor ((eL (eT PyData.int)) good_22), .own ((eL (eT PyData.int)) kind_35), .own ((eL (eP PyData.int PyData.int)) s59), .dat (PyData.int y60), .dat ((eT PyData.int) y64), .dat (PyData.int p7.1), .own ((eL (eT PyData.int)) s8), .no, .dat (PyData.int y62), .no, .no]) (enc := (eT PyData.int)) (eg := (eT PyData.int)) (sk_T (a := good_22) (enc := (eT PyData.int)) (et_nm 4 rfl) rfl rfl) rfl rfl (fun _ => rfl) (fun _ => rfl) (fun y64 => (tk_tst (ek_prim (AX.par (EK.gk (e := PyData.int) (ek_indexT (GT.gk (a := y64) (e := (eT PyData.int)) (ET.gt (d := (eT PyData.int) y64) (et_nm 8 rfl) rfl) rfl) (GT.gk (a := y60) (e := PyData.int) (ET.gt (d := PyData.int y60) (et_nm 7 rfl) rfl) rfl)) (fun _ => rfl)) (fun x70 => (AX.par (EK.gk (e := PyData.int) (ek_indexT (GT.gk (a := y64) (e := (eT PyData.int)) (ET.gt (d := (eT PyData.int) y64) (et_nm 8 rfl) rfl) rfl) (GT.gk (a := y62) (e := PyData.int) (ET.gt (d := PyData.int y62) (et_nm 12 rfl) rfl) rfl)) (fun _ => rfl)) (fun x71 => (AX.nil (OpT.k (k := fun z : Bool => Rs.dat (PyData.bool z)) (q_gt _ _)))))))))) (fun y64 => (EK.gk (e := (eT PyData.int)) (ET.ek (k := (fun z : (List Int) => Rs.dat ((eT PyData.int) z))) (et_nm 8 rfl)) (fun _ => rfl)))) (fun _ => rfl)) (fun x72 => (AX.tot (ET.gt (d := (eL (eT PyData.int)) ([] : (List (List Int)))) (et_lst AT.nil (Nat.le_of_ble_eq_true rfl)) rfl) (AX.nil (OpT.k (k := fun z : Bool => Rs.dat (PyData.bool z)) (q_eq (gd_L (gd_T gd_int)) (by decide) _ _)))))))))) (fun y62 => (EK.gk (e := (eP PyData.int PyData.int)) (ET.ek (k := (fun z : (Int × Int) => Rs.dat ((eP PyData.int PyData.int) z))) (et_tup (AT.cons (ET.gt (d := PyData.int y60) (et_nm 7 rfl) rfl) (AT.cons (ET.gt (d := PyData.int y62) (et_nm 12 rfl) rfl) AT.nil)) (Nat.le_of_ble_eq_true rfl))) (fun _ => rfl)))) (fun _ => rfl)) (fun x74 => (AX.nil (q_addL _ _ _)))))) (fun _ => rfl)) (fun due_75 => (next_n rfl))))) (fun s59 => (gd_r (tk_not (tk_tst (ek_call (k := fun z : Bool => Ro.dat (PyData.bool z)) rfl rfl (AX.par (EK.gk (ek_call (k := fun z : (List (Int × Int)) => Ro.dat ((eT (eP PyData.int PyData.int)) z)) rfl rfl (AX.tot (ET.gt (et_nm 2 rfl) rfl) (AX.nil (t_always_ahead (m + 2) net_here_4)))) (fun _ => rfl)) (fun x76 => (AX.tot (ET.gt (et_prim (AT.cons (ET.gt (d := (eL (eP PyData.int PyData.int)) s59) (et_nm 6 rfl) rfl) AT.nil) (q_tupL _ _)) rfl) (AX.nil (Alk.call (alk_T (alk_P alk_int alk_int)) (m + 4) x76 s59)))))))) (seqR_r (sr_ret (E1 := fun _ => [.dat ((eL PyData.int) a0), .own (eRow net_here_2.2), .dat ((eP PyData.int (eT (eT PyData.int))) net_here_4), .no, .own ((eL (eT PyData.int)) good_22), .own ((eL (eT PyData.int)) kind_35), .own ((eL (eP PyData.int PyData.int)) s59), .no, .no, .dat (PyData.int p7.1), .own ((eL (eT PyData.int)) s8), .no, .no, .no, .no]) (ET.ek (k := (fun z : Bool => Rs.dat (PyData.bool z))) (et_kst (PyData.bool false))) (fun _ => rfl) (fun _ => rfl))) (seq1_r (E1 := fun calls_79 => [.dat ((eL PyData.int) a0), .own (eRow calls_79.2), .dat ((eP PyData.int (eT (eT PyData.int))) net_here_4), .no, .own ((eL (eT PyData.int)) good_22), .own ((eL (eT PyData.int)) kind_35), .own ((eL (eP PyData.int PyData.int)) s59), .no, .dat ((eT PyData.int) calls_79.1), .dat (PyData.int p7.1), .own ((eL (eT PyData.int)) s8), .no, .no, .no, .no]) (s1_setS (es_call0 (E := fun ww : Row => [.dat ((eL PyData.int) a0), .own (eRow ww), .dat ((eP PyData.int (eT (eT PyData.int))) net_here_4), .no, .own ((eL (eT PyData.int)) good_22), .own ((eL (eT PyData.int)) kind_35), .own ((eL (eP PyData.int PyData.int)) s59), .no, .no, .dat (PyData.int p7.1), .own ((eL (eT PyData.int)) s8), .no, .no, .no, .no]) (s := net_here_2.2) (k := fun z : (List Int) => Ro.dat ((eT PyData.int) z)) (es := eRow) rfl rfl (fun _ => rfl) (fun _ => rfl) (fun _ _ => rfl) (AW.tot (gts_of (fun ww => (et_nm 9 rfl)) (fun _ => rfl)) (AW.nil (t_law_order (m + 5) net_here_2.2 p7.1)))) (fun _ _ => rfl)) (fun calls_79 => (gd_r (tk_not (tk_tst (ek_call (k := fun z : Bool => Ro.dat (PyData.bool z)) rfl rfl (AX.par (EK.gk (ek_call (k := fun z : (Option ((List Int) × Int)) => Ro.dat ((eO (eP (eT PyData.int) PyData.int)) z)) rfl rfl (AX.tot (ET.gt (et_nm 2 rfl) rfl) (AX.tot (ET.gt (et_nm 8 rfl) rfl) (AX.nil (t_order_breaks (m + 2) net_here_4 calls_79.1))))) (fun _ => rfl)) (fun x80 => (AX.par (EK.gk (ek_call (k := fun z : (Option ((List Int) × Int)) => Ro.dat ((eO (eP (eT PyData.int) PyData.int)) z)) rfl rfl (AX.tot (ET.gt (et_nm 2 rfl) rfl) (AX.tot (ET.gt (et_nm 8 rfl) rfl) (AX.nil (t_law_wrong (m + 4) net_here_4 calls_79.1))))) (fun _ => rfl)) (fun x81 => (AX.nil (Alk.call (alk_O (alk_P (alk_T alk_int) (Alk.mono alk_int (by decide : 1 ≤ 2))) (fun m x _ => none_tup (m + 2) _) (oEq_no (gd_P (gd_T gd_int) (Gd.mono gd_int (by decide : 0 ≤ 1))) (by decide) (fun _ => rfl))) (m + 4) x80 x81))))))))) (seqR_r (sr_ret (E1 := fun _ => [.dat ((eL PyData.int) a0), .own (eRow calls_79.2), .dat ((eP PyData.int (eT (eT PyData.int))) net_here_4), .no, .own ((eL (eT PyData.int)) good_22), .own ((eL (eT PyData.int)) kind_35), .own ((eL (eP PyData.int PyData.int)) s59), .no, .dat ((eT PyData.int) calls_79.1), .dat (PyData.int p7.1), .own ((eL (eT PyData.int)) s8), .no, .no, .no, .no]) (ET.ek (k := (fun z : Bool => Rs.dat (PyData.bool z))) (et_kst (PyData.bool false))) (fun _ => rfl) (fun _ => rfl))) (gd_r (tk_not (tk_tst (ek_call (k := fun z : Bool => Ro.dat (PyData.bool z)) rfl rfl (AX.par (EK.gk (ek_call (k := fun z : Bool => Ro.dat (PyData.bool z)) rfl rfl (AX.tot (ET.gt (et_nm 2 rfl) rfl) (AX.tot (ET.gt (et_nm 8 rfl) rfl) (AX.nil (t_is_right_order (m + 1) net_here_4 calls_79.1))))) (fun _ => rfl)) (fun x84 => (AX.tot (ET.gt (et_prim (AT.cons (ET.gt (d := (eT PyData.int) calls_79.1) (et_nm 8 rfl) rfl) (AT.cons (ET.gt (d := (eL (eT PyData.int)) good_22) (et_nm 4 rfl) rfl) AT.nil)) (q_inLM (gd_T gd_int) (by decide) _ _)) rfl) (AX.nil (Alk.call alk_bool (m + 6) x84 (memB calls_79.1 good_22))))))))) (seqR_r (sr_ret (E1 := fun _ => [.dat ((eL PyData.int) a0), .own (eRow calls_79.2), .dat ((eP PyData.int (eT (eT PyData.int))) net_here_4), .no, .own ((eL (eT PyData.int)) good_22), .own ((eL (eT PyData.int)) kind_35), .own ((eL (eP PyData.int PyData.int)) s59), .no, .dat ((eT PyData.int) calls_79.1), .dat (PyData.int p7.1), .own ((eL (eT PyData.int)) s8), .no, .no, .no, .no]) (ET.ek (k := (fun z : Bool => Rs.dat (PyData.bool z))) (et_kst (PyData.bool false))) (fun _ => rfl) (fun _ => rfl))) (seqR_r (sr_ret (E1 := fun _ => [.dat ((eL PyData.int) a0), .own (eRow calls_79.2), .dat ((eP PyData.int (eT (eT PyData.int))) net_here_4), .no, .own ((eL (eT PyData.int)) good_22), .own ((eL (eT PyData.int)) kind_35), .own ((eL (eP PyData.int PyData.int)) s59), .no, .dat ((eT PyData.int) calls_79.1), .dat (PyData.int p7.1), .own ((eL (eT PyData.int)) s8), .no, .no, .no, .no]) (ek_call (k := fun z : Bool => Ro.dat (PyData.bool z)) rfl rfl (AX.par (EK.gk (ek_call (k := fun z : Bool => Ro.dat (PyData.bool z)) rfl rfl (AX.tot (ET.gt (et_nm 2 rfl) rfl) (AX.tot (ET.gt (et_nm 8 rfl) rfl) (AX.nil (t_by_friends (m + 3) net_here_4 calls_79.1))))) (fun _ => rfl)) (fun x87 => (AX.tot (ET.gt (et_prim (AT.cons (ET.gt (d := (eT PyData.int) calls_79.1) (et_nm 8 rfl) rfl) (AT.cons (ET.gt (d := (eL (eT PyData.int)) kind_35) (et_nm 5 rfl) rfl) AT.nil)) (q_inLM (gd_T gd_int) (by decide) _ _)) rfl) (AX.nil (Alk.call alk_bool (m + 6) x87 (memB calls_79.1 kind_35))))))) (fun _ => rfl) (fun _ => rfl))))))))))))))))))))))))))))))
@[simp] theorem s_is_integer (i : Int) : F_is_integer (.int i) = .ok true := rfl
@[simp] theorem s_is_in (i a b : Int) : F_is_in i a b = .ok (decide (a ≤ i) && decide (i ≤ b)) := by
  unfold F_is_in
  rw [s_is_integer]
  rfl
@[simp] theorem s_is_list_T {α : Type} (e : α → D) (xs : List α) (a b : Int) : F_is_list (eT e xs) a b = .ok (decide (a ≤ xs.length) && decide ((xs.length : Int) ≤ b)) := by
  unfold F_is_list
  rw [lenD_T]
  rfl
@[simp] theorem s_is_list_P {α β : Type} (e : α → D) (f : β → D) (p : α × β) (a b : Int) : F_is_list (eP e f p) a b = .ok (decide (a ≤ 2) && decide ((2 : Int) ≤ b)) := by
  unfold F_is_list
  rw [lenD_P]
  rfl
theorem gate_facts {N : Net} (h : NetOk N.1 N.2) {i : Nat} {g : List Int} (hi : N.2[i]? = some g) : g.Pairwise (· < ·) ∧ (∀ k ∈ g, 0 ≤ k ∧ k < N.1 + i) ∧ g.length < 64 ∧ i < N.2.length := by
  have a1 := h.asc i g hi
  have a2 := h.rng i g hi
  have il : i < N.2.length := (List.getElem?_eq_some_iff.mp hi).1
  have h2 := h.hi
  have h3 := h.len
  have := asc_len (n := 11) a1 (fun k hk => ⟨(a2 k hk).1, by have := (a2 k hk).2; omega⟩)
  exact ⟨a1, a2, by omega, il⟩
theorem s_need_net {N : Net} (h : NetOk N.1 N.2) : F_need_net N = .ok () := by
  have h1 := h.lo
  have h2 := h.hi
  have h3 : (N.2.length : Int) ≤ 8 := by have := h.len; omega
  unfold F_need_net
  simp only [s_is_list_P, s_is_in, s_is_list_T, Rt.bind_ok, h1, h2, h3, decide_true, Bool.and_self, Bool.not_true, Int.natCast_nonneg, Int.le_refl, Bool.false_eq_true, if_false]
  rw [foldR_unit fun p hp => ?_]
  · rfl
  · obtain ⟨i, e1, e2⟩ := enumF_mem hp
    obtain ⟨a1, a2, a3, a4⟩ := gate_facts h e2
    have m : mapF (fun y10 : Int => F_is_in y10 (0 : Int) ((N.1 + p.1) - (1 : Int))) p.2 = .ok (p.2.map fun _ => true) := mapF_of fun k hk => by
      have := a2 k hk
      rw [s_is_in, e1, decide_eq_true this.1, decide_eq_true (by omega)]; rfl
    have t : ([Ty.tuple].any fun t => tyOf t (eT PyData.int p.2)) = true := rfl
    have al : (p.2.map fun _ => true).all id = true := by simp
    simp only [t, m, Rt.bind_ok, al, Bool.not_true, Bool.false_eq_true, if_false, sortSetF_ok a3 a1]
    simp
    intro x hx
    have := a2 x hx
    omega
theorem s_size_of (N : Net) : F_size_of N = .ok (N.1 + N.2.length) := rfl
theorem sz_eq {N : Net} (h : NetOk N.1 N.2) : N.1 + (N.2.length : Int) = (sz N : Nat) := by
  have := h.lo
  unfold sz
  omega
theorem sz_le' {N : Net} (h : NetOk N.1 N.2) : sz N ≤ 11 := by
  have := h.hi
  have := h.len
  unfold sz
  omega
theorem s_friends_in {N : Net} (h : NetOk N.1 N.2) {p : Int} (hp : p < sz N) : F_friends_in N p = .ok (frI N p) := by
  have h1 := h.lo
  unfold F_friends_in frI
  unfold sz at hp
  by_cases c : N.1 ≤ p
  · simp only [Rt.bind_ok, c, decide_true, if_true]
    exact ixF_ok [] (by omega) (by omega)
  · simp only [Rt.bind_ok, c, decide_false, Bool.false_eq_true, if_false]
theorem s_all_bits {n : Int} (h0 : 0 ≤ n) (h1 : n ≤ 3) : F_all_bits n = .ok (bitsN n.toNat) := by
  unfold F_all_bits
  simp only [Rt.bind_ok, rg1_ok h0 (by omega : n ≤ 1000)]
  refine foldR_then (fun s _ => s.flatMap fun b : List Int => [b ++ [0], b ++ [1]]) (fun i s => s = bitsN i) rfl (fun i hi s hs => ?_) fun hs => ?_
  · subst hs
    rw [ups_len] at hi
    have e1 : List.all (bitsN i) (fun y5 : List Int => decide (y5.length < sizeLine)) = true := List.all_eq_true.mpr fun b hb => by
      rw [decide_eq_true_eq, (bitsN_mem hb).1, sizeLine_eq]; omega
    have e2 : lc2F (bitsN i) [(0 : Int), (1 : Int)] (fun (y5 : List Int) (y6 : Int) => y5 ++ [y6]) = bitsN (i + 1) := rfl
    have e3 : (bitsN (i + 1)).length ≤ sizeLine := by
      rw [bitsN_len]
      refine Nat.le_trans (Nat.pow_le_pow_right (by omega) (by omega : i + 1 ≤ 3)) ?_
      rw [sizeLine_eq]; decide
    rw [e1, e2, decide_eq_true e3]
    exact ⟨rfl, rfl⟩
  · rw [hs, ups_len]
theorem flat_foldl : ∀ (xs : List (List Int)) (acc : List (List Int)), xs.foldl (fun s b => s ++ [b ++ [0], b ++ [1]]) acc = acc ++ xs.flatMap fun b => [b ++ [0], b ++ [1]]
  | [], acc => by simp
  | x :: xs, acc => by rw [List.foldl_cons, flat_foldl xs, List.flatMap_cons, List.append_assoc]
theorem s_law_bits {n : Int} (h0 : 0 ≤ n) (h1 : n ≤ 3) : F_law_bits n = .ok (bitsN n.toNat) := by
  unfold F_law_bits
  simp only [Rt.bind_ok, rg1_ok h0 (by omega : n ≤ 1000)]
  refine foldR_then (fun s _ => s.flatMap fun b : List Int => [b ++ [0], b ++ [1]]) (fun i s => s = bitsN i) rfl (fun i hi s hs => ?_) fun hs => ?_
  · subst hs
    rw [ups_len] at hi
    have bl := bitsN_len i
    have b3 : 2 ^ i ≤ 8 := Nat.pow_le_pow_right (n := 2) (by omega) (by omega : i ≤ 3)
    refine ⟨?_, rfl⟩
    refine foldR_then (fun s b => s ++ [b ++ [0], b ++ [1]]) (fun j s => s.length = 2 * j) rfl (fun j hj s hs => ?_) fun hs => ?_
    · have hb := (bitsN_mem (List.getElem_mem hj)).1
      rw [catF_ok (by simp [hb]; omega), catF_ok (by simp [hb]; omega)]
      simp only [Rt.bind_ok]
      rw [catF_ok (by simp; omega)]
      exact ⟨rfl, by simp; omega⟩
    · rw [flat_foldl]; rfl
  · rw [hs, ups_len]
theorem s_standing_in {N : Net} (h : NetOk N.1 N.2) {b : List Int} (hb : b.length = N.1.toNat) : F_standing_in N b = .ok (ends N b) := by
  have h1 := h.lo
  have h2 := h.hi
  have h3 := h.len
  unfold F_standing_in
  simp only [Rt.bind_ok]
  refine foldR_then endStep (fun i s => s.length = b.length + i) rfl (fun i hi s hs => ?_) fun _ => rfl
  obtain ⟨a1, a2, a3, a4⟩ := gate_facts h (List.getElem?_eq_getElem hi)
  rw [mapF_of (g := fun o => decide (gI s o = 1)) fun k hk => by
    have := a2 k hk
    rw [ixF_ok 0 this.1 (by omega)]; rfl]
  refine ⟨?_, by rw [endStep_len, hs]; omega⟩
  simp only [Rt.bind_ok, any_id_map, if_ok]
  rw [addF_ok (by omega)]
  rfl
theorem s_law_end {N : Net} (h : NetOk N.1 N.2) {b : List Int} (hb : b.length = N.1.toNat) : F_law_end N b = .ok (ends N b) := by
  have h1 := h.lo
  have h2 := h.hi
  have h3 := h.len
  unfold F_law_end
  simp only [Rt.bind_ok]
  refine foldR_then endStep (fun i s => s.length = b.length + i) rfl (fun i hi s hs => ?_) fun _ => rfl
  obtain ⟨a1, a2, a3, a4⟩ := gate_facts h (List.getElem?_eq_getElem hi)
  rw [lcF_of (b := fun o => decide (gI s o = 1)) (g := fun o => o) (fun k hk => by
    have := a2 k hk
    rw [ixF_ok 0 this.1 (by omega)]; rfl) fun _ _ _ => rfl]
  refine ⟨?_, by rw [endStep_len, hs]; omega⟩
  simp only [Rt.bind_ok, List.map_id', filter_nil]
  rw [addF_ok (by omega)]
  unfold endStep
  cases (N.2[i]).any fun o => decide (gI s o = 1) <;> rfl
theorem net_snoc {n : Int} {gs : List (List Int)} (h : NetOk n gs) {g : List Int} (hl : gs.length < 8) (ha : g.Pairwise (· < ·)) (hr : ∀ k ∈ g, 0 ≤ k ∧ k < n + gs.length) : NetOk n (gs ++ [g]) := by
  have pt : ∀ (i : Nat) (g' : List Int), (gs ++ [g])[i]? = some g' → gs[i]? = some g' ∨ (i = gs.length ∧ g' = g) := fun i g' e => by
    by_cases c : i < gs.length
    · rw [List.getElem?_append_left c] at e; exact .inl e
    · rw [List.getElem?_append_right (by omega)] at e
      have : i - gs.length = 0 := by
        by_cases q : i - gs.length = 0
        · exact q
        · rw [List.getElem?_eq_none (by simp; omega)] at e; cases e
      rw [this] at e
      cases e
      exact .inr ⟨by omega, rfl⟩
  refine ⟨h.lo, h.hi, by simp; omega, fun i g' e => ?_, fun i g' e => ?_⟩
  · rcases pt i g' e with q | ⟨_, rfl⟩
    · exact h.asc i g' q
    · exact ha
  · rcases pt i g' e with q | ⟨rfl, rfl⟩
    · exact h.rng i g' q
    · exact hr
theorem s_law_net {w : Row} (h : w.ok) {k : Int} (h0 : 0 ≤ k) (h1 : k ≤ 8) : ∃ r, F_law_net w k = .ok r ∧ NetOk r.1.1 r.1.2 ∧ (r.1.2.length : Int) ≤ k ∧ r.2.ok := by
  obtain ⟨p1, e1, a0, a1, i1⟩ := taken_ex h (n := 3) (by omega) (by omega)
  obtain ⟨p2, e2, g0, g1, i2⟩ := taken_ex i1 (n := k + 1) (by omega) (by omega)
  unfold F_law_net F_law_taken
  simp only [e1, Rt.bind_ok, thn_ok, e2, rg1_ok g0 (by omega : p2.1 ≤ 1000)]
  refine foldR_bex (fun i (s : Row × List (List Int)) => NetOk (1 + p1.1) s.2 ∧ s.2.length = i ∧ s.1.ok) ⟨⟨by omega, by omega, by simp, by simp, by simp⟩, rfl, i2⟩ (fun i hi s I => ?_) fun s I => ?_
  · obtain ⟨I1, I2, I3⟩ := I
    rw [ups_len] at hi
    simp only [ups_get, Int.zero_add]
    have rg := rg1_ok (n := 1 + p1.1 + (i : Int)) (by omega) (by omega)
    simp only [rg, Rt.bind_ok, Rt.bind_assoc]
    refine lcS_bex Row.ok I3 (fun x _ w hw => ?_) (fun _ _ _ => rfl) fun ys s' c2 c3 => ?_
    · obtain ⟨t, e, _, _, i⟩ := taken_ex hw (n := 5) (by omega) (by omega)
      exact ⟨(decide (t.1 < 2), t.2), by simp only [e, Rt.bind_ok, thn_ok], i⟩
    · simp only [Rt.bind_ok, thn_ok]
      rw [catF_ok (by simp; omega)]
      refine bex_ok ⟨net_snoc I1 (by omega) (List.Pairwise.sublist c2 (ups_asc _ _)) (fun q hq => ?_), by simp [I2], c3⟩
      have := mem_ups.mp (c2.subset hq)
      omega
  · obtain ⟨I1, I2, I3⟩ := I
    rw [ups_len] at I2
    refine bex_ok ⟨I1, ?_, I3⟩
    simp only [I2]
    omega
def beg (N : Net) (b : List Int) : List Int := b ++ List.replicate N.2.length 1
theorem beg_len {N : Net} {b : List Int} (hb : b.length = N.1.toNat) : (beg N b).length = sz N := by unfold beg sz; simp [hb]
theorem beg_01 {N : Net} {b : List Int} (h : B01 b) : B01 (beg N b) := by
  intro x hx
  unfold beg at hx
  rcases List.mem_append.mp hx with q | q
  · exact h x q
  · exact .inr (List.eq_of_mem_replicate q)
theorem s_begin {N : Net} (h : NetOk N.1 N.2) {b : List Int} (hb : b.length = N.1.toNat) : F_begin N b = .ok (beg N b) := by
  have h2 := h.hi
  have h3 := h.len
  unfold F_begin
  rw [repF1_ok 1 (by omega) (by omega)]
  simp only [Rt.bind_ok, Int.toNat_natCast]
  rw [catF_ok (by simp; omega)]
  rfl
theorem s_call_in {N : Net} (h : NetOk N.1 N.2) {st : List Int} (hs : st.length = sz N) (h01 : B01 st) {p : Int} (h0 : 0 ≤ p) (h1 : p < sz N) : F_call_in N st p = .ok (rndS N st [p]) := by
  have l11 := sz_le' h
  unfold F_call_in
  rw [ixF_ok 0 h0 (by omega)]
  simp only [Rt.bind_ok]
  by_cases c : gI st p = 0
  · simp only [gI] at c
    simp only [c, decide_true, if_true]
    congr 1
    unfold rndS
    conv => lhs; rw [← map_self st]
    apply List.map_congr_left
    intro i hi
    have : (frI N i).any (fun q => decide (q ∈ [p]) && decide (gI st q = 1)) = false := by
      rw [List.any_eq_false]
      intro q hq z
      simp only [List.mem_singleton, Bool.and_eq_true, decide_eq_true_eq] at z
      rw [z.1] at z
      have := z.2
      simp only [gI] at this
      rw [c] at this
      exact absurd this (by decide)
    rw [this]
    simp
  · have c1 : gI st p = 1 := (h01.at h0 (by omega)).resolve_left c
    simp only [gI] at c c1
    have rg := rg1_ok (n := (st.length : Int)) (by omega) (by omega)
    simp only [c, decide_false, Bool.false_eq_true, if_false, rg, Rt.bind_ok, Int.toNat_natCast]
    rw [mapF_of (g := fun i => if (frI N i).any (fun q => decide (q ∈ [p]) && decide (gI st q = 1)) then 0 else gI st i) fun i hi => ?_]
    · rfl
    · have hm := mem_ups.mp hi
      rw [s_friends_in h (by omega)]
      simp only [Rt.bind_ok]
      rw [ixF_ok 0 (by omega) (by omega), if_ok]
      congr 1
      have : (decide (p ∈ frI N i)) = (frI N i).any (fun q => decide (q ∈ [p]) && decide (gI st q = 1)) := by
        rw [Bool.eq_iff_iff, decide_eq_true_eq, List.any_eq_true]
        constructor
        · intro z; exact ⟨p, z, by simp [gI, c1]⟩
        · rintro ⟨q, hq, z⟩
          simp only [List.mem_singleton, Bool.and_eq_true, decide_eq_true_eq] at z
          rw [← z.1]; exact hq
      rw [this]
theorem sto_go {f : List (List Int) → Int → Rt (List (List Int))} {N : Net} {P : List Int → Prop} (hf : ∀ (acc : List (List Int)) (st : List Int) (p : Int), P st → 0 ≤ p → p < sz N → acc.length < 1000 → f (acc ++ [st]) p = .ok (acc ++ [st] ++ [rndS N st [p]])) (hP : ∀ (st : List Int) (p : Int), P st → P (rndS N st [p])) : ∀ (cs : List Int) (acc : List (List Int)) (st : List Int), P st → (∀ x ∈ cs, 0 ≤ x ∧ x < sz N) → acc.length + cs.length < 1000 → foldR f cs (acc ++ [st]) = .ok (acc ++ stoS N st cs)
  | [], acc, st, _, _, _ => rfl
  | c :: cs, acc, st, hp, hc, hl => by
    have h1 := hc c List.mem_cons_self
    unfold foldR stoS
    simp only [List.length_cons] at hl
    rw [hf acc st c hp h1.1 h1.2 (by omega)]
    simp only [Rt.bind]
    rw [sto_go hf hP cs (acc ++ [st]) (rndS N st [c]) (hP st c hp) (fun x hx => hc x (List.mem_cons_of_mem _ hx)) (by simp; omega), List.append_assoc]
    rfl
def StOk (N : Net) (st : List Int) : Prop := st.length = sz N ∧ B01 st
theorem StOk.rnd {N : Net} {st : List Int} (h : StOk N st) (some : List Int) : StOk N (rndS N st some) := ⟨by rw [rndS_len]; exact h.1, rndS_01 N h.2 some⟩
theorem beg_ok {N : Net} {b : List Int} (hb : b.length = N.1.toNat) (b01 : B01 b) : StOk N (beg N b) := ⟨beg_len hb, beg_01 b01⟩
theorem s_story_in {N : Net} (h : NetOk N.1 N.2) {b : List Int} (hb : b.length = N.1.toNat) (b01 : B01 b) {cs : List Int} (hl : cs.length ≤ 100) (hc : ∀ x ∈ cs, 0 ≤ x ∧ x < sz N) : F_story_in N b cs = .ok (stoS N (beg N b) cs) := by
  unfold F_story_in
  rw [s_begin h hb]
  simp only [Rt.bind_ok]
  have := sto_go (N := N) (P := StOk N) (f := fun s3 y4 => Rt.bind (Rt.bind (Rt.bind (ixF s3 (-1)) fun x6 => F_call_in N x6 y4) fun x8 => addF s3 x8) fun found_7 => Rt.ok found_7) (fun acc st p hp h0 h1 hl => by
    rw [ixF_last]
    simp only [Rt.bind_ok]
    rw [s_call_in h hp.1 hp.2 h0 h1]
    simp only [Rt.bind_ok]
    rw [addF_ok (by simp; omega)]
    rfl) (fun st p hp => hp.rnd [p]) cs [] (beg N b) (beg_ok hb b01) hc (by simp; omega)
  rw [List.nil_append, List.nil_append] at this
  rw [this]
  rfl
theorem s_law_round {N : Net} (h : NetOk N.1 N.2) {st : List Int} (hs : StOk N st) {so : List Int} (hc : ∀ x ∈ so, 0 ≤ x ∧ x < sz N) : F_law_round N st so = .ok (rndS N st so) := by
  have h1 := h.lo
  have h2 := h.hi
  have h3 := h.len
  have es : st.length = N.1.toNat + N.2.length := hs.1
  unfold F_law_round
  simp only [Rt.bind_ok]
  rw [lcF_of (b := fun q => decide (gI st q = 1)) (g := fun q => q) (fun q hq => by
    have := hc q hq
    rw [ixF_ok 0 this.1 (by rw [hs.1]; omega)]; rfl) fun _ _ _ => rfl]
  have rg := rg1_ok (n := (N.2.length : Int)) (by omega) (by omega)
  simp only [Rt.bind_ok, List.map_id', rg, Int.toNat_natCast]
  let V : Int → Int := fun i => if (frI N i).any (fun q => decide (q ∈ so) && decide (gI st q = 1)) then 0 else gI st i
  have hV : rndS N st so = (ups 0 st.length).map V := rfl
  let mid : Nat → List Int := fun i => (ups 0 st.length).map fun j => if j < N.1 + (i : Int) then V j else gI st j
  have m0 : mid 0 = st := by
    refine Eq.trans ?_ (map_self st)
    apply List.map_congr_left
    intro j hj
    have := mem_ups.mp hj
    by_cases c : j < N.1
    · rw [if_pos (by omega)]
      show (if (frI N j).any _ then _ else _) = _
      have : frI N j = [] := by unfold frI; rw [if_neg (by omega)]
      rw [this]; rfl
    · rw [if_neg (by omega)]
  refine foldR_then (fun s y => if (gD [] N.2 y).any (fun q => decide (q ∈ so.filter fun q => decide (gI st q = 1))) then s.set (N.1 + y).toNat 0 else s) (fun i s => s = mid i) m0.symm (fun i hi s e => ?_) fun e => ?_
  · rw [ups_len] at hi
    simp only [ups_get, Int.zero_add]
    subst e
    have ml : (mid i).length = st.length := by simp [mid, ups_len]
    rw [ixF_ok [] (by omega) (by omega)]
    simp only [Rt.bind_ok]
    rw [lcF_of (b := fun q => decide (q ∈ so.filter fun q => decide (gI st q = 1))) (g := fun q => q) (fun _ _ => rfl) fun _ _ _ => rfl]
    simp only [Rt.bind_ok, List.map_id', filter_ne_nil]
    have fe : frI N (N.1 + (i : Int)) = gD [] N.2 (i : Int) := by
      unfold frI
      rw [if_pos (by omega), show N.1 + (i : Int) - N.1 = i by omega]
    have ae : (gD [] N.2 (i : Int)).any (fun q => decide (q ∈ so.filter fun q => decide (gI st q = 1))) = (frI N (N.1 + (i : Int))).any (fun q => decide (q ∈ so) && decide (gI st q = 1)) := by
      rw [fe]
      congr 1
      funext q
      rw [Bool.eq_iff_iff, decide_eq_true_eq, List.mem_filter, Bool.and_eq_true, decide_eq_true_eq, decide_eq_true_eq]
    have vj : V (N.1 + (i : Int)) = if (gD [] N.2 (i : Int)).any (fun q => decide (q ∈ so.filter fun q => decide (gI st q = 1))) then 0 else gI st (N.1 + (i : Int)) := by
      rw [ae]
    have nx : (if (gD [] N.2 (i : Int)).any (fun q => decide (q ∈ so.filter fun q => decide (gI st q = 1))) then (mid i).set (N.1 + (i : Int)).toNat 0 else mid i) = mid (i + 1) := by
      revert vj
      generalize (gD [] N.2 (i : Int)).any (fun q => decide (q ∈ so.filter fun q => decide (gI st q = 1))) = t
      intro vj
      have l0 : ∀ (k j : Nat) (hj : j < (mid k).length), (mid k)[j] = if (j : Int) < N.1 + (k : Int) then V j else gI st j := fun k j hj => by
        simp only [mid, List.getElem_map, ups_get, Int.zero_add]
      have ml2 : (mid (i + 1)).length = st.length := by simp [mid, ups_len]
      cases t with
      | true =>
        simp only [if_true] at vj ⊢
        apply List.ext_getElem
        · rw [List.length_set, ml, ml2]
        · intro j hj1 hj2
          rw [l0]
          by_cases cj : (j : Int) = N.1 + (i : Int)
          · rw [if_pos (by omega), cj, vj]
            have ej : (N.1 + (i : Int)).toNat = j := by omega
            simp only [ej, List.getElem_set_self]
          · rw [List.getElem_set_ne (by omega), l0]
            by_cases c2 : (j : Int) < N.1 + (i : Int)
            · rw [if_pos c2, if_pos (by omega)]
            · rw [if_neg c2, if_neg (by omega)]
      | false =>
        simp only [Bool.false_eq_true, if_false] at vj ⊢
        apply List.ext_getElem
        · rw [ml, ml2]
        · intro j hj1 hj2
          rw [l0, l0]
          by_cases cj : (j : Int) = N.1 + (i : Int)
          · rw [if_neg (by omega), if_pos (by omega), cj, vj]
          · by_cases c2 : (j : Int) < N.1 + (i : Int)
            · rw [if_pos c2, if_pos (by omega)]
            · rw [if_neg c2, if_neg (by omega)]
    refine ⟨?_, nx⟩
    rw [stoF_ok (by omega) (by rw [ml]; omega)]
    simp only [Rt.bind_ok, if_ok]
  · rw [e, ups_len, hV]
    congr 1
    apply List.map_congr_left
    intro j hj
    have := mem_ups.mp hj
    rw [if_pos (by omega)]
theorem s_law_walk {N : Net} (h : NetOk N.1 N.2) {b : List Int} (hb : b.length = N.1.toNat) (b01 : B01 b) {cs : List Int} (hl : cs.length ≤ 100) (hc : ∀ x ∈ cs, 0 ≤ x ∧ x < sz N) : F_law_walk N b cs = .ok (stoS N (beg N b) cs) := by
  have h2 := h.hi
  have h3 := h.len
  unfold F_law_walk
  rw [repF1_ok 1 (by omega) (by omega)]
  simp only [Rt.bind_ok, Int.toNat_natCast]
  rw [catF_ok (by simp; omega)]
  simp only [Rt.bind_ok]
  have := sto_go (N := N) (P := StOk N) (f := fun s4 y5 => Rt.bind (Rt.bind (Rt.bind (ixF s4 (-1)) fun x7 => F_law_round N x7 [y5]) fun x9 => addF s4 x9) fun found_8 => Rt.ok found_8) (fun acc st p hp h0 h1 hl => by
    rw [ixF_last]
    simp only [Rt.bind_ok]
    rw [s_law_round h hp (fun x hx => by simp at hx; subst hx; exact ⟨h0, h1⟩)]
    simp only [Rt.bind_ok]
    rw [addF_ok (by simp; omega)]
    rfl) (fun st p hp => hp.rnd [p]) cs [] (beg N b) (beg_ok hb b01) hc (by simp; omega)
  rw [List.nil_append, List.nil_append] at this
  show (foldR _ cs [beg N b]).bind _ = _
  rw [this]
  rfl
structure Args (N : Net) (b cs : List Int) : Prop where
  net : NetOk N.1 N.2
  bl : b.length = N.1.toNat
  b01 : B01 b
  cl : cs.length ≤ 30
  cr : ∀ x ∈ cs, 0 ≤ x ∧ x < sz N
def sto (N : Net) (b cs : List Int) : List (List Int) := stoS N (beg N b) cs
def aft (N : Net) (b cs : List Int) : List Int := aftS N (beg N b) cs
theorem sto_len (N : Net) (b cs : List Int) : (sto N b cs).length = cs.length + 1 := stoS_len _ _ _
theorem aft_len {N : Net} {b : List Int} (hb : b.length = N.1.toNat) (cs : List Int) : (aft N b cs).length = sz N := by unfold aft; rw [aftS_len, beg_len hb]
theorem sto_last (N : Net) (b cs : List Int) : ixF (sto N b cs) (-1) = .ok (aft N b cs) := stoS_last _ _ _
theorem Args.sin {N : Net} {b cs : List Int} (a : Args N b cs) : F_story_in N b cs = .ok (sto N b cs) := s_story_in a.net a.bl a.b01 (by have := a.cl; omega) a.cr
theorem sto_at {N : Net} {b cs : List Int} (a : Args N b cs) {i : Int} (h0 : 0 ≤ i) (h1 : i < cs.length + 1) : ixF (sto N b cs) i = .ok (gD [] (sto N b cs) i) ∧ StOk N (gD [] (sto N b cs) i) := by
  have hl := sto_len N b cs
  refine ⟨ixF_ok [] h0 (by omega), ?_⟩
  have e : gD [] (sto N b cs) i = (sto N b cs)[i.toNat]'(by omega) := by
    unfold gD
    rw [List.getD_eq_getElem?_getD, List.getElem?_eq_getElem (by omega)]; rfl
  rw [e]
  exact stoS_mem N _ cs (beg_len a.bl) (beg_01 a.b01) _ (List.getElem_mem _)
def hurt (N : Net) (b cs : List Int) (at_ : Int) : Bool := (ups 0 (sz N)).any fun w => decide (gI (gD [] (sto N b cs) (at_ + 1)) w < gI (gD [] (sto N b cs) at_) w) && decide (gI (ends N b) w = 1)
def unst (N : Net) (b cs : List Int) : List Int := (ups 0 (sz N)).filter fun w => decide (gI (ends N b) w < gI (aft N b cs) w)
/-- where a row leaves somebody wrong -/
def wrg (N : Net) (b cs : List Int) : List Int := (ups 0 (sz N)).filter fun w => decide (gI (aft N b cs) w ≠ gI (ends N b) w)
def brk (N : Net) (cs : List Int) : Option (List Int × Int) := match (bitsN N.1.toNat).find? fun b => decide (wrg N b cs ≠ []) with
  | some b => some (b, gI (wrg N b cs) 0)
  | none => none
structure Calls (N : Net) (cs : List Int) : Prop where
  net : NetOk N.1 N.2
  cl : cs.length ≤ 30
  cr : ∀ x ∈ cs, 0 ≤ x ∧ x < sz N
theorem Calls.args {N : Net} {cs : List Int} (c : Calls N cs) {b : List Int} (hb : b ∈ bitsN N.1.toNat) : Args N b cs := ⟨c.net, (bitsN_mem hb).1, (bitsN_mem hb).2, c.cl, c.cr⟩
theorem s_breaking_in {N : Net} {cs : List Int} (c : Calls N cs) : F_breaking_in N cs = .ok (brk N cs) := by
  have es := sz_eq c.net
  have l11 := sz_le' c.net
  have h1 := c.net.lo
  unfold F_breaking_in
  rw [s_all_bits (by omega) c.net.hi]
  simp only [Rt.bind_ok]
  rw [foldB_find (p := fun b => decide (wrg N b cs ≠ [])) (v := fun b => some (b, gI (wrg N b cs) 0)) fun b hb => ?_]
  · unfold brk
    cases (bitsN N.1.toNat).find? fun b => decide (wrg N b cs ≠ []) <;> rfl
  · have a := c.args hb
    rw [a.sin]
    simp only [Rt.bind_ok, sto_last, s_standing_in a.net a.bl, s_size_of, rg1_ok (n := N.1 + (N.2.length : Int)) (by omega) (by omega)]
    rw [lcF_of (b := fun w => decide (gI (aft N b cs) w ≠ gI (ends N b) w)) (g := fun w => w) (fun w hw => ?_) fun _ _ _ => rfl]
    · simp only [Rt.bind_ok, List.map_id']
      rw [show (N.1 + (N.2.length : Int)).toNat = sz N by omega]
      show (if decide (wrg N b cs ≠ []) then Rt.bind (Rt.bind (Rt.bind (ixF (wrg N b cs) 0) _) _) _ else _) = _
      by_cases q : wrg N b cs = []
      · simp [q]
      · have : (0 : Int) < (wrg N b cs).length := by have := List.length_pos_iff.mpr q; omega
        rw [ixF_ok 0 (by omega) this]
        simp [q]
    · have hw' := mem_ups.mp hw
      rw [ixF_ok 0 (by omega) (by rw [aft_len a.bl]; omega), Rt.bind_ok, ixF_ok 0 (by omega) (by rw [ends_len N a.bl]; omega)]
      rfl
def rin (N : Net) (cs : List Int) : List (List Int) := (bitsN N.1.toNat).filter fun b => decide (aft N b cs = ends N b)
def stl (N : Net) (cs : List Int) : List Int := (ups 0 cs.length).filter fun i => (bitsN N.1.toNat).all fun b => decide (gD [] (sto N b cs) i = gD [] (sto N b cs) (i + 1))
theorem s_law_wrong {N : Net} {cs : List Int} (c : Calls N cs) : F_law_wrong N cs = .ok (brk N cs) := by
  have l11 := sz_le' c.net
  have h1 := c.net.lo
  have cl := c.cl
  unfold F_law_wrong
  rw [s_law_bits (by omega) c.net.hi]
  simp only [Rt.bind_ok]
  rw [foldB_find (p := fun b => decide (wrg N b cs ≠ [])) (v := fun b => some (b, gI (wrg N b cs) 0)) fun b hb => ?_]
  · unfold brk
    cases (bitsN N.1.toNat).find? fun b => decide (wrg N b cs ≠ []) <;> rfl
  · have a := c.args hb
    have el := ends_len N a.bl
    rw [s_law_walk a.net a.bl a.b01 (by omega) a.cr]
    have hl : ixF (stoS N (beg N b) cs) (-1) = .ok (aft N b cs) := stoS_last _ _ _
    simp only [Rt.bind_ok, hl, s_law_end a.net a.bl, rg1_ok (n := ((ends N b).length : Int)) (by omega) (by omega), Int.toNat_natCast]
    rw [lcF_of (b := fun w => decide (gI (aft N b cs) w ≠ gI (ends N b) w)) (g := fun w => w) (fun w hw => ?_) fun _ _ _ => rfl]
    · simp only [Rt.bind_ok, List.map_id', el]
      show (if decide (wrg N b cs ≠ []) then Rt.bind (Rt.bind (Rt.bind (ixF (wrg N b cs) 0) _) _) _ else _) = _
      by_cases q : wrg N b cs = []
      · simp [q]
      · have : (0 : Int) < (wrg N b cs).length := by have := List.length_pos_iff.mpr q; omega
        rw [ixF_ok 0 (by omega) this]
        simp [q]
    · have hw' := mem_ups.mp hw
      rw [ixF_ok 0 (by omega) (by rw [aft_len a.bl]; omega), Rt.bind_ok, ixF_ok 0 (by omega) (by omega)]
      rfl
theorem frI_get {N : Net} {w f : Int} (h1 : w < sz N) (h : f ∈ frI N w) : N.1 ≤ w ∧ ∃ g, N.2[(w - N.1).toNat]? = some g ∧ f ∈ g := by
  unfold frI at h
  split at h
  · rename_i c
    refine ⟨c, ?_⟩
    unfold gD at h
    rw [List.getD_eq_getElem?_getD] at h
    cases q : N.2[(w - N.1).toNat]? with
    | none => rw [q] at h; cases h
    | some g => rw [q] at h; exact ⟨g, rfl, h⟩
  · cases h
theorem foldEnd_app : ∀ (gs : List (List Int)) (f : List Int), ∃ r, gs.foldl endStep f = f ++ r
  | [], f => ⟨[], by simp⟩
  | g :: gs, f => by
    rw [List.foldl_cons]
    obtain ⟨r, e⟩ := foldEnd_app gs (endStep f g)
    rw [e]
    exact ⟨[if g.any (fun o => decide (gI f o = 1)) then 0 else 1] ++ r, by unfold endStep; rw [List.append_assoc]⟩
theorem gI_app {f r : List Int} {i : Int} (h0 : 0 ≤ i) (h1 : i < f.length) : gI (f ++ r) i = gI f i := by
  unfold gI gD
  rw [List.getD_eq_getElem?_getD, List.getD_eq_getElem?_getD, List.getElem?_append_left (by omega)]
theorem ends_low (N : Net) {b : List Int} {w : Int} (h0 : 0 ≤ w) (h1 : w < b.length) : gI (ends N b) w = gI b w := by
  unfold ends
  obtain ⟨r, e⟩ := foldEnd_app N.2 b
  rw [e, gI_app h0 h1]
theorem ends_gate {N : Net} (h : NetOk N.1 N.2) {b : List Int} (hb : b.length = N.1.toNat) {w : Int} (h0 : N.1 ≤ w) (h1 : w < sz N) : gI (ends N b) w = if (frI N w).any (fun f => decide (gI (ends N b) f = 1)) then 0 else 1 := by
  have l1 := h.lo
  have hw : (w - N.1).toNat < N.2.length := by unfold sz at h1; omega
  have rng := h.rng (w - N.1).toNat _ (List.getElem?_eq_getElem hw)
  have ef : frI N w = N.2[(w - N.1).toNat] := by
    unfold frI
    rw [if_pos h0]
    have : w - N.1 = (((w - N.1).toNat : Nat) : Int) := by omega
    conv => lhs; rw [this]
    exact gD_of [] hw
  have sp : N.2 = N.2.take (w - N.1).toNat ++ N.2[(w - N.1).toNat] :: N.2.drop ((w - N.1).toNat + 1) := by
    rw [← List.drop_eq_getElem_cons hw, List.take_append_drop]
  have l0 := foldEnd_len (N.2.take (w - N.1).toNat) b
  rw [List.length_take, Nat.min_eq_left (by omega)] at l0
  have ee : ∃ r, ends N b = endStep ((N.2.take (w - N.1).toNat).foldl endStep b) N.2[(w - N.1).toNat] ++ r := by
    have k : ends N b = (N.2.drop ((w - N.1).toNat + 1)).foldl endStep (endStep ((N.2.take (w - N.1).toNat).foldl endStep b) N.2[(w - N.1).toNat]) := by
      unfold ends
      conv => lhs; rw [sp]
      rw [List.foldl_append, List.foldl_cons]
    rw [k]
    exact foldEnd_app _ _
  obtain ⟨r, ee⟩ := ee
  generalize hp : (N.2.take (w - N.1).toNat).foldl endStep b = P at *
  have lw : w = (P.length : Int) := by omega
  have gl : ∀ f, 0 ≤ f → f < w → gI (ends N b) f = gI P f := fun f f0 f1 => by
    rw [ee]
    unfold endStep
    rw [List.append_assoc, gI_app f0 (by omega)]
  have an : (frI N w).any (fun f => decide (gI (ends N b) f = 1)) = N.2[(w - N.1).toNat].any (fun f => decide (gI P f = 1)) := by
    rw [ef, Bool.eq_iff_iff, List.any_eq_true, List.any_eq_true]
    constructor
    · rintro ⟨f, hf, z⟩
      have := rng f hf
      rw [gl f this.1 (by omega)] at z
      exact ⟨f, hf, z⟩
    · rintro ⟨f, hf, z⟩
      have := rng f hf
      refine ⟨f, hf, ?_⟩
      rw [gl f this.1 (by omega)]
      exact z
  rw [an]
  conv => lhs; rw [ee]
  clear an sp ef rng ee gl hp
  generalize N.2[(w - N.1).toNat] = g
  unfold endStep
  rw [gI_app (by omega) (by simp; omega)]
  unfold gI gD
  rw [lw, List.getD_eq_getElem?_getD]
  simp
theorem rnd_at {N : Net} {st : List Int} {p w : Int} (h0 : 0 ≤ w) (h1 : w < st.length) : gI (rndS N st [p]) w = if p ∈ frI N w ∧ gI st p = 1 then 0 else gI st w := by
  have e : w = ((w.toNat : Nat) : Int) := by omega
  conv => lhs; rw [e]
  rw [gI, gD_of 0 (by rw [rndS_len]; omega)]
  unfold rndS
  rw [List.getElem_map, ups_get]
  rw [show (0 : Int) + (w.toNat : Int) = w by omega]
  have : ((frI N w).any fun q => decide (q ∈ [p]) && decide (gI st q = 1)) = decide (p ∈ frI N w ∧ gI st p = 1) := by
    rw [Bool.eq_iff_iff, List.any_eq_true, decide_eq_true_eq]
    constructor
    · rintro ⟨q, hq, z⟩
      simp only [List.mem_singleton, Bool.and_eq_true, decide_eq_true_eq] at z
      rw [← z.1]; exact ⟨hq, z.1 ▸ z.2⟩
    · rintro ⟨hq, z⟩
      exact ⟨p, hq, by simp [gI] at z ⊢; exact z⟩
  rw [this]
  by_cases c : p ∈ frI N w ∧ gI st p = 1
  · rw [if_pos c, decide_eq_true c]; rfl
  · rw [if_neg c, decide_eq_false c]; rfl
/-- how all stand ahead of a call -/
def stX (N : Net) (b cs : List Int) (i : Nat) : List Int := aftS N (beg N b) (cs.take i)
theorem stoS_get (N : Net) : ∀ (ps st : List Int) (i : Nat), i ≤ ps.length → (stoS N st ps)[i]? = some (aftS N st (ps.take i))
  | [], st, i, h => by
    simp only [List.length_nil, Nat.le_zero_eq] at h
    subst h; rfl
  | p :: ps, st, 0, h => rfl
  | p :: ps, st, i + 1, h => by
    simp only [List.length_cons] at h
    show (stoS N (rndS N st [p]) ps)[i]? = _
    rw [stoS_get N ps _ i (by omega)]
    rfl
theorem sto_X {N : Net} {b cs : List Int} {i : Int} (h0 : 0 ≤ i) (h1 : i ≤ cs.length) : gD [] (sto N b cs) i = stX N b cs i.toNat := by
  unfold gD sto
  rw [List.getD_eq_getElem?_getD, stoS_get N cs _ i.toNat (by omega)]
  rfl
theorem aft_X (N : Net) (b cs : List Int) : aft N b cs = stX N b cs cs.length := by unfold stX; rw [List.take_length]; rfl
theorem X_succ {N : Net} {b cs : List Int} {i : Nat} (h : i < cs.length) : stX N b cs (i + 1) = rndS N (stX N b cs i) [cs[i]] := by
  unfold stX aftS
  rw [List.take_succ_eq_append_getElem h, List.foldl_append]
  rfl
theorem X_ok {N : Net} {b cs : List Int} (a : Args N b cs) (i : Nat) : StOk N (stX N b cs i) := by
  obtain ⟨q1, q2⟩ := beg_ok (N := N) a.bl a.b01
  exact ⟨by unfold stX; rw [aftS_len]; exact q1, by unfold stX; exact aftS_01 N _ q2⟩
theorem X_01 {N : Net} {b cs : List Int} (a : Args N b cs) (i : Nat) {w : Int} (h0 : 0 ≤ w) (h1 : w < sz N) : gI (stX N b cs i) w = 0 ∨ gI (stX N b cs i) w = 1 := by
  obtain ⟨q1, q2⟩ := X_ok a i
  exact q2.at h0 (by omega)
theorem E_01 {N : Net} {b cs : List Int} (a : Args N b cs) {w : Int} (h0 : 0 ≤ w) (h1 : w < sz N) : gI (ends N b) w = 0 ∨ gI (ends N b) w = 1 :=
  B01.at (ends_01 N a.b01) h0 (by rw [ends_len N a.bl]; omega)
theorem X_at {N : Net} {b cs : List Int} (a : Args N b cs) {i : Nat} (hi : i < cs.length) {w : Int} (h0 : 0 ≤ w) (h1 : w < sz N) : gI (stX N b cs (i + 1)) w = if cs[i] ∈ frI N w ∧ gI (stX N b cs i) cs[i] = 1 then 0 else gI (stX N b cs i) w := by
  rw [X_succ hi]
  exact rnd_at h0 (by rw [(X_ok a i).1]; omega)
theorem X_low {N : Net} {b cs : List Int} (a : Args N b cs) {w : Int} (h0 : 0 ≤ w) (h1 : w < N.1) : ∀ i, i ≤ cs.length → gI (stX N b cs i) w = gI b w
  | 0, _ => by
    show gI (beg N b) w = _
    unfold beg
    exact gI_app h0 (by have := a.bl; omega)
  | i + 1, h => by
    rw [X_at a h h0 (by unfold sz; omega)]
    have : frI N w = [] := by unfold frI; rw [if_neg (by omega)]
    rw [this]
    simp only [List.not_mem_nil, false_and, if_false]
    exact X_low a h0 h1 i (by omega)
theorem X_gate {N : Net} {b cs : List Int} (a : Args N b cs) {w : Int} (h0 : N.1 ≤ w) (h1 : w < sz N) : gI (stX N b cs 0) w = 1 := by
  show gI (beg N b) w = 1
  have := a.bl
  have := a.net.lo
  unfold beg gI gD
  unfold sz at h1
  rw [List.getD_eq_getElem?_getD, List.getElem?_append_right (by omega), List.getElem?_replicate, if_pos (by omega)]
  rfl
theorem X_mono {N : Net} {b cs : List Int} (a : Args N b cs) {w : Int} (h0 : 0 ≤ w) (h1 : w < sz N) {i : Nat} (z : gI (stX N b cs i) w = 0) : ∀ j, i ≤ j → j ≤ cs.length → gI (stX N b cs j) w = 0
  | 0, h, _ => by
    have : i = 0 := by omega
    subst this; exact z
  | j + 1, h, hj => by
    by_cases c : i = j + 1
    · subst c; exact z
    · rw [X_at a hj h0 h1, X_mono a h0 h1 z j (by omega) (by omega)]
      split <;> rfl
theorem X_sit {N : Net} {b cs : List Int} (a : Args N b cs) {i : Nat} (hi : i < cs.length) {w : Int} (h0 : 0 ≤ w) (h1 : w < sz N) (hf : cs[i] ∈ frI N w) (hs : gI (stX N b cs i) cs[i] = 1) : gI (stX N b cs (i + 1)) w = 0 := by
  rw [X_at a hi h0 h1, if_pos ⟨hf, hs⟩]
theorem E_low {N : Net} {b cs : List Int} (a : Args N b cs) {w : Int} (h0 : 0 ≤ w) (h1 : w < N.1) : gI (ends N b) w = gI b w := ends_low N h0 (by have := a.bl; omega)
theorem E_one {N : Net} {b cs : List Int} (a : Args N b cs) {w f : Int} (h1 : w < sz N) (z : gI (ends N b) w = 1) (hf : f ∈ frI N w) : gI (ends N b) f ≠ 1 := by
  obtain ⟨h0, _⟩ := frI_get h1 hf
  rw [ends_gate a.net a.bl h0 h1] at z
  intro q
  rw [if_pos (List.any_eq_true.mpr ⟨f, hf, by simpa using q⟩)] at z
  exact absurd z (by decide)
theorem E_zero {N : Net} {b cs : List Int} (a : Args N b cs) {w : Int} (h0 : N.1 ≤ w) (h1 : w < sz N) (z : gI (ends N b) w = 0) : ∃ f ∈ frI N w, gI (ends N b) f = 1 := by
  rw [ends_gate a.net a.bl h0 h1] at z
  split at z
  · rename_i c
    obtain ⟨f, hf, q⟩ := List.any_eq_true.mp c
    exact ⟨f, hf, by simpa using q⟩
  · exact absurd z (by decide)
structure EarlyAt (N : Net) (b cs : List Int) (i : Nat) : Prop where
  hi : i < cs.length
  off : gI (ends N b) cs[i] = 0
  on : gI (stX N b cs i) cs[i] = 1
  who : ∃ w : Int, N.1 ≤ w ∧ w < sz N ∧ cs[i] ∈ frI N w ∧ gI (ends N b) w = 1
theorem X_safe {N : Net} {b cs : List Int} (a : Args N b cs) {w : Int} (h0 : 0 ≤ w) (h1 : w < sz N) (z : gI (ends N b) w = 1) : ∀ i, i ≤ cs.length → (∀ j, j < i → ¬ EarlyAt N b cs j) → gI (stX N b cs i) w = 1
  | 0, _, _ => by
    by_cases c : w < N.1
    · rw [X_low a h0 c 0 (by omega), ← E_low a h0 c]; exact z
    · exact X_gate a (by omega) h1
  | i + 1, hi, ne => by
    rw [X_at a hi h0 h1]
    split
    · rename_i c
      exfalso
      have r := frI_rng a.net h1 c.1
      have e0 := (E_01 a r.1 (by omega)).resolve_right (E_one a h1 z c.1)
      exact ne i (by omega) ⟨hi, e0, c.2, w, (frI_get h1 c.1).1, h1, c.1, z⟩
    · exact X_safe a h0 h1 z i (by omega) fun j hj => ne j (by omega)
theorem early_bad {N : Net} {b cs : List Int} (a : Args N b cs) {i : Nat} (e : EarlyAt N b cs i) : ∃ w : Int, 0 ≤ w ∧ w < sz N ∧ gI (ends N b) w = 1 ∧ gI (aft N b cs) w = 0 := by
  obtain ⟨hi, _, on, w, w0, w1, hf, z⟩ := e
  have := a.net.lo
  refine ⟨w, by omega, w1, z, ?_⟩
  rw [aft_X]
  exact X_mono a (by omega) w1 (X_sit a hi (by omega) w1 hf on) _ hi (Nat.le_refl _)
theorem eq_at {N : Net} {x y : List Int} (hx : x.length = sz N) (hy : y.length = sz N) (h : ∀ w : Int, 0 ≤ w → w < sz N → gI x w = gI y w) : x = y := by
  rw [← map_self x, ← map_self y, hx, hy]
  apply List.map_congr_left
  intro i hi
  have := mem_ups.mp hi
  exact h i (by omega) (by omega)
theorem left_none {N : Net} {b cs : List Int} (a : Args N b cs) (ne : ∀ j, ¬ EarlyAt N b cs j) (met : ∀ w : Int, N.1 ≤ w → w < sz N → gI (ends N b) w = 0 → ∃ f ∈ frI N w, gI (ends N b) f = 1 ∧ f ∈ cs) {w : Int} (h0 : 0 ≤ w) (h1 : w < sz N) (z : gI (aft N b cs) w = 1) : gI (ends N b) w = 1 := by
  refine (E_01 a h0 h1).resolve_left fun z0 => ?_
  by_cases c : w < N.1
  · rw [aft_X, X_low a h0 c _ (Nat.le_refl _), ← E_low a h0 c, z0] at z
    exact absurd z (by decide)
  · obtain ⟨f, hf, f1, fc⟩ := met w (by omega) h1 z0
    obtain ⟨i, hi, rfl⟩ := List.getElem_of_mem fc
    have r := frI_rng a.net h1 hf
    have on := X_safe a r.1 (by omega) f1 i (by omega) fun j _ => ne j
    rw [aft_X, X_mono a h0 h1 (X_sit a hi h0 h1 hf on) _ hi (Nat.le_refl _)] at z
    exact absurd z (by decide)
theorem good_eq {N : Net} {b cs : List Int} (a : Args N b cs) : aft N b cs = ends N b ↔ (∀ j, ¬ EarlyAt N b cs j) ∧ ∀ w : Int, 0 ≤ w → w < sz N → gI (aft N b cs) w = 1 → gI (ends N b) w = 1 := by
  constructor
  · intro h
    refine ⟨fun j e => ?_, fun w _ _ z => by rw [← h]; exact z⟩
    obtain ⟨w, _, _, z1, z0⟩ := early_bad a e
    rw [h, z1] at z0
    exact absurd z0 (by decide)
  · intro ⟨ne, lf⟩
    refine eq_at (aft_len a.bl cs) (ends_len N a.bl) fun w h0 h1 => ?_
    rcases E_01 a h0 h1 with z | z
    · rcases B01.at (aftS_01 N cs (beg_01 a.b01)) h0 (show w < ((aft N b cs).length : Int) by rw [aft_len a.bl]; omega) with q | q
      · rw [z]; exact q
      · have := lf w h0 h1 q
        rw [z] at this
        exact absurd this (by decide)
    · rw [z, aft_X]
      exact X_safe a h0 h1 z _ (Nat.le_refl _) fun j _ => ne j
theorem asc_right {N : Net} {b cs : List Int} (a : Args N b cs) (asc : cs.Pairwise (· < ·)) (all : ∀ w f : Int, w < (sz N : Int) → f ∈ frI N w → f ∈ cs) : aft N b cs = ends N b := by
  have ne : ∀ j, ¬ EarlyAt N b cs j := by
    intro j
    induction j using Nat.strongRecOn with
    | ind j ih =>
      intro ⟨hj, off, on, _⟩
      have r := a.cr cs[j] (List.getElem_mem hj)
      by_cases c : cs[j] < N.1
      · rw [X_low a r.1 c j (by omega), ← E_low a r.1 c, off] at on
        exact absurd on (by decide)
      · obtain ⟨f, hf, f1⟩ := E_zero a (by omega) r.2 off
        have fr := frI_rng a.net r.2 hf
        obtain ⟨i, hi, ei⟩ := List.getElem_of_mem (all _ _ r.2 hf)
        have ij : i < j := by
          by_cases q : i < j
          · exact q
          · exfalso
            by_cases q2 : i = j
            · subst q2; omega
            · have := List.pairwise_iff_getElem.mp asc j i hj hi (by omega)
              omega
        subst ei
        have so := X_safe a fr.1 (by omega) f1 i (by omega) fun k hk => ih k (by omega)
        rw [X_mono a r.1 r.2 (X_sit a hi r.1 r.2 hf so) j (by omega) (by omega)] at on
        exact absurd on (by decide)
  refine (good_eq a).mpr ⟨ne, fun w h0 h1 => left_none a ne (fun w g0 g1 z => ?_) h0 h1⟩
  obtain ⟨f, hf, f1⟩ := E_zero a g0 g1 z
  exact ⟨f, hf, f1, all _ _ g1 hf⟩
theorem rnd_ends {N : Net} (h : NetOk N.1 N.2) {b : List Int} (hb : b.length = N.1.toNat) (b01 : B01 b) (p : Int) : rndS N (ends N b) [p] = ends N b := by
  have l := ends_len N hb
  refine eq_at (by rw [rndS_len]; exact l) l fun w h0 h1 => ?_
  rw [rnd_at h0 (by omega)]
  split
  · rename_i c
    obtain ⟨g0, _⟩ := frI_get h1 c.1
    rw [ends_gate h hb g0 h1, if_pos (List.any_eq_true.mpr ⟨p, c.1, by simpa using c.2⟩)]
  · rfl
theorem aft_ends {N : Net} (h : NetOk N.1 N.2) {b : List Int} (hb : b.length = N.1.toNat) (b01 : B01 b) : ∀ ds : List Int, aftS N (ends N b) ds = ends N b
  | [] => rfl
  | d :: ds => by
    show aftS N (rndS N (ends N b) [d]) ds = _
    rw [rnd_ends h hb b01]
    exact aft_ends h hb b01 ds
theorem app_right {N : Net} (h : NetOk N.1 N.2) {b : List Int} (hb : b.length = N.1.toNat) (b01 : B01 b) {cs : List Int} (e : aft N b cs = ends N b) (ds : List Int) : aft N b (cs ++ ds) = ends N b := by
  unfold aft aftS at e ⊢
  rw [List.foldl_append, e]
  exact aft_ends h hb b01 ds
theorem wrg_nil {N : Net} {b : List Int} (hb : b.length = N.1.toNat) {cs : List Int} : wrg N b cs = [] ↔ aft N b cs = ends N b := by
  unfold wrg
  rw [List.filter_eq_nil_iff]
  constructor
  · intro h
    refine eq_at (aft_len hb cs) (ends_len N hb) fun w h0 h1 => ?_
    have := h w (mem_ups.mpr ⟨h0, by omega⟩)
    simpa using this
  · intro h w _
    rw [h]
    simp
theorem brk_all {N : Net} {cs : List Int} : (brk N cs).isNone = (bitsN N.1.toNat).all fun b => decide (aft N b cs = ends N b) := by
  unfold brk
  rw [Bool.eq_iff_iff, List.all_eq_true]
  cases q : (bitsN N.1.toNat).find? fun b => decide (wrg N b cs ≠ []) with
  | none =>
    simp only [Option.isNone_none, true_iff]
    intro b hb
    have := List.find?_eq_none.mp q b hb
    rw [decide_eq_true_eq]
    refine (wrg_nil (bitsN_mem hb).1).mp ?_
    simpa using this
  | some b =>
    simp only [Option.isNone_some, Bool.false_eq_true, false_iff]
    intro h
    have hb := List.mem_of_find?_eq_some q
    have := List.find?_some q
    rw [decide_eq_true_eq] at this
    have := h b hb
    rw [decide_eq_true_eq] at this
    exact ‹wrg N b cs ≠ []› ((wrg_nil (bitsN_mem hb).1).mpr this)
theorem brk_true {N : Net} {cs : List Int} (h : ∀ b ∈ bitsN N.1.toNat, aft N b cs = ends N b) : (brk N cs).isNone = true := by
  rw [brk_all, List.all_eq_true]
  intro b hb
  rw [decide_eq_true_eq]
  exact h b hb
theorem foldB_go {β σ δ : Type} {f : σ → β → Rt (Lp σ δ)} {g : σ → β → σ} : ∀ {xs : List β}, (∀ x ∈ xs, ∀ s, f s x = .ok (.go (g s x))) → ∀ s, foldB f xs s = .ok (.go (xs.foldl g s))
  | [], _, s => rfl
  | x :: xs, h, s => by
    unfold foldB
    rw [h x List.mem_cons_self]
    exact foldB_go (fun y hy => h y (List.mem_cons_of_mem _ hy)) (g s x)
theorem foldB_out {β σ δ : Type} {f : σ → β → Rt (Lp σ δ)} {g : σ → β → σ} {x : β} {zs : List β} {v : δ} : ∀ {ys : List β} {s : σ}, (∀ y ∈ ys, ∀ s, f s y = .ok (.go (g s y))) → (∀ s, f s x = .ok (.out v)) → foldB f (ys ++ x :: zs) s = .ok (.out v)
  | [], s, _, h => by
    show foldB f (x :: zs) s = _
    unfold foldB
    rw [h s]
    rfl
  | y :: ys, s, h0, h => by
    show foldB f (y :: (ys ++ x :: zs)) s = _
    unfold foldB
    rw [h0 y List.mem_cons_self]
    exact foldB_out (fun z hz => h0 z (List.mem_cons_of_mem _ hz)) h
theorem ups_split {n k : Nat} (h : k < n) : ups 0 n = ups 0 k ++ (k : Int) :: ups ((k : Int) + 1) (n - k - 1) := by
  apply List.ext_getElem
  · rw [List.length_append, List.length_cons, ups_len, ups_len, ups_len]; omega
  · intro i h1 h2
    rw [ups_get]
    rw [List.getElem_append]
    split
    · rw [ups_get]
    · rename_i c
      rw [ups_len] at c
      rw [List.getElem_cons]
      split
      · rename_i q
        rw [ups_len] at q
        omega
      · rename_i q
        rw [ups_len] at q
        rw [ups_get, ups_len]
        omega
theorem enumF_in {β : Type} {xs : List β} {i : Nat} {v : β} (h : xs[i]? = some v) : ((i : Int), v) ∈ enumF xs := by
  unfold enumF
  refine List.mem_map.mpr ⟨(v, i), ?_, rfl⟩
  exact List.mem_zipIdx_iff_getElem?.mpr h
theorem cutL_to {α : Type} (xs : List α) {i : Int} (h0 : 0 ≤ i) (h1 : i ≤ xs.length) : cutL xs none (some i) = xs.take i.toNat := by
  unfold cutL
  have e1 : HT.sIx xs.length 0 none = 0 := rfl
  have e2 : HT.sIx xs.length xs.length (some i) = i.toNat := by
    unfold HT.sIx
    simp only
    rw [if_neg (by omega)]
    omega
  rw [e1, e2]
  simp
theorem cutL_from {α : Type} (xs : List α) {i : Int} (h0 : 0 ≤ i) (h1 : i ≤ xs.length) : cutL xs (some i) none = xs.drop i.toNat := by
  unfold cutL
  have e1 : HT.sIx xs.length 0 (some i) = i.toNat := by
    unfold HT.sIx
    simp only
    rw [if_neg (by omega)]
    omega
  have e2 : HT.sIx xs.length xs.length none = xs.length := rfl
  rw [e1, e2, List.take_of_length_le]
  rw [List.length_drop]
  omega
theorem idxF_mem {α : Type} [DecidableEq α] {x : α} : ∀ {xs : List α}, x ∈ xs → ∃ j, idxF x xs = some j ∧ j < xs.length
  | [], h => by simp at h
  | z :: zs, h => by
    unfold idxF
    by_cases c : z = x
    · exact ⟨0, by rw [if_pos c], by simp⟩
    · rcases List.mem_cons.mp h with e | h
      · exact absurd e.symm c
      · obtain ⟨j, e, l⟩ := idxF_mem h
        exact ⟨j + 1, by rw [if_neg c, e]; rfl, by simp; omega⟩
def posF {α : Type} [DecidableEq α] (x : α) (xs : List α) : Int := ((idxF x xs).getD 0 : Nat)
theorem indexF_ok {α : Type} [DecidableEq α] {x : α} {xs : List α} (h : x ∈ xs) : indexF xs x = .ok (posF x xs) ∧ 0 ≤ posF x xs ∧ posF x xs < xs.length := by
  obtain ⟨j, e, l⟩ := idxF_mem h
  unfold indexF posF
  rw [e]
  exact ⟨rfl, by simp, by simpa using l⟩
theorem foldR_fm {β γ : Type} {f : List γ → β → Rt (List γ)} {g : β → List γ} (M : Nat) : ∀ {xs : List β}, (∀ x ∈ xs, ∀ s : List γ, s.length + (g x).length ≤ M → f s x = .ok (s ++ g x)) → ∀ acc : List γ, acc.length + (xs.flatMap g).length ≤ M → foldR f xs acc = .ok (acc ++ xs.flatMap g)
  | [], _, acc, _ => by simp [foldR]
  | x :: xs, h, acc, hl => by
    rw [List.flatMap_cons, List.length_append] at hl
    unfold foldR
    rw [h x List.mem_cons_self acc (by omega)]
    show foldR f xs (acc ++ g x) = _
    rw [foldR_fm M (fun y hy => h y (List.mem_cons_of_mem _ hy)) _ (by rw [List.length_append]; omega), List.flatMap_cons, List.append_assoc]
/-- a row, and one more who is not in it -/
def exr (n : Nat) (row : List Int) : List (List Int) := ((ups 0 n).filter fun p => decide (p ∉ row)).map fun p => row ++ [p]
def rws (n : Nat) : Nat → List (List Int)
  | 0 => [[]]
  | k + 1 => (rws n k).flatMap (exr n)
theorem exr_len (n : Nat) (row : List Int) : (exr n row).length ≤ n := by
  unfold exr
  rw [List.length_map]
  have := List.length_filter_le (fun p => decide (p ∉ row)) (ups 0 n)
  rw [ups_len] at this
  exact this
theorem fm_len {β γ : Type} {g : β → List γ} {n : Nat} (h : ∀ x, (g x).length ≤ n) : ∀ xs : List β, (xs.flatMap g).length ≤ xs.length * n
  | [] => by simp
  | x :: xs => by
    rw [List.flatMap_cons, List.length_append, List.length_cons, Nat.add_mul, Nat.one_mul]
    have := fm_len h xs
    have := h x
    omega
theorem rws_len (n : Nat) : ∀ k, (rws n k).length ≤ n ^ k
  | 0 => by simp [rws]
  | k + 1 => by
    have h1 := fm_len (exr_len n) (rws n k)
    have h2 := rws_len n k
    show ((rws n k).flatMap (exr n)).length ≤ n ^ k * n
    exact Nat.le_trans h1 (Nat.mul_le_mul_right n h2)
theorem rws_mem {n : Nat} : ∀ {k : Nat} {r : List Int}, r ∈ rws n k ↔ r.length = k ∧ r.Nodup ∧ ∀ x ∈ r, 0 ≤ x ∧ x < (n : Int)
  | 0, r => by
    simp only [rws, List.mem_singleton]
    constructor
    · rintro rfl; simp
    · rintro ⟨h, _⟩; exact List.eq_nil_of_length_eq_zero h
  | k + 1, r => by
    show r ∈ (rws n k).flatMap (exr n) ↔ _
    rw [List.mem_flatMap]
    constructor
    · rintro ⟨q, hq, hr⟩
      obtain ⟨h1, h2, h3⟩ := rws_mem.mp hq
      unfold exr at hr
      obtain ⟨p, hp, rfl⟩ := List.mem_map.mp hr
      obtain ⟨hp1, hp2⟩ := List.mem_filter.mp hp
      have hm := mem_ups.mp hp1
      rw [decide_eq_true_eq] at hp2
      refine ⟨by simp [h1], ?_, fun x hx => ?_⟩
      · rw [List.nodup_append]
        refine ⟨h2, by simp, fun a ha b hb => ?_⟩
        simp only [List.mem_singleton] at hb
        subst hb
        intro e
        subst e
        exact hp2 ha
      · rcases List.mem_append.mp hx with z | z
        · exact h3 x z
        · simp only [List.mem_singleton] at z
          omega
    · rintro ⟨h1, h2, h3⟩
      have hne : r ≠ [] := by intro e; subst e; simp at h1
      have e := List.dropLast_concat_getLast hne
      rw [← e] at h2
      rw [List.nodup_append] at h2
      refine ⟨r.dropLast, rws_mem.mpr ⟨by simp [h1], h2.1, fun x hx => h3 x (List.dropLast_subset r hx)⟩, ?_⟩
      unfold exr
      refine List.mem_map.mpr ⟨r.getLast hne, List.mem_filter.mpr ⟨mem_ups.mpr ?_, ?_⟩, e⟩
      · have := h3 _ (List.getLast_mem hne)
        omega
      · rw [decide_eq_true_eq]
        intro z
        exact h2.2.2 _ z _ (List.mem_singleton.mpr rfl) rfl
/-- ascending, as rows are ordered -/
theorem lt_app {a b : List Int} (h : a < b) (hl : a.length = b.length) (x y : Int) : a ++ [x] < b ++ [y] := by
  induction a generalizing b with
  | nil =>
    cases b with
    | nil => exact absurd h (by simp)
    | cons => simp at hl
  | cons c a ih =>
    cases b with
    | nil => simp at hl
    | cons d b =>
      simp only [List.cons_append]
      rw [List.cons_lt_cons_iff] at h ⊢
      rcases h with h | ⟨h1, h2⟩
      · exact .inl h
      · exact .inr ⟨h1, ih h2 (by simpa using hl)⟩
theorem lt_last (a : List Int) {x y : Int} (h : x < y) : a ++ [x] < a ++ [y] := by
  induction a with
  | nil =>
    show [x] < [y]
    rw [List.cons_lt_cons_iff]
    exact .inl h
  | cons c a ih =>
    simp only [List.cons_append]
    rw [List.cons_lt_cons_iff]
    exact .inr ⟨rfl, ih⟩
theorem rws_asc (n : Nat) : ∀ k, (rws n k).Pairwise (· < ·)
  | 0 => by simp [rws]
  | k + 1 => by
    show ((rws n k).flatMap (exr n)).Pairwise (· < ·)
    rw [List.pairwise_flatMap]
    refine ⟨fun r hr => ?_, ?_⟩
    · unfold exr
      rw [List.pairwise_map]
      exact (List.Pairwise.sublist List.filter_sublist (ups_asc 0 n)).imp fun h => lt_last r h
    · refine List.Pairwise.imp_of_mem ?_ (rws_asc n k)
      intro a b ha hb h x hx y hy
      unfold exr at hx hy
      obtain ⟨p, _, rfl⟩ := List.mem_map.mp hx
      obtain ⟨q, _, rfl⟩ := List.mem_map.mp hy
      exact lt_app h (by rw [(rws_mem.mp ha).1, (rws_mem.mp hb).1]) p q
theorem dLe_ints (a b : List Int) : dLe (eT PyData.int a) (eT PyData.int b) = !decide (b < a) := by
  show (!PySem.W.dataLt (eT PyData.int b) (eT PyData.int a)) = _
  unfold eT
  rw [PySem.W.dataLt_tuple]
  have := PySem.W.dataLt_ints b a
  unfold PySem.W.rowLt at this
  rw [this]
theorem depth0 : ∀ xs : List Int, PyData.depthAll (xs.map PyData.int) = 0
  | [] => by simp [PyData.depthAll]
  | x :: xs => by
    have := depth0 xs
    simp [PyData.depthAll, PyData.depth, this]
theorem lay0 : ∀ xs : List Int, PyData.canLayAll0 (xs.map PyData.int) = true
  | [] => by simp [PyData.canLayAll0]
  | x :: xs => by
    have := lay0 xs
    simp [PyData.canLayAll0, PyData.canLay0, this]
theorem srt_ok {xs : List (List Int)} (h : ∀ x ∈ xs, x ≠ []) : srtOk (xs.map (eT PyData.int)) = true := by
  unfold srtOk
  rw [Bool.and_eq_true, Bool.and_eq_true, Bool.or_eq_true]
  refine ⟨⟨?_, .inl ?_⟩, ?_⟩
  · rw [List.all_eq_true]
    intro d hd
    rw [List.all_eq_true]
    intro e he
    obtain ⟨a, _, rfl⟩ := List.mem_map.mp hd
    obtain ⟨b, _, rfl⟩ := List.mem_map.mp he
    unfold eT
    rw [PySem.W.alike]
    exact PySem.W.alike_ints a b
  · rw [List.all_eq_true]
    intro d hd
    obtain ⟨a, ha, rfl⟩ := List.mem_map.mp hd
    cases a with
    | nil => exact absurd rfl (h _ ha)
    | cons x r => rfl
  · rw [List.all_eq_true]
    intro d hd
    obtain ⟨a, ha, rfl⟩ := List.mem_map.mp hd
    unfold eT
    rw [Bool.and_eq_true, decide_eq_true_eq]
    refine ⟨?_, ?_⟩
    · rw [PyData.canLay0]
      exact lay0 a
    · rw [PyData.depth, depth0 a]
      omega
theorem srt_rows {xs : List (List Int)} (h : ∀ x ∈ xs, x ≠ []) (hs : xs.Pairwise (· < ·)) : srtF (eT PyData.int) xs = .ok xs := by
  unfold srtF
  rw [srt_ok h]
  show Rt.ok _ = _
  congr 1
  apply List.mergeSort_of_pairwise
  refine hs.imp fun {a b} z => ?_
  rw [dLe_ints, Bool.not_eq_true', decide_eq_false_iff_not]
  exact fun w => List.lt_asymm z w
def stR (N : Net) (r : List Int) : List (List Int) := (bitsN N.1.toNat).map fun b => aft N b r
def goalL (N : Net) : List (List Int) := (bitsN N.1.toNat).map fun b => ends N b
def lostR (N : Net) (r : List Int) : Bool := (bitsN N.1.toNat).any fun b => ((aft N b r).zip (ends N b)).any fun y => decide (y.1 < y.2)
theorem s_begins {N : Net} (h : NetOk N.1 N.2) : F_begins N = .ok (stR N []) := by
  have h1 := h.lo
  unfold F_begins
  rw [s_all_bits (by omega) h.hi]
  simp only [Rt.bind_ok]
  rw [mapF_of (g := fun b => aft N b []) fun b hb => s_begin h (bitsN_mem hb).1]
  rfl
theorem s_goal_of {N : Net} (h : NetOk N.1 N.2) : F_goal_of N = .ok (goalL N) := by
  have h1 := h.lo
  unfold F_goal_of
  rw [s_all_bits (by omega) h.hi]
  simp only [Rt.bind_ok]
  rw [mapF_of (g := fun b => ends N b) fun b hb => s_standing_in h (bitsN_mem hb).1]
  rfl
theorem aft_snoc (N : Net) (b r : List Int) (p : Int) : aft N b (r ++ [p]) = rndS N (aft N b r) [p] := by
  unfold aft aftS
  rw [List.foldl_append]
  rfl
theorem aft_ok {N : Net} {b : List Int} (hb : b ∈ bitsN N.1.toNat) (r : List Int) : StOk N (aft N b r) := ⟨aft_len (bitsN_mem hb).1 r, aftS_01 N r (beg_01 (bitsN_mem hb).2)⟩
theorem s_all_call {N : Net} (h : NetOk N.1 N.2) (r : List Int) {p : Int} (h0 : 0 ≤ p) (h1 : p < sz N) : F_all_call N (stR N r) p = .ok (stR N (r ++ [p])) := by
  unfold F_all_call
  simp only [Rt.bind_ok]
  rw [mapF_of (g := fun st => rndS N st [p]) fun st hst => ?_]
  · simp only [Rt.bind_ok]
    unfold stR
    rw [List.map_map]
    congr 1
    apply List.map_congr_left
    intro b _
    show rndS N (aft N b r) [p] = _
    rw [aft_snoc]
  · unfold stR at hst
    obtain ⟨b, hb, rfl⟩ := List.mem_map.mp hst
    have := aft_ok hb r
    exact s_call_in h this.1 this.2 h0 h1
theorem s_is_lost {N : Net} (h : NetOk N.1 N.2) (r : List Int) : F_is_lost (stR N r) (goalL N) = .ok (lostR N r) := by
  have h2 := h.hi
  have h1 := h.lo
  have b8 : 2 ^ N.1.toNat ≤ 8 := Nat.pow_le_pow_right (n := 2) (by omega) (by omega : N.1.toNat ≤ 3)
  have l11 := sz_le' h
  have bl := bitsN_len N.1.toNat
  unfold F_is_lost zipF
  rw [decide_eq_true (sz_le (by unfold stR; rw [List.length_map]; omega))]
  have ez : (stR N r).zip (goalL N) = (bitsN N.1.toNat).map fun b => (aft N b r, ends N b) := by
    unfold stR goalL
    exact List.zip_map'
  simp only [Rt.gd_true, Rt.bind_ok, ez]
  rw [mapF_of (g := fun y : List Int × List Int => (y.1.zip y.2).any fun y => decide (y.1 < y.2)) fun y hy => ?_]
  · simp only [Rt.bind_ok, List.map_map, any_id_map]
    rfl
  · obtain ⟨b, hb, rfl⟩ := List.mem_map.mp hy
    have := aft_ok hb r
    simp only
    rw [decide_eq_true (sz_le (by rw [this.1]; omega))]
    simp only [Rt.gd_true, Rt.bind_ok]
    rw [mapF_of (g := fun y : Int × Int => decide (y.1 < y.2)) fun _ _ => rfl]
    simp only [Rt.bind_ok, any_id_map]
theorem zip_any {N : Net} {x y : List Int} (hx : x.length = sz N) (hy : y.length = sz N) : ((x.zip y).any fun z => decide (z.1 < z.2)) = true ↔ ∃ w : Int, 0 ≤ w ∧ w < sz N ∧ gI x w < gI y w := by
  rw [List.any_eq_true]
  constructor
  · rintro ⟨z, hz, q⟩
    rw [decide_eq_true_eq] at q
    obtain ⟨i, hi, e⟩ := List.getElem_of_mem hz
    have hi' := hi
    rw [List.length_zip] at hi'
    rw [List.getElem_zip] at e
    refine ⟨(i : Int), by omega, by omega, ?_⟩
    rw [gI, gI, gD_of 0 (by omega), gD_of 0 (by omega)]
    rw [← e] at q
    exact q
  · rintro ⟨w, h0, h1, q⟩
    have e : w = ((w.toNat : Nat) : Int) := by omega
    rw [e, gI, gI, gD_of 0 (by omega), gD_of 0 (by omega)] at q
    refine ⟨(x[w.toNat]'(by omega), y[w.toNat]'(by omega)), ?_, by rw [decide_eq_true_eq]; exact q⟩
    rw [List.mem_iff_getElem]
    exact ⟨w.toNat, by rw [List.length_zip]; omega, by rw [List.getElem_zip]⟩
theorem lost_iff {N : Net} {r : List Int} : lostR N r = true ↔ ∃ b ∈ bitsN N.1.toNat, ∃ w : Int, 0 ≤ w ∧ w < sz N ∧ gI (aft N b r) w < gI (ends N b) w := by
  unfold lostR
  rw [List.any_eq_true]
  constructor
  · rintro ⟨b, hb, q⟩
    exact ⟨b, hb, (zip_any (aft_ok hb r).1 (ends_len N (bitsN_mem hb).1)).mp q⟩
  · rintro ⟨b, hb, q⟩
    exact ⟨b, hb, (zip_any (aft_ok hb r).1 (ends_len N (bitsN_mem hb).1)).mpr q⟩
theorem lost_snoc {N : Net} {r : List Int} (p : Int) (h : lostR N r = true) : lostR N (r ++ [p]) = true := by
  obtain ⟨b, hb, w, h0, h1, q⟩ := lost_iff.mp h
  refine lost_iff.mpr ⟨b, hb, w, h0, h1, ?_⟩
  have ok := aft_ok hb r
  rw [aft_snoc, rnd_at h0 (by rw [ok.1]; omega)]
  split
  · rcases ok.2.at h0 (by rw [ok.1]; omega) with z | z
    · rw [z] at q; exact q
    · have := (B01.at (ends_01 N (bitsN_mem hb).2) h0 (show w < ((ends N b).length : Int) by rw [ends_len N (bitsN_mem hb).1]; omega))
      omega
  · exact q
theorem goal_not_lost {N : Net} {r : List Int} (h : stR N r = goalL N) : lostR N r = false := by
  rw [← Bool.not_eq_true]
  intro q
  obtain ⟨b, hb, w, h0, h1, q⟩ := lost_iff.mp q
  have : aft N b r = ends N b := by
    unfold stR goalL at h
    exact List.map_inj_left.mp h b hb
  rw [this] at q
  omega
theorem lost_nil {N : Net} (h : NetOk N.1 N.2) : lostR N [] = false := by
  rw [← Bool.not_eq_true]
  intro q
  obtain ⟨b, hb, w, h0, h1, q⟩ := lost_iff.mp q
  have a : Args N b [] := ⟨h, (bitsN_mem hb).1, (bitsN_mem hb).2, by simp, by simp⟩
  have e : aft N b [] = stX N b [] 0 := rfl
  rw [e] at q
  by_cases c : w < N.1
  · rw [X_low a h0 c 0 (Nat.le_refl _), E_low a h0 c] at q
    omega
  · rw [X_gate a (by omega) h1] at q
    have := E_01 a h0 h1
    omega
theorem filter_fm {α β : Type} (q : α → Bool) (g : α → List β) : ∀ xs : List α, (xs.filter q).flatMap g = xs.flatMap fun x => if q x then g x else []
  | [] => rfl
  | x :: xs => by
    rw [List.filter_cons, List.flatMap_cons]
    cases q x with
    | true => simp only [if_true, List.flatMap_cons, filter_fm q g xs]
    | false => simp only [Bool.false_eq_true, if_false, List.nil_append, filter_fm q g xs]
theorem fm_if {α β : Type} (c : α → Bool) (f : α → β) : ∀ xs : List α, (xs.flatMap fun x => if c x then [f x] else []) = (xs.filter c).map f
  | [] => rfl
  | x :: xs => by
    rw [List.filter_cons, List.flatMap_cons, fm_if c f xs]
    cases c x <;> rfl
theorem fm_filter {α β : Type} (q : β → Bool) (g : α → List β) : ∀ xs : List α, (xs.flatMap g).filter q = xs.flatMap fun x => (g x).filter q
  | [] => rfl
  | x :: xs => by rw [List.flatMap_cons, List.flatMap_cons, List.filter_append, fm_filter q g xs]
theorem fm_map {α β γ : Type} (f : β → γ) (g : α → List β) : ∀ xs : List α, (xs.flatMap g).map f = xs.flatMap fun x => (g x).map f
  | [] => rfl
  | x :: xs => by rw [List.flatMap_cons, List.flatMap_cons, List.map_append, fm_map f g xs]
theorem fm_congr {α β : Type} {g g' : α → List β} : ∀ {xs : List α}, (∀ x ∈ xs, g x = g' x) → xs.flatMap g = xs.flatMap g'
  | [], _ => rfl
  | x :: xs, h => by rw [List.flatMap_cons, List.flatMap_cons, h x List.mem_cons_self, fm_congr fun y hy => h y (List.mem_cons_of_mem _ hy)]
theorem map_fm {α β γ : Type} (f : α → β) (g : β → List γ) : ∀ xs : List α, (xs.map f).flatMap g = xs.flatMap fun x => g (f x)
  | [] => rfl
  | x :: xs => by rw [List.map_cons, List.flatMap_cons, List.flatMap_cons, map_fm f g xs]
/-- rows grown as long as they are good, where a good row's beginnings are good -/
theorem grow {α : Type} {n : Nat} (good : List Int → Bool) (mk : List Int → α) (hg : ∀ r p, good (r ++ [p]) = true → good r = true) (k : Nat) :
    (((rws n k).filter good).flatMap fun r => ((ups 0 n).flatMap fun p => if decide (p ∉ r) && good (r ++ [p]) then [mk (r ++ [p])] else [])) = ((rws n (k + 1)).filter good).map mk := by
  show _ = (((rws n k).flatMap (exr n)).filter good).map mk
  rw [fm_filter, fm_map, filter_fm]
  apply fm_congr
  intro r _
  by_cases c : good r = true
  · rw [if_pos c, fm_if (fun p => decide (p ∉ r) && good (r ++ [p])) fun p => mk (r ++ [p])]
    unfold exr
    rw [List.filter_map, List.map_map, List.filter_filter]
    congr 1
    apply List.filter_congr
    intro p _
    show (decide (p ∉ r) && good (r ++ [p])) = (good (r ++ [p]) && decide (p ∉ r))
    rw [Bool.and_comm]
  · rw [if_neg c]
    have : (exr n r).filter good = [] := by
      rw [List.filter_eq_nil_iff]
      intro q hq
      unfold exr at hq
      obtain ⟨p, _, rfl⟩ := List.mem_map.mp hq
      exact fun z => c (hg r p z)
    rw [this]
    rfl
theorem len_if {α : Type} (c : Bool) (x : α) : (if c then [x] else []).length ≤ 1 := by cases c <;> simp
theorem rws_small {n : Nat} (hn : n ≤ 5) {k : Nat} (hk : k ≤ 5) : (rws n k).length ≤ 3125 := by
  refine Nat.le_trans (rws_len n k) ?_
  have h1 : n ^ k ≤ 5 ^ k := Nat.pow_le_pow_left hn k
  have h2 : 5 ^ k ≤ 5 ^ 5 := Nat.pow_le_pow_right (by omega) hk
  omega
/-- the right rows of all people -/
def rgt (N : Net) : List (List Int) := (rws (sz N) (sz N)).filter fun r => decide (stR N r = goalL N)
theorem s_orders_from {N : Net} (h : NetOk N.1 N.2) (hn : sz N ≤ 5) : F_orders_from N = .ok (rgt N) := by
  have es := sz_eq h
  have h1 := h.lo
  have sp : 0 < sz N := by unfold sz; omega
  unfold F_orders_from
  rw [s_goal_of h, s_begins h]
  simp only [Rt.bind_ok, s_size_of, rg1_ok (n := N.1 + (N.2.length : Int)) (by omega) (by omega)]
  rw [show (N.1 + (N.2.length : Int)).toNat = sz N by omega]
  refine foldR_then (fun (s : List (List Int × List (List Int))) (_ : Int) => s.flatMap fun y => (ups 0 (sz N)).flatMap fun p => if decide (p ∉ y.1) && !lostR N (y.1 ++ [p]) then [(y.1 ++ [p], stR N (y.1 ++ [p]))] else []) (fun i s => s = ((rws (sz N) i).filter fun r => !lostR N r).map fun r => (r, stR N r)) ?_ (fun i hi s I => ?_) fun I => ?_
  · show [([], stR N [])] = _
    simp [rws, lost_nil h]
  · rw [ups_len] at hi
    have gr := grow (n := sz N) (fun r => !lostR N r) (fun r => (r, stR N r)) (fun r p q => by
      rw [Bool.not_eq_true'] at q ⊢
      rw [← Bool.not_eq_true]
      intro z
      rw [lost_snoc p z] at q
      cases q) i
    have nx : (s.flatMap fun y => (ups 0 (sz N)).flatMap fun p => if decide (p ∉ y.1) && !lostR N (y.1 ++ [p]) then [(y.1 ++ [p], stR N (y.1 ++ [p]))] else []) = ((rws (sz N) (i + 1)).filter fun r => !lostR N r).map fun r => (r, stR N r) := by
      rw [I, map_fm]
      exact gr
    have nl : (((rws (sz N) (i + 1)).filter fun r => !lostR N r).map fun r => (r, stR N r)).length ≤ 3125 := by
      rw [List.length_map]
      exact Nat.le_trans (List.length_filter_le _ _) (rws_small hn (by omega))
    refine ⟨?_, nx⟩
    have fm := foldR_fm (γ := List Int × List (List Int)) (g := fun y : List Int × List (List Int) => (ups 0 (sz N)).flatMap fun p => if decide (p ∉ y.1) && !lostR N (y.1 ++ [p]) then [(y.1 ++ [p], stR N (y.1 ++ [p]))] else []) (f := fun (s13 : List (List Int × List (List Int))) (y14 : List Int × List (List Int)) =>
      Rt.bind (foldR (fun (s16 : List (List Int × List (List Int))) (y17 : Int) => Rt.bind (Rt.bind (Rt.ok (decide (y17 ∉ y14.1))) (fun c19 => if c19 then Rt.bind (F_all_call N y14.2 y17) (fun there => Rt.bind (Rt.bind (Rt.bind (F_is_lost there (goalL N)) (fun c22 => Rt.ok (!c22))) (fun c23 => if c23 then Rt.bind (Rt.bind (Rt.bind (snocF y14.1 y17) (fun x25 => Rt.ok (x25, there))) (fun x27 => addF s16 x27)) (fun l => Rt.ok l) else Rt.ok s16)) (fun s24 => Rt.ok s24)) else Rt.ok s16)) (fun s20 => Rt.ok s20)) (ups 0 (sz N)) s13) (fun s16 => Rt.ok s16)) 10000 (xs := s) (fun y hy s13 hs => ?_) [] (by rw [nx]; simp only [List.length_nil]; omega)
    · rw [List.nil_append] at fm
      try simp only [Rt.bind_ok]
      try simp only [Rt.bind_ok] at fm
      rw [fm]
      rfl
    · rw [I] at hy
      obtain ⟨r, hr, rfl⟩ := List.mem_map.mp hy
      have hr := (List.mem_filter.mp hr).1
      have rl := (rws_mem.mp hr).1
      simp only
      rw [foldR_fm (g := fun p => if decide (p ∉ r) && !lostR N (r ++ [p]) then [(r ++ [p], stR N (r ++ [p]))] else []) 10000 (fun p hp s16 hs16 => ?_) s13 hs]
      · rfl
      · have hm := mem_ups.mp hp
        by_cases c : p ∈ r
        · simp [c]
        · simp only [c, not_false_eq_true, decide_true, Rt.bind_ok, if_true, s_all_call h r hm.1 (by omega), s_is_lost h, Bool.true_and]
          cases q : lostR N (r ++ [p])
          · simp only [Bool.not_false, if_true]
            rw [snocF_ok (by omega)]
            simp only [Rt.bind_ok]
            simp only [c, q, not_false_eq_true, decide_true, Bool.not_false, Bool.and_self, if_true, List.length_cons, List.length_nil] at hs16
            rw [addF_ok (by omega)]
            rfl
          · simp
  · rw [ups_len] at I
    rw [I]
    try simp only [Rt.bind_ok]
    rw [lcF_of (b := fun y : List Int × List (List Int) => decide (y.2 = goalL N)) (g := fun y : List Int × List (List Int) => y.1) (fun _ _ => rfl) fun _ _ _ => rfl]
    simp only [Rt.bind_ok]
    have e : ((((rws (sz N) (sz N)).filter fun r => !lostR N r).map fun r => (r, stR N r)).filter fun y => decide (y.2 = goalL N)).map (fun y => y.1) = rgt N := by
      rw [List.filter_map, List.map_map, List.filter_filter]
      show List.map (fun r => r) _ = _
      rw [List.map_id']
      unfold rgt
      apply List.filter_congr
      intro r _
      show (decide (stR N r = goalL N) && !lostR N r) = decide (stR N r = goalL N)
      by_cases c : stR N r = goalL N
      · rw [decide_eq_true c, goal_not_lost c]; rfl
      · rw [decide_eq_false c]; rfl
    rw [e]
    refine srt_rows (fun r hr => ?_) ?_
    · have := (rws_mem.mp (List.mem_filter.mp hr).1).1
      intro z
      subst z
      simp at this
      omega
    · exact List.Pairwise.sublist List.filter_sublist (rws_asc _ _)
theorem s_need_small {N : Net} (h : NetOk N.1 N.2) (hn : sz N ≤ 5) : F_need_small N = .ok () := by
  have es := sz_eq h
  unfold F_need_small
  simp only [s_size_of, Rt.bind_ok]
  rw [decide_eq_false (by omega)]
  rfl
theorem s_right_orders {N : Net} (h : NetOk N.1 N.2) (hn : sz N ≤ 5) : F_right_orders N = .ok (rgt N) := by
  unfold F_right_orders
  rw [s_need_net h, s_need_small h hn]
  exact s_orders_from h hn
theorem s_count_right_orders {N : Net} (h : NetOk N.1 N.2) (hn : sz N ≤ 5) : F_count_right_orders N = .ok ((rgt N).length : Int) := by
  unfold F_count_right_orders
  rw [s_need_net h, s_need_small h hn, s_orders_from h hn]
  rfl
/-- each comes behind all taller friends, as far as the row goes -/
def frB (N : Net) (r : List Int) : Bool := (List.range r.length).all fun i => (frI N (r.getD i 0)).all fun f => decide (f ∈ r.take i)
theorem frB_snoc (N : Net) (r : List Int) (p : Int) : frB N (r ++ [p]) = (frB N r && (frI N p).all fun f => decide (f ∈ r)) := by
  unfold frB
  rw [List.length_append, List.length_cons, List.length_nil, Nat.zero_add, List.range_succ, List.all_append, List.all_cons, List.all_nil, Bool.and_true]
  congr 1
  · rw [Bool.eq_iff_iff, List.all_eq_true, List.all_eq_true]
    constructor
    · intro h i hi
      have := h i hi
      have hl := List.mem_range.mp hi
      rw [List.getD_eq_getElem?_getD, List.getElem?_append_left hl, List.take_append_of_le_length (by omega)] at this
      rw [List.getD_eq_getElem?_getD]
      exact this
    · intro h i hi
      have := h i hi
      have hl := List.mem_range.mp hi
      rw [List.getD_eq_getElem?_getD, List.getElem?_append_left hl, List.take_append_of_le_length (by omega)]
      rw [List.getD_eq_getElem?_getD] at this
      exact this
  · rw [List.getD_eq_getElem?_getD, List.getElem?_append_right (Nat.le_refl _), Nat.sub_self, List.take_append_of_le_length (Nat.le_refl _), List.take_length]
    rfl
def fri (N : Net) : List (List Int) := (rws (sz N) (sz N)).filter (frB N)
theorem s_friendly_orders {N : Net} (h : NetOk N.1 N.2) (hn : sz N ≤ 5) : F_friendly_orders N = .ok (fri N) := by
  have es := sz_eq h
  have h1 := h.lo
  have sp : 0 < sz N := by unfold sz; omega
  have rg := rg1_ok (n := N.1 + (N.2.length : Int)) (by omega) (by omega)
  rw [show (N.1 + (N.2.length : Int)).toNat = sz N by omega] at rg
  unfold F_friendly_orders
  rw [s_need_net h, s_need_small h hn]
  simp only [Rt.bind_ok, s_size_of, rg]
  refine foldR_then (fun (s : List (List Int)) (_ : Int) => s.flatMap fun r => (ups 0 (sz N)).flatMap fun p => if decide (p ∉ r) && frB N (r ++ [p]) then [r ++ [p]] else []) (fun i s => s = (rws (sz N) i).filter (frB N)) rfl (fun i hi s I => ?_) fun I => ?_
  · rw [ups_len] at hi
    have gr := grow (n := sz N) (frB N) (fun r => r) (fun r p q => by
      rw [frB_snoc, Bool.and_eq_true] at q
      exact q.1) i
    rw [List.map_id'] at gr
    have nx : (s.flatMap fun r => (ups 0 (sz N)).flatMap fun p => if decide (p ∉ r) && frB N (r ++ [p]) then [r ++ [p]] else []) = (rws (sz N) (i + 1)).filter (frB N) := by
      rw [I]
      exact gr
    have nl : ((rws (sz N) (i + 1)).filter (frB N)).length ≤ 3125 := Nat.le_trans (List.length_filter_le _ _) (rws_small hn (by omega))
    refine ⟨?_, nx⟩
    rw [foldR_fm (g := fun r => (ups 0 (sz N)).flatMap fun p => if decide (p ∉ r) && frB N (r ++ [p]) then [r ++ [p]] else []) 10000 (xs := s) (fun r hy s13 hs => ?_) [] (by rw [nx]; simp only [List.length_nil]; omega)]
    · rfl
    · rw [I] at hy
      obtain ⟨hr, hf⟩ := List.mem_filter.mp hy
      have rl := (rws_mem.mp hr).1
      rw [foldR_fm (g := fun p => if decide (p ∉ r) && frB N (r ++ [p]) then [r ++ [p]] else []) 10000 (fun p hp s16 hs16 => ?_) s13 hs]
      · rfl
      · have hm := mem_ups.mp hp
        rw [frB_snoc, hf, Bool.true_and] at hs16 ⊢
        by_cases c : p ∈ r
        · simp [c]
        · simp only [c, not_false_eq_true, decide_true, if_true, s_friends_in h (show p < sz N by omega), Rt.bind_ok, Bool.true_and]
          rw [mapF_of (g := fun f => decide (f ∈ r)) fun _ _ => rfl]
          simp only [Rt.bind_ok, all_id_map]
          cases q : (frI N p).all fun f => decide (f ∈ r)
          · simp
          · simp only [if_true]
            rw [snocF_ok (by omega)]
            simp only [Rt.bind_ok]
            simp only [c, q, not_false_eq_true, decide_true, Bool.and_self, if_true, List.length_cons, List.length_nil] at hs16
            rw [addF_ok (by omega)]
            rfl
  · rw [ups_len] at I
    rw [I]
    refine srt_rows (fun r hr => ?_) ?_
    · have := (rws_mem.mp (List.mem_filter.mp hr).1).1
      intro z
      subst z
      simp at this
      omega
    · exact List.Pairwise.sublist List.filter_sublist (rws_asc _ _)
theorem s_count_friendly {N : Net} (h : NetOk N.1 N.2) (hn : sz N ≤ 5) : F_count_friendly N = .ok ((fri N).length : Int) := by
  unfold F_count_friendly
  rw [s_friendly_orders h hn]
  rfl
theorem nodup_le : ∀ {n : Nat} {l : List Int}, l.Nodup → (∀ x ∈ l, 0 ≤ x ∧ x < (n : Int)) → l.length ≤ n
  | 0, l, _, h => by
    cases l with
    | nil => exact Nat.le_refl _
    | cons x l =>
      have := h x List.mem_cons_self
      omega
  | n + 1, l, hd, h => by
    have h1 : (l.erase (n : Int)).Nodup := hd.erase _
    have h2 : (l.erase (n : Int)).length ≤ n := nodup_le (n := n) h1 fun x hx => by
      obtain ⟨q1, q2⟩ := hd.mem_erase_iff.mp hx
      have := h x q2
      omega
    rw [List.length_erase] at h2
    split at h2 <;> omega
theorem rws_full {n : Nat} {r : List Int} (hr : r ∈ rws n n) {x : Int} (h0 : 0 ≤ x) (h1 : x < n) : x ∈ r := by
  obtain ⟨q1, q2, q3⟩ := rws_mem.mp hr
  by_cases c : x ∈ r
  · exact c
  · exfalso
    have := nodup_le (n := n) (l := x :: r) (List.nodup_cons.mpr ⟨c, q2⟩) fun y hy => by
      rcases List.mem_cons.mp hy with rfl | hy
      · exact ⟨h0, h1⟩
      · exact q3 y hy
    simp only [List.length_cons] at this
    omega
theorem td_iff {n : Nat} {r : List Int} (hr : r ∈ rws n n) {f : Int} (h0 : 0 ≤ f) (h1 : f < n) (i : Nat) : f ∉ r.drop i ↔ f ∈ r.take i := by
  have hf := rws_full hr h0 h1
  have hd := (rws_mem.mp hr).2.1
  rw [← List.take_append_drop i r] at hf hd
  rw [List.nodup_append] at hd
  constructor
  · intro h
    exact (List.mem_append.mp hf).resolve_right h
  · intro h z
    exact hd.2.2 f h f z rfl
theorem frB_iff {N : Net} (h : NetOk N.1 N.2) {r : List Int} (hr : r ∈ rws (sz N) (sz N)) : frB N r = true ↔ ∀ i : Nat, i < sz N → ∀ f ∈ frI N (gI r (i : Int)), f ∉ r.drop i := by
  obtain ⟨q1, q2, q3⟩ := rws_mem.mp hr
  have key : ∀ i : Nat, i < sz N → ∀ f ∈ frI N (gI r (i : Int)), 0 ≤ f ∧ f < sz N := fun i hi f hf => by
    have hm : gI r (i : Int) < sz N := by
      rw [gI, gD_of 0 (by omega)]
      exact (q3 _ (List.getElem_mem _)).2
    have := frI_rng h hm hf
    omega
  unfold frB
  rw [List.all_eq_true]
  constructor
  · intro z i hi f hf
    have z1 := z i (List.mem_range.mpr (by omega))
    rw [List.all_eq_true] at z1
    have k := key i hi f hf
    refine (td_iff hr k.1 k.2 i).mpr ?_
    have := z1 f (by rw [gI, gD_nat] at hf; exact hf)
    simpa using this
  · intro z i hi
    have hi := List.mem_range.mp hi
    rw [List.all_eq_true]
    intro f hf
    have hf' : f ∈ frI N (gI r (i : Int)) := by rw [gI, gD_nat]; exact hf
    have k := key i (by omega) f hf'
    rw [decide_eq_true_eq]
    exact (td_iff hr k.1 k.2 i).mp (z i (by omega) f hf')
theorem s_friendly_in {N : Net} (h : NetOk N.1 N.2) {r : List Int} (hr : r ∈ rws (sz N) (sz N)) : F_friendly_in N r = .ok (frB N r) := by
  obtain ⟨q1, q2, q3⟩ := rws_mem.mp hr
  unfold F_friendly_in
  simp only [Rt.bind_ok]
  rw [foldB_find (p := fun y : Int × Int => (frI N y.2).any fun f => decide (f ∈ r.drop y.1.toNat)) (v := fun _ => false) fun y hy => ?_]
  · have e : ((enumF r).find? fun y : Int × Int => (frI N y.2).any fun f => decide (f ∈ r.drop y.1.toNat)) = none ↔ frB N r = true := by
      rw [frB_iff h hr, List.find?_eq_none]
      constructor
      · intro z i hi f hf hd
        have hy : ((i : Int), gI r (i : Int)) ∈ enumF r := enumF_in (by rw [gI, gD_of 0 (by omega), List.getElem?_eq_getElem (by omega)])
        apply z _ hy
        rw [List.any_eq_true]
        exact ⟨f, hf, by simpa using hd⟩
      · intro z y hy w
        obtain ⟨i, e1, e2⟩ := enumF_mem hy
        obtain ⟨f, hf, hd⟩ := List.any_eq_true.mp w
        obtain ⟨hl, e3⟩ := List.getElem?_eq_some_iff.mp e2
        refine z i (by omega) f ?_ ?_
        · rw [gI, gD_of 0 hl, e3]
          exact hf
        · rw [e1] at hd
          simpa using hd
    cases q : (enumF r).find? fun y : Int × Int => (frI N y.2).any fun f => decide (f ∈ r.drop y.1.toNat) with
    | none =>
      rw [e.mp q]
      rfl
    | some y =>
      have : frB N r = false := by
        rw [← Bool.not_eq_true]
        intro z
        rw [e.mpr z] at q
        cases q
      rw [this]
      rfl
  · obtain ⟨i, e1, e2⟩ := enumF_mem hy
    obtain ⟨hl, e3⟩ := List.getElem?_eq_some_iff.mp e2
    have hm := q3 y.2 (by rw [← e3]; exact List.getElem_mem _)
    rw [s_friends_in h hm.2]
    simp only [Rt.bind_ok]
    rw [mapF_of (g := fun f => decide (f ∈ r.drop y.1.toNat)) fun f _ => by rw [cutL_from r (by omega) (by omega)]]
    simp only [Rt.bind_ok, any_id_map]
    cases (frI N y.2).any fun f => decide (f ∈ r.drop y.1.toNat) <;> rfl
theorem s_lucky_orders {N : Net} (h : NetOk N.1 N.2) (hn : sz N ≤ 5) : F_lucky_orders N = .ok ((rgt N).filter fun r => !frB N r) := by
  unfold F_lucky_orders
  rw [s_need_net h, s_need_small h hn, s_orders_from h hn]
  simp only [Rt.bind_ok]
  rw [lcF_of (b := fun r => !frB N r) (g := fun r => r) (fun r hr => by rw [s_friendly_in h (List.mem_filter.mp hr).1]; rfl) fun _ _ _ => rfl]
  rw [List.map_id']
theorem idxI_ok {r : List Int} {x : Int} (h : x ∈ r) : idxI r x = .ok ((r.idxOf x : Nat) : Int) := by
  unfold idxI
  rw [if_pos h]
def ahB (N : Net) (one other : Int) : Bool := decide (one ≠ other) && (rgt N).all fun r => decide (((r.idxOf one : Nat) : Int) < ((r.idxOf other : Nat) : Int))
def ahd (N : Net) : List (Int × Int) := (ups 0 (sz N)).flatMap fun one => ((ups 0 (sz N)).filter (ahB N one)).map fun other => (one, other)
theorem ahd_len (N : Net) (hn : sz N ≤ 5) : (ahd N).length ≤ 25 := by
  have h := fm_len (g := fun one => ((ups 0 (sz N)).filter (ahB N one)).map fun other => (one, other)) (n := 5) (fun one => by
    rw [List.length_map]
    refine Nat.le_trans (List.length_filter_le _ _) ?_
    rw [ups_len]; exact hn) (ups 0 (sz N))
  rw [ups_len] at h
  unfold ahd
  omega
theorem s_always_ahead {N : Net} (h : NetOk N.1 N.2) (hn : sz N ≤ 5) : F_always_ahead N = .ok (ahd N) := by
  have es := sz_eq h
  have h1 := h.lo
  have rg := rg1_ok (n := N.1 + (N.2.length : Int)) (by omega) (by omega)
  rw [show (N.1 + (N.2.length : Int)).toNat = sz N by omega] at rg
  have al := ahd_len N hn
  unfold F_always_ahead
  rw [s_need_net h, s_need_small h hn, s_orders_from h hn]
  simp only [Rt.bind_ok, s_size_of, rg]
  rw [foldR_fm (g := fun one => ((ups 0 (sz N)).filter (ahB N one)).map fun other => (one, other)) 1000 (fun one ho s hs => ?_) [] (by show 0 + (ahd N).length ≤ 1000; omega)]
  · rfl
  · have hm := mem_ups.mp ho
    rw [← fm_if (ahB N one) fun other => (one, other)] at hs ⊢
    rw [foldR_fm (g := fun other => if ahB N one other then [(one, other)] else []) 1000 (fun other ho2 s2 hs2 => ?_) s hs]
    · rfl
    · have hm2 := mem_ups.mp ho2
      have e : (if decide (one ≠ other) then Rt.bind (mapF (fun y15 => Rt.bind (idxI y15 one) fun x20 => Rt.bind (idxI y15 other) fun x21 => Rt.ok (decide (x20 < x21))) (rgt N)) (fun x23 => Rt.ok (x23.all id)) else Rt.ok false) = Rt.ok (ahB N one other) := by
        rw [mapF_of (g := fun r => decide (((r.idxOf one : Nat) : Int) < ((r.idxOf other : Nat) : Int))) fun r hr => by
          have hr := (List.mem_filter.mp hr).1
          rw [idxI_ok (rws_full hr hm.1 (by omega)), idxI_ok (rws_full hr hm2.1 (by omega))]
          rfl]
        unfold ahB
        simp only [Rt.bind_ok, all_id_map]
        cases decide (one ≠ other) <;> rfl
      rw [e]
      simp only [Rt.bind_ok]
      cases q : ahB N one other
      · simp
      · rw [q] at hs2
        simp only [if_true, List.length_cons, List.length_nil] at hs2
        simp only [if_true]
        rw [addF_ok (by omega)]
        rfl
theorem s_need_order {N : Net} (h : NetOk N.1 N.2) {r : List Int} (hr : r ∈ rws (sz N) (sz N)) : F_need_order N r = .ok () := by
  have es := sz_eq h
  have l11 := sz_le' h
  obtain ⟨q1, q2, q3⟩ := rws_mem.mp hr
  unfold F_need_order
  simp only [s_size_of, Rt.bind_ok, s_is_list_T]
  rw [decide_eq_true (by omega), decide_eq_true (by omega)]
  simp only [Bool.and_self, Bool.not_true, Bool.false_eq_true, if_false]
  rw [mapF_of (g := fun _ => true) fun x hx => by
    have := q3 x hx
    rw [s_is_in, decide_eq_true this.1, decide_eq_true (by omega)]
    rfl]
  have al : (r.map fun _ => true).all id = true := by simp
  simp only [Rt.bind_ok, al, Bool.not_true, Bool.false_eq_true, if_false]
  have sk : srtOk (r.map PyData.int) = true := by
    unfold srtOk
    rw [Bool.and_eq_true, Bool.and_eq_true, Bool.or_eq_true]
    refine ⟨⟨?_, .inr ?_⟩, ?_⟩
    · rw [List.all_eq_true]
      intro d hd
      rw [List.all_eq_true]
      intro e he
      obtain ⟨a, _, rfl⟩ := List.mem_map.mp hd
      obtain ⟨b, _, rfl⟩ := List.mem_map.mp he
      simp [PySem.W.alike]
    · rw [List.all_eq_true]
      intro d hd
      obtain ⟨a, _, rfl⟩ := List.mem_map.mp hd
      rfl
    · rw [List.all_eq_true]
      intro d hd
      obtain ⟨a, _, rfl⟩ := List.mem_map.mp hd
      simp [PyData.canLay0, PyData.depth]
  have ms : r.mergeSort (fun a b => dLe (.int a) (.int b)) = ups 0 (sz N) := by
    have e : (fun a b : Int => dLe (.int a) (.int b)) = fun a b => decide (a ≤ b) := PySem.W.dataLe_int fun a : Int => a
    rw [e]
    have p1 := List.mergeSort_perm r fun a b => decide (a ≤ b)
    have s1 : (r.mergeSort fun a b => decide (a ≤ b)).Pairwise fun a b => decide (a ≤ b) = true := List.pairwise_mergeSort (fun a b c h1 h2 => by
      rw [decide_eq_true_eq] at *
      omega) (fun a b => by
      rw [Bool.or_eq_true, decide_eq_true_eq, decide_eq_true_eq]
      omega) r
    have nd := p1.nodup_iff.mpr q2
    refine strict_uniq (fun z => ?_) ?_ (ups_asc 0 (sz N))
    · rw [p1.mem_iff, mem_ups]
      constructor
      · intro hz
        have := q3 z hz
        omega
      · intro hz
        exact rws_full hr hz.1 (by omega)
    · refine List.Pairwise.imp₂ ?_ s1 nd
      intro a b h1 h2
      rw [decide_eq_true_eq] at h1
      omega
  unfold srtF
  rw [sk, ms, lrF_ok (by omega) (by omega) (by omega) (by omega)]
  simp only [Rt.gd_true, Rt.bind_ok]
  rw [show (N.1 + (N.2.length : Int) - 0).toNat = sz N by omega]
  simp
theorem ord_right {N : Net} {b cs : List Int} (a : Args N b cs) (ord : ∀ (j : Nat) (hj : j < cs.length), ∀ f ∈ frI N cs[j], f ∈ cs.take j) (all : ∀ w f : Int, w < (sz N : Int) → f ∈ frI N w → f ∈ cs) : aft N b cs = ends N b := by
  have ne : ∀ j, ¬ EarlyAt N b cs j := by
    intro j
    induction j using Nat.strongRecOn with
    | ind j ih =>
      intro ⟨hj, off, on, _⟩
      have r := a.cr cs[j] (List.getElem_mem hj)
      by_cases c : cs[j] < N.1
      · rw [X_low a r.1 c j (by omega), ← E_low a r.1 c, off] at on
        exact absurd on (by decide)
      · obtain ⟨f, hf, f1⟩ := E_zero a (by omega) r.2 off
        have fr := frI_rng a.net r.2 hf
        obtain ⟨i, hi, ei⟩ := List.getElem_of_mem (ord j hj f hf)
        rw [List.length_take] at hi
        rw [List.getElem_take] at ei
        have hi2 : i < cs.length := by omega
        subst ei
        have so := X_safe a fr.1 (by omega) f1 i (by omega) fun k hk => ih k (by omega)
        rw [X_mono a r.1 r.2 (X_sit a hi2 r.1 r.2 hf so) j (by omega) (by omega)] at on
        exact absurd on (by decide)
  refine (good_eq a).mpr ⟨ne, fun w h0 h1 => left_none a ne (fun w g0 g1 z => ?_) h0 h1⟩
  obtain ⟨f, hf, f1⟩ := E_zero a g0 g1 z
  exact ⟨f, hf, f1, all _ _ g1 hf⟩
theorem rws_calls {N : Net} (h : NetOk N.1 N.2) {r : List Int} (hr : r ∈ rws (sz N) (sz N)) : Calls N r := by
  have l11 := sz_le' h
  obtain ⟨q1, q2, q3⟩ := rws_mem.mp hr
  exact ⟨h, by omega, q3⟩
theorem brk_goal {N : Net} (r : List Int) : (brk N r).isNone = decide (stR N r = goalL N) := by
  rw [brk_all, Bool.eq_iff_iff, List.all_eq_true, decide_eq_true_eq]
  unfold stR goalL
  rw [List.map_inj_left]
  constructor
  · intro h b hb
    have := h b hb
    rwa [decide_eq_true_eq] at this
  · intro h b hb
    rw [decide_eq_true_eq]
    exact h b hb
theorem fri_right {N : Net} (h : NetOk N.1 N.2) {r : List Int} (hr : r ∈ rws (sz N) (sz N)) (hf : frB N r = true) : stR N r = goalL N := by
  have hf' := (frB_iff h hr).mp hf
  obtain ⟨q1, q2, q3⟩ := rws_mem.mp hr
  unfold stR goalL
  rw [List.map_inj_left]
  intro b hb
  refine ord_right ((rws_calls h hr).args hb) (fun j hj f hf => ?_) fun w f hw hf => ?_
  · have e : gI r (j : Int) = r[j] := gD_of 0 hj
    have hm := (q3 r[j] (List.getElem_mem hj)).2
    have k := frI_rng h hm hf
    exact (td_iff hr k.1 (by omega) j).mp (hf' j (by omega) f (by rw [e]; exact hf))
  · have k := frI_rng h hw hf
    exact rws_full hr k.1 (by omega)
theorem s_order_breaks {N : Net} (h : NetOk N.1 N.2) {r : List Int} (hr : r ∈ rws (sz N) (sz N)) : F_order_breaks N r = .ok (brk N r) := by
  unfold F_order_breaks
  rw [s_need_net h, s_need_order h hr]
  exact s_breaking_in (rws_calls h hr)
theorem s_is_right_order {N : Net} (h : NetOk N.1 N.2) {r : List Int} (hr : r ∈ rws (sz N) (sz N)) : F_is_right_order N r = .ok (brk N r).isNone := by
  unfold F_is_right_order
  rw [s_order_breaks h hr]
  rfl
theorem s_by_friends {N : Net} (h : NetOk N.1 N.2) {r : List Int} (hr : r ∈ rws (sz N) (sz N)) : F_by_friends N r = .ok (frB N r) := by
  unfold F_by_friends
  rw [s_need_net h, s_need_order h hr]
  exact s_friendly_in h hr
theorem erase_perm {α : Type} : ∀ (l : List α) (k : Nat) (h : k < l.length), (l[k] :: l.eraseIdx k).Perm l
  | [], k, h => absurd h (by simp)
  | x :: l, 0, h => List.Perm.refl _
  | x :: l, k + 1, h => by
    have ih := erase_perm l k (by simpa using h)
    show (l[k]'(by simpa using h) :: x :: l.eraseIdx k).Perm (x :: l)
    exact (List.Perm.swap _ _ _).trans (ih.cons x)
theorem s_law_order {w : Row} (h : w.ok) {n : Nat} (hn : n ≤ 100) : ∃ r, F_law_order w (n : Int) = .ok r ∧ r.1 ∈ rws n n ∧ r.2.ok := by
  unfold F_law_order F_law_taken
  rw [lrF_ok (by omega) (by omega) (by omega) (by omega), rg1_ok (by omega) (by omega)]
  simp only [Rt.bind_ok]
  rw [show ((n : Int) - 0).toNat = n by omega, Int.toNat_natCast]
  refine foldR_bex (fun i (s : List Int × Row × List Int) => s.1.length = i ∧ (s.1 ++ s.2.2).Perm (ups 0 n) ∧ s.2.1.ok) ⟨rfl, List.Perm.refl _, h⟩ (fun i hi s I => ?_) fun s I => ?_
  · obtain ⟨I1, I2, I3⟩ := I
    rw [ups_len] at hi
    have hl := I2.length_eq
    rw [List.length_append, ups_len] at hl
    obtain ⟨⟨k, w1⟩, e1, a0, a1, i1⟩ := taken_ex I3 (n := (s.2.2.length : Int)) (by omega) (by omega)
    simp only at a0 a1 i1
    simp only [e1, Rt.bind_ok]
    have hk : 0 ≤ k ∧ k.toNat < s.2.2.length ∧ s.2.2.length ≤ sizeLine := ⟨a0, by omega, sz_le (by omega)⟩
    unfold popF
    rw [dif_pos hk]
    simp only [Rt.bind_ok]
    rw [addF_ok (by omega)]
    simp only [Rt.bind_ok]
    refine bex_ok ⟨by simp [I1], ?_, i1⟩
    simp only
    rw [List.append_assoc]
    exact (List.Perm.append_left _ (erase_perm _ _ hk.2.1)).trans I2
  · obtain ⟨I1, I2, I3⟩ := I
    rw [ups_len] at I1
    have hl := I2.length_eq
    rw [List.length_append, ups_len] at hl
    have e : s.2.2 = [] := List.eq_nil_of_length_eq_zero (by omega)
    rw [e, List.append_nil] at I2
    refine bex_ok ⟨?_, I3⟩
    refine rws_mem.mpr ⟨I1, ?_, fun x hx => ?_⟩
    · refine I2.nodup_iff.mpr ?_
      exact (ups_asc 0 n).imp fun z => by omega
    · have := mem_ups.mp (I2.mem_iff.mp hx)
      omega
theorem exr_len2 {n k : Nat} {r : List Int} (hr : r ∈ rws n k) : (exr n r).length ≤ n - k := by
  obtain ⟨q1, q2, q3⟩ := rws_mem.mp hr
  unfold exr
  rw [List.length_map]
  have nd : (ups 0 n).Nodup := (ups_asc 0 n).imp fun z => by omega
  have := nodup_le (n := n) (l := ((ups 0 n).filter fun p => decide (p ∉ r)) ++ r) (by
    rw [List.nodup_append]
    refine ⟨List.Nodup.sublist List.filter_sublist nd, q2, fun a ha b hb e => ?_⟩
    have := (List.mem_filter.mp ha).2
    rw [decide_eq_true_eq] at this
    subst e
    exact this hb) fun x hx => by
      rcases List.mem_append.mp hx with z | z
      · have := mem_ups.mp (List.mem_filter.mp z).1
        omega
      · exact q3 x z
  rw [List.length_append] at this
  omega
theorem fm_len2 {β γ : Type} {g : β → List γ} {c : Nat} : ∀ {xs : List β}, (∀ x ∈ xs, (g x).length ≤ c) → (xs.flatMap g).length ≤ xs.length * c
  | [], _ => by simp
  | x :: xs, h => by
    rw [List.flatMap_cons, List.length_append, List.length_cons, Nat.add_mul, Nat.one_mul]
    have := fm_len2 (xs := xs) fun y hy => h y (List.mem_cons_of_mem _ hy)
    have := h x List.mem_cons_self
    omega
theorem desc_120 (L : Nat → Nat) (h0 : L 0 = 1) : ∀ {n : Nat}, n ≤ 5 → (∀ k, L (k + 1) ≤ L k * (n - k)) → L n ≤ 120 := by
  intro n hn s
  have s0 := s 0
  have s1 := s 1
  have s2 := s 2
  have s3 := s 3
  have s4 := s 4
  have c : n = 0 ∨ n = 1 ∨ n = 2 ∨ n = 3 ∨ n = 4 ∨ n = 5 := by omega
  rcases c with rfl | rfl | rfl | rfl | rfl | rfl <;> simp only [Nat.reduceSub, Nat.reduceAdd] at s0 s1 s2 s3 s4 <;> omega
theorem rws_120 {n : Nat} (hn : n ≤ 5) : (rws n n).length ≤ 120 :=
  desc_120 (fun k => (rws n k).length) rfl hn fun k => fm_len2 (g := exr n) fun r hr => exr_len2 hr
theorem szI {xs : List Int} (h : xs.length ≤ 1000) : szL szA xs = true := szL_of h fun _ _ => rfl
theorem knd_frB {N : Net} (h : NetOk N.1 N.2) {r : List Int} (hr : r ∈ rws (sz N) (sz N)) : decide (((ups 0 (sz N)).filter fun at_ => decide (N.1 ≤ gI r at_) && decide (((gD [] N.2 (gI r at_ - N.1)).filter fun f => decide (f ∈ r.drop at_.toNat)) ≠ [])) = []) = frB N r := by
  rw [Bool.eq_iff_iff, decide_eq_true_eq, frB_iff h hr, List.filter_eq_nil_iff]
  constructor
  · intro z i hi f hf hd
    by_cases c : N.1 ≤ gI r (i : Int)
    · apply z (i : Int) (mem_ups.mpr ⟨by omega, by omega⟩)
      rw [Bool.and_eq_true, decide_eq_true_eq, decide_eq_true_eq]
      refine ⟨c, List.ne_nil_of_mem (a := f) (List.mem_filter.mpr ⟨?_, ?_⟩)⟩
      · unfold frI at hf
        rw [if_pos c] at hf
        exact hf
      · rw [decide_eq_true_eq, Int.toNat_natCast]
        exact hd
    · unfold frI at hf
      rw [if_neg c] at hf
      cases hf
  · intro z i hi w
    have hm := mem_ups.mp hi
    rw [Bool.and_eq_true, decide_eq_true_eq, decide_eq_true_eq] at w
    obtain ⟨f, hf⟩ := List.exists_mem_of_ne_nil _ w.2
    obtain ⟨f1, f2⟩ := List.mem_filter.mp hf
    rw [decide_eq_true_eq] at f2
    have e : ((i.toNat : Nat) : Int) = i := by omega
    refine z i.toNat (by omega) f ?_ f2
    rw [e]
    unfold frI
    rw [if_pos w.1]
    exact f1
theorem idx_inj {r : List Int} {x y : Int} (hx : x ∈ r) (hy : y ∈ r) (h : r.idxOf x = r.idxOf y) : x = y := by
  have h1 := List.getElem_idxOf (List.idxOf_lt_length_of_mem hx)
  have h2 := List.getElem_idxOf (List.idxOf_lt_length_of_mem hy)
  rw [← h1, ← h2]
  congr 1
theorem due_ah {N : Net} {one other : Int} (h0 : 0 ≤ one) (h1 : one < sz N) (g0 : 0 ≤ other) (g1 : other < sz N) : (decide (one ≠ other) && decide (((rgt N).filter fun r => decide (((r.idxOf other : Nat) : Int) < ((r.idxOf one : Nat) : Int))) = [])) = ahB N one other := by
  unfold ahB
  by_cases c : one = other
  · simp [c]
  · rw [decide_eq_true c, Bool.true_and, Bool.true_and, Bool.eq_iff_iff, decide_eq_true_eq, List.filter_eq_nil_iff, List.all_eq_true]
    constructor
    · intro z r hr
      have := z r hr
      rw [decide_eq_true_eq] at this ⊢
      have hr := (List.mem_filter.mp hr).1
      have ne : r.idxOf one ≠ r.idxOf other := fun e => c (idx_inj (rws_full hr h0 h1) (rws_full hr g0 g1) e)
      omega
    · intro z r hr w
      have := z r hr
      rw [decide_eq_true_eq] at this w
      omega
theorem math_law (ns : List Int) : F_law ns = .ok true := by
  unfold F_law
  obtain ⟨⟨N0, w1⟩, e1, hN0, n6, i1⟩ := nox_ex (s_law_net (w := Row.mk ns 0 10307 0) (by show (0 : Int) ≤ 0; omega) (k := 3) (by omega) (by omega))
  simp only at hN0 n6 i1
  have cut : ∃ N : Net, (Rt.bind (Rt.ok (decide ((5 : Int) < ((N0.2.length : Int) + N0.1)))) (fun c3 => if c3 then (Rt.ok ((if (2 : Int) < N0.1 then (2 : Int) else N0.1), ([] : (List (List Int))))) else (Rt.ok N0))) = .ok N ∧ NetOk N.1 N.2 ∧ sz N ≤ 5 := by
    have h1 := hN0.lo
    have h2 := hN0.hi
    simp only [Rt.bind_ok]
    by_cases c : (5 : Int) < (N0.2.length : Int) + N0.1
    · rw [decide_eq_true c]
      refine ⟨_, rfl, ⟨?_, ?_, by simp, by simp, by simp⟩, ?_⟩
      · simp only; split <;> omega
      · simp only; split <;> omega
      · unfold sz
        simp only [List.length_nil]
        split <;> omega
    · rw [decide_eq_false c]
      exact ⟨N0, rfl, hN0, by unfold sz; omega⟩
  obtain ⟨N, eN, hN, hn⟩ := cut
  simp only [e1, Rt.bind_ok] at eN ⊢
  rw [eN]
  have es := sz_eq hN
  have h1 := hN.lo
  have rg := rg1_ok (n := N.1 + (N.2.length : Int)) (by omega) (by omega)
  rw [show (N.1 + (N.2.length : Int)).toNat = sz N by omega] at rg
  simp only [Rt.bind_ok, rg]
  have r120 := rws_120 hn
  -- all rows
  refine foldR_then (fun (s : List (List Int)) (_ : Int) => s.flatMap (exr (sz N))) (fun i s => s = rws (sz N) i) rfl (fun i hi s I => ?_) fun I => ?_
  · rw [ups_len] at hi
    have nx : s.flatMap (exr (sz N)) = rws (sz N) (i + 1) := by rw [I]; rfl
    have nl := rws_small hn (k := i + 1) (by omega)
    refine ⟨?_, nx⟩
    rw [foldR_fm (g := exr (sz N)) 10000 (xs := s) (fun r hr s2 hs => ?_) [] (by rw [nx]; simp only [List.length_nil]; omega)]
    · rfl
    · rw [I] at hr
      have rl := (rws_mem.mp hr).1
      rw [lcF_of (b := fun p => decide (p ∉ r)) (g := fun p => r ++ [p]) (fun _ _ => rfl) fun p _ _ => catF_ok (by simp; omega)]
      simp only [Rt.bind_ok]
      rw [catF_ok (by show s2.length + (exr (sz N) r).length ≤ 10000000; omega)]
      rfl
  rw [ups_len] at I
  rw [I]
  try simp only [Rt.bind_ok]
  -- the right ones, the friendly ones
  rw [lcF_of (b := fun r => decide (stR N r = goalL N)) (g := fun r => r) (fun r hr => by rw [s_law_wrong (rws_calls hN hr), Rt.bind_ok, brk_goal]) fun _ _ _ => rfl]
  simp only [Rt.bind_ok, List.map_id']
  rw [lcF_of (b := frB N) (g := fun r => r) (fun r hr => ?_) fun _ _ _ => rfl]
  rotate_left
  · obtain ⟨q1, q2, q3⟩ := rws_mem.mp hr
    rw [lcF_of (b := fun at_ => decide (N.1 ≤ gI r at_) && decide (((gD [] N.2 (gI r at_ - N.1)).filter fun f => decide (f ∈ r.drop at_.toNat)) ≠ [])) (g := fun at_ => at_) (fun at_ ha => ?_) fun _ _ _ => rfl]
    · simp only [Rt.bind_ok, List.map_id']
      rw [knd_frB hN hr]
    · have hm := mem_ups.mp ha
      have ix := ixF_ok 0 (xs := r) (i := at_) (by omega) (by omega)
      have hp := q3 (gI r at_) (by rw [gI, show at_ = ((at_.toNat : Nat) : Int) by omega, gD_of 0 (by omega)]; exact List.getElem_mem _)
      simp only [gI] at hp ⊢
      simp only [ix, Rt.bind_ok]
      by_cases c : N.1 ≤ gD 0 r at_
      · simp only [c, decide_true, if_true, Bool.true_and]
        rw [ixF_ok [] (by omega) (by omega)]
        simp only [Rt.bind_ok]
        rw [lcF_of (b := fun f => decide (f ∈ r.drop at_.toNat)) (g := fun f => f) (fun f _ => by rw [cutL_from r (by omega) (by omega)]) fun _ _ _ => rfl]
        simp only [Rt.bind_ok, List.map_id']
      · simp only [c, decide_false, Bool.false_eq_true, if_false, Bool.false_and]
  simp only [Rt.bind_ok, List.map_id']
  have eg : ((rws (sz N) (sz N)).filter fun r => decide (stR N r = goalL N)) = rgt N := rfl
  have ef : (rws (sz N) (sz N)).filter (frB N) = fri N := rfl
  have lg : (rgt N).length ≤ 120 := Nat.le_trans (List.length_filter_le _ _) r120
  have lf : (fri N).length ≤ 120 := Nat.le_trans (List.length_filter_le _ _) r120
  have zr : ∀ {xs : List (List Int)}, xs.length ≤ 1000 → (∀ r ∈ xs, r ∈ rws (sz N) (sz N)) → szL (szL szA) xs = true := fun hl hx => szL_of hl fun r hr => szI (by have := (rws_mem.mp (hx r hr)).1; omega)
  have z1 : szL (szL szA) (rgt N) = true := zr (by omega) fun r hr => (List.mem_filter.mp hr).1
  have z2 : szL (szL szA) (fri N) = true := zr (by omega) fun r hr => (List.mem_filter.mp hr).1
  have z3 : ∀ k : Int, szA k = true := fun _ => rfl
  have zb : ∀ k : Bool, szA k = true := fun _ => rfl
  simp only [eg, ef, s_right_orders hN hn, s_count_right_orders hN hn, s_friendly_orders hN hn, s_count_friendly hN hn, s_lucky_orders hN hn, Rt.bind_ok, decide_true, gd_t z1, gd_t z2, gd_t (z3 _), Bool.not_true, Bool.false_eq_true, if_false]
  rw [lcF_of (b := fun r => !frB N r) (g := fun r => r) (fun r hr => ?_) fun _ _ _ => rfl]
  rotate_left
  · congr 1
    congr 1
    rw [Bool.eq_iff_iff, memB_iff]
    unfold fri
    rw [List.mem_filter]
    exact and_iff_right (List.mem_filter.mp hr).1
  have z4 : szL (szL szA) ((rgt N).filter fun r => !frB N r) = true := zr (Nat.le_trans (List.length_filter_le _ _) (by omega)) fun r hr => (List.mem_filter.mp (List.mem_filter.mp hr).1).1
  simp only [List.map_id', Rt.bind_ok, decide_true, gd_t z4, Bool.not_true, Bool.false_eq_true, if_false]
  rw [lcF_of (b := fun _ => false) (g := fun r => r) (fun r hr => ?_) fun _ _ _ => rfl]
  rotate_left
  · congr 1
    obtain ⟨hr1, hr2⟩ := List.mem_filter.mp hr
    have : memB r (rgt N) = true := by
      rw [memB_iff]
      unfold rgt
      exact List.mem_filter.mpr ⟨hr1, decide_eq_true (fri_right hN hr1 hr2)⟩
    rw [this]
    rfl
  have nf : (fri N).filter (fun _ => false) = [] := by simp
  simp only [nf, List.map_id', Rt.bind_ok, ne_eq, not_true, decide_false, Bool.false_eq_true, if_false]
  -- always ahead
  have al := ahd_len N hn
  rw [foldR_fm (g := fun one => ((ups 0 (sz N)).filter (ahB N one)).map fun other => (one, other)) 1000 (fun one ho s hs => ?_) [] (by show 0 + (ahd N).length ≤ 1000; omega)]
  rotate_left
  · have hm := mem_ups.mp ho
    rw [lcF_of (b := ahB N one) (g := fun other => (one, other)) (fun other ho2 => ?_) fun _ _ _ => rfl]
    · simp only [Rt.bind_ok]
      rw [catF_ok (by omega)]
      rfl
    · have hm2 := mem_ups.mp ho2
      rw [← due_ah hm.1 (by omega) hm2.1 (by omega)]
      rw [lcF_of (b := fun r => decide (((r.idxOf other : Nat) : Int) < ((r.idxOf one : Nat) : Int))) (g := fun r => r) (fun r hr => by
        have hr := (List.mem_filter.mp hr).1
        rw [idxI_ok (rws_full hr hm.1 (by omega)), idxI_ok (rws_full hr hm2.1 (by omega))]
        rfl) fun _ _ _ => rfl]
      simp only [Rt.bind_ok, List.map_id']
      by_cases c : one = other <;> simp [c]
  have ea : ([] : List (Int × Int)) ++ ((ups 0 (sz N)).flatMap fun one => ((ups 0 (sz N)).filter (ahB N one)).map fun other => (one, other)) = ahd N := rfl
  have z5 : szL (szP szA szA) (ahd N) = true := szL_of (by omega) fun _ _ => rfl
  simp only [ea, Rt.bind_ok, s_always_ahead hN hn, decide_true, gd_t z5, Bool.not_true, Bool.false_eq_true, if_false]
  -- a drawn order
  rw [es]
  obtain ⟨⟨cs, w2⟩, e2, hc, _⟩ := nox_ex (s_law_order i1 (n := sz N) (by omega))
  simp only at hc
  have z6 : szO (szP (szL szA) szA) (brk N cs) = true := by
    unfold brk
    cases q : (bitsN N.1.toNat).find? fun b => decide (wrg N b cs ≠ []) with
    | none => rfl
    | some b =>
      have hb := (bitsN_mem (List.mem_of_find?_eq_some q)).1
      have h2 := hN.hi
      show (szL szA b && true) = true
      rw [szI (by omega)]; rfl
  have m1 : memB cs (rgt N) = (brk N cs).isNone := by
    rw [brk_goal, Bool.eq_iff_iff, memB_iff]
    unfold rgt
    rw [List.mem_filter]
    exact and_iff_right hc
  have m2 : memB cs (fri N) = frB N cs := by
    rw [Bool.eq_iff_iff, memB_iff]
    unfold fri
    rw [List.mem_filter]
    exact and_iff_right hc
  simp only [e2, Rt.bind_ok, s_order_breaks hN hc, s_law_wrong (rws_calls hN hc), s_is_right_order hN hc, s_by_friends hN hc, m1, m2, decide_true, gd_t z6, gd_t (zb _), Bool.not_true, Bool.false_eq_true, if_false]

theorem math (ns : List Int) (_ : ns.length ≤ 63) : ∃ os, prg.run 10 38 [.dat (dInts ns)] = .ok (.dat (.bool true)) os := by
  have h := t_law 2 ns
  rw [math_law ns] at h
  obtain ⟨os, h1, _⟩ := h
  exact ⟨os, h1⟩
end Own
set_option maxHeartbeats 0
open PySem PySem.Spec PyProof.Rows L2
namespace Own
open Ip
theorem k0 : DefOk d0 := ⟨⟨rfl, rfl, rfl, by decide +kernel, rfl, by decide +kernel, by decide +kernel⟩, fun _ _ _ _ _ _ us (hl : us.length = 1) => match us, hl with | [_], _ => by kernel_rfl⟩
theorem k1 : DefOk d1 := ⟨⟨rfl, rfl, rfl, by decide +kernel, rfl, by decide +kernel, by decide +kernel⟩, fun _ _ _ _ _ _ us (hl : us.length = 3) => match us, hl with | [_, _, _], _ => by kernel_rfl⟩
theorem k2 : DefOk d2 := ⟨⟨rfl, rfl, rfl, by decide +kernel, rfl, by decide +kernel, by decide +kernel⟩, fun _ _ _ _ _ _ us (hl : us.length = 3) => match us, hl with | [_, _, _], _ => by kernel_rfl⟩
theorem k3 : DefOk d3 := ⟨⟨rfl, rfl, rfl, by decide +kernel, rfl, by decide +kernel, by decide +kernel⟩, fun _ _ _ _ _ _ us (hl : us.length = 1) => match us, hl with | [_], _ => by kernel_rfl⟩
theorem k4 : DefOk d4 := ⟨⟨rfl, rfl, rfl, by decide +kernel, rfl, by decide +kernel, by decide +kernel⟩, fun _ _ _ _ _ _ us (hl : us.length = 1) => match us, hl with | [_], _ => by kernel_rfl⟩
theorem k5 : DefOk d5 := ⟨⟨rfl, rfl, rfl, by decide +kernel, rfl, by decide +kernel, by decide +kernel⟩, fun _ _ _ _ _ _ us (hl : us.length = 2) => match us, hl with | [_, _], _ => by kernel_rfl⟩
theorem k6 : DefOk d6 := ⟨⟨rfl, rfl, rfl, by decide +kernel, rfl, by decide +kernel, by decide +kernel⟩, fun _ _ _ _ _ _ us (hl : us.length = 1) => match us, hl with | [_], _ => by kernel_rfl⟩
theorem k7 : DefOk d7 := ⟨⟨rfl, rfl, rfl, by decide +kernel, rfl, by decide +kernel, by decide +kernel⟩, fun _ _ _ _ _ _ us (hl : us.length = 2) => match us, hl with | [_, _], _ => by kernel_rfl⟩
theorem k8 : DefOk d8 := ⟨⟨rfl, rfl, rfl, by decide +kernel, rfl, by decide +kernel, by decide +kernel⟩, fun _ _ _ _ _ _ us (hl : us.length = 2) => match us, hl with | [_, _], _ => by kernel_rfl⟩
theorem k9 : DefOk d9 := ⟨⟨rfl, rfl, rfl, by decide +kernel, rfl, by decide +kernel, by decide +kernel⟩, fun _ _ _ _ _ _ us (hl : us.length = 3) => match us, hl with | [_, _, _], _ => by kernel_rfl⟩
theorem k10 : DefOk d10 := ⟨⟨rfl, rfl, rfl, by decide +kernel, rfl, by decide +kernel, by decide +kernel⟩, fun _ _ _ _ _ _ us (hl : us.length = 3) => match us, hl with | [_, _, _], _ => by kernel_rfl⟩
theorem k11 : DefOk d11 := ⟨⟨rfl, rfl, rfl, by decide +kernel, rfl, by decide +kernel, by decide +kernel⟩, fun _ _ _ _ _ _ us (hl : us.length = 2) => match us, hl with | [_, _], _ => by kernel_rfl⟩
theorem k12 : DefOk d12 := ⟨⟨rfl, rfl, rfl, by decide +kernel, rfl, by decide +kernel, by decide +kernel⟩, fun _ _ _ _ _ _ us (hl : us.length = 1) => match us, hl with | [_], _ => by kernel_rfl⟩
theorem k13 : DefOk d13 := ⟨⟨rfl, rfl, rfl, by decide +kernel, rfl, by decide +kernel, by decide +kernel⟩, fun _ _ _ _ _ _ us (hl : us.length = 1) => match us, hl with | [_], _ => by kernel_rfl⟩
theorem k14 : DefOk d14 := ⟨⟨rfl, rfl, rfl, by decide +kernel, rfl, by decide +kernel, by decide +kernel⟩, fun _ _ _ _ _ _ us (hl : us.length = 3) => match us, hl with | [_, _, _], _ => by kernel_rfl⟩
theorem k15 : DefOk d15 := ⟨⟨rfl, rfl, rfl, by decide +kernel, rfl, by decide +kernel, by decide +kernel⟩, fun _ _ _ _ _ _ us (hl : us.length = 2) => match us, hl with | [_, _], _ => by kernel_rfl⟩
theorem k16 : DefOk d16 := ⟨⟨rfl, rfl, rfl, by decide +kernel, rfl, by decide +kernel, by decide +kernel⟩, fun _ _ _ _ _ _ us (hl : us.length = 2) => match us, hl with | [_, _], _ => by kernel_rfl⟩
theorem k17 : DefOk d17 := ⟨⟨rfl, rfl, rfl, by decide +kernel, rfl, by decide +kernel, by decide +kernel⟩, fun _ _ _ _ _ _ us (hl : us.length = 1) => match us, hl with | [_], _ => by kernel_rfl⟩
theorem k18 : DefOk d18 := ⟨⟨rfl, rfl, rfl, by decide +kernel, rfl, by decide +kernel, by decide +kernel⟩, fun _ _ _ _ _ _ us (hl : us.length = 2) => match us, hl with | [_, _], _ => by kernel_rfl⟩
theorem k19 : DefOk d19 := ⟨⟨rfl, rfl, rfl, by decide +kernel, rfl, by decide +kernel, by decide +kernel⟩, fun _ _ _ _ _ _ us (hl : us.length = 2) => match us, hl with | [_, _], _ => by kernel_rfl⟩
theorem k20 : DefOk d20 := ⟨⟨rfl, rfl, rfl, by decide +kernel, rfl, by decide +kernel, by decide +kernel⟩, fun _ _ _ _ _ _ us (hl : us.length = 2) => match us, hl with | [_, _], _ => by kernel_rfl⟩
theorem k21 : DefOk d21 := ⟨⟨rfl, rfl, rfl, by decide +kernel, rfl, by decide +kernel, by decide +kernel⟩, fun _ _ _ _ _ _ us (hl : us.length = 2) => match us, hl with | [_, _], _ => by kernel_rfl⟩
theorem k22 : DefOk d22 := ⟨⟨rfl, rfl, rfl, by decide +kernel, rfl, by decide +kernel, by decide +kernel⟩, fun _ _ _ _ _ _ us (hl : us.length = 1) => match us, hl with | [_], _ => by kernel_rfl⟩
theorem k23 : DefOk d23 := ⟨⟨rfl, rfl, rfl, by decide +kernel, rfl, by decide +kernel, by decide +kernel⟩, fun _ _ _ _ _ _ us (hl : us.length = 1) => match us, hl with | [_], _ => by kernel_rfl⟩
theorem k24 : DefOk d24 := ⟨⟨rfl, rfl, rfl, by decide +kernel, rfl, by decide +kernel, by decide +kernel⟩, fun _ _ _ _ _ _ us (hl : us.length = 1) => match us, hl with | [_], _ => by kernel_rfl⟩
theorem k25 : DefOk d25 := ⟨⟨rfl, rfl, rfl, by decide +kernel, rfl, by decide +kernel, by decide +kernel⟩, fun _ _ _ _ _ _ us (hl : us.length = 1) => match us, hl with | [_], _ => by kernel_rfl⟩
theorem k26 : DefOk d26 := ⟨⟨rfl, rfl, rfl, by decide +kernel, rfl, by decide +kernel, by decide +kernel⟩, fun _ _ _ _ _ _ us (hl : us.length = 1) => match us, hl with | [_], _ => by kernel_rfl⟩
theorem k27 : DefOk d27 := ⟨⟨rfl, rfl, rfl, by decide +kernel, rfl, by decide +kernel, by decide +kernel⟩, fun _ _ _ _ _ _ us (hl : us.length = 1) => match us, hl with | [_], _ => by kernel_rfl⟩
theorem k28 : DefOk d28 := ⟨⟨rfl, rfl, rfl, by decide +kernel, rfl, by decide +kernel, by decide +kernel⟩, fun _ _ _ _ _ _ us (hl : us.length = 1) => match us, hl with | [_], _ => by kernel_rfl⟩
theorem k29 : DefOk d29 := ⟨⟨rfl, rfl, rfl, by decide +kernel, rfl, by decide +kernel, by decide +kernel⟩, fun _ _ _ _ _ _ us (hl : us.length = 2) => match us, hl with | [_, _], _ => by kernel_rfl⟩
theorem k30 : DefOk d30 := ⟨⟨rfl, rfl, rfl, by decide +kernel, rfl, by decide +kernel, by decide +kernel⟩, fun _ _ _ _ _ _ us (hl : us.length = 2) => match us, hl with | [_, _], _ => by kernel_rfl⟩
theorem k31 : DefOk d31 := ⟨⟨rfl, rfl, rfl, by decide +kernel, rfl, by decide +kernel, by decide +kernel⟩, fun _ _ _ _ _ _ us (hl : us.length = 2) => match us, hl with | [_, _], _ => by kernel_rfl⟩
theorem k32 : DefOk d32 := ⟨⟨rfl, rfl, rfl, by decide +kernel, rfl, by decide +kernel, by decide +kernel⟩, fun _ _ _ _ _ _ us (hl : us.length = 2) => match us, hl with | [_, _], _ => by kernel_rfl⟩
theorem k33 : DefOk d33 := ⟨⟨rfl, rfl, rfl, by decide +kernel, rfl, by decide +kernel, by decide +kernel⟩, fun _ _ _ _ _ _ us (hl : us.length = 1) => match us, hl with | [_], _ => by kernel_rfl⟩
theorem k34 : DefOk d34 := ⟨⟨rfl, rfl, rfl, by decide +kernel, rfl, by decide +kernel, by decide +kernel⟩, fun _ _ _ _ _ _ us (hl : us.length = 2) => match us, hl with | [_, _], _ => by kernel_rfl⟩
theorem k35 : DefOk d35 := ⟨⟨rfl, rfl, rfl, by decide +kernel, rfl, by decide +kernel, by decide +kernel⟩, fun _ _ _ _ _ _ us (hl : us.length = 3) => match us, hl with | [_, _, _], _ => by kernel_rfl⟩
theorem k36 : DefOk d36 := ⟨⟨rfl, rfl, rfl, by decide +kernel, rfl, by decide +kernel, by decide +kernel⟩, fun _ _ _ _ _ _ us (hl : us.length = 3) => match us, hl with | [_, _, _], _ => by kernel_rfl⟩
theorem k37 : DefOk d37 := ⟨⟨rfl, rfl, rfl, by decide +kernel, rfl, by decide +kernel, by decide +kernel⟩, fun _ _ _ _ _ _ us (hl : us.length = 2) => match us, hl with | [_, _], _ => by kernel_rfl⟩
theorem k38 : DefOk d38 := ⟨⟨rfl, rfl, rfl, by decide +kernel, rfl, by decide +kernel, by decide +kernel⟩, fun _ _ _ _ _ _ us (hl : us.length = 1) => match us, hl with | [_], _ => by kernel_rfl⟩
theorem dok : ∀ d ∈ prg.ds, DefOk d := List.forall_mem_cons.mpr ⟨k0, List.forall_mem_cons.mpr ⟨k1, List.forall_mem_cons.mpr ⟨k2, List.forall_mem_cons.mpr ⟨k3, List.forall_mem_cons.mpr ⟨k4, List.forall_mem_cons.mpr ⟨k5, List.forall_mem_cons.mpr ⟨k6, List.forall_mem_cons.mpr ⟨k7, List.forall_mem_cons.mpr ⟨k8, List.forall_mem_cons.mpr ⟨k9, List.forall_mem_cons.mpr ⟨k10, List.forall_mem_cons.mpr ⟨k11, List.forall_mem_cons.mpr ⟨k12, List.forall_mem_cons.mpr ⟨k13, List.forall_mem_cons.mpr ⟨k14, List.forall_mem_cons.mpr ⟨k15, List.forall_mem_cons.mpr ⟨k16, List.forall_mem_cons.mpr ⟨k17, List.forall_mem_cons.mpr ⟨k18, List.forall_mem_cons.mpr ⟨k19, List.forall_mem_cons.mpr ⟨k20, List.forall_mem_cons.mpr ⟨k21, List.forall_mem_cons.mpr ⟨k22, List.forall_mem_cons.mpr ⟨k23, List.forall_mem_cons.mpr ⟨k24, List.forall_mem_cons.mpr ⟨k25, List.forall_mem_cons.mpr ⟨k26, List.forall_mem_cons.mpr ⟨k27, List.forall_mem_cons.mpr ⟨k28, List.forall_mem_cons.mpr ⟨k29, List.forall_mem_cons.mpr ⟨k30, List.forall_mem_cons.mpr ⟨k31, List.forall_mem_cons.mpr ⟨k32, List.forall_mem_cons.mpr ⟨k33, List.forall_mem_cons.mpr ⟨k34, List.forall_mem_cons.mpr ⟨k35, List.forall_mem_cons.mpr ⟨k36, List.forall_mem_cons.mpr ⟨k37, List.forall_mem_cons.mpr ⟨k38, fun _ h => nomatch h⟩⟩⟩⟩⟩⟩⟩⟩⟩⟩⟩⟩⟩⟩⟩⟩⟩⟩⟩⟩⟩⟩⟩⟩⟩⟩⟩⟩⟩⟩⟩⟩⟩⟩⟩⟩⟩⟩⟩
abbrev Rw : PySem.W.OpenRow := PySem.W.OpenLaw.row PySem.Challenge.rw_standgates_k07_whole_orders
abbrev hk : PySem.W.Hook := He.hookD 4 prg.fas prg.fns
def ob (s : PySem.W.SharedT) : He.AlD := He.obsDG 4 prg.fas prg.fns (HandSHeadRun.getT s)
theorem ob_eq (s : PySem.W.SharedT) : ob s = hk.obs s.abs := He.obsDG_eq (HandSHeadRun.getT_eq s)
def names : List PySem.Str := (["is_integer", "is_in", "is_list", "GateError", "BadNet", "BadOrder", "TooMany", "MOST_INPUTS", "MOST_GATES", "need_net", "size_of", "friends_in", "all_bits", "standing_in", "begin", "call_in", "story_in", "breaking_in", "begins", "goal_of", "all_call", "is_lost", "MOST_ORDERED", "need_order", "need_small", "by_friends", "friendly_in", "order_breaks", "is_right_order", "orders_from"] : List PySem.Str) ++ (["right_orders", "count_right_orders", "friendly_orders", "count_friendly", "lucky_orders", "always_ahead", "_law_taken", "_law_alike", "_law_order", "_law_net", "_law_bits", "_law_end", "_law_round", "_law_walk", "_law_wrong"] : List PySem.Str)
theorem topRun (w : World) : HandSHeadRun.RunEq Rw (PySem.W.view Rw.prog [53]) hk ob 4000 names w := by
  intro os
  kernel_rfl
end Own
open PySem PySem.W PySem.Calls PyProof.Rows
theorem PySem.Challenge.cw_standgates_k07_whole_orders_holds : PySem.Challenge.rw_standgates_k07_whole_orders.Holds := by
  w_on; o_law
  refine HandSHeadRun.head_any (r := Own.Rw) (q := view Own.Rw.prog [53]) (H := Own.hk) (ob := Own.ob) (M := 4000) (loose := Own.names) (d := HandSHeadRun.topDef Own.Rw.prog 53) (kwd := []) Own.ob_eq
    (by kernel_rfl) (fun s => by kernel_rfl) Own.topRun (by kernel_rfl) (by kernel_rfl) (by kernel_rfl) (by rfl) (by first | assumption | decide +kernel) (by decide +kernel) ⟨rfl, rfl, rfl, rfl, rfl, by decide +kernel⟩ ?hw ?hc
  case hw => w_witness2
  case hc =>
    exact Ip.walk_core (l := PySem.Challenge.rw_standgates_k07_whole_orders) (G := Own.prg) (n := 63) (k := 10) (i := 38) (dl := Own.d38) rfl (by decide) (by kernel_rfl) ⟨rfl, by decide, by decide⟩ rfl (by kernel_rfl) rfl Own.dok Own.math
