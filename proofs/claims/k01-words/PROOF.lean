import PyProof.Rows.All
import Wide.All
import OpenK.AllK
import Wide.FinOn
import KE.KStateDown
import Lean
import HandS.ForMost
import HandS.Exc
import HandS.ExcOwn
import HandS.WordsExc
import HandS.TryOnly
import HandS.Defaults
import HandS.MakeKwOnly
import HandS.IsInst
import KE.IntTextLaws
import HandS.Replace
import HandS.Ends
import HandS.Head0
import HandS.Head1
import HandS.Head2
import HandS.HeadEnd
import HandS.HeadHook1
import HandS.HeadHook2
import PySem.Challenge.RW_trunkland_k01_words
namespace Cn
inductive CV where
  | non | bl (b : Bool) | int (i : Int) | str (s : List Nat) | ref (n : Nat) | tup (xs : List CV) | scr
abbrev CK := Sum Int (List Nat)
inductive CO where
  | lst (xs : List CV) | dK (kvs : List (CK × CV)) | dT (kvs : List (List CK × CV)) | ins (c : Nat) (fs : List (Nat × CV))
structure CH where
  sc : List Int
  os : List CO
abbrev CS := List (Option CV)
inductive Res (α : Type) where
  | ok (a : α) (h : CH) | ex (c : Nat) (d : List (Nat × CV)) (h : CH) | bad
inductive SR where
  | nx (s : CS) (h : CH) | rt (v : CV) (h : CH) | bk (s : CS) (h : CH) | ct (s : CS) (h : CH) | ex (c : Nat) (d : List (Nat × CV)) (s : CS) (h : CH) | bad
abbrev ME (α : Type) := CS → CH → Res α
abbrev MS := CS → CH → SR
abbrev Def := List CV → CH → Res CV
abbrev LINE : Nat := 16777216
def B62 : Int := 4611686018427387904

namespace Res
def bind {α β : Type} (r : Res α) (f : α → CH → Res β) : Res β := match r with
  | .ok a h => f a h
  | .ex c d h => .ex c d h
  | .bad => .bad
end Res
theorem bind_ok {α β : Type} (a : α) (h : CH) (f : α → CH → Res β) : (Res.ok a h).bind f = f a h := rfl
theorem bind_ex {α β : Type} (c : Nat) (d : List (Nat × CV)) (h : CH) (f : α → CH → Res β) : (Res.ex c d h : Res α).bind f = .ex c d h := rfl
theorem bind_bad {α β : Type} (f : α → CH → Res β) : (Res.bad : Res α).bind f = .bad := rfl

def CH.new (h : CH) (o : CO) : CH := { h with os := h.os ++ [o] }
def CH.set (h : CH) (n : Nat) (o : CO) : CH := { h with os := h.os.set n o }
def alloc (o : CO) (h : CH) : Res CV := .ok (.ref h.os.length) (h.new o)
def lstOf (h : CH) : CV → Option (List CV)
  | .ref n => match h.os[n]? with
    | some (.lst xs) => some xs
    | _ => none
  | .scr => some (h.sc.map CV.int)
  | _ => none

inductive CD where
  | non | bl (b : Bool) | int (i : Int) | str (s : List Nat) | lst (xs : List CD) | tup (xs : List CD)
mutual
def eqD : CD → CD → Bool
  | .non, .non => true
  | .bl a, .bl b => a == b
  | .bl a, .int j => (if a then 1 else 0) == j
  | .int i, .bl b => i == (if b then 1 else 0)
  | .int i, .int j => i == j
  | .str x, .str y => x == y
  | .lst xs, .lst ys => eqDs xs ys
  | .tup xs, .tup ys => eqDs xs ys
  | _, _ => false
def eqDs : List CD → List CD → Bool
  | [], [] => true
  | x :: xs, y :: ys => eqD x y && eqDs xs ys
  | _, _ => false
end
mutual
def dataC (h : CH) : Nat → CV → Option CD
  | _, .non => some .non
  | _, .bl b => some (.bl b)
  | _, .int i => some (.int i)
  | _, .str s => some (.str s)
  | 0, _ => none
  | f + 1, .tup xs => match dataCs h f xs with
    | some ds => some (.tup ds)
    | none => none
  | f + 1, .ref n => match h.os[n]? with
    | some (.lst xs) => match dataCs h f xs with
      | some ds => some (.lst ds)
      | none => none
    | _ => none
  | _ + 1, .scr => some (.lst (h.sc.map CD.int))
def dataCs (h : CH) : Nat → List CV → Option (List CD)
  | _, [] => some []
  | f, x :: xs => match dataC h f x, dataCs h f xs with
    | some d, some ds => some (d :: ds)
    | _, _ => none
end
def eqV (a b : CV) (h : CH) : Res CV := match dataC h 60 a, dataC h 60 b with
  | some d, some e => .ok (.bl (eqD d e)) h
  | _, _ => .bad
def neV (a b : CV) (h : CH) : Res CV := match dataC h 60 a, dataC h 60 b with
  | some d, some e => .ok (.bl (!eqD d e)) h
  | _, _ => .bad

def addV : CV → CV → CH → Res CV
  | .int i, .int j, h => .ok (.int (i + j)) h
  | .str a, .str b, h => if a.length + b.length ≤ LINE then .ok (.str (a ++ b)) h else .bad
  | .tup a, .tup b, h => if a ≠ [] ∧ b ≠ [] ∧ a.length + b.length ≤ LINE then .ok (.tup (a ++ b)) h else .bad
  | .ref m, .ref n, h => match h.os[m]?, h.os[n]? with
    | some (.lst a), some (.lst b) => if a.length + b.length ≤ LINE then alloc (.lst (a ++ b)) h else .bad
    | _, _ => .bad
  | _, _, _ => .bad
def subV : CV → CV → CH → Res CV
  | .int i, .int j, h => .ok (.int (i - j)) h
  | _, _, _ => .bad
def B64 : Int := 18446744073709551616
def mulV : CV → CV → CH → Res CV
  | .int i, .int j, h => if (-B64 < i ∧ i < B64) ∨ (-B64 < j ∧ j < B64) then .ok (.int (i * j)) h else .bad
  | _, _, _ => .bad
def fdivV : CV → CV → CH → Res CV
  | .int i, .int j, h => if 0 < j ∧ j < 1073741824 then .ok (.int (i / j)) h else .bad
  | _, _, _ => .bad
def modV : CV → CV → CH → Res CV
  | .int i, .int j, h => if 0 < j then .ok (.int (i % j)) h else .bad
  | _, _, _ => .bad
def negV : CV → CH → Res CV
  | .int i, h => .ok (.int (-i)) h
  | _, _ => .bad
def ltV : CV → CV → CH → Res CV
  | .int i, .int j, h => .ok (.bl (decide (i < j))) h
  | _, _, _ => .bad
def leV : CV → CV → CH → Res CV
  | .int i, .int j, h => .ok (.bl (decide (i ≤ j))) h
  | _, _, _ => .bad
def gtV : CV → CV → CH → Res CV
  | .int i, .int j, h => .ok (.bl (decide (j < i))) h
  | _, _, _ => .bad
def geV : CV → CV → CH → Res CV
  | .int i, .int j, h => .ok (.bl (decide (j ≤ i))) h
  | _, _, _ => .bad
def isNon : CV → Bool
  | .non => true
  | _ => false
def isNV (a : CV) (h : CH) : Res CV := .ok (.bl (isNon a)) h
def notNV (a : CV) (h : CH) : Res CV := .ok (.bl (!isNon a)) h
def flatC : CV → Bool
  | .non => true | .bl _ => true | .int _ => true | .str _ => true
  | _ => false
def eqF : CV → CV → Bool
  | .non, .non => true
  | .bl a, .bl b => a == b
  | .bl a, .int b => (if a then 1 else 0) == b
  | .int a, .bl b => a == (if b then 1 else 0)
  | .int a, .int b => a == b
  | .str a, .str b => a == b
  | _, _ => false
def seqOf (h : CH) : CV → Option (List CV)
  | .tup ys => some ys
  | y => lstOf h y
def inB (x y : CV) (h : CH) : Option Bool := match x, y with
  | .str [c], .str z => some (decide (c ∈ z))
  | x, y => match seqOf h y with
    | some ys => if flatC x && ys.all flatC then some (ys.any fun y => eqF y x) else none
    | none => none
def inV (a b : CV) (h : CH) : Res CV := match inB a b h with
  | some k => .ok (.bl k) h
  | none => .bad
def ninV (a b : CV) (h : CH) : Res CV := match inB a b h with
  | some k => .ok (.bl (!k)) h
  | none => .bad

def ixC (n : Nat) (i : Int) : Option Nat := if 0 ≤ i then (if i < n then some i.toNat else none) else if -(n : Int) ≤ i then some (i + n).toNat else none
def atC {α : Type} (xs : List α) (i : Int) : Option α := (ixC xs.length i).bind fun j => xs[j]?
def ixV : CV → CV → CH → Res CV
  | .tup xs, .int i, h => match atC xs i with
    | some v => .ok v h
    | none => .bad
  | .str z, .int i, h => if z.length ≤ LINE then (match atC z i with
    | some c => .ok (.str [c]) h
    | none => .bad) else .bad
  | x, .int i, h => match lstOf h x with
    | some xs => (match atC xs i with
      | some v => .ok v h
      | none => .bad)
    | none => .bad
  | _, _, _ => .bad
def sixC (n d : Nat) : Option Int → Nat
  | none => d
  | some v => (if v < 0 then max (v + (n : Int)) 0 else min v (n : Int)).toNat
def cutC {α : Type} (xs : List α) (lo hi : Option Int) : List α := (xs.drop (sixC xs.length 0 lo)).take (sixC xs.length xs.length hi - sixC xs.length 0 lo)
def sliceV (x : CV) (lo hi : Option Int) (h : CH) : Res CV := match x with
  | .str z => if z.length ≤ LINE then .ok (.str (cutC z lo hi)) h else .bad
  | .tup xs => if (cutC xs lo hi).length < xs.length then .ok (.tup (cutC xs lo hi)) h else .bad
  | _ => match lstOf h x with
    | some xs => alloc (.lst (cutC xs lo hi)) h
    | none => .bad
def setIxV (x i v : CV) (h : CH) : Option CH := match x, i with
  | .ref n, .int k => (match h.os[n]? with
    | some (.lst xs) => (match ixC xs.length k with
      | some j => some (h.set n (.lst (xs.set j v)))
      | none => none)
    | _ => none)
  | _, _ => none

def lenV : Def := fun cs h => match cs with
  | [.str z] => if z.length ≤ LINE then .ok (.int z.length) h else .bad
  | [.tup xs] => .ok (.int xs.length) h
  | [x] => match lstOf h x with
    | some xs => .ok (.int xs.length) h
    | none => .bad
  | _ => .bad
def absV : Def := fun cs h => match cs with
  | [.int i] => .ok (.int (if i < 0 then -i else i)) h
  | _ => .bad
def numC (n : Nat) : List Nat := (Nat.toDigits 10 n).map Char.toNat
def strI (i : Int) : List Nat := if i < 0 then 45 :: numC (-i).toNat else numC i.toNat
def strV : Def := fun cs h => match cs with
  | [.int i] => if 0 ≤ i ∧ i < 1000000000000000000000000000000 then .ok (.str (numC i.toNat)) h else .bad
  | _ => .bad
def digsVal (l : List Nat) : Nat := l.foldl (fun acc c => acc * 10 + (c - 48)) 0
def intV : Def := fun cs h => match cs with
  | [.int i] => .ok (.int i) h
  | [.bl b] => .ok (.int (if b then 1 else 0)) h
  | [.str z] => if z ≠ [] ∧ z.length ≤ 640 ∧ z.all (fun c => decide (48 ≤ c ∧ c ≤ 57)) then .ok (.int (digsVal z)) h else .bad
  | _ => .bad
def kindO : Option CO → Nat
  | some (.lst _) => 5
  | some (.dK _) => 6
  | some (.dT _) => 6
  | some (.ins _ _) => 7
  | none => 8
def kindC (x : CV) (h : CH) : Nat := match x with
  | .non => 0 | .bl _ => 1 | .int _ => 2 | .str _ => 3 | .tup _ => 4 | .scr => 5
  | .ref n => kindO h.os[n]?
def isiV (k : Nat) (x : CV) (h : CH) : Res CV := if kindC x h < 7 then .ok (.bl (kindC x h == k)) h else .bad

def joinC (sep : List Nat) : List (List Nat) → List Nat
  | [] => []
  | [x] => x
  | x :: y :: r => x ++ sep ++ joinC sep (y :: r)
def strsOf : List CV → Option (List (List Nat))
  | [] => some []
  | .str x :: r => match strsOf r with
    | some ys => some (x :: ys)
    | none => none
  | _ => none
def joinV : Def := fun cs h => match cs with
  | [.str a, y] => (match seqOf h y with
    | some xs => (match strsOf xs with
      | some zs => if (zs.map (·.length)).sum + zs.length * a.length ≤ LINE then .ok (.str (joinC a zs)) h else .bad
      | none => .bad)
    | none => .bad)
  | _ => .bad
def partC (c : Nat) : List Nat → Option (List Nat × List Nat)
  | [] => none
  | x :: r => if x = c then some ([], r) else match partC c r with
    | some (a, b) => some (x :: a, b)
    | none => none
def partitionV : Def := fun cs h => match cs with
  | [.str a, .str [c]] => if a.length ≤ LINE ∧ c < 256 then (match partC c a with
    | some (x, y) => .ok (.tup [.str x, .str [c], .str y]) h
    | none => .ok (.tup [.str a, .str [], .str []]) h) else .bad
  | _ => .bad
def indexV : Def := fun cs h => match cs with
  | [.str a, .str [c]] => if a.length ≤ LINE ∧ c ∈ a then .ok (.int (a.idxOf c)) h else .bad
  | _ => .bad
def appendV : Def := fun cs h => match cs with
  | [.ref n, v] => (match h.os[n]? with
    | some (.lst xs) => if xs.length < LINE then .ok .non (h.set n (.lst (xs ++ [v]))) else .bad
    | _ => .bad)
  | _ => .bad
def popAtV : Def := fun cs h => match cs with
  | [.ref n, .int i] => (match h.os[n]? with
    | some (.lst xs) => if 0 ≤ i ∧ i < xs.length ∧ i < B62 then (match xs[i.toNat]? with
      | some v => .ok v (h.set n (.lst (xs.eraseIdx i.toNat)))
      | none => .bad) else .bad
    | _ => .bad)
  | _ => .bad
def popV : Def := fun cs h => match cs with
  | [.ref n] => (match h.os[n]? with
    | some (.lst xs) => (match xs[xs.length - 1]? with
      | some v => .ok v (h.set n (.lst xs.dropLast))
      | none => .bad)
    | _ => .bad)
  | _ => .bad

def eVar (i : Nat) : ME CV := fun s h => match s[i]? with
  | some (some c) => .ok c h
  | _ => .bad
def eC (c : CV) : ME CV := fun _ h => .ok c h
def e1 (f : CV → CH → Res CV) (a : ME CV) : ME CV := fun s h => (a s h).bind f
def e2 (f : CV → CV → CH → Res CV) (a b : ME CV) : ME CV := fun s h => (a s h).bind fun x h1 => (b s h1).bind fun y h2 => f x y h2
def aNil : ME (List CV) := fun _ h => .ok [] h
def aCons (a : ME CV) (r : ME (List CV)) : ME (List CV) := fun s h => (a s h).bind fun x h1 => (r s h1).bind fun xs h2 => .ok (x :: xs) h2
def eCall (f : Def) (as : ME (List CV)) : ME CV := fun s h => (as s h).bind f
def eBM (k : Nat) (f : Def) (o : ME CV) (as : ME (List CV)) : ME CV := fun s h => (o s h).bind fun x h1 => if kindC x h1 = k then (as s h1).bind fun xs h2 => f (x :: xs) h2 else .bad
def eTup (as : ME (List CV)) : ME CV := fun s h => (as s h).bind fun xs h1 => if xs.length ≤ LINE then .ok (.tup xs) h1 else .bad
def eLst (as : ME (List CV)) : ME CV := fun s h => (as s h).bind fun xs h1 => if xs.length ≤ LINE then alloc (.lst xs) h1 else .bad
def oNone : ME (Option Int) := fun _ h => .ok none h
def oSome (a : ME CV) : ME (Option Int) := fun s h => (a s h).bind fun x h1 => match x with
  | .int i => .ok (some i) h1
  | _ => .bad
def eSlice (a : ME CV) (lo hi : ME (Option Int)) : ME CV := fun s h => (a s h).bind fun x h1 => (lo s h1).bind fun l h2 => (hi s h2).bind fun u h3 => sliceV x l u h3
def tV (a : ME CV) : ME Bool := fun s h => (a s h).bind fun x h1 => match x with
  | .bl b => .ok b h1
  | _ => .bad
def tAnd (a b : ME Bool) : ME Bool := fun s h => (a s h).bind fun k h1 => if k then b s h1 else .ok false h1
def tOr (a b : ME Bool) : ME Bool := fun s h => (a s h).bind fun k h1 => if k then .ok true h1 else b s h1
def tNot (a : ME Bool) : ME Bool := fun s h => (a s h).bind fun k h1 => .ok (!k) h1
def eIf (t : ME Bool) (a b : ME CV) : ME CV := fun s h => (t s h).bind fun k h1 => if k then a s h1 else b s h1
def eAnd (a b : ME CV) : ME CV := fun s h => (a s h).bind fun x h1 => match x with
  | .bl true => b s h1
  | .bl false => .ok (.bl false) h1
  | _ => .bad
def eOr (a b : ME CV) : ME CV := fun s h => (a s h).bind fun x h1 => match x with
  | .bl true => .ok (.bl true) h1
  | .bl false => b s h1
  | _ => .bad
def eNot (a : ME CV) : ME CV := fun s h => (a s h).bind fun x h1 => match x with
  | .bl k => .ok (.bl (!k)) h1
  | _ => .bad
def eChain (f g : CV → CV → CH → Res CV) (a b c : ME CV) : ME CV := fun s h => (a s h).bind fun x h1 => (b s h1).bind fun y h2 => (f x y h2).bind fun z h3 => match z with
  | .bl true => (c s h3).bind fun w h4 => g y w h4
  | .bl false => .ok (.bl false) h3
  | _ => .bad

def rBind {α : Type} (r : Res α) (s : CS) (f : α → CH → SR) : SR := match r with
  | .ok a h => f a h
  | .ex c d h => .ex c d s h
  | .bad => .bad
def sNil : MS := fun s h => .nx s h
def sSeq (a b : MS) : MS := fun s h => match a s h with
  | .nx s1 h1 => b s1 h1
  | r => r
def sE (a : ME CV) : MS := fun s h => rBind (a s h) s fun _ h1 => .nx s h1
def sRet (a : ME CV) : MS := fun s h => rBind (a s h) s fun x h1 => .rt x h1
def sRetN : MS := fun _ h => .rt .non h
def sSet (i : Nat) (a : ME CV) : MS := fun s h => rBind (a s h) s fun x h1 => .nx (s.set i (some x)) h1
def sIf (t : ME Bool) (a b : MS) : MS := fun s h => rBind (t s h) s fun k h1 => if k then a s h1 else b s h1
def sCont : MS := fun s h => .ct s h
abbrev MG := CV → CS → CH → Option (CS × CH)
def gSet (i : Nat) : MG := fun v s h => some (s.set i (some v), h)
abbrev MGs := List CV → CS → CH → Option (CS × CH)
def gsNil : MGs := fun vs s h => match vs with
  | [] => some (s, h)
  | _ => none
def gsCons (a : MG) (r : MGs) : MGs := fun vs s h => match vs with
  | v :: vs => (match a v s h with
    | some (s1, h1) => r vs s1 h1
    | none => none)
  | [] => none
def gTup (n : Nat) (g : MGs) : MG := fun v s h => match v with
  | .tup xs => if xs.length = n then g xs s h else none
  | _ => none
def sAsg (a : ME CV) (g : MG) : MS := fun s h => rBind (a s h) s fun x h1 => match g x s h1 with
  | some (s1, h2) => .nx s1 h2
  | none => .bad
def sSetIx (v o i : ME CV) : MS := fun s h => rBind (v s h) s fun x h1 => rBind (o s h1) s fun y h2 => rBind (i s h2) s fun z h3 => match setIxV y z x h3 with
  | some h4 => .nx s h4
  | none => .bad
def sWhile (t : ME Bool) (b : MS) : Nat → MS
  | 0, _, _ => .bad
  | n + 1, s, h => rBind (t s h) s fun k h1 => if k then (match b s h1 with
    | .nx s2 h2 => sWhile t b n s2 h2
    | .ct s2 h2 => sWhile t b n s2 h2
    | .bk s2 h2 => .nx s2 h2
    | r => r) else .nx s h1
def itemAt (x : CV) (i : Nat) (h : CH) : Option (Option CV) := match x with
  | .tup xs => some xs[i]?
  | .str z => some (z[i]?.map fun c => .str [c])
  | x => match lstOf h x with
    | some xs => some xs[i]?
    | none => none
def lenAt (x : CV) (h : CH) : Nat := match x with
  | .tup xs => xs.length
  | .str z => z.length
  | x => match lstOf h x with
    | some xs => xs.length
    | none => 0
def forLoop (x : CV) (g : MG) (b : MS) : Nat → Nat → MS
  | 0, _, _, _ => .bad
  | n + 1, i, s, h => match itemAt x i h with
    | none => .bad
    | some none => .nx s h
    | some (some v) => match g v s h with
      | none => .bad
      | some (s1, h1) => match b s1 h1 with
        | .nx s2 h2 => forLoop x g b n (i + 1) s2 h2
        | .ct s2 h2 => forLoop x g b n (i + 1) s2 h2
        | .bk s2 h2 => .nx s2 h2
        | r => r
def sFor (a : ME CV) (g : MG) (b : MS) : MS := fun s h => rBind (a s h) s fun x h1 => forLoop x g b (lenAt x h1 + 1) 0 s h1
def rngLoop (lo : Int) (g : MG) (b : MS) : Nat → Nat → MS
  | 0, _, s, h => .nx s h
  | n + 1, i, s, h => match g (.int (lo + i)) s h with
    | none => .bad
    | some (s1, h1) => match b s1 h1 with
      | .nx s2 h2 => rngLoop lo g b n (i + 1) s2 h2
      | .ct s2 h2 => rngLoop lo g b n (i + 1) s2 h2
      | .bk s2 h2 => .nx s2 h2
      | r => r
def sForR1 (a : ME CV) (g : MG) (b : MS) : MS := fun s h => rBind (a s h) s fun x h1 => match x with
  | .int j => if -B62 ≤ j ∧ j < B62 then rngLoop 0 g b j.toNat 0 s h1 else .bad
  | _ => .bad
def sForR2 (a a2 : ME CV) (g : MG) (b : MS) : MS := fun s h => rBind (a s h) s fun x h1 => rBind (a2 s h1) s fun y h2 => match x, y with
  | .int i, .int j => if -B62 ≤ i ∧ i < B62 ∧ -B62 ≤ j ∧ j < B62 then rngLoop i g b (j - i).toNat 0 s h2 else .bad
  | _, _ => .bad

def wipeC (s : CS) : List Nat → CS
  | [] => s
  | v :: vs => (wipeC s vs).set v none
def lcTurn (D : Nat) (g : MG) (t : ME Bool) (e : ME CV) (v : CV) (s : CS) (h : CH) : Option CH := match g v s h with
  | none => none
  | some (s1, h1) => match t s1 h1 with
    | .ok false h2 => some h2
    | .ok true h2 => (match e s1 h2 with
      | .ok x h3 => (match h3.os[D]? with
        | some (.lst xs) => if xs.length < LINE then some (h3.set D (.lst (xs ++ [x]))) else none
        | _ => none)
      | _ => none)
    | _ => none
def lcLoop (x : CV) (D : Nat) (g : MG) (t : ME Bool) (e : ME CV) (s : CS) : Nat → Nat → CH → Option CH
  | 0, _, _ => none
  | n + 1, i, h => match itemAt x i h with
    | none => none
    | some none => some h
    | some (some v) => match lcTurn D g t e v s h with
      | none => none
      | some h1 => lcLoop x D g t e s n (i + 1) h1
def eComp (own : List Nat) (a : ME CV) (g : MG) (t : ME Bool) (e : ME CV) : ME CV := fun s h => (a s h).bind fun x h1 =>
  match lcLoop x h1.os.length g t e (wipeC s own) (lenAt x h1 + 1) 0 (h1.new (.lst [])) with
  | some h2 => .ok (.ref h1.os.length) h2
  | none => .bad
def lcRng (lo : Int) (D : Nat) (g : MG) (t : ME Bool) (e : ME CV) (s : CS) : Nat → Nat → CH → Option CH
  | 0, _, h => some h
  | n + 1, i, h => match lcTurn D g t e (.int (lo + i)) s h with
    | none => none
    | some h1 => lcRng lo D g t e s n (i + 1) h1
def eCompR (own : List Nat) (a : ME CV) (g : MG) (t : ME Bool) (e : ME CV) : ME CV := fun s h => (a s h).bind fun x h1 => match x with
  | .int j => if -B62 ≤ j ∧ j < B62 then (match lcRng 0 h1.os.length g t e (wipeC s own) j.toNat 0 (h1.new (.lst [])) with
    | some h2 => .ok (.ref h1.os.length) h2
    | none => .bad) else .bad
  | _ => .bad
def tYes : ME Bool := fun _ h => .ok true h

def runD (n k : Nat) (b : MS) : Def := fun vs h => if vs.length = k then (match b (vs.map some ++ List.replicate (n - vs.length) none) h with
  | .nx _ h1 => .ok .non h1
  | .rt v h1 => .ok v h1
  | .ex c d _ h1 => .ex c d h1
  | _ => .bad) else .bad
end Cn
set_option Elab.async false
set_option maxRecDepth 100000
namespace Cn
@[irreducible] def Ok {α : Type} (r : Res α) (Q : α → CH → Prop) : Prop := match r with
  | .ok a h => Q a h
  | _ => False
@[irreducible] def Sk (r : SR) (N C : CS → CH → Prop) (R : CV → CH → Prop) : Prop := match r with
  | .nx s h => N s h
  | .ct s h => C s h
  | .rt v h => R v h
  | _ => False
section
variable {α β : Type} {r : Res α} {Q Q' : α → CH → Prop} {N N' C C' : CS → CH → Prop} {R R' : CV → CH → Prop} {s : CS} {h : CH}
@[simp] theorem Ok_ok (a : α) (h : CH) : Ok (.ok a h) Q = Q a h := by with_unfolding_all rfl
@[simp] theorem Ok_bad : Ok (.bad : Res α) Q = False := by with_unfolding_all rfl
@[simp] theorem Ok_ex (c d h) : Ok (.ex c d h : Res α) Q = False := by with_unfolding_all rfl
@[simp] theorem Ok_bind (f : α → CH → Res β) (Q : β → CH → Prop) : Ok (r.bind f) Q = Ok r fun a h => Ok (f a h) Q := by with_unfolding_all cases r <;> with_unfolding_all rfl
theorem Ok.mono (o : Ok r Q) (k : ∀ a h, Q a h → Q' a h) : Ok r Q' := by with_unfolding_all cases r with
  | ok a h => exact k _ _ o
  | _ => exact o
theorem Ok_iff : Ok r Q ↔ ∃ a h, r = .ok a h ∧ Q a h := by
  with_unfolding_all
  cases r with
  | ok a h => exact ⟨fun z => ⟨a, h, rfl, z⟩, fun ⟨a', h', e, z⟩ => by cases e; exact z⟩
  | _ => exact ⟨fun z => z.elim, fun ⟨a', h', e, z⟩ => by cases e⟩
theorem Ok.eq {a : α} {h : CH} (e : r = .ok a h) (z : Q a h) : Ok r Q := by rw [e, Ok_ok]; exact z
theorem Sk.mono {x : SR} (o : Sk x N C R) (n : ∀ s h, N s h → N' s h) (c : ∀ s h, C s h → C' s h) (k : ∀ v h, R v h → R' v h) : Sk x N' C' R' := by with_unfolding_all cases x with
  | nx => exact n _ _ o
  | ct => exact c _ _ o
  | rt => exact k _ _ o
  | _ => exact o
@[simp] theorem Sk_rBind (f : α → CH → SR) : Sk (rBind r s f) N C R = Ok r fun a h => Sk (f a h) N C R := by with_unfolding_all cases r <;> with_unfolding_all rfl
@[simp] theorem Sk_nx (s h) : Sk (.nx s h) N C R = N s h := by with_unfolding_all rfl
@[simp] theorem Sk_ct (s h) : Sk (.ct s h) N C R = C s h := by with_unfolding_all rfl
@[simp] theorem Sk_rt (v h) : Sk (.rt v h) N C R = R v h := by with_unfolding_all rfl
@[simp] theorem Sk_bad : Sk .bad N C R = False := by with_unfolding_all rfl
@[simp] theorem Ok_eC (c : CV) {Q} : Ok (eC c s h) Q = Q c h := by with_unfolding_all rfl
theorem Ok_eVar (i : Nat) {Q} : Ok (eVar i s h) Q = (∃ c, s[i]? = some (some c) ∧ Q c h) := by
  with_unfolding_all
  unfold eVar
  split
  · next c e => rw [e]; exact propext ⟨fun z => ⟨c, rfl, z⟩, fun ⟨c', e, z⟩ => by cases e; exact z⟩
  · next e => exact propext ⟨fun z => z.elim, fun ⟨c', e', z⟩ => absurd e' (e c')⟩
@[simp] theorem Ok_e1 (f a) {Q} : Ok (e1 f a s h) Q = Ok (a s h) fun x h1 => Ok (f x h1) Q := by with_unfolding_all exact Ok_bind ..
@[simp] theorem Ok_e2 (f a b) {Q} : Ok (e2 f a b s h) Q = Ok (a s h) fun x h1 => Ok (b s h1) fun y h2 => Ok (f x y h2) Q := by simp [e2]
@[simp] theorem Ok_aNil {Q} : Ok (aNil s h) Q = Q [] h := by with_unfolding_all rfl
@[simp] theorem Ok_aCons (a r) {Q} : Ok (aCons a r s h) Q = Ok (a s h) fun x h1 => Ok (r s h1) fun xs h2 => Q (x :: xs) h2 := by simp [aCons]
@[simp] theorem Ok_eCall (f as) {Q} : Ok (eCall f as s h) Q = Ok (as s h) fun xs h1 => Ok (f xs h1) Q := by with_unfolding_all exact Ok_bind ..
@[simp] theorem Ok_eBM (k f o as) {Q} : Ok (eBM k f o as s h) Q = Ok (o s h) fun x h1 => kindC x h1 = k ∧ Ok (as s h1) fun xs h2 => Ok (f (x :: xs) h2) Q := by
  with_unfolding_all
  simp only [eBM, Ok_bind]
  congr 1; funext x h1
  by_cases e : kindC x h1 = k <;> simp [e]
@[simp] theorem Ok_eTup (as) {Q} : Ok (eTup as s h) Q = Ok (as s h) fun xs h1 => xs.length ≤ LINE ∧ Q (.tup xs) h1 := by
  with_unfolding_all
  simp only [eTup, Ok_bind]
  congr 1; funext x h1
  by_cases e : x.length ≤ LINE <;> simp [e]
@[simp] theorem Ok_alloc (o : CO) {Q} : Ok (alloc o h) Q = Q (.ref h.os.length) (h.new o) := by with_unfolding_all rfl
@[simp] theorem Ok_eLst (as) {Q} : Ok (eLst as s h) Q = Ok (as s h) fun xs h1 => xs.length ≤ LINE ∧ Q (.ref h1.os.length) (h1.new (.lst xs)) := by
  with_unfolding_all
  simp only [eLst, Ok_bind]
  congr 1; funext x h1
  by_cases e : x.length ≤ LINE <;> simp [e]
@[simp] theorem Ok_oNone {Q} : Ok (oNone s h) Q = Q none h := by with_unfolding_all rfl
theorem Ok_oSome (a) {Q} : Ok (oSome a s h) Q = Ok (a s h) fun x h1 => ∃ i, x = .int i ∧ Q (some i) h1 := by
  with_unfolding_all
  simp only [oSome, Ok_bind]
  congr 1; funext x h1
  cases x <;> simp
@[simp] theorem Ok_eSlice (a lo hi) {Q} : Ok (eSlice a lo hi s h) Q = Ok (a s h) fun x h1 => Ok (lo s h1) fun l h2 => Ok (hi s h2) fun u h3 => Ok (sliceV x l u h3) Q := by simp [eSlice]
theorem Ok_tV (a) {Q} : Ok (tV a s h) Q = Ok (a s h) fun x h1 => ∃ b, x = .bl b ∧ Q b h1 := by
  with_unfolding_all
  simp only [tV, Ok_bind]
  congr 1; funext x h1
  cases x <;> simp
theorem Ok_tAnd (a b) {Q} : Ok (tAnd a b s h) Q = Ok (a s h) fun k h1 => if k then Ok (b s h1) Q else Q false h1 := by
  with_unfolding_all
  simp only [tAnd, Ok_bind]
  congr 1; funext x h1
  cases x <;> simp
theorem Ok_tOr (a b) {Q} : Ok (tOr a b s h) Q = Ok (a s h) fun k h1 => if k then Q true h1 else Ok (b s h1) Q := by
  with_unfolding_all
  simp only [tOr, Ok_bind]
  congr 1; funext x h1
  cases x <;> simp
@[simp] theorem Ok_tNot (a) {Q} : Ok (tNot a s h) Q = Ok (a s h) fun k h1 => Q (!k) h1 := by simp [tNot]
@[simp] theorem Ok_tYes {Q} : Ok (tYes s h) Q = Q true h := by with_unfolding_all rfl
theorem Ok_eIf (t a b) {Q} : Ok (eIf t a b s h) Q = Ok (t s h) fun k h1 => if k then Ok (a s h1) Q else Ok (b s h1) Q := by
  with_unfolding_all
  simp only [eIf, Ok_bind]
  congr 1; funext x h1
  cases x <;> simp
theorem Ok_eAnd (a b) {Q} : Ok (eAnd a b s h) Q = Ok (a s h) fun x h1 => ∃ k, x = .bl k ∧ if k then Ok (b s h1) Q else Q (.bl false) h1 := by
  with_unfolding_all
  simp only [eAnd, Ok_bind]
  congr 1; funext x h1
  cases x with
  | bl k => cases k <;> simp
  | _ => simp
theorem Ok_eOr (a b) {Q} : Ok (eOr a b s h) Q = Ok (a s h) fun x h1 => ∃ k, x = .bl k ∧ if k then Q (.bl true) h1 else Ok (b s h1) Q := by
  with_unfolding_all
  simp only [eOr, Ok_bind]
  congr 1; funext x h1
  cases x with
  | bl k => cases k <;> simp
  | _ => simp
theorem Ok_eNot (a) {Q} : Ok (eNot a s h) Q = Ok (a s h) fun x h1 => ∃ k, x = .bl k ∧ Q (.bl !k) h1 := by
  with_unfolding_all
  simp only [eNot, Ok_bind]
  congr 1; funext x h1
  cases x <;> simp
theorem Ok_eChain (f g a b c) {Q} : Ok (eChain f g a b c s h) Q = Ok (a s h) fun x h1 => Ok (b s h1) fun y h2 => Ok (f x y h2) fun z h3 => ∃ k, z = .bl k ∧ if k then Ok (c s h3) fun w h4 => Ok (g y w h4) Q else Q (.bl false) h3 := by
  with_unfolding_all
  simp only [eChain, Ok_bind]
  congr 1; funext x h1; congr 1; funext y h2; congr 1; funext z h3
  cases z with
  | bl k => cases k <;> simp
  | _ => simp
@[simp] theorem Sk_sNil : Sk (sNil s h) N C R = N s h := by with_unfolding_all rfl
@[simp] theorem Sk_sSeq (a b) : Sk (sSeq a b s h) N C R = Sk (a s h) (fun s1 h1 => Sk (b s1 h1) N C R) C R := by
  with_unfolding_all
  unfold sSeq
  cases a s h <;> with_unfolding_all rfl
@[simp] theorem Sk_sE (a) : Sk (sE a s h) N C R = Ok (a s h) fun _ h1 => N s h1 := by with_unfolding_all exact Sk_rBind ..
@[simp] theorem Sk_sRet (a) : Sk (sRet a s h) N C R = Ok (a s h) R := by with_unfolding_all exact Sk_rBind ..
@[simp] theorem Sk_sRetN : Sk (sRetN s h) N C R = R .non h := by with_unfolding_all rfl
@[simp] theorem Sk_sCont : Sk (sCont s h) N C R = C s h := by with_unfolding_all rfl
@[simp] theorem Sk_sSet (i a) : Sk (sSet i a s h) N C R = Ok (a s h) fun x h1 => N (s.set i (some x)) h1 := by with_unfolding_all exact Sk_rBind ..
@[simp] theorem Sk_sIf (t a b) : Sk (sIf t a b s h) N C R = Ok (t s h) fun k h1 => if k then Sk (a s h1) N C R else Sk (b s h1) N C R := by
  with_unfolding_all
  simp only [sIf, Sk_rBind]
  congr 1; funext k h1
  cases k <;> with_unfolding_all rfl
theorem Sk_sAsg (a g) : Sk (sAsg a g s h) N C R = Ok (a s h) fun x h1 => ∃ s1 h2, g x s h1 = some (s1, h2) ∧ N s1 h2 := by
  with_unfolding_all
  simp only [sAsg, Sk_rBind]
  congr 1; funext k h1
  cases e : g k s h1 with
  | none => simp
  | some p => exact propext ⟨fun z => ⟨_, _, rfl, z⟩, fun ⟨_, _, e, z⟩ => by cases e; exact z⟩
@[simp] theorem Sk_sSetIx (v o i) : Sk (sSetIx v o i s h) N C R = Ok (v s h) fun x h1 => Ok (o s h1) fun y h2 => Ok (i s h2) fun z h3 => ∃ h4, setIxV y z x h3 = some h4 ∧ N s h4 := by
  with_unfolding_all
  simp only [sSetIx, Sk_rBind]
  congr 1; funext x h1; congr 1; funext y h2; congr 1; funext z h3
  cases e : setIxV y z x h3 <;> simp
theorem Ok_runD (n k : Nat) (b : MS) (vs : List CV) {Q} (hl : vs.length = k) (o : Sk (b (vs.map some ++ List.replicate (n - vs.length) none) h) (fun _ h1 => Q .non h1) (fun _ _ => False) Q) : Ok (runD n k b vs h) Q := by
  with_unfolding_all
  unfold runD
  rw [if_pos hl]
  cases e : b (vs.map some ++ List.replicate (n - vs.length) none) h <;> rw [e] at o <;> exact o
theorem Sk_for {x : CV} {g : MG} {b : MS} {xs : List CV} (I : Nat → CS → CH → Prop) (hx : ∀ i s h, I i s h → itemAt x i h = some xs[i]?)
    (hb : ∀ i v s h, xs[i]? = some v → I i s h → ∃ s1 h1, g v s h = some (s1, h1) ∧ Sk (b s1 h1) (I (i + 1)) (I (i + 1)) R) (hN : ∀ s h, I xs.length s h → N s h) :
    ∀ (n i : Nat) (s : CS) (h : CH), i + n = xs.length + 1 → i ≤ xs.length → I i s h → Sk (forLoop x g b n i s h) N C R
  | 0, i, s, h, e, l, _ => by omega
  | n + 1, i, s, h, e, l, q => by
    with_unfolding_all
    unfold forLoop
    rw [hx i s h q]
    by_cases c : i < xs.length
    · have e1 : xs[i]? = some xs[i] := List.getElem?_eq_getElem c
      rw [e1]
      obtain ⟨s1, h1, eg, k⟩ := hb i _ s h e1 q
      dsimp only
      rw [eg]
      dsimp only
      cases eb : b s1 h1 <;> rw [eb] at k
      · exact Sk_for I hx hb hN n (i + 1) _ _ (by omega) (by omega) k
      · exact k
      · exact k.elim
      · exact Sk_for I hx hb hN n (i + 1) _ _ (by omega) (by omega) k
      · exact k.elim
      · exact k.elim
    · have e1 : xs[i]? = none := List.getElem?_eq_none (by omega)
      rw [e1]
      have : i = xs.length := by omega
      subst this
      exact hN s h q
theorem Sk_rng {lo : Int} {g : MG} {b : MS} (m : Nat) (I : Nat → CS → CH → Prop)
    (hb : ∀ i s h, i < m → I i s h → ∃ s1 h1, g (.int (lo + i)) s h = some (s1, h1) ∧ Sk (b s1 h1) (I (i + 1)) (I (i + 1)) R) (hN : ∀ s h, I m s h → N s h) :
    ∀ (n i : Nat) (s : CS) (h : CH), i + n = m → I i s h → Sk (rngLoop lo g b n i s h) N C R
  | 0, i, s, h, e, q => by
    with_unfolding_all
    unfold rngLoop
    have : i = m := by omega
    subst this
    exact hN s h q
  | n + 1, i, s, h, e, q => by
    with_unfolding_all
    unfold rngLoop
    obtain ⟨s1, h1, eg, k⟩ := hb i s h (by omega) q
    rw [eg]
    dsimp only
    cases eb : b s1 h1 <;> rw [eb] at k
    · exact Sk_rng m I hb hN n (i + 1) _ _ (by omega) k
    · exact k
    · exact k.elim
    · exact Sk_rng m I hb hN n (i + 1) _ _ (by omega) k
    · exact k.elim
    · exact k.elim
theorem Sk_sFor {a : ME CV} {g : MG} {b : MS} (o : Ok (a s h) fun x h1 => ∃ (xs : List CV) (I : Nat → CS → CH → Prop), (∀ i s h, I i s h → itemAt x i h = some xs[i]?) ∧ lenAt x h1 = xs.length ∧ I 0 s h1 ∧
    (∀ i v s h, xs[i]? = some v → I i s h → ∃ s1 h1, g v s h = some (s1, h1) ∧ Sk (b s1 h1) (I (i + 1)) (I (i + 1)) R) ∧ ∀ s h, I xs.length s h → N s h) : Sk (sFor a g b s h) N C R := by
  with_unfolding_all
  unfold sFor
  rw [Sk_rBind]
  refine o.mono fun x h1 ⟨xs, I, hx, hl, h0, hb, hN⟩ => ?_
  rw [hl]
  exact Sk_for I hx hb hN _ 0 s h1 (by omega) (by omega) h0
theorem Sk_sForR1 {a : ME CV} {g : MG} {b : MS} (o : Ok (a s h) fun x h1 => ∃ (m : Nat) (I : Nat → CS → CH → Prop), x = .int m ∧ m < 4611686018427387904 ∧ I 0 s h1 ∧
    (∀ i s h, i < m → I i s h → ∃ s1 h1, g (.int i) s h = some (s1, h1) ∧ Sk (b s1 h1) (I (i + 1)) (I (i + 1)) R) ∧ ∀ s h, I m s h → N s h) : Sk (sForR1 a g b s h) N C R := by
  with_unfolding_all
  unfold sForR1
  rw [Sk_rBind]
  refine o.mono fun x h1 ⟨m, I, hx, hl, h0, hb, hN⟩ => ?_
  subst hx
  dsimp only
  rw [if_pos (by unfold B62; omega)]
  refine Sk_rng m I (fun i s h hi q => ?_) hN _ 0 s h1 (by omega) h0
  rw [Int.zero_add]
  exact hb i s h hi q
theorem Sk_sForR2 {a a2 : ME CV} {g : MG} {b : MS} (o : Ok (a s h) fun x h1 => Ok (a2 s h1) fun y h2 => ∃ (lo hi : Int) (I : Nat → CS → CH → Prop), x = .int lo ∧ y = .int hi ∧ -4611686018427387904 ≤ lo ∧ lo < 4611686018427387904 ∧ -4611686018427387904 ≤ hi ∧ hi < 4611686018427387904 ∧ I 0 s h2 ∧
    (∀ i s h, i < (hi - lo).toNat → I i s h → ∃ s1 h1, g (.int (lo + i)) s h = some (s1, h1) ∧ Sk (b s1 h1) (I (i + 1)) (I (i + 1)) R) ∧ ∀ s h, I (hi - lo).toNat s h → N s h) : Sk (sForR2 a a2 g b s h) N C R := by
  with_unfolding_all
  unfold sForR2
  rw [Sk_rBind]
  refine o.mono fun x h1 o => ?_
  rw [Sk_rBind]
  refine o.mono fun y h2 ⟨lo, hi, I, hx, hy, k1, k2, k3, k4, h0, hb, hN⟩ => ?_
  subst hx hy
  dsimp only
  rw [if_pos (by unfold B62; omega)]
  exact Sk_rng _ I hb hN _ 0 s h2 (by omega) h0
theorem lc_loop {x : CV} {D : Nat} {g : MG} {t : ME Bool} {e : ME CV} {s : CS} {xs : List CV} (I : Nat → CH → Prop) (hx : ∀ i h, I i h → itemAt x i h = some xs[i]?)
    (hb : ∀ i v h, xs[i]? = some v → I i h → ∃ h1, lcTurn D g t e v s h = some h1 ∧ I (i + 1) h1) :
    ∀ (n i : Nat) (h : CH), i + n = xs.length + 1 → i ≤ xs.length → I i h → ∃ h2, lcLoop x D g t e s n i h = some h2 ∧ I xs.length h2
  | 0, i, h, e, l, _ => by omega
  | n + 1, i, h, e, l, q => by
    with_unfolding_all
    unfold lcLoop
    rw [hx i h q]
    by_cases c : i < xs.length
    · have e1 : xs[i]? = some xs[i] := List.getElem?_eq_getElem c
      rw [e1]
      obtain ⟨h1, eg, k⟩ := hb i _ h e1 q
      dsimp only
      rw [eg]
      exact lc_loop I hx hb n (i + 1) h1 (by omega) (by omega) k
    · have e1 : xs[i]? = none := List.getElem?_eq_none (by omega)
      rw [e1]
      have : i = xs.length := by omega
      subst this
      exact ⟨h, rfl, q⟩
theorem lc_rng {lo : Int} {D : Nat} {g : MG} {t : ME Bool} {e : ME CV} {s : CS} (m : Nat) (I : Nat → CH → Prop)
    (hb : ∀ i h, i < m → I i h → ∃ h1, lcTurn D g t e (.int (lo + i)) s h = some h1 ∧ I (i + 1) h1) :
    ∀ (n i : Nat) (h : CH), i + n = m → I i h → ∃ h2, lcRng lo D g t e s n i h = some h2 ∧ I m h2
  | 0, i, h, e, q => by
    have : i = m := by omega
    subst this
    exact ⟨h, rfl, q⟩
  | n + 1, i, h, e, q => by
    with_unfolding_all
    unfold lcRng
    obtain ⟨h1, eg, k⟩ := hb i h (by omega) q
    rw [eg]
    exact lc_rng m I hb n (i + 1) h1 (by omega) k
theorem lc_turn {D : Nat} {g : MG} {t : ME Bool} {e : ME CV} {v : CV} {Z : CH → Prop} {s1 : CS} {h1 : CH} (eg : g v s h = some (s1, h1))
    (o : Ok (t s1 h1) fun k h2 => if k then Ok (e s1 h2) (fun x h3 => ∃ xs, h3.os[D]? = some (.lst xs) ∧ xs.length < LINE ∧ Z (h3.set D (.lst (xs ++ [x])))) else Z h2) : ∃ h4, lcTurn D g t e v s h = some h4 ∧ Z h4 := by
  with_unfolding_all
  unfold lcTurn
  rw [eg]
  dsimp only
  cases et : t s1 h1 with
  | ok k h2 =>
    rw [et] at o
    cases k with
    | false => exact ⟨h2, rfl, o⟩
    | true =>
      have o : Ok (e s1 h2) (fun x h3 => ∃ xs, h3.os[D]? = some (.lst xs) ∧ xs.length < LINE ∧ Z (h3.set D (.lst (xs ++ [x])))) := o
      dsimp only
      cases ee : e s1 h2 with
      | ok x h3 =>
        rw [ee] at o
        rw [Ok_ok] at o
        obtain ⟨xs, e1, e2, e3⟩ := o
        dsimp only
        rw [e1]
        dsimp only
        rw [if_pos e2]
        exact ⟨_, rfl, e3⟩
      | ex => rw [ee] at o; exact o.elim
      | bad => rw [ee] at o; exact o.elim
  | ex => rw [et] at o; exact o.elim
  | bad => rw [et] at o; exact o.elim
theorem Ok_eComp {own : List Nat} {a : ME CV} {g : MG} {t : ME Bool} {e : ME CV} {Q : CV → CH → Prop} (o : Ok (a s h) fun x h1 => ∃ (xs : List CV) (I : Nat → CH → Prop), (∀ i h, I i h → itemAt x i h = some xs[i]?) ∧ lenAt x h1 = xs.length ∧ I 0 (h1.new (.lst [])) ∧
    (∀ i v h, xs[i]? = some v → I i h → ∃ h2, lcTurn h1.os.length g t e v (wipeC s own) h = some h2 ∧ I (i + 1) h2) ∧ ∀ h2, I xs.length h2 → Q (.ref h1.os.length) h2) : Ok (eComp own a g t e s h) Q := by
  with_unfolding_all
  unfold eComp
  rw [Ok_bind]
  refine o.mono fun x h1 ⟨xs, I, hx, hl, h0, hb, hN⟩ => ?_
  rw [hl]
  obtain ⟨h2, e2, q⟩ := lc_loop I hx hb (xs.length + 1) 0 _ (by omega) (by omega) h0
  rw [e2]
  exact hN h2 q
theorem Ok_eCompR {own : List Nat} {a : ME CV} {g : MG} {t : ME Bool} {e : ME CV} {Q : CV → CH → Prop} (o : Ok (a s h) fun x h1 => ∃ (m : Nat) (I : Nat → CH → Prop), x = .int m ∧ m < 4611686018427387904 ∧ I 0 (h1.new (.lst [])) ∧
    (∀ i h, i < m → I i h → ∃ h2, lcTurn h1.os.length g t e (.int i) (wipeC s own) h = some h2 ∧ I (i + 1) h2) ∧ ∀ h2, I m h2 → Q (.ref h1.os.length) h2) : Ok (eCompR own a g t e s h) Q := by
  with_unfolding_all
  unfold eCompR
  rw [Ok_bind]
  refine o.mono fun x h1 ⟨m, I, hx, hl, h0, hb, hN⟩ => ?_
  subst hx
  dsimp only
  rw [if_pos (by unfold B62; omega)]
  obtain ⟨h2, e2, q⟩ := lc_rng (lo := 0) (D := h1.os.length) (g := g) (t := t) (e := e) (s := wipeC s own) m I (fun i h hi q => by rw [Int.zero_add]; exact hb i h hi q) m 0 _ (by omega) h0
  rw [Int.toNat_natCast, e2]
  exact hN h2 q
theorem Sk_while {t : ME Bool} {b : MS} (I : Nat → CS → CH → Prop) (hb : ∀ i s h, I i s h → Ok (t s h) fun k h1 => if k then ∃ j, i = j + 1 ∧ Sk (b s h1) (I j) (I j) R else N s h1) :
    ∀ (n i : Nat) (s : CS) (h : CH), i < n → I i s h → Sk (sWhile t b n s h) N C R
  | 0, i, s, h, e, _ => by omega
  | n + 1, i, s, h, e, q => by
    with_unfolding_all
    unfold sWhile
    rw [Sk_rBind]
    refine (hb i s h q).mono fun k h1 z => ?_
    cases k with
    | false => exact z
    | true =>
      obtain ⟨j, ej, z⟩ := z
      simp only [if_true]
      cases eb : b s h1 <;> rw [eb] at z
      · exact Sk_while I hb n j _ _ (by omega) z
      · exact z
      · exact z.elim
      · exact Sk_while I hb n j _ _ (by omega) z
      · exact z.elim
      · exact z.elim
end
end Cn
set_option Elab.async false
set_option maxRecDepth 100000
set_option linter.all false
namespace Dw
open Cn
def m_law_state : Def := runD 3 1 (
    sSeq (sSet 1 (eC (.int 7)))
    (sSeq (sFor (eVar 0) (gSet 2)
    (sSet 1 (e2 modV (eCall intV (aCons (e2 addV (e2 mulV (eVar 1) (eC (.int 31))) (eVar 2)) (aNil))) (eC (.int 1000003)))))
    (sRet (eLst (aCons (eComp [2] (eVar 0) (gSet 2) (Cn.tYes) (eCall absV (aCons (eVar 2) (aNil)))) (aCons (e2 addV (eVar 1) (eC (.int 1))) (aNil)))))))
def m_law_draw : Def := runD 5 2 (
    sSeq (sSet 2 (e2 ixV (eVar 0) (eC (.int 0))))
    (sSeq (sWhile (Cn.tAnd (tV (e2 gtV (eCall lenV (aCons (eVar 2) (aNil))) (eC (.int 0)))) (tV (e2 Cn.eqV (e2 ixV (eVar 2) (eC (.int 0))) (eC (.int 0))))) (sE (eBM 5 popAtV (eVar 2) (aCons (eC (.int 0)) (aNil)))) 1000)
    (sSeq (sIf (tV (e2 gtV (eCall lenV (aCons (eVar 2) (aNil))) (eC (.int 0)))) (sSeq (sSet 3 (e2 ixV (eVar 2) (eC (.int 0))))
    (sSeq (sSetIx (e2 fdivV (eVar 3) (eVar 1)) (eVar 2) (eC (.int 0)))
    (sRet (e2 modV (eCall intV (aCons (eVar 3) (aNil))) (eVar 1)))))
    (sNil))
    (sSeq (sSet 4 (e2 modV (eCall intV (aCons (e2 addV (e2 mulV (e2 ixV (eVar 0) (eC (.int 1))) (eC (.int 48271))) (eC (.int 12345))) (aNil))) (eC (.int 2147483647))))
    (sSeq (sSetIx (eVar 4) (eVar 0) (eC (.int 1)))
    (sRet (e2 modV (eCall intV (aCons (e2 fdivV (eVar 4) (eC (.int 64))) (aNil))) (eVar 1))))))))
def m_law_pick : Def := runD 2 2 (
    sRet (e2 ixV (eVar 1) (eCall m_law_draw (aCons (eVar 0) (aCons (eCall lenV (aCons (eVar 1) (aNil))) (aNil))))))

structure Dr (n c : Nat) (h : CH) : Prop where
  ne : n ≠ c
  st : ∃ x : Int, h.os[n]? = some (.lst [.ref c, .int x])
  cs : ∃ xs : List Int, h.os[c]? = some (.lst (xs.map CV.int)) ∧ xs.length ≤ 63
structure Fr (n c : Nat) (h h' : CH) : Prop where
  sc : h'.sc = h.sc
  len : h.os.length ≤ h'.os.length
  fr : ∀ m, m ≠ n → m ≠ c → m < h.os.length → h'.os[m]? = h.os[m]?
theorem Fr.rfl {n c : Nat} {h : CH} : Fr n c h h := ⟨Eq.refl _, Nat.le_refl _, fun _ _ _ _ => Eq.refl _⟩
theorem Fr.trans {n c : Nat} {h h1 h2 : CH} (a : Fr n c h h1) (b : Fr n c h1 h2) : Fr n c h h2 :=
  ⟨b.sc.trans a.sc, Nat.le_trans a.len b.len, fun m x y z => (b.fr m x y (Nat.lt_of_lt_of_le z a.len)).trans (a.fr m x y z)⟩
theorem get_lt {α : Type} {l : List α} {m : Nat} {o : α} (e : l[m]? = some o) : m < l.length := (List.getElem?_eq_some_iff.mp e).1
theorem Fr.get {n c : Nat} {h h1 : CH} (a : Fr n c h h1) {m : Nat} {o : CO} (e : h.os[m]? = some o) (x : m ≠ n) (y : m ≠ c) : h1.os[m]? = some o := (a.fr m x y (get_lt e)).trans e
theorem get_new {h : CH} {o o' : CO} {m : Nat} (e : h.os[m]? = some o) : (h.new o').os[m]? = some o := by
  show (h.os ++ [o'])[m]? = some o
  rw [List.getElem?_append_left (get_lt e)]; exact e
theorem get_self {h : CH} {o' : CO} : (h.new o').os[h.os.length]? = some o' := by
  show (h.os ++ [o'])[h.os.length]? = some o'
  rw [List.getElem?_append_right (Nat.le_refl _), Nat.sub_self]; exact Eq.refl _
theorem get_set {h : CH} {o o' : CO} {m : Nat} (e : h.os[m]? = some o) : (h.set m o').os[m]? = some o' := by
  show (h.os.set m o')[m]? = some o'
  rw [List.getElem?_set_self (get_lt e)]
theorem get_ne {h : CH} {o' : CO} {m k : Nat} (e : k ≠ m) : (h.set m o').os[k]? = h.os[k]? := by
  show (h.os.set m o')[k]? = h.os[k]?
  rw [List.getElem?_set_ne (fun z => e z.symm)]
theorem len_set {h : CH} {o' : CO} {m : Nat} : (h.set m o').os.length = h.os.length := List.length_set
theorem len_new {h : CH} {o' : CO} : (h.new o').os.length = h.os.length + 1 := by show (h.os ++ [o']).length = _; simp
theorem Dr.lt {n c : Nat} {h : CH} (d : Dr n c h) : n < h.os.length ∧ c < h.os.length := let ⟨_, e⟩ := d.st; let ⟨_, e2, _⟩ := d.cs; ⟨get_lt e, get_lt e2⟩
theorem Dr.new {n c : Nat} {h : CH} (d : Dr n c h) (o : CO) : Dr n c (h.new o) := ⟨d.ne, let ⟨x, e⟩ := d.st; ⟨x, get_new e⟩, let ⟨x, e, l⟩ := d.cs; ⟨x, get_new e, l⟩⟩
theorem Dr.set {n c : Nat} {h : CH} (d : Dr n c h) {m : Nat} (o : CO) (a : m ≠ n) (b : m ≠ c) : Dr n c (h.set m o) :=
  ⟨d.ne, let ⟨x, e⟩ := d.st; ⟨x, (get_ne (Ne.symm a)).trans e⟩, let ⟨x, e, l⟩ := d.cs; ⟨x, (get_ne (Ne.symm b)).trans e, l⟩⟩
theorem Fr.new {n c : Nat} {h : CH} (o : CO) : Fr n c h (h.new o) := ⟨Eq.refl _, by rw [len_new]; omega, fun m _ _ l => by
  show (h.os ++ [o])[m]? = _
  rw [List.getElem?_append_left l]⟩
theorem Fr.setN {n c : Nat} {h : CH} (o : CO) : Fr n c h (h.set n o) := ⟨Eq.refl _, by rw [len_set]; omega, fun m a _ _ => get_ne a⟩
theorem Fr.setC {n c : Nat} {h : CH} (o : CO) : Fr n c h (h.set c o) := ⟨Eq.refl _, by rw [len_set]; omega, fun m _ a _ => get_ne a⟩
theorem lstOf_ref {h : CH} {m : Nat} {xs : List CV} (e : h.os[m]? = some (.lst xs)) : lstOf h (.ref m) = some xs := by simp [lstOf, e]
theorem ix_lst {h : CH} {m : Nat} {xs : List CV} {i : Nat} {v : CV} (e : h.os[m]? = some (.lst xs)) (g : xs[i]? = some v) : ixV (.ref m) (.int i) h = .ok v h := by
  have l : i < xs.length := get_lt g
  simp only [ixV, lstOf_ref e, atC, ixC]
  rw [if_pos (by omega), if_pos (by omega)]
  simp [g]
theorem len_lst {h : CH} {m : Nat} {xs : List CV} (e : h.os[m]? = some (.lst xs)) : lenV [.ref m] h = .ok (.int xs.length) h := by simp [lenV, lstOf_ref e]
theorem len_str {h : CH} {z : List Nat} (l : z.length ≤ 16777216) : lenV [.str z] h = .ok (.int z.length) h := by
  unfold lenV
  exact if_pos l
theorem eq_int {h : CH} (i j : Int) : eqV (.int i) (.int j) h = .ok (.bl (i == j)) h := by simp [eqV, dataC, eqD]
theorem kind_lst {h : CH} {m : Nat} {xs : List CV} (e : h.os[m]? = some (.lst xs)) : kindC (.ref m) h = 5 := by simp [kindC, kindO, e]
theorem popAt0 {h : CH} {m : Nat} {x : CV} {xs : List CV} (e : h.os[m]? = some (.lst (x :: xs))) : popAtV [.ref m, .int 0] h = .ok x (h.set m (.lst xs)) := by
  simp only [popAtV, e]
  rw [if_pos ⟨by omega, by simp, by unfold B62; omega⟩]
  rfl
theorem setIx_lst {h : CH} {m : Nat} {xs : List CV} {i : Nat} {v : CV} (e : h.os[m]? = some (.lst xs)) (g : i < xs.length) : setIxV (.ref m) (.int i) v h = some (h.set m (.lst (xs.set i v))) := by
  simp only [setIxV, e, ixC]
  rw [if_pos (by omega), if_pos (by omega)]
  simp
theorem add_int {h : CH} (i j : Int) : addV (.int i) (.int j) h = .ok (.int (i + j)) h := rfl
theorem mod_int {h : CH} (i : Int) {j : Int} (p : 0 < j) : modV (.int i) (.int j) h = .ok (.int (i % j)) h := if_pos p
theorem div_int {h : CH} (i : Int) {j : Int} (p : 0 < j) (p2 : j < 1073741824) : fdivV (.int i) (.int j) h = .ok (.int (i / j)) h := if_pos ⟨p, p2⟩
theorem mul_int {h : CH} (i j : Int) (p : -18446744073709551616 < j ∧ j < 18446744073709551616) : mulV (.int i) (.int j) h = .ok (.int (i * j)) h := if_pos (.inr p)
theorem draw {n c : Nat} {h : CH} {k : Nat} {Q : CV → CH → Prop} (d : Dr n c h) (k0 : 0 < k) (k1 : k < 1073741824)
    (q : ∀ (v : Nat) h', v < k → Dr n c h' → Fr n c h h' → h'.os.length = h.os.length → Q (.int v) h') : Ok (m_law_draw [.ref n, .int k] h) Q := by
  obtain ⟨x, en⟩ := d.st
  obtain ⟨xs, ec, lx⟩ := d.cs
  have modq : ∀ (i : Int) h', Dr n c h' → Fr n c h h' → h'.os.length = h.os.length → Q (.int (i % (k : Int))) h' := fun i h' a b e => by
    have e1 : i % (k : Int) = ((i % (k : Int)).toNat : Int) := by
      have := Int.emod_nonneg i (show (k : Int) ≠ 0 by omega)
      omega
    rw [e1]
    refine q _ h' ?_ a b e
    have := Int.emod_lt_of_pos i (show (0 : Int) < k by omega)
    omega
  refine Ok_runD _ _ _ _ rfl ?_
  simp only [Sk_sSeq, Sk_sSet, Ok_e2, Ok_eVar, Ok_eC]
  refine ⟨.ref n, rfl, ?_⟩
  refine Ok.eq (ix_lst (i := 0) en rfl) ?_
  refine Sk_while (fun i s h1 => s = [some (.ref n), some (.int k), some (.ref c), none, none] ∧ Dr n c h1 ∧ Fr n c h h1 ∧ h1.os.length = h.os.length ∧ ∃ ys : List Int, h1.os[c]? = some (.lst (ys.map CV.int)) ∧ ys.length = i) ?_ 1000 xs.length _ _ (by omega) ⟨rfl, d, .rfl, rfl, xs, ec, rfl⟩
  rintro i s h1 ⟨rfl, d1, f1, l1, ys, e1, ly⟩
  simp only [Ok_tAnd, Ok_tV, Ok_e2, Ok_eCall, Ok_aCons, Ok_aNil, Ok_eVar, Ok_eC, Sk_sE, Ok_eBM]
  refine ⟨.ref c, rfl, Ok.eq (len_lst e1) (Ok.eq rfl ⟨_, rfl, ?_⟩)⟩
  have rest : ∀ h2, Dr n c h2 → Fr n c h h2 → h2.os.length = h.os.length → ∀ ys : List Int, h2.os[c]? = some (.lst (ys.map CV.int)) →
    Sk ((sSeq (sIf (tV (e2 gtV (eCall lenV (aCons (eVar 2) (aNil))) (eC (.int 0)))) (sSeq (sSet 3 (e2 ixV (eVar 2) (eC (.int 0))))
    (sSeq (sSetIx (e2 fdivV (eVar 3) (eVar 1)) (eVar 2) (eC (.int 0)))
    (sRet (e2 modV (eCall intV (aCons (eVar 3) (aNil))) (eVar 1)))))
    (sNil))
    (sSeq (sSet 4 (e2 modV (eCall intV (aCons (e2 addV (e2 mulV (e2 ixV (eVar 0) (eC (.int 1))) (eC (.int 48271))) (eC (.int 12345))) (aNil))) (eC (.int 2147483647))))
    (sSeq (sSetIx (eVar 4) (eVar 0) (eC (.int 1)))
    (sRet (e2 modV (eCall intV (aCons (e2 fdivV (eVar 4) (eC (.int 64))) (aNil))) (eVar 1)))))) [some (.ref n), some (.int k), some (.ref c), none, none] h2) (fun _ h1 => Q .non h1) (fun _ _ => False) Q := by
    intro h2 d2 f2 l2 ys e2
    simp only [Sk_sSeq, Sk_sIf, Ok_tV, Ok_e2, Ok_eCall, Ok_aCons, Ok_aNil, Ok_eVar, Ok_eC]
    refine ⟨.ref c, rfl, Ok.eq (len_lst e2) (Ok.eq rfl ⟨_, rfl, ?_⟩)⟩
    cases ys with
    | cons y ys =>
      rw [if_pos (by simp)]
      simp only [Sk_sSeq, Sk_sSet, Sk_sSetIx, Sk_sRet, Ok_tV, Ok_e2, Ok_eCall, Ok_aCons, Ok_aNil, Ok_eVar, Ok_eC]
      refine ⟨.ref c, rfl, Ok.eq (ix_lst (i := 0) e2 rfl) ⟨.int y, rfl, .int k, rfl, Ok.eq (div_int _ (by omega) (by omega)) ⟨.ref c, rfl, _, setIx_lst (i := 0) e2 (by simp), .int y, rfl, Ok.eq rfl ⟨.int k, rfl, ?_⟩⟩⟩⟩
      refine Ok.eq (mod_int _ (by omega)) (modq y _ ?_ (f2.trans (.setC _)) (by rw [len_set]; exact l2))
      obtain ⟨x2, en2⟩ := d2.st
      obtain ⟨xs2, ec2, lx2⟩ := d2.cs
      refine ⟨d2.ne, ⟨x2, (get_ne d2.ne).trans en2⟩, (y / (k : Int)) :: ys, ?_, ?_⟩
      · rw [get_set e2]; rfl
      · rw [e2] at ec2
        have : (y :: ys).map CV.int = xs2.map CV.int := by injection ec2 with z; injection z
        have := congrArg List.length this
        simp at this ⊢
        omega
    | nil =>
      rw [if_neg (by simp)]
      obtain ⟨x2, en2⟩ := d2.st
      simp only [Sk_sNil, Sk_sSeq, Sk_sSet, Sk_sSetIx, Sk_sRet, Ok_tV, Ok_e2, Ok_eCall, Ok_aCons, Ok_aNil, Ok_eVar, Ok_eC]
      refine ⟨.ref n, rfl, Ok.eq (ix_lst (i := 1) en2 rfl) ?_⟩
      refine Ok.eq (mul_int _ _ (by omega)) ?_
      refine Ok.eq (add_int _ _) (Ok.eq rfl (Ok.eq (mod_int _ (by omega)) ?_))
      refine ⟨_, rfl, .ref n, rfl, _, setIx_lst (i := 1) en2 (by simp), _, rfl, ?_⟩
      refine Ok.eq (div_int _ (by omega) (by omega)) (Ok.eq rfl ⟨.int k, rfl, Ok.eq (mod_int _ (by omega)) (modq _ _ ?_ (f2.trans (.setN _)) (by rw [len_set]; exact l2))⟩)
      obtain ⟨xs2, ec2, lx2⟩ := d2.cs
      exact ⟨d2.ne, ⟨_, get_set en2⟩, xs2, (get_ne d2.ne.symm).trans ec2, lx2⟩
  cases ys with
  | nil =>
    rw [if_neg (by simp)]
    have z := rest h1 d1 f1 l1 [] e1
    simp only [Sk_sSeq, Sk_sSet, Ok_tAnd, Ok_tV, Ok_e2, Ok_eCall, Ok_aCons, Ok_aNil, Ok_eVar, Ok_eC, Sk_sE, Ok_eBM] at z
    rw [if_neg (by simp)]
    exact z
  | cons y ys =>
    rw [if_pos (by simp)]
    refine ⟨.ref c, rfl, Ok.eq (ix_lst (i := 0) e1 rfl) (Ok.eq (eq_int _ _) ⟨_, rfl, ?_⟩)⟩
    by_cases y0 : y = 0
    · rw [if_pos (by simp [y0])]
      refine ⟨ys.length, by rw [← ly]; rfl, .ref c, rfl, kind_lst e1, Ok.eq (popAt0 e1) ⟨trivial, ?_, f1.trans (.setC _), by rw [len_set]; exact l1, ys, get_set e1, rfl⟩⟩
      obtain ⟨x2, en2⟩ := d1.st
      obtain ⟨xs2, ec2, lx2⟩ := d1.cs
      refine ⟨d1.ne, ⟨x2, (get_ne d1.ne).trans en2⟩, ys, get_set e1, ?_⟩
      rw [e1] at ec2
      have : (y :: ys).map CV.int = xs2.map CV.int := by injection ec2 with z; injection z
      have := congrArg List.length this
      simp at this
      omega
    · rw [if_neg (by simp [y0])]
      have z := rest h1 d1 f1 l1 (y :: ys) e1
      simp only [Sk_sSeq, Sk_sSet, Ok_tAnd, Ok_tV, Ok_e2, Ok_eCall, Ok_aCons, Ok_aNil, Ok_eVar, Ok_eC, Sk_sE, Ok_eBM] at z
      exact z
theorem pick_lst {n c m : Nat} {h : CH} {xs : List CV} {Q : CV → CH → Prop} (d : Dr n c h) (e : h.os[m]? = some (.lst xs)) (l : 0 < xs.length) (l2 : xs.length < 1073741824) (mn : m ≠ n) (mc : m ≠ c)
    (q : ∀ (i : Nat) v h', xs[i]? = some v → Dr n c h' → Fr n c h h' → h'.os.length = h.os.length → Q v h') : Ok (m_law_pick [.ref n, .ref m] h) Q := by
  refine Ok_runD _ _ _ _ rfl ?_
  simp only [Sk_sRet, Ok_e2, Ok_eVar, Ok_eCall, Ok_aCons, Ok_aNil]
  refine ⟨.ref m, rfl, .ref n, rfl, .ref m, rfl, Ok.eq (len_lst e) (draw d l l2 fun v h' hv d' f' l' => ?_)⟩
  have e2 : xs[v]? = some xs[v] := List.getElem?_eq_getElem hv
  exact Ok.eq (ix_lst (f'.get e mn mc) e2) (q v _ h' e2 d' f' l')
theorem pick_str {n c : Nat} {h : CH} {z : List Nat} {Q : CV → CH → Prop} (d : Dr n c h) (l : 0 < z.length) (l2 : z.length ≤ 16777216)
    (q : ∀ (i : Nat) v h', z[i]? = some v → Dr n c h' → Fr n c h h' → h'.os.length = h.os.length → Q (.str [v]) h') : Ok (m_law_pick [.ref n, .str z] h) Q := by
  refine Ok_runD _ _ _ _ rfl ?_
  simp only [Sk_sRet, Ok_e2, Ok_eVar, Ok_eCall, Ok_aCons, Ok_aNil]
  refine ⟨.str z, rfl, .ref n, rfl, .str z, rfl, Ok.eq (len_str l2) (draw d l (by omega) fun v h' hv d' f' l' => ?_)⟩
  have e2 : z[v]? = some z[v] := List.getElem?_eq_getElem hv
  refine Ok.eq (a := .str [z[v]]) (h := h') ?_ (q v _ h' e2 d' f' l')
  simp only [ixV, atC, ixC]
  rw [if_pos l2, if_pos (by omega), if_pos (by omega)]
  simp [e2]
theorem pick_tup {n c : Nat} {h : CH} {xs : List CV} {Q : CV → CH → Prop} (d : Dr n c h) (l : 0 < xs.length) (l2 : xs.length < 1073741824)
    (q : ∀ (i : Nat) v h', xs[i]? = some v → Dr n c h' → Fr n c h h' → h'.os.length = h.os.length → Q v h') : Ok (m_law_pick [.ref n, .tup xs] h) Q := by
  refine Ok_runD _ _ _ _ rfl ?_
  simp only [Sk_sRet, Ok_e2, Ok_eVar, Ok_eCall, Ok_aCons, Ok_aNil]
  refine ⟨.tup xs, rfl, .ref n, rfl, .tup xs, rfl, Ok.eq rfl (draw d l l2 fun v h' hv d' f' l' => ?_)⟩
  have e2 : xs[v]? = some xs[v] := List.getElem?_eq_getElem hv
  refine Ok.eq (a := xs[v]) (h := h') ?_ (q v _ h' e2 d' f' l')
  simp only [ixV, atC, ixC]
  rw [if_pos (by omega), if_pos (by omega)]
  simp [e2]
theorem state {h : CH} {Q : CV → CH → Prop} (l : h.sc.length ≤ 63)
    (q : ∀ n c h', Dr n c h' → h.os.length ≤ n → h.os.length ≤ c → h'.sc = h.sc → h.os.length ≤ h'.os.length → (∀ m, m < h.os.length → h'.os[m]? = h.os[m]?) → Q (.ref n) h') : Ok (m_law_state [.scr] h) Q := by
  refine Ok_runD _ _ _ _ rfl ?_
  simp only [Sk_sSeq, Sk_sSet, Ok_eC]
  refine Sk_sFor ?_
  rw [Ok_eVar]
  refine ⟨.scr, rfl, h.sc.map CV.int, fun i s h1 => h1 = h ∧ ∃ (x : Int) (o : Option CV), s = [some .scr, some (.int x), o], fun i s h1 ⟨e, _⟩ => by rw [e]; rfl, rfl, ⟨rfl, 7, none, rfl⟩, ?_, ?_⟩
  · rintro i v s h1 e ⟨rfl, x, o, rfl⟩
    rw [List.getElem?_map] at e
    obtain ⟨y, ey, rfl⟩ := Option.map_eq_some_iff.mp e
    refine ⟨_, _, rfl, ?_⟩
    simp only [Sk_sSet, Ok_e2, Ok_eCall, Ok_aCons, Ok_aNil, Ok_eVar, Ok_eC]
    refine ⟨.int x, rfl, Ok.eq (mul_int _ _ (by omega)) ⟨.int y, rfl, Ok.eq (add_int _ _) (Ok.eq rfl (Ok.eq (mod_int _ (by omega)) ⟨rfl, _, _, rfl⟩))⟩⟩
  · rintro s h1 ⟨rfl, x, o, rfl⟩
    simp only [Sk_sRet, Ok_eLst, Ok_aCons, Ok_aNil, Ok_e2, Ok_eVar, Ok_eC]
    refine Ok_eComp ?_
    rw [Ok_eVar]
    refine ⟨.scr, rfl, h1.sc.map CV.int, fun i h2 => h2.sc = h1.sc ∧ h2.os.length = h1.os.length + 1 ∧ (∀ m, m < h1.os.length → h2.os[m]? = h1.os[m]?) ∧ ∃ ys : List Int, h2.os[h1.os.length]? = some (.lst (ys.map CV.int)) ∧ ys.length = i,
      fun i h2 ⟨e, _⟩ => by unfold itemAt lstOf; rw [e], rfl, ⟨rfl, len_new, fun m lm => (Fr.new (n := m + 1) (c := m + 1) (h := h1) _).fr m (by omega) (by omega) lm, [], get_self, rfl⟩, ?_, ?_⟩
    · rintro i v h2 e ⟨es, el, ef, ys, ey, ly⟩
      rw [List.getElem?_map] at e
      obtain ⟨y, eyy, rfl⟩ := Option.map_eq_some_iff.mp e
      refine lc_turn rfl ?_
      rw [Ok_tYes]
      simp only [if_true, Ok_eCall, Ok_aCons, Ok_aNil, Ok_eVar]
      have li : i < h1.sc.length := get_lt eyy
      refine ⟨.int y, rfl, Ok.eq rfl ⟨_, ey, ?_, es, ?_, ?_, ys ++ [if y < 0 then -y else y], ?_, ?_⟩⟩
      · rw [List.length_map]; show ys.length < 16777216; omega
      · rw [len_set]; exact el
      · intro m lm
        rw [get_ne (by omega)]
        exact ef m lm
      · rw [get_set ey, List.map_append]; rfl
      · rw [List.length_append, ly]; rfl
    · rintro h2 ⟨es, el, ef, ys, ey, ly⟩
      rw [List.length_map] at ly
      refine ⟨_, rfl, Ok.eq (add_int _ _) ⟨by show 2 ≤ 16777216; omega, ?_⟩⟩
      refine q h2.os.length h1.os.length _ ⟨by omega, ⟨_, get_self⟩, ys, get_new ey, by omega⟩ (by omega) (Nat.le_refl _) es (by rw [len_new]; omega) fun m lm => ?_
      rw [← ef m lm]
      exact (Fr.new (n := m + 1) (c := m + 1) (h := h2) _).fr m (by omega) (by omega) (by omega)
end Dw
set_option Elab.async false
set_option maxRecDepth 100000
set_option linter.all false
namespace Cn
open Dw
theorem Ok.toEq {α : Type} {r : Res α} {a : α} {h : CH} (o : Ok r fun x h1 => x = a ∧ h1 = h) : r = .ok a h := by
  cases r with
  | ok x h1 => rw [Ok_ok] at o; obtain ⟨rfl, rfl⟩ := o; rfl
  | ex => rw [Ok_ex] at o; exact o.elim
  | bad => rw [Ok_bad] at o; exact o.elim
mutual
theorem eqD_refl : ∀ d : CD, eqD d d = true
  | .non => rfl
  | .bl b => by simp [eqD]
  | .int i => by simp [eqD]
  | .str s => by simp [eqD]
  | .lst xs => by simp only [eqD]; exact eqDs_refl xs
  | .tup xs => by simp only [eqD]; exact eqDs_refl xs
theorem eqDs_refl : ∀ ds : List CD, eqDs ds ds = true
  | [] => rfl
  | d :: ds => by simp only [eqDs]; rw [eqD_refl d, eqDs_refl ds]; rfl
end
theorem nin_char {c : Nat} {z : List Nat} {h : CH} : ninV (.str [c]) (.str z) h = .ok (.bl (!decide (c ∈ z))) h := rfl
theorem in_char {c : Nat} {z : List Nat} {h : CH} : inV (.str [c]) (.str z) h = .ok (.bl (decide (c ∈ z))) h := rfl
theorem le_int {h : CH} (i j : Int) : leV (.int i) (.int j) h = .ok (.bl (decide (i ≤ j))) h := rfl
theorem lt_int {h : CH} (i j : Int) : ltV (.int i) (.int j) h = .ok (.bl (decide (i < j))) h := rfl
theorem gt_int {h : CH} (i j : Int) : gtV (.int i) (.int j) h = .ok (.bl (decide (j < i))) h := rfl
theorem ge_int {h : CH} (i j : Int) : geV (.int i) (.int j) h = .ok (.bl (decide (j ≤ i))) h := rfl
theorem eq_str {h : CH} (i j : List Nat) : eqV (.str i) (.str j) h = .ok (.bl (i == j)) h := by simp [eqV, dataC, eqD]
theorem ne_str {h : CH} (i j : List Nat) : neV (.str i) (.str j) h = .ok (.bl (!(i == j))) h := by simp [neV, dataC, eqD]
theorem ne_int {h : CH} (i j : Int) : neV (.int i) (.int j) h = .ok (.bl (!(i == j))) h := by simp [neV, dataC, eqD]
theorem ix_str {h : CH} {z : List Nat} {i c : Nat} (l : z.length ≤ 16777216) (e : z[i]? = some c) : ixV (.str z) (.int i) h = .ok (.str [c]) h := by
  have := get_lt e
  simp only [ixV, atC, ixC]
  rw [if_pos l, if_pos (by omega), if_pos (by omega)]
  simp [e]
theorem add_str {h : CH} {a b : List Nat} (l : a.length + b.length ≤ 16777216) : addV (.str a) (.str b) h = .ok (.str (a ++ b)) h := if_pos l
theorem ix_str0 {h : CH} {z : List Nat} {c : Nat} {r : List Nat} (e : z = c :: r) (l : z.length ≤ 16777216) : ixV (.str z) (.int 0) h = .ok (.str [c]) h := ix_str (i := 0) l (by rw [e]; rfl)
theorem item_str {z : List Nat} {i : Nat} {h : CH} : itemAt (.str z) i h = some (z.map fun c => CV.str [c])[i]? := by
  simp [itemAt]
section
variable {s : CS} {h : CH} {N C : CS → CH → Prop} {R : CV → CH → Prop}
theorem only_loop {a c : ME CV} {k : Nat} {r : CV} {w sg : List Nat} (s0 : CS) (o0 : Option CV) (h0 : s0[k]? = some o0) (ha : Ok (a s0 h) fun x h1 => x = .str w ∧ h1 = h) (hc : ∀ v, Ok (c (s0.set k v) h) fun x h1 => x = .str sg ∧ h1 = h)
    (hN : w.all (fun c => decide (c ∈ sg)) = true → ∀ v, N (s0.set k v) h) (hR : w.all (fun c => decide (c ∈ sg)) = false → R r h) :
    Sk (sFor a (gSet k) (sIf (tV (e2 ninV (eVar k) c)) (sRet (eC r)) sNil) s0 h) N C R := by
  refine Sk_sFor (ha.mono fun x h1 ⟨e1, e2⟩ => ?_)
  subst e1 e2
  refine ⟨w.map fun c => CV.str [c], fun i s h2 => h2 = h1 ∧ (∃ v, s = s0.set k v) ∧ (w.take i).all (fun c => decide (c ∈ sg)) = true, fun i s h1 _ => item_str, ?_, ⟨rfl, ⟨o0, ?_⟩, ?_⟩, ?_, ?_⟩
  · simp [lenAt]
  · have := List.getElem?_eq_some_iff.mp h0
    obtain ⟨l, e⟩ := this
    subst e
    exact (List.set_getElem_self l).symm
  · simp
  · rintro i v s h1 e ⟨rfl, ⟨v0, rfl⟩, q⟩
    rw [List.getElem?_map] at e
    obtain ⟨x, ex, rfl⟩ := Option.map_eq_some_iff.mp e
    refine ⟨_, _, rfl, ?_⟩
    rw [List.set_set]
    simp only [Sk_sIf, Ok_tV, Ok_e2, Ok_eVar]
    refine ⟨.str [x], by rw [List.getElem?_set_self (get_lt h0)], (hc _).mono fun y h2 ⟨e1, e2⟩ => ?_⟩
    subst e1 e2
    refine Ok.eq nin_char ⟨_, rfl, ?_⟩
    by_cases m : x ∈ sg
    · rw [if_neg (by simp [m]), Sk_sNil]
      refine ⟨rfl, ⟨_, rfl⟩, ?_⟩
      rw [List.take_succ, ex, List.all_append, q]
      simp [m]
    · rw [if_pos (by simp [m]), Sk_sRet, Ok_eC]
      refine hR ?_
      rw [List.all_eq_false]
      exact ⟨x, List.mem_of_getElem? ex, by simp [m]⟩
  · rintro s h1 ⟨rfl, ⟨v0, rfl⟩, q⟩
    rw [List.length_map, List.take_length] at q
    exact hN q _
end
theorem joinC_one (cs : List Nat) : joinC [] (cs.map fun c => [c]) = cs := by
  induction cs with
  | nil => rfl
  | cons c cs ih =>
    cases cs with
    | nil => rfl
    | cons d cs => rw [List.map_cons, List.map_cons]; simp only [joinC]; rw [← List.map_cons (f := fun c => [c]), ih]; rfl
theorem strsOf_map (zs : List (List Nat)) : strsOf (zs.map CV.str) = some zs := by
  induction zs with
  | nil => rfl
  | cons z zs ih => rw [List.map_cons]; simp [strsOf, ih]
theorem sum_one (cs : List Nat) : ((cs.map fun c => [c]).map (·.length)).sum = cs.length := by
  induction cs with
  | nil => rfl
  | cons c cs ih => simp at ih ⊢; omega
theorem join_chars {h : CH} {m : Nat} {cs : List Nat} (e : h.os[m]? = some (.lst (cs.map fun c => CV.str [c]))) (l : cs.length ≤ 16777216) : joinV [.str [], .ref m] h = .ok (.str cs) h := by
  have e2 : (cs.map fun c => CV.str [c]) = (cs.map fun c => [c]).map CV.str := by rw [List.map_map]; rfl
  rw [e2] at e
  simp only [joinV, seqOf, lstOf_ref e, strsOf_map]
  rw [if_pos (by rw [sum_one]; show cs.length + _ * 0 ≤ 16777216; omega), joinC_one]
theorem part_idx (c : Nat) : ∀ w : List Nat, partC c w = if c ∈ w then some (w.take (w.idxOf c), w.drop (w.idxOf c + 1)) else none
  | [] => rfl
  | x :: w => by
    unfold partC
    by_cases e : x = c
    · subst e; simp
    · rw [if_neg e, part_idx c w]
      have e' : ¬ c = x := fun z => e z.symm
      by_cases m : c ∈ w
      · have ei : (x :: w).idxOf c = w.idxOf c + 1 := by
          rw [List.idxOf_cons]
          have : (x == c) = false := by simpa using e
          rw [this]; rfl
        rw [if_pos m, if_pos (by simp [m]), ei]
        rfl
      · rw [if_neg m, if_neg (by simp [m, e'])]
theorem cut_to {α : Type} (w : List α) (n : Nat) (l : n ≤ w.length) : cutC w none (some (n : Int)) = w.take n := by
  simp only [cutC, sixC]
  rw [if_neg (by omega)]
  simp only [List.drop_zero]
  congr 1
  omega
theorem cut_from {α : Type} (w : List α) (n : Nat) : cutC w (some (n : Int)) none = w.drop n := by
  simp only [cutC, sixC]
  rw [if_neg (by omega)]
  have e : (min (n : Int) (w.length : Int)).toNat = min n w.length := by omega
  rw [e]
  by_cases l : n ≤ w.length
  · rw [Nat.min_eq_left l]
    apply List.take_of_length_le
    rw [List.length_drop]
    exact Nat.le_refl _
  · rw [Nat.min_eq_right (by omega), List.drop_length, List.drop_eq_nil_of_le (by omega)]
    simp
theorem slice_to {h : CH} {w : List Nat} {n : Nat} (l : w.length ≤ 16777216) (l2 : n ≤ w.length) : sliceV (.str w) none (some (n : Int)) h = .ok (.str (w.take n)) h := by
  simp only [sliceV]
  rw [if_pos l, cut_to w n l2]
theorem slice_from {h : CH} {w : List Nat} {n : Nat} (l : w.length ≤ 16777216) : sliceV (.str w) (some (n : Int)) none h = .ok (.str (w.drop n)) h := by
  simp only [sliceV]
  rw [if_pos l, cut_from w n]
theorem index_char {h : CH} {w : List Nat} {c : Nat} (l : w.length ≤ 16777216) (m : c ∈ w) : indexV [.str w, .str [c]] h = .ok (.int (w.idxOf c)) h := if_pos ⟨l, m⟩
theorem slice_scr {h : CH} (lo hi : Option Int) : sliceV .scr lo hi h = alloc (.lst (cutC (h.sc.map CV.int) lo hi)) h := rfl
theorem cut_len {α : Type} (w : List α) (lo hi : Option Int) : (cutC w lo hi).length ≤ w.length := by
  unfold cutC
  rw [List.length_take, List.length_drop]
  omega
end Cn
namespace Dw
open Cn
theorem draw_word {n c : Nat} {h : CH} {k : Nat} {own : List Nat} {a e : ME CV} {g : MG} {s : CS} {z : List Nat} {Q : CV → CH → Prop} (d : Dr n c h) (k1 : k ≤ 1000000)
    (ha : Ok (a s h) fun x h1 => x = .int k ∧ h1 = h) (hg : ∀ v h1, ∃ s1, g v (wipeC s own) h1 = some (s1, h1) ∧ ∀ {Q : CV → CH → Prop}, Ok (m_law_pick [.ref n, .str z] h1) Q → Ok (e s1 h1) Q) (l : 0 < z.length) (l2 : z.length ≤ 16777216)
    (q : ∀ (cs : List Nat) h', cs.length = k → (∀ x ∈ cs, x ∈ z) → Dr n c h' → Fr n c h h' → h'.os[h.os.length]? = some (.lst (cs.map fun c => CV.str [c])) → Q (.ref h.os.length) h') : Ok (eCompR own a g tYes e s h) Q := by
  refine Ok_eCompR (ha.mono fun x h1 ⟨e1, e2⟩ => ?_)
  subst e1 e2
  refine ⟨k, fun i h2 => Dr n c h2 ∧ Fr n c h1 h2 ∧ ∃ cs : List Nat, cs.length = i ∧ (∀ x ∈ cs, x ∈ z) ∧ h2.os[h1.os.length]? = some (.lst (cs.map fun c => CV.str [c])), rfl, by omega, ⟨d.new _, .new _, [], rfl, by simp, get_self⟩, ?_, ?_⟩
  · rintro i h2 hi ⟨d2, f2, cs, lc, mc, ec⟩
    obtain ⟨s1, eg, ke⟩ := hg (.int i) h2
    refine lc_turn eg ?_
    rw [Ok_tYes]
    simp only [if_true]
    have a1 : h1.os.length ≠ n := by have := d.lt; omega
    have a2 : h1.os.length ≠ c := by have := d.lt; omega
    refine ke (pick_str d2 l l2 fun j v h3 ej d3 f3 l3 => ⟨_, f3.get ec a1 a2, ?_, d3.set _ a1 a2, ?_, cs ++ [v], ?_, ?_, ?_⟩)
    · rw [List.length_map]; show cs.length < 16777216; omega
    · refine ⟨(f2.trans f3).sc, ?_, fun m x y lm => ?_⟩
      · rw [len_set]; exact (f2.trans f3).len
      · rw [get_ne (by omega)]; exact (f2.trans f3).fr m x y lm
    · rw [List.length_append, lc]; rfl
    · intro x hx
      rcases List.mem_append.mp hx with hx | hx
      · exact mc x hx
      · rw [List.mem_singleton] at hx
        subst hx
        exact List.mem_of_getElem? ej
    · rw [get_set (f3.get ec a1 a2), List.map_append]; rfl
  · rintro h2 ⟨d2, f2, cs, lc, mc, ec⟩
    exact q cs h2 lc mc d2 f2 ec
end Dw
set_option Elab.async false
set_option maxRecDepth 100000
set_option linter.all false
namespace Cn
open Dw
theorem beq_dec (i j : List Nat) : (i == j) = decide (i = j) := by by_cases e : i = j <;> simp [e]
variable {h : CH} {α : Type}
@[simp] theorem z_add (i j : Int) : addV (.int i) (.int j) h = .ok (.int (i + j)) h := rfl
@[simp] theorem z_sub (i j : Int) : subV (.int i) (.int j) h = .ok (.int (i - j)) h := rfl
@[simp] theorem z_mul (i j : Int) (p : -18446744073709551616 < j ∧ j < 18446744073709551616) : mulV (.int i) (.int j) h = .ok (.int (i * j)) h := if_pos (.inr p)
theorem z_mul' (i j : Int) (p : -18446744073709551616 < i ∧ i < 18446744073709551616) : mulV (.int i) (.int j) h = .ok (.int (i * j)) h := if_pos (.inl p)
@[simp] theorem z_div (i : Int) {j : Int} (p : 0 < j) (p2 : j < 1073741824) : fdivV (.int i) (.int j) h = .ok (.int (i / j)) h := if_pos ⟨p, p2⟩
@[simp] theorem z_mod (i : Int) {j : Int} (p : 0 < j) : modV (.int i) (.int j) h = .ok (.int (i % j)) h := if_pos p
@[simp] theorem z_neg (i : Int) : negV (.int i) h = .ok (.int (-i)) h := rfl
@[simp] theorem z_lt (i j : Int) : ltV (.int i) (.int j) h = .ok (.bl (decide (i < j))) h := rfl
@[simp] theorem z_le (i j : Int) : leV (.int i) (.int j) h = .ok (.bl (decide (i ≤ j))) h := rfl
@[simp] theorem z_gt (i j : Int) : gtV (.int i) (.int j) h = .ok (.bl (decide (j < i))) h := rfl
@[simp] theorem z_ge (i j : Int) : geV (.int i) (.int j) h = .ok (.bl (decide (j ≤ i))) h := rfl
@[simp] theorem z_adds (a b : List Nat) (l : a.length + b.length ≤ 16777216) : addV (.str a) (.str b) h = .ok (.str (a ++ b)) h := if_pos l
@[simp] theorem z_eqi (i j : Int) : eqV (.int i) (.int j) h = .ok (.bl (decide (i = j))) h := by simp [eqV, dataC, eqD]; rfl
@[simp] theorem z_eqs (i j : List Nat) : eqV (.str i) (.str j) h = .ok (.bl (decide (i = j))) h := by simp [eqV, dataC, eqD, beq_dec]
@[simp] theorem z_eqb (i j : Bool) : eqV (.bl i) (.bl j) h = .ok (.bl (decide (i = j))) h := by simp [eqV, dataC, eqD]; rfl
@[simp] theorem z_eqnn : eqV .non .non h = .ok (.bl true) h := by simp [eqV, dataC, eqD]
@[simp] theorem z_eqni (j : Int) : eqV .non (.int j) h = .ok (.bl false) h := by simp [eqV, dataC, eqD]
@[simp] theorem z_eqin (j : Int) : eqV (.int j) .non h = .ok (.bl false) h := by simp [eqV, dataC, eqD]
@[simp] theorem z_eqns (j : List Nat) : eqV .non (.str j) h = .ok (.bl false) h := by simp [eqV, dataC, eqD]
@[simp] theorem z_eqsn (j : List Nat) : eqV (.str j) .non h = .ok (.bl false) h := by simp [eqV, dataC, eqD]
@[simp] theorem z_eqis (i : Int) (j : List Nat) : eqV (.int i) (.str j) h = .ok (.bl false) h := by simp [eqV, dataC, eqD]
@[simp] theorem z_eqsi (i : Int) (j : List Nat) : eqV (.str j) (.int i) h = .ok (.bl false) h := by simp [eqV, dataC, eqD]
@[simp] theorem z_nei (i j : Int) : neV (.int i) (.int j) h = .ok (.bl (!decide (i = j))) h := by simp [neV, dataC, eqD]; rfl
@[simp] theorem z_nes (i j : List Nat) : neV (.str i) (.str j) h = .ok (.bl (!decide (i = j))) h := by simp [neV, dataC, eqD, beq_dec]
@[simp] theorem z_neb (i j : Bool) : neV (.bl i) (.bl j) h = .ok (.bl (!decide (i = j))) h := by simp [neV, dataC, eqD]; rfl
@[simp] theorem z_nenn : neV .non .non h = .ok (.bl false) h := by simp [neV, dataC, eqD]
@[simp] theorem z_neni (j : Int) : neV .non (.int j) h = .ok (.bl true) h := by simp [neV, dataC, eqD]
@[simp] theorem z_nein (j : Int) : neV (.int j) .non h = .ok (.bl true) h := by simp [neV, dataC, eqD]
@[simp] theorem z_nens (j : List Nat) : neV .non (.str j) h = .ok (.bl true) h := by simp [neV, dataC, eqD]
@[simp] theorem z_nesn (j : List Nat) : neV (.str j) .non h = .ok (.bl true) h := by simp [neV, dataC, eqD]
theorem z_ne_self {v : CV} {d : CD} (e : dataC h 60 v = some d) : neV v v h = .ok (.bl false) h := by simp [neV, e, eqD_refl]
theorem z_eq_self {v : CV} {d : CD} (e : dataC h 60 v = some d) : eqV v v h = .ok (.bl true) h := by simp [eqV, e, eqD_refl]
@[simp] theorem z_isN : isNV .non h = .ok (.bl true) h := rfl
@[simp] theorem z_isNi (i) : isNV (.int i) h = .ok (.bl false) h := rfl
@[simp] theorem z_isNs (i) : isNV (.str i) h = .ok (.bl false) h := rfl
@[simp] theorem z_isNr (i) : isNV (.ref i) h = .ok (.bl false) h := rfl
@[simp] theorem z_isNt (i) : isNV (.tup i) h = .ok (.bl false) h := rfl
@[simp] theorem z_notN : notNV .non h = .ok (.bl false) h := rfl
@[simp] theorem z_notNi (i) : notNV (.int i) h = .ok (.bl true) h := rfl
@[simp] theorem z_notNs (i) : notNV (.str i) h = .ok (.bl true) h := rfl
@[simp] theorem z_notNr (i) : notNV (.ref i) h = .ok (.bl true) h := rfl
@[simp] theorem z_notNt (i) : notNV (.tup i) h = .ok (.bl true) h := rfl
@[simp] theorem z_in (c : Nat) (z : List Nat) : inV (.str [c]) (.str z) h = .ok (.bl (decide (c ∈ z))) h := rfl
@[simp] theorem z_nin (c : Nat) (z : List Nat) : ninV (.str [c]) (.str z) h = .ok (.bl (!decide (c ∈ z))) h := rfl
@[simp] theorem z_lens (z : List Nat) (l : z.length ≤ 16777216) : lenV [.str z] h = .ok (.int z.length) h := if_pos l
@[simp] theorem z_lent (z : List CV) : lenV [.tup z] h = .ok (.int z.length) h := rfl
@[simp] theorem z_abs (i : Int) : absV [.int i] h = .ok (.int (if i < 0 then -i else i)) h := rfl
@[simp] theorem z_str (i : Int) (p : 0 ≤ i) (p2 : i < 1000000000000000000000000000000) : strV [.int i] h = .ok (.str (numC i.toNat)) h := if_pos ⟨p, p2⟩
@[simp] theorem z_inti (i : Int) : intV [.int i] h = .ok (.int i) h := rfl
@[simp] theorem z_isi_b (k : Nat) (b : Bool) : isiV k (.bl b) h = .ok (.bl (1 == k)) h := rfl
@[simp] theorem z_isi_i (k : Nat) (b : Int) : isiV k (.int b) h = .ok (.bl (2 == k)) h := rfl
@[simp] theorem z_isi_s (k : Nat) (b : List Nat) : isiV k (.str b) h = .ok (.bl (3 == k)) h := rfl
@[simp] theorem z_isi_n (k : Nat) : isiV k .non h = .ok (.bl (0 == k)) h := rfl
@[simp] theorem z_isi_t (k : Nat) (b : List CV) : isiV k (.tup b) h = .ok (.bl (4 == k)) h := rfl
@[simp] theorem z_kind_s (b : List Nat) : kindC (.str b) h = 3 := rfl
@[simp] theorem z_slice_to {w : List Nat} {n : Int} (l : w.length ≤ 16777216) (l0 : 0 ≤ n) (l2 : n ≤ w.length) : sliceV (.str w) none (some n) h = .ok (.str (w.take n.toNat)) h := by
  have := slice_to (h := h) (w := w) (n := n.toNat) l (by omega)
  rw [Int.toNat_of_nonneg l0] at this
  exact this
@[simp] theorem z_slice_from {w : List Nat} {n : Int} (l : w.length ≤ 16777216) (l0 : 0 ≤ n) : sliceV (.str w) (some n) none h = .ok (.str (w.drop n.toNat)) h := by
  have := slice_from (h := h) (w := w) (n := n.toNat) l
  rw [Int.toNat_of_nonneg l0] at this
  exact this
@[simp] theorem z_index {w : List Nat} {c : Nat} (l : w.length ≤ 16777216) (m : c ∈ w) : indexV [.str w, .str [c]] h = .ok (.int (w.idxOf c)) h := if_pos ⟨l, m⟩
@[simp] theorem z_ix0 {z : List Nat} {c : Nat} (l : (c :: z).length ≤ 16777216) : ixV (.str (c :: z)) (.int 0) h = .ok (.str [c]) h := ix_str0 rfl l
@[simp] theorem z_part {w : List Nat} {c : Nat} (l : w.length ≤ 16777216) (k : c < 256) : partitionV [.str w, .str [c]] h = .ok (if c ∈ w then .tup [.str (w.take (w.idxOf c)), .str [c], .str (w.drop (w.idxOf c + 1))] else .tup [.str w, .str [], .str []]) h := by
  simp only [partitionV]
  rw [if_pos ⟨l, k⟩, part_idx]
  by_cases m : c ∈ w
  · rw [if_pos m, if_pos m]
  · rw [if_neg m, if_neg m]
@[simp] theorem ite_cv {p : Prop} [Decidable p] (a b : Bool) : (if p then CV.bl a else CV.bl b) = CV.bl (if p then a else b) := by split <;> rfl
@[simp] theorem LINE_eq : LINE = 16777216 := rfl
section
variable {s : CS} {Q : CV → CH → Prop}
def AsB (x : CV) (Q : Bool → Prop) : Prop := match x with
  | .bl b => Q b
  | _ => False
def AsI (x : CV) (Q : Int → Prop) : Prop := match x with
  | .int b => Q b
  | _ => False
@[simp] theorem AsB_bl (b : Bool) (Q : Bool → Prop) : AsB (.bl b) Q = Q b := rfl
@[simp] theorem AsI_int (b : Int) (Q : Int → Prop) : AsI (.int b) Q = Q b := rfl
@[simp] theorem w_var0 (c : CV) : Ok (eVar 0 (some c :: s) h) Q = Q c h := by rw [Ok_eVar]; simp
@[simp] theorem w_varS (i : Nat) (c : Option CV) : Ok (eVar (i + 1) (c :: s) h) Q = Ok (eVar i s h) Q := by simp [Ok_eVar]
@[simp] theorem w_oSome (a) {Q : Option Int → CH → Prop} : Ok (oSome a s h) Q = Ok (a s h) fun x h1 => AsI x fun i => Q (some i) h1 := by
  rw [Ok_oSome]
  congr 1; funext x h1
  cases x <;> simp [AsI]
@[simp] theorem w_tV (a) {Q : Bool → CH → Prop} : Ok (tV a s h) Q = Ok (a s h) fun x h1 => AsB x fun b => Q b h1 := by
  rw [Ok_tV]
  congr 1; funext x h1
  cases x <;> simp [AsB]
@[simp] theorem w_tAnd (a b) {Q : Bool → CH → Prop} : Ok (tAnd a b s h) Q = Ok (a s h) fun k h1 => if k = true then Ok (b s h1) Q else Q false h1 := Ok_tAnd ..
@[simp] theorem w_tOr (a b) {Q : Bool → CH → Prop} : Ok (tOr a b s h) Q = Ok (a s h) fun k h1 => if k = true then Q true h1 else Ok (b s h1) Q := Ok_tOr ..
@[simp] theorem w_eIf (t a b) : Ok (eIf t a b s h) Q = Ok (t s h) fun k h1 => if k = true then Ok (a s h1) Q else Ok (b s h1) Q := Ok_eIf ..
@[simp] theorem w_eAnd (a b) : Ok (eAnd a b s h) Q = Ok (a s h) fun x h1 => AsB x fun k => if k = true then Ok (b s h1) Q else Q (.bl false) h1 := by
  rw [Ok_eAnd]
  congr 1; funext x h1
  cases x with
  | bl k => cases k <;> simp [AsB]
  | _ => simp [AsB]
@[simp] theorem w_eOr (a b) : Ok (eOr a b s h) Q = Ok (a s h) fun x h1 => AsB x fun k => if k = true then Q (.bl true) h1 else Ok (b s h1) Q := by
  rw [Ok_eOr]
  congr 1; funext x h1
  cases x with
  | bl k => cases k <;> simp [AsB]
  | _ => simp [AsB]
@[simp] theorem w_eNot (a) : Ok (eNot a s h) Q = Ok (a s h) fun x h1 => AsB x fun k => Q (.bl !k) h1 := by
  rw [Ok_eNot]
  congr 1; funext x h1
  cases x <;> simp [AsB]
@[simp] theorem w_eChain (f g a b c) : Ok (eChain f g a b c s h) Q = Ok (a s h) fun x h1 => Ok (b s h1) fun y h2 => Ok (f x y h2) fun z h3 => AsB z fun k => if k = true then Ok (c s h3) fun w h4 => Ok (g y w h4) Q else Q (.bl false) h3 := by
  rw [Ok_eChain]
  congr 1; funext x h1; congr 1; funext y h2; congr 1; funext z h3
  cases z with
  | bl k => cases k <;> simp [AsB]
  | _ => simp [AsB]
def AsP (x : Option (CS × CH)) (N : CS → CH → Prop) : Prop := match x with
  | some (s, h) => N s h
  | none => False
@[simp] theorem AsP_some (s : CS) (h : CH) (N : CS → CH → Prop) : AsP (some (s, h)) N = N s h := rfl
@[simp] theorem AsP_none (N : CS → CH → Prop) : AsP none N = False := rfl
section
variable {N C : CS → CH → Prop} {R : CV → CH → Prop}
@[simp] theorem w_sAsg (a g) : Sk (sAsg a g s h) N C R = Ok (a s h) fun x h1 => AsP (g x s h1) N := by
  simp only [sAsg, Sk_rBind]
  congr 1; funext k h1
  cases e : g k s h1 with
  | none => exact Sk_bad
  | some p => exact Sk_nx ..
@[simp] theorem w_gSet (i : Nat) (v : CV) : gSet i v s h = some (s.set i (some v), h) := rfl
@[simp] theorem w_gsNil : gsNil [] s h = some (s, h) := rfl
theorem w_gsCons (a : MG) (r : MGs) (v : CV) (vs : List CV) : AsP (gsCons a r (v :: vs) s h) N = AsP (a v s h) fun s1 h1 => AsP (r vs s1 h1) N := by
  simp only [gsCons]
  cases a v s h <;> rfl
@[simp] theorem w_gsCons' (i : Nat) (r : MGs) (v : CV) (vs : List CV) : gsCons (gSet i) r (v :: vs) s h = r vs (s.set i (some v)) h := rfl
@[simp] theorem w_gTup (n : Nat) (g : MGs) (xs : List CV) : gTup n g (.tup xs) s h = if xs.length = n then g xs s h else none := rfl
theorem Sk_guard {t : ME Bool} {b : MS} {a : ME CV} (c : Prop) [Decidable c] (ht : Ok (t s h) fun k h1 => (k = true ↔ c) ∧ h1 = h) (hr : c → Ok (a s h) R) (hn : ¬ c → Sk (b s h) N C R) : Sk (sSeq (sIf t (sRet a) sNil) b s h) N C R := by
  rw [Sk_sSeq, Sk_sIf]
  refine ht.mono fun k h1 ⟨e1, e2⟩ => ?_
  subst e2
  by_cases z : c
  · rw [if_pos (e1.mpr z)]; exact (Sk_sRet a).mpr (hr z)
  · rw [if_neg (fun y => z (e1.mp y)), Sk_sNil]; exact hn z
theorem Sk_seq {a b : MS} (I : CS → CH → Prop) (ha : Sk (a s h) I C R) (hb : ∀ s1 h1, I s1 h1 → Sk (b s1 h1) N C R) : Sk (sSeq a b s h) N C R := by
  rw [Sk_sSeq]
  exact ha.mono hb (fun _ _ z => z) fun _ _ z => z
end
end
theorem ev_def {n k : Nat} {b : MS} {vs : List CV} {v : CV} (hl : vs.length = k) (o : Sk (b (vs.map some ++ List.replicate (n - vs.length) none) h) (fun _ h1 => CV.non = v ∧ h1 = h) (fun _ _ => False) fun x h1 => x = v ∧ h1 = h) : runD n k b vs h = .ok v h := (Ok_runD n k b vs hl o).toEq
end Cn
set_option Elab.async false
set_option linter.all false
set_option maxRecDepth 100000
set_option maxHeartbeats 4000000
namespace Cn
open PySem PySem.Spec PyProof.Rows L2

structure Bs where
  ca : Nat → Addr
  an : List Str
  sc : List Int
abbrev Pts (s : List Nat) : Prop := ∀ c ∈ s, c < 1114112

def ScrAt (K : PySem.W.Frag) (H : Hp) (a : Addr) (xs : List V) : Prop :=
  (∃ o, H a = some (.frz o (.lst xs))) ∨
    ∃ (o : Obj) (its : Array Value) (n : Nat), K.lookup a = some o ∧ o.cls = .type "list" ∧ o.dict = none ∧ o.data = .seq its n ∧ its.size ≤ sizeLine ∧ Vals xs its.toList
theorem ScrAt.sq {K : PySem.W.Frag} {H : Hp} {a : Addr} {xs : List V} (h : ScrAt K H a xs) : SqL K H a xs := by
  rcases h with ⟨o, h⟩ | h
  · exact .inl (.inr ⟨o, h⟩)
  · exact .inr h

structure Per (K : PySem.W.Frag) (H H' : Hp) : Prop where
  tups : ∀ a xs, SqT K H a xs → SqT K H' a xs
  frzs : ∀ a o xs, H a = some (.frz o (.lst xs)) → H' a = some (.frz o (.lst xs))
section
variable {K : PySem.W.Frag} {H H1 H2 : Hp}
theorem Per.refl : Per K H H := ⟨fun _ _ h => h, fun _ _ _ h => h⟩
theorem Per.trans (a : Per K H H1) (b : Per K H1 H2) : Per K H H2 := ⟨fun c xs h => b.tups c xs (a.tups c xs h), fun c o xs h => b.frzs c o xs (a.frzs c o xs h)⟩
theorem Per.new {p : Addr} {o : HO} (hp : H p = none) : Per K H (upd H p o) := by
  refine ⟨fun a xs h => ?_, fun a ob xs h => ?_⟩
  · rcases h with (h | ⟨ob, h⟩) | h
    · exact .inl (.inl (by rw [upd_ne (ne_of_none h hp)]; exact h))
    · exact .inl (.inr ⟨ob, by rw [upd_ne (ne_of_none h hp)]; exact h⟩)
    · exact .inr h
  · rw [upd_ne (ne_of_none h hp)]; exact h
theorem Per.write {p : Addr} {o : HO} (mu : Mut (H p)) : Per K H (upd H p o) := by
  have ne : ∀ {a : Addr} {u : HO}, H a = some u → ¬ Mut (some u) → a ≠ p := fun {a u} h nm z => by
    rw [← z, h] at mu; exact nm mu
  refine ⟨fun a xs h => ?_, fun a ob xs h => ?_⟩
  · rcases h with (h | ⟨ob, h⟩) | h
    · exact .inl (.inl (by rw [upd_ne (ne h fun z => z)]; exact h))
    · exact .inl (.inr ⟨ob, by rw [upd_ne (ne h fun z => z)]; exact h⟩)
    · exact .inr h
  · rw [upd_ne (ne h fun z => z)]; exact h
theorem ScrAt.per {a : Addr} {xs : List V} (p : Per K H H1) (h : ScrAt K H a xs) : ScrAt K H1 a xs := by
  rcases h with ⟨o, h⟩ | h
  · exact .inl ⟨o, p.frzs _ _ _ h⟩
  · exact .inr h
end

mutual
def RepV (K : PySem.W.Frag) (sc : List Int) (ρ : List Addr) (H : Hp) : CV → V → Prop
  | .non, v => v = .non
  | .bl b, v => v = .bl b
  | .int i, v => v = .int i
  | .str s, v => v = .str ⟨s.toArray⟩ ∧ Pts s
  | .ref n, v => ∃ a, ρ[n]? = some a ∧ v = .ref a
  | .tup xs, v => ∃ a vs, v = .ref a ∧ SqT K H a vs ∧ RepVs K sc ρ H xs vs
  | .scr, v => ∃ a, v = .ref a ∧ ScrAt K H a (sc.map V.int)
def RepVs (K : PySem.W.Frag) (sc : List Int) (ρ : List Addr) (H : Hp) : List CV → List V → Prop
  | [], vs => vs = []
  | x :: xs, vs => ∃ v r, vs = v :: r ∧ RepV K sc ρ H x v ∧ RepVs K sc ρ H xs r
end
section
variable {K : PySem.W.Frag} {sc : List Int} {ρ ρ' : List Addr} {H H' : Hp}
theorem pre_get {α : Type} {l m : List α} (p : l <+: m) {i : Nat} {x : α} (h : l[i]? = some x) : m[i]? = some x := by
  obtain ⟨t, rfl⟩ := p
  obtain ⟨hi, e⟩ := List.getElem?_eq_some_iff.mp h
  rw [List.getElem?_append_left hi]
  exact h
mutual
theorem RepV.per (p : ρ <+: ρ') (q : Per K H H') : ∀ (c : CV) (v : V), RepV K sc ρ H c v → RepV K sc ρ' H' c v
  | .non, _, h => h
  | .bl _, _, h => h
  | .int _, _, h => h
  | .str _, _, h => h
  | .ref n, _, h => by
    obtain ⟨a, e, e2⟩ := h
    exact ⟨a, pre_get p e, e2⟩
  | .tup xs, _, h => by
    obtain ⟨a, vs, e, e2, r⟩ := h
    exact ⟨a, vs, e, q.tups _ _ e2, RepVs.per p q xs vs r⟩
  | .scr, _, h => by
    obtain ⟨a, e, e2⟩ := h
    exact ⟨a, e, e2.per q⟩
theorem RepVs.per (p : ρ <+: ρ') (q : Per K H H') : ∀ (cs : List CV) (vs : List V), RepVs K sc ρ H cs vs → RepVs K sc ρ' H' cs vs
  | [], _, h => h
  | x :: xs, _, h => by
    obtain ⟨v, r, e, h1, h2⟩ := h
    exact ⟨v, r, e, RepV.per p q x v h1, RepVs.per p q xs r h2⟩
end
theorem RepVs.len : ∀ {cs : List CV} {vs : List V}, RepVs K sc ρ H cs vs → vs.length = cs.length
  | [], _, h => by
    have h' : _ = [] := h
    rw [h'] <;> rfl
  | x :: xs, _, h => by
    obtain ⟨v, r, e, h1, h2⟩ := h
    rw [e, List.length_cons, List.length_cons, RepVs.len h2]
theorem RepVs.get : ∀ {cs : List CV} {vs : List V} {i : Nat} {c : CV}, RepVs K sc ρ H cs vs → cs[i]? = some c → ∃ v, vs[i]? = some v ∧ RepV K sc ρ H c v
  | [], _, _, _, _, e => by simp at e
  | x :: xs, _, 0, c, h, e => by
    obtain ⟨v, r, rfl, h1, h2⟩ := h
    have e' : x = c := by simpa using e
    subst e'
    exact ⟨v, rfl, h1⟩
  | x :: xs, _, i + 1, c, h, e => by
    obtain ⟨v, r, rfl, h1, h2⟩ := h
    exact RepVs.get (i := i) h2 (by simpa using e)
theorem RepVs.append : ∀ {cs ds : List CV} {vs ws : List V}, RepVs K sc ρ H cs vs → RepVs K sc ρ H ds ws → RepVs K sc ρ H (cs ++ ds) (vs ++ ws)
  | [], _, _, _, h, h' => by
    have e : _ = [] := h
    rw [e]; exact h'
  | x :: xs, _, _, _, h, h' => by
    obtain ⟨v, r, rfl, h1, h2⟩ := h
    exact ⟨v, r ++ _, rfl, h1, RepVs.append h2 h'⟩
theorem RepVs.one {c : CV} {v : V} (h : RepV K sc ρ H c v) : RepVs K sc ρ H [c] [v] := ⟨v, [], rfl, h, rfl⟩
theorem RepVs.set {c : CV} {v : V} (h : RepV K sc ρ H c v) : ∀ {cs : List CV} {vs : List V} (i : Nat), RepVs K sc ρ H cs vs → RepVs K sc ρ H (cs.set i c) (vs.set i v)
  | [], _, _, h' => by
    have e : _ = [] := h'
    rw [e] <;> rfl
  | x :: xs, _, 0, h' => by
    obtain ⟨v', r, rfl, h1, h2⟩ := h'
    exact ⟨v, r, rfl, h, h2⟩
  | x :: xs, _, i + 1, h' => by
    obtain ⟨v', r, rfl, h1, h2⟩ := h'
    exact ⟨v', r.set i v, rfl, h1, RepVs.set h i h2⟩
theorem RepVs.drop : ∀ {cs : List CV} {vs : List V} (n : Nat), RepVs K sc ρ H cs vs → RepVs K sc ρ H (cs.drop n) (vs.drop n)
  | _, _, 0, h => h
  | [], _, n + 1, h => by
    have e : _ = [] := h
    rw [e] <;> rfl
  | x :: xs, _, n + 1, h => by
    obtain ⟨v', r, rfl, h1, h2⟩ := h
    exact RepVs.drop n h2
theorem RepVs.take : ∀ {cs : List CV} {vs : List V} (n : Nat), RepVs K sc ρ H cs vs → RepVs K sc ρ H (cs.take n) (vs.take n)
  | _, _, 0, h => rfl
  | [], _, n + 1, h => by
    have e : _ = [] := h
    rw [e] <;> rfl
  | x :: xs, _, n + 1, h => by
    obtain ⟨v', r, rfl, h1, h2⟩ := h
    exact ⟨v', r.take n, rfl, h1, RepVs.take n h2⟩
theorem RepVs.eraseIdx : ∀ {cs : List CV} {vs : List V} (n : Nat), RepVs K sc ρ H cs vs → RepVs K sc ρ H (cs.eraseIdx n) (vs.eraseIdx n)
  | [], _, n, h => by
    have e : _ = [] := h
    rw [e] <;> cases n <;> rfl
  | x :: xs, _, 0, h => by
    obtain ⟨v', r, rfl, h1, h2⟩ := h
    exact h2
  | x :: xs, _, n + 1, h => by
    obtain ⟨v', r, rfl, h1, h2⟩ := h
    exact ⟨v', r.eraseIdx n, rfl, h1, RepVs.eraseIdx n h2⟩
theorem RepVs.dropLast {cs : List CV} {vs : List V} (h : RepVs K sc ρ H cs vs) : RepVs K sc ρ H cs.dropLast vs.dropLast := by
  rw [List.dropLast_eq_take, List.dropLast_eq_take, h.len]
  exact RepVs.take _ h
theorem RepVs.ints : ∀ {l : List Int}, RepVs K sc ρ H (l.map CV.int) (l.map V.int)
  | [] => rfl
  | i :: r => ⟨_, _, rfl, rfl, RepVs.ints⟩
theorem RepVs.strs : ∀ {cs : List CV} {zs : List (List Nat)} {vs : List V}, RepVs K sc ρ H cs vs → strsOf cs = some zs → vs = (zs.map fun z => (⟨z.toArray⟩ : Str)).map V.str ∧ ∀ z ∈ zs, Pts z
  | [], zs, _, h, e => by
    have e1 : _ = [] := h
    have e2 : ([] : List (List Nat)) = zs := Option.some.inj e
    rw [e1, ← e2]
    exact ⟨rfl, fun z hz => nomatch hz⟩
  | x :: xs, zs, _, h, e => by
    obtain ⟨v', r, rfl, h1, h2⟩ := h
    cases x with
    | str y =>
      unfold strsOf at e
      cases q : strsOf xs with
      | none => rw [q] at e; cases e
      | some ys =>
        rw [q] at e
        have e2 : y :: ys = zs := Option.some.inj e
        have e3 : v' = .str ⟨y.toArray⟩ := h1.1
        obtain ⟨q1, q2⟩ := RepVs.strs h2 q
        rw [← e2, e3, q1]
        refine ⟨rfl, fun z hz => ?_⟩
        rcases List.mem_cons.mp hz with hz | hz
        · rw [hz]; exact h1.2
        · exact q2 z hz
    | _ => cases e
end

def keyC : CK → Key
  | .inl i => .inl i
  | .inr s => .inr ⟨s.toArray⟩
def RepKs (K : PySem.W.Frag) (sc : List Int) (ρ : List Addr) (H : Hp) {κ κ' : Type} (f : κ → κ') : List (κ × CV) → List (κ' × V) → Prop
  | [], vs => vs = []
  | (k, c) :: r, vs => ∃ v r', vs = (f k, v) :: r' ∧ RepV K sc ρ H c v ∧ RepKs K sc ρ H f r r'
def RepFs (K : PySem.W.Frag) (B : Bs) (sc : List Int) (ρ : List Addr) (H : Hp) : List (Nat × CV) → List (Str × V) → Prop
  | [], vs => vs = []
  | (k, c) :: r, vs => ∃ f v r', vs = (f, v) :: r' ∧ B.an[k]? = some f ∧ RepV K sc ρ H c v ∧ RepFs K B sc ρ H r r'
def RepO (K : PySem.W.Frag) (B : Bs) (sc : List Int) (ρ : List Addr) (H : Hp) : CO → HO → Prop
  | .lst xs, o => ∃ vs, o = .lst vs ∧ RepVs K sc ρ H xs vs
  | .dK kvs, o => ∃ vs, o = .dK vs ∧ RepKs K sc ρ H keyC kvs vs
  | .dT kvs, o => ∃ vs, o = .dT vs ∧ RepKs K sc ρ H (fun l => l.map keyC) kvs vs
  | .ins c fs, o => ∃ dx vs, o = .ins (B.ca c) dx vs ∧ RepFs K B sc ρ H fs vs ∧ fs.length < 900
structure Rel (K : PySem.W.Frag) (B : Bs) (ρ : List Addr) (H : Hp) (h : CH) : Prop where
  scq : h.sc = B.sc
  len : ρ.length = h.os.length
  nd : ρ.Nodup
  obj : ∀ (i : Nat) (o : CO), h.os[i]? = some o → ∃ a u, ρ[i]? = some a ∧ H a = some u ∧ RepO K B B.sc ρ H o u
section
variable {K : PySem.W.Frag} {B : Bs} {sc : List Int} {ρ ρ' : List Addr} {H H' : Hp} {h : CH}
theorem RepKs.per (p : ρ <+: ρ') (q : Per K H H') {κ κ' : Type} {f : κ → κ'} : ∀ {cs : List (κ × CV)} {vs : List (κ' × V)}, RepKs K sc ρ H f cs vs → RepKs K sc ρ' H' f cs vs
  | [], _, h => h
  | (k, c) :: r, _, h => by
    obtain ⟨v, r', e, h1, h2⟩ := h
    exact ⟨v, r', e, RepV.per p q c v h1, RepKs.per p q h2⟩
theorem RepFs.per (p : ρ <+: ρ') (q : Per K H H') : ∀ {cs : List (Nat × CV)} {vs : List (Str × V)}, RepFs K B sc ρ H cs vs → RepFs K B sc ρ' H' cs vs
  | [], _, h => h
  | (k, c) :: r, _, h => by
    obtain ⟨f, v, r', e, h0, h1, h2⟩ := h
    exact ⟨f, v, r', e, h0, RepV.per p q c v h1, RepFs.per p q h2⟩
theorem RepO.per (p : ρ <+: ρ') (q : Per K H H') {o : CO} {u : HO} (h : RepO K B sc ρ H o u) : RepO K B sc ρ' H' o u := by
  cases o with
  | lst xs => obtain ⟨vs, e, r⟩ := h; exact ⟨vs, e, RepVs.per p q _ _ r⟩
  | dK kvs => obtain ⟨vs, e, r⟩ := h; exact ⟨vs, e, r.per p q⟩
  | dT kvs => obtain ⟨vs, e, r⟩ := h; exact ⟨vs, e, r.per p q⟩
  | ins c fs => obtain ⟨dx, vs, e, r, l⟩ := h; exact ⟨dx, vs, e, r.per p q, l⟩
theorem RepO.mut {o : CO} {u : HO} (h : RepO K B sc ρ H o u) : Mut (some u) := by
  cases o with
  | lst xs => obtain ⟨vs, e, r⟩ := h; subst e; trivial
  | dK kvs => obtain ⟨vs, e, r⟩ := h; subst e; trivial
  | dT kvs => obtain ⟨vs, e, r⟩ := h; subst e; trivial
  | ins c fs => obtain ⟨dx, vs, e, r, l⟩ := h; subst e; trivial
theorem Rel.tracked (R : Rel K B ρ H h) {a : Addr} (ha : a ∈ ρ) : ∃ u, H a = some u := by
  obtain ⟨i, hi, e⟩ := List.mem_iff_getElem.mp ha
  obtain ⟨o, ho⟩ : ∃ o, h.os[i]? = some o := ⟨h.os[i]'(by rw [← R.len]; exact hi), by rw [List.getElem?_eq_getElem]⟩
  obtain ⟨b, u, e1, e2, _⟩ := R.obj i o ho
  have e3 : ρ[i]? = some a := by rw [List.getElem?_eq_getElem hi, e]
  rw [e3] at e1
  cases e1
  exact ⟨u, e2⟩
theorem Rel.new (R : Rel K B ρ H h) {p : Addr} {o : CO} {u : HO} (hp : H p = none) (r : RepO K B B.sc (ρ ++ [p]) (upd H p u) o u) : Rel K B (ρ ++ [p]) (upd H p u) (h.new o) := by
  have np : ∀ a ∈ ρ, a ≠ p := fun a ha z => by
    obtain ⟨w, e⟩ := R.tracked ha
    rw [z, hp] at e; cases e
  refine ⟨R.scq, ?_, ?_, fun i x hx => ?_⟩
  · show (ρ ++ [p]).length = (h.os ++ [o]).length
    rw [List.length_append, List.length_append, R.len] <;> rfl
  · rw [List.nodup_append]
    refine ⟨R.nd, by simp, fun a ha b hb => ?_⟩
    have eb : b = p := by simpa using hb
    rw [eb]
    exact np a ha
  · have hx' : (h.os ++ [o])[i]? = some x := hx
    by_cases hi : i < h.os.length
    · rw [List.getElem?_append_left hi] at hx'
      obtain ⟨a, w, e1, e2, e3⟩ := R.obj i x hx'
      have ea : a ∈ ρ := List.mem_of_getElem? e1
      exact ⟨a, w, pre_get (List.prefix_append _ _) e1, by rw [upd_ne (np a ea)]; exact e2, e3.per (List.prefix_append _ _) (.new hp)⟩
    · have hi2 : i = h.os.length := by
        have := (List.getElem?_eq_some_iff.mp hx').1
        rw [List.length_append, List.length_singleton] at this
        omega
      rw [hi2, List.getElem?_append_right (Nat.le_refl _), Nat.sub_self] at hx'
      have ex : o = x := by simpa using hx'
      subst ex
      refine ⟨p, u, ?_, upd_same, r⟩
      rw [hi2, ← R.len, List.getElem?_append_right (Nat.le_refl _), Nat.sub_self] <;> rfl
theorem Rel.set (R : Rel K B ρ H h) {n : Nat} {a : Addr} {o : CO} {u : HO} (ha : ρ[n]? = some a) (mu : Mut (H a)) (r : RepO K B B.sc ρ (upd H a u) o u) : Rel K B ρ (upd H a u) (h.set n o) := by
  refine ⟨R.scq, ?_, R.nd, fun i x hx => ?_⟩
  · show ρ.length = (h.os.set n o).length
    rw [List.length_set]; exact R.len
  · have hx' : (h.os.set n o)[i]? = some x := hx
    by_cases hi : n = i
    · subst hi
      have hn : n < h.os.length := by rw [← R.len]; exact (List.getElem?_eq_some_iff.mp ha).1
      rw [List.getElem?_set_self hn] at hx'
      have ex : o = x := Option.some.inj hx'
      subst ex
      exact ⟨a, u, ha, upd_same, r⟩
    · rw [List.getElem?_set_ne hi] at hx'
      obtain ⟨b, w, e1, e2, e3⟩ := R.obj i x hx'
      have nb : b ≠ a := fun z => hi (by
        subst z
        exact nodup_ix_any R.nd ha e1)
      exact ⟨b, w, e1, by rw [upd_ne nb]; exact e2, e3.per (List.prefix_refl _) (.write mu)⟩
where
  nodup_ix_any {l : List Addr} (hN : l.Nodup) {i j : Nat} {x : Addr} (a : l[i]? = some x) (b : l[j]? = some x) : i = j := by
    obtain ⟨h1, e1⟩ := List.getElem?_eq_some_iff.mp a
    obtain ⟨h2, e2⟩ := List.getElem?_eq_some_iff.mp b
    exact (List.getElem_inj hN).mp (e1.trans e2.symm)
end
end Cn
set_option Elab.async false
set_option linter.all false
set_option maxRecDepth 100000
set_option maxHeartbeats 4000000
namespace Cn
open PySem PySem.Spec PyProof.Rows L2

def RepX (K : PySem.W.Frag) (B : Bs) (ρ : List Addr) (H : Hp) (d : List (Nat × CV)) (dx : Option Addr) : Prop :=
  (d = [] ∧ dx = none) ∨ (d ≠ [] ∧ ∃ D fs, dx = some D ∧ H D = some (.xd fs) ∧ RepFs K B B.sc ρ H d fs)
abbrev RP (α β : Type) := List Addr → Hp → α → β → Prop
def Post {α β : Type} (K : PySem.W.Frag) (B : Bs) (rep : RP α β) (W : XK) (r : Res α) (ρ : List Addr) (H : Hp) (Q : β → Hp → Prop) : Prop := match r with
  | .ok c h' => ∀ ρ' H' v, ρ <+: ρ' → Per K H H' → Rel K B ρ' H' h' → rep ρ' H' c v → Q v H'
  | .ex c d h' => ∀ ρ' H' dx, ρ <+: ρ' → Per K H H' → Rel K B ρ' H' h' → RepX K B ρ' H' d dx → W (.ref (B.ca c)) dx H'
  | .bad => False
abbrev rV (K : PySem.W.Frag) (B : Bs) : RP CV V := fun ρ H c v => RepV K B.sc ρ H c v
abbrev rVs (K : PySem.W.Frag) (B : Bs) : RP (List CV) (List V) := fun ρ H c v => RepVs K B.sc ρ H c v
abbrev rEqual (α : Type) : RP α α := fun _ _ a b => a = b
section
variable {α β γ δ : Type} {K : PySem.W.Frag} {B : Bs} {rep : RP α β} {rep2 : RP γ δ} {W : XK} {r : Res α} {ρ ρ1 : List Addr} {H H1 : Hp} {Q : β → Hp → Prop} {Q2 : δ → Hp → Prop}
theorem Post.imp {Q' : β → Hp → Prop} (hq : ∀ v H1, Q v H1 → Q' v H1) (p : Post K B rep W r ρ H Q) : Post K B rep W r ρ H Q' := by
  cases r with
  | ok c h' => exact fun ρ' H' v a b c d => hq _ _ (p ρ' H' v a b c d)
  | ex c d h' => exact p
  | bad => exact p
theorem Post.later (a : ρ <+: ρ1) (b : Per K H H1) (p : Post K B rep W r ρ H Q) : Post K B rep W r ρ1 H1 Q := by
  cases r with
  | ok c h' => exact fun ρ' H' v a' b' c d => p ρ' H' v (a.trans a') (b.trans b') c d
  | ex c d h' => exact fun ρ' H' dx a' b' c d => p ρ' H' dx (a.trans a') (b.trans b') c d
  | bad => exact p
structure Mid (K : PySem.W.Frag) (B : Bs) (rep : RP α β) (ρ : List Addr) (H : Hp) (v : β) (H1 : Hp) (a : α) (h1 : CH) (ρ1 : List Addr) : Prop where
  pre : ρ <+: ρ1
  per : Per K H H1
  rel : Rel K B ρ1 H1 h1
  rp : rep ρ1 H1 a v
theorem Post.bind {f : α → CH → Res γ} (rep : RP α β) (p : Post K B rep2 W (r.bind f) ρ H Q2) :
    Post K B rep W r ρ H (fun v H1 => ∃ a h1 ρ1, Mid K B rep ρ H v H1 a h1 ρ1 ∧ Post K B rep2 W (f a h1) ρ1 H1 Q2) := by
  cases r with
  | ok c h' => exact fun ρ' H' v a b cc d => ⟨c, h', ρ', ⟨a, b, cc, d⟩, Post.later a b (show Post K B rep2 W (f c h') ρ H Q2 from p)⟩
  | ex c d h' => exact p
  | bad => exact p
theorem Post.ok {c : α} {h : CH} {v : β} (R : Rel K B ρ H h) (rp : rep ρ H c v) (p : Post K B rep W (.ok c h) ρ H Q) : Q v H := p ρ H v (List.prefix_refl _) Per.refl R rp
theorem Post.alloc {o : CO} {u : HO} {h : CH} {p : Addr} {Q : V → Hp → Prop} (R : Rel K B ρ H h) (hp : H p = none) (r : RepO K B B.sc (ρ ++ [p]) (upd H p u) o u) (q : Post K B (rV K B) W (Cn.alloc o h) ρ H Q) : Q (.ref p) (upd H p u) := by
  refine q (ρ ++ [p]) (upd H p u) (.ref p) (List.prefix_append _ _) (.new hp) (R.new hp r) ⟨p, ?_, rfl⟩
  rw [← R.len, List.getElem?_append_right (Nat.le_refl _), Nat.sub_self] <;> rfl
end

def RepS (K : PySem.W.Frag) (B : Bs) (ρ : List Addr) (H : Hp) (s : CS) (σ : L2.St) : Prop := s.length = σ.length ∧ ∀ (i : Nat) c, s[i]? = some (some c) → ∃ v, σ[i]? = some (some v) ∧ RepV K B.sc ρ H c v
theorem RepS.per {K : PySem.W.Frag} {B : Bs} {ρ ρ' : List Addr} {H H' : Hp} {s : CS} {σ : L2.St} (a : ρ <+: ρ') (b : Per K H H') (S : RepS K B ρ H s σ) : RepS K B ρ' H' s σ :=
  ⟨S.1, fun i c e => let ⟨v, e2, r⟩ := S.2 i c e; ⟨v, e2, r.per a b⟩⟩
theorem RepS.set {K : PySem.W.Frag} {B : Bs} {ρ : List Addr} {H : Hp} {s : CS} {σ : L2.St} {i : Nat} {c : CV} {v : V} (S : RepS K B ρ H s σ) (r : RepV K B.sc ρ H c v) : RepS K B ρ H (s.set i (some c)) (σ.set i (some v)) := by
  refine ⟨by rw [List.length_set, List.length_set]; exact S.1, fun j d e => ?_⟩
  by_cases hij : i = j
  · subst hij
    by_cases hi : i < s.length
    · rw [List.getElem?_set_self hi] at e
      have ed : c = d := Option.some.inj (Option.some.inj e)
      subst ed
      exact ⟨v, by rw [List.getElem?_set_self (by rw [← S.1]; exact hi)], r⟩
    · rw [List.getElem?_eq_none (by rw [List.length_set]; omega)] at e
      cases e
  · rw [List.getElem?_set_ne hij] at e
    obtain ⟨w, e2, r2⟩ := S.2 j d e
    exact ⟨w, by rw [List.getElem?_set_ne hij]; exact e2, r2⟩
def tX {α β : Type} (K : PySem.W.Frag) (B : Bs) (rep : RP α β) (W : WX) (m : ME α) : L2.St → Hp → (β → Hp → Prop) → Prop := fun σ H Q =>
  ∃ ρ h s, Rel K B ρ H h ∧ RepS K B ρ H s σ ∧ Post K B rep (fun c d H' => W c d σ H') (m s h) ρ H Q
abbrev SE (X : Cx) (B : Bs) (W : WX) (e : Expr) (m : ME CV) : Prop := PE X e (tX X.K B (rV X.K B) W m)
abbrev ST (X : Cx) (B : Bs) (W : WX) (e : Expr) (m : ME Bool) : Prop := PT X e (tX X.K B (rEqual Bool) W m)
abbrev SW (X : Cx) (B : Bs) (W : WX) (e : Expr) (m : ME Bool) : Prop := PW X e (tX X.K B (rEqual Bool) W m)
abbrev SA (X : Cx) (B : Bs) (W : WX) (es : List Expr) (m : ME (List CV)) : Prop := PA X es (tX X.K B (rVs X.K B) W m)
abbrev SO (X : Cx) (B : Bs) (W : WX) (e : Option Expr) (m : ME (Option Int)) : Prop := PO X e (tX X.K B (rEqual (Option Int)) W m)
theorem PE.imp {X : Cx} {e : Expr} {t t' : TE} (p : PE X e t) (h : ∀ σ H Q, t' σ H Q → t σ H Q) : PE X e t' := ⟨fun pins s σ H Q I hw => p.run pins s σ H Q I (h σ H Q hw)⟩
theorem PT.imp {X : Cx} {e : Expr} {t t' : TT} (p : PT X e t) (h : ∀ σ H Q, t' σ H Q → t σ H Q) : PT X e t' := ⟨fun pins s σ H Q I hw => p.run pins s σ H Q I (h σ H Q hw)⟩
theorem PW.imp {X : Cx} {e : Expr} {t t' : TT} (p : PW X e t) (h : ∀ σ H Q, t' σ H Q → t σ H Q) : PW X e t' := ⟨fun wh pins s σ H Q I hw => p.run wh pins s σ H Q I (h σ H Q hw)⟩
theorem PA.imp {X : Cx} {es : List Expr} {t t' : TA} (p : PA X es t) (h : ∀ σ H Q, t' σ H Q → t σ H Q) : PA X es t' := ⟨fun pos pins s σ H Q I hw => p.run pos pins s σ H Q I (h σ H Q hw)⟩
theorem PO.imp {X : Cx} {e : Option Expr} {t t' : TO} (p : PO X e t) (h : ∀ σ H Q, t' σ H Q → t σ H Q) : PO X e t' := ⟨fun pins s σ H Q I hw => p.run pins s σ H Q I (h σ H Q hw)⟩

section
variable {X : Cx} {B : Bs} {W : WX} {a b c e : Expr} {es : List Expr} {ma mb mc : ME CV} {pos : Pos}
theorem tX_bind {α β γ δ : Type} {K : PySem.W.Frag} {rep : RP α β} {rep2 : RP γ δ} {m : ME α} {f : CS → α → CH → Res γ} {σ : L2.St} {H : Hp} {Q : δ → Hp → Prop} {R : β → Hp → Prop}
    (h : tX K B rep2 W (fun s h => (m s h).bind (f s)) σ H Q)
    (k : ∀ ρ1 h1 s a v H1, Rel K B ρ1 H1 h1 → RepS K B ρ1 H1 s σ → rep ρ1 H1 a v → Post K B rep2 (fun c d H' => W c d σ H') (f s a h1) ρ1 H1 Q → R v H1) : tX K B rep W m σ H R := by
  obtain ⟨ρ, h0, s, R0, S, p⟩ := h
  refine ⟨ρ, h0, s, R0, S, Post.imp (fun v H1 hh => ?_) (Post.bind rep p)⟩
  obtain ⟨a, h1, ρ1, M, p1⟩ := hh
  exact k ρ1 h1 s a v H1 M.rel (S.per M.pre M.per) M.rp p1

theorem se_var (i : Nat) {x : Str} (hN : X.N[i]? = some x := by rfl) (hv : Vis X.env.scope x := by first | exact Or.inl rfl | exact Or.inr (Or.inl rfl) | exact Or.inr (Or.inr rfl)) (hd : (x == ("__debug__" : Str)) = false := by decide +kernel)
    (hcd : (x == ("__classdict__" : Str)) = false := by decide +kernel) : SE X B W (.Name x pos) (eVar i) := by
  refine PE.imp (pe_var hN hv hd hcd) fun σ H Q h => ?_
  obtain ⟨ρ, h0, s, R, S, p⟩ := h
  unfold eVar at p
  cases q : s[i]? with
  | none => rw [q] at p; exact p.elim
  | some o =>
    cases o with
    | none => rw [q] at p; exact p.elim
    | some c =>
      rw [q] at p
      obtain ⟨v, e2, r⟩ := S.2 i c q
      exact ⟨v, e2, p.ok R r⟩
theorem se_c {v : V} {c : CV} (he : PE X e (tC v)) (r : ∀ ρ H, RepV X.K B.sc ρ H c v) : SE X B W e (eC c) := by
  refine PE.imp he fun σ H Q h => ?_
  obtain ⟨ρ, h0, s, R, S, p⟩ := h
  exact Post.ok R (r ρ H) p
theorem se_int {i : Int} {j} : SE X B W (.Constant (.int i) j pos) (eC (.int i)) := se_c pe_int fun _ _ => rfl
theorem se_bl {b : Bool} {j} : SE X B W (.Constant (.bool b) j pos) (eC (.bl b)) := se_c pe_bl fun _ _ => rfl
theorem se_non {j} : SE X B W (.Constant .none j pos) (eC .non) := se_c pe_non fun _ _ => rfl
theorem se_str (l : List Nat) {x : Str} {j} (h : (decide (x = ⟨l.toArray⟩) && l.all fun c => decide (c < 1114112)) = true := by decide +kernel) : SE X B W (.Constant (.str x) j pos) (eC (.str l)) := by
  obtain ⟨h1, h2⟩ := Bool.and_eq_true_iff.mp h
  exact se_c pe_str fun _ _ => ⟨congrArg V.str (of_decide_eq_true h1), fun c hc => of_decide_eq_true (List.all_eq_true.mp h2 c hc)⟩
theorem se_glob {x : Str} {v : V} {u : Value} {c : CV} (hg : Gl X x) (hm : X.mg x = some u) (r : RelV v u) (rc : ∀ ρ H, RepV X.K B.sc ρ H c v) (hd : (x == ("__debug__" : Str)) = false := by decide +kernel) : SE X B W (.Name x pos) (eC c) :=
  se_c (pe_glob hg hm r hd) rc

def VOp2 (K : PySem.W.Frag) (B : Bs) (f : CV → CV → CH → Res CV) (r : R2) : Prop := ∀ ρ H h c1 c2 v1 v2 (W : XK) Q, Rel K B ρ H h → RepV K B.sc ρ H c1 v1 → RepV K B.sc ρ H c2 v2 → Post K B (rV K B) W (f c1 c2 h) ρ H Q → r v1 v2 H Q
theorem tX_op2 {K : PySem.W.Frag} {f : CV → CV → CH → Res CV} {r : R2} {σ : L2.St} {H : Hp} {Q : VK} (hv : VOp2 K B f r) (h : tX K B (rV K B) W (e2 f ma mb) σ H Q) : tOp r (tX K B (rV K B) W ma) (tX K B (rV K B) W mb) σ H Q := by
  refine tX_bind (rep := rV K B) (f := fun s x h1 => (mb s h1).bind fun y h2 => f x y h2) h fun ρ1 h1 s a v H1 R1 S1 r1 p1 => ?_
  refine ⟨ρ1, h1, s, R1, S1, Post.imp (fun y H2 hh => ?_) (Post.bind (rV K B) p1)⟩
  obtain ⟨a2, h2, ρ2, M, p2⟩ := hh
  exact hv ρ2 H2 h2 a a2 v y _ Q M.rel (RepV.per M.pre M.per _ _ r1) M.rp p2
theorem se_op2 {op : Operator} {f : CV → CV → CH → Res CV} {r : R2} (ho : OpR X (binaryOp op) r) (hv : VOp2 X.K B f r) (ha : SE X B W a ma) (hb : SE X B W b mb) : SE X B W (.BinOp a op b pos) (e2 f ma mb) :=
  PE.imp (pe_op ho ha hb) fun σ H Q h => tX_op2 hv h
theorem se_cmp {op : CmpOp} {f : CV → CV → CH → Res CV} {r : R2} (ho : OpR X (compareOp op) r) (hv : VOp2 X.K B f r) (ha : SE X B W a ma) (hb : SE X B W b mb) (hm : behindInMarks op b = false := by rfl) : SE X B W (.Compare a [op] [b] pos) (e2 f ma mb) :=
  PE.imp (pe_cmpR ho ha hb hm) fun σ H Q h => tX_op2 hv h
theorem tX_tV {K : PySem.W.Frag} {m : ME CV} {σ : L2.St} {H : Hp} {Q : Bool → Hp → Prop} (h : tX K B (rEqual Bool) W (tV m) σ H Q) : tX K B (rV K B) W m σ H (fun x H1 => ∃ k, x = .bl k ∧ Q k H1) := by
  refine tX_bind (rep := rV K B) (f := fun _ x h1 => match x with
    | .bl b => .ok b h1
    | _ => .bad) h fun ρ1 h1 s a v H1 R1 S1 r1 p1 => ?_
  cases a with
  | bl k => exact ⟨k, r1, p1.ok R1 rfl⟩
  | _ => exact p1.elim
theorem st_cmp {op : CmpOp} {f : CV → CV → CH → Res CV} {r : R2} (ho : OpR X (compareOp op) r) (hv : VOp2 X.K B f r) (ha : SE X B W a ma) (hb : SE X B W b mb) (hm : behindInMarks op b = false := by rfl) : ST X B W (.Compare a [op] [b] pos) (tV (e2 f ma mb)) :=
  PT.imp (pt_cmpR ho ha hb hm) fun σ H Q h => tX_op2 (Q := fun x H' => ∃ k, x = .bl k ∧ Q k H') hv (tX_tV h)
theorem st_val (ha : SE X B W a ma) (he : ∀ whole, isTrue a X.env whole = (do let v ← whole; standAt a.pos; holding [v] (truthy v)) := by intro _; rfl) : ST X B W a (tV ma) :=
  PT.imp (pt_val ha he) fun σ H Q h => tX_tV h

theorem v_addI {f : CV → CV → CH → Res CV} : True := trivial
theorem vop_int {f : CV → CV → CH → Res CV} {g : Int → Int → V} {C : Int → Int → Prop} {k : Int → Int → Bool} {gc : Int → Int → CV} {K : PySem.W.Frag}
    (hf : ∀ a b h, (∃ i j, a = .int i ∧ b = .int j ∧ k i j = true ∧ f a b h = .ok (gc i j) h) ∨ f a b h = .bad) (hC : ∀ i j, k i j = true → C i j) (hg : ∀ i j ρ H, RepV K B.sc ρ H (gc i j) (g i j)) : VOp2 K B f (rI C g) := by
  intro ρ H h c1 c2 v1 v2 W Q R r1 r2 p
  rcases hf c1 c2 h with ⟨i, j, rfl, rfl, hk, e⟩ | e
  · rw [e] at p
    exact ⟨i, j, r1, r2, hC i j hk, p.ok R (hg i j ρ H)⟩
  · rw [e] at p; exact p.elim
theorem vop_int0 {f : CV → CV → CH → Res CV} {g : Int → Int → V} {gc : Int → Int → CV} {K : PySem.W.Frag}
    (hf : ∀ a b h, (∃ i j, a = .int i ∧ b = .int j ∧ f a b h = .ok (gc i j) h) ∨ f a b h = .bad) (hg : ∀ i j ρ H, RepV K B.sc ρ H (gc i j) (g i j)) : VOp2 K B f (rI0 g) := by
  intro ρ H h c1 c2 v1 v2 W Q R r1 r2 p
  rcases hf c1 c2 h with ⟨i, j, rfl, rfl, e⟩ | e
  · rw [e] at p
    exact ⟨i, j, r1, r2, p.ok R (hg i j ρ H)⟩
  · rw [e] at p; exact p.elim
theorem v_sub {K : PySem.W.Frag} : VOp2 K B subV (rI0 fun i j => .int (i - j)) := vop_int0 (gc := fun i j => .int (i - j)) (fun a b h => by
  cases a <;> cases b <;> first | exact .inl ⟨_, _, rfl, rfl, rfl⟩ | exact .inr rfl) fun _ _ _ _ => rfl
theorem v_lt {K : PySem.W.Frag} : VOp2 K B ltV (rI0 fun i j => .bl (decide (i < j))) := vop_int0 (gc := fun i j => .bl (decide (i < j))) (fun a b h => by
  cases a <;> cases b <;> first | exact .inl ⟨_, _, rfl, rfl, rfl⟩ | exact .inr rfl) fun _ _ _ _ => rfl
theorem v_le {K : PySem.W.Frag} : VOp2 K B leV (rI0 fun i j => .bl (decide (i ≤ j))) := vop_int0 (gc := fun i j => .bl (decide (i ≤ j))) (fun a b h => by
  cases a <;> cases b <;> first | exact .inl ⟨_, _, rfl, rfl, rfl⟩ | exact .inr rfl) fun _ _ _ _ => rfl
theorem v_gt {K : PySem.W.Frag} : VOp2 K B gtV (rI0 fun i j => .bl (decide (j < i))) := vop_int0 (gc := fun i j => .bl (decide (j < i))) (fun a b h => by
  cases a <;> cases b <;> first | exact .inl ⟨_, _, rfl, rfl, rfl⟩ | exact .inr rfl) fun _ _ _ _ => rfl
theorem v_ge {K : PySem.W.Frag} : VOp2 K B geV (rI0 fun i j => .bl (decide (j ≤ i))) := vop_int0 (gc := fun i j => .bl (decide (j ≤ i))) (fun a b h => by
  cases a <;> cases b <;> first | exact .inl ⟨_, _, rfl, rfl, rfl⟩ | exact .inr rfl) fun _ _ _ _ => rfl
theorem v_mul {K : PySem.W.Frag} : VOp2 K B mulV (rI CMul fun i j => .int (i * j)) := vop_int (k := fun i j => decide ((-B64 < i ∧ i < B64) ∨ (-B64 < j ∧ j < B64))) (gc := fun i j => .int (i * j)) (fun a b h => by
  cases a <;> cases b <;> first
    | (rename_i i j
       by_cases hc : (-B64 < i ∧ i < B64) ∨ (-B64 < j ∧ j < B64)
       · exact .inl ⟨i, j, rfl, rfl, (by simp only [decide_eq_true_eq]; exact hc), (by simp only [mulV]; rw [if_pos hc])⟩
       · exact .inr (by simp only [mulV]; rw [if_neg hc]))
    | exact .inr rfl) (fun i j hk => by
      simp only [decide_eq_true_eq] at hk
      unfold B64 at hk
      show (-(2 ^ 64) < i ∧ i < 2 ^ 64) ∨ (-(2 ^ 64) < j ∧ j < 2 ^ 64)
      rw [show (2 : Int) ^ 64 = 18446744073709551616 by decide]
      exact hk) fun _ _ _ _ => rfl
theorem v_fdiv {K : PySem.W.Frag} : VOp2 K B fdivV (rI CDiv fun i j => .int (i / j)) := vop_int (k := fun i j => decide (0 < j ∧ j < 1073741824)) (gc := fun i j => .int (i / j)) (fun a b h => by
  cases a <;> cases b <;> first
    | (rename_i i j
       by_cases hc : 0 < j ∧ j < 1073741824
       · exact .inl ⟨i, j, rfl, rfl, decide_eq_true hc, if_pos hc⟩
       · exact .inr (if_neg hc))
    | exact .inr rfl) (fun i j hk => by
      simp only [decide_eq_true_eq] at hk
      exact hk) fun _ _ _ _ => rfl
theorem v_mod {K : PySem.W.Frag} : VOp2 K B modV (rI (fun _ j => 0 < j) fun i j => .int (i % j)) := vop_int (k := fun i j => decide (0 < j)) (gc := fun i j => .int (i % j)) (fun a b h => by
  cases a <;> cases b <;> first
    | (rename_i i j
       by_cases hc : 0 < j
       · exact .inl ⟨i, j, rfl, rfl, decide_eq_true hc, if_pos hc⟩
       · exact .inr (if_neg hc))
    | exact .inr rfl) (fun i j hk => of_decide_eq_true hk) fun _ _ _ _ => rfl
theorem se_sub (ha : SE X B W a ma) (hb : SE X B W b mb) : SE X B W (.BinOp a .Sub b pos) (e2 subV ma mb) := se_op2 op_sub v_sub ha hb
theorem se_mul (ha : SE X B W a ma) (hb : SE X B W b mb) : SE X B W (.BinOp a .Mult b pos) (e2 mulV ma mb) := se_op2 op_mul v_mul ha hb
theorem se_fdiv (ha : SE X B W a ma) (hb : SE X B W b mb) : SE X B W (.BinOp a .FloorDiv b pos) (e2 fdivV ma mb) := se_op2 op_fdiv v_fdiv ha hb
theorem se_mod (ha : SE X B W a ma) (hb : SE X B W b mb) : SE X B W (.BinOp a .Mod b pos) (e2 modV ma mb) := se_op2 op_mod v_mod ha hb
theorem tup_ne {K : PySem.W.Frag} {ρ : List Addr} {H : Hp} {xs : List CV} {vs : List V} (r : RepVs K B.sc ρ H xs vs) (h : xs ≠ []) : vs ≠ [] := fun e => by
  have l := r.len
  rw [e] at l
  exact h (List.length_eq_zero_iff.mp l.symm)
theorem Rel.lst {K : PySem.W.Frag} {ρ : List Addr} {H : Hp} {h : CH} {n : Nat} {xs : List CV} {v : V} (R : Rel K B ρ H h) (r : RepV K B.sc ρ H (.ref n) v) (e : h.os[n]? = some (.lst xs)) : ∃ a vs, ρ[n]? = some a ∧ v = .ref a ∧ H a = some (.lst vs) ∧ RepVs K B.sc ρ H xs vs := by
  obtain ⟨a, e1, e2⟩ := r
  obtain ⟨b, u, f1, f2, vs, f3, f4⟩ := R.obj n _ e
  rw [e1] at f1
  cases f1
  exact ⟨a, vs, e1, e2, by rw [f2, f3], f4⟩
theorem Rel.sq {K : PySem.W.Frag} {ρ : List Addr} {H : Hp} {h : CH} {c : CV} {xs : List CV} {v : V} (R : Rel K B ρ H h) (r : RepV K B.sc ρ H c v) (e : lstOf h c = some xs) : ∃ a vs, v = .ref a ∧ SqL K H a vs ∧ RepVs K B.sc ρ H xs vs := by
  cases c with
  | ref n =>
    have e' : (match h.os[n]? with
      | some (.lst xs) => some xs
      | _ => none) = some xs := e
    cases q : h.os[n]? with
    | none => rw [q] at e'; cases e'
    | some o =>
      rw [q] at e'
      cases o with
      | lst ys =>
        have ey : ys = xs := Option.some.inj e'
        subst ey
        obtain ⟨a, vs, _, e2, e3, e4⟩ := R.lst r q
        exact ⟨a, vs, e2, SqL.of e3, e4⟩
      | _ => cases e'
  | scr =>
    have e' : some (h.sc.map CV.int) = some xs := e
    have ex := Option.some.inj e'
    rw [R.scq] at ex
    obtain ⟨a, e1, e2⟩ := r
    exact ⟨a, _, e1, e2.sq, by rw [← ex]; exact RepVs.ints⟩
  | _ => cases e
theorem pts_append {a b : List Nat} (ha : Pts a) (hb : Pts b) : Pts (a ++ b) := fun c hc => (List.mem_append.mp hc).elim (ha c) (hb c)
theorem str_append (a b : List Nat) : (⟨a.toArray⟩ : Str) ++ (⟨b.toArray⟩ : Str) = ⟨(a ++ b).toArray⟩ := TL.ext_tl (by rw [TL.tl_append, TL.tl_mk, TL.tl_mk, TL.tl_mk])
theorem str_len (a : List Nat) : (⟨a.toArray⟩ : Str).length = a.length := by rw [TL.len_tl, TL.tl_mk]
theorem line_eq : LINE = sizeLine := by rw [sizeLine_eq]
abbrev rAddAny (K : PySem.W.Frag) : R2 := fun x y H Q => rI0 (fun i j => .int (i + j)) x y H Q ∨ (fun x y H Q => (fun x y H Q => ∃ i j, x = V.str i ∧ y = .str j ∧ i.length + j.length ≤ sizeLine ∧ Q (.str (i ++ j)) H) x y H Q ∨ (fun x y H Q => rCat x y H Q ∨ rCatT K x y H Q) x y H Q) x y H Q
theorem op_addAny : OpR X (binaryOp .Add) (rAddAny X.K) := op_add.or (op_add_str.or (op_cat.or op_catT))
theorem v_add {K : PySem.W.Frag} : VOp2 K B addV (rAddAny K) := by
  intro ρ H h c1 c2 v1 v2 W Q R r1 r2 p
  cases c1 with
  | int i =>
    cases c2 with
    | int j => exact .inl ⟨i, j, r1, r2, p.ok R rfl⟩
    | _ => exact p.elim
  | str s =>
    cases c2 with
    | str t =>
      have p' : Post K B (rV K B) W (if s.length + t.length ≤ LINE then .ok (.str (s ++ t)) h else .bad) ρ H Q := p
      by_cases hl : s.length + t.length ≤ LINE
      · rw [if_pos hl] at p'
        refine .inr (.inl ⟨_, _, r1.1, r2.1, by rw [str_len, str_len, ← line_eq]; exact hl, ?_⟩)
        rw [str_append]
        exact p'.ok R ⟨rfl, pts_append r1.2 r2.2⟩
      · rw [if_neg hl] at p'; exact p'.elim
    | _ => exact p.elim
  | tup xs =>
    cases c2 with
    | tup ys =>
      have p' : Post K B (rV K B) W (if xs ≠ [] ∧ ys ≠ [] ∧ xs.length + ys.length ≤ LINE then .ok (.tup (xs ++ ys)) h else .bad) ρ H Q := p
      by_cases hl : xs ≠ [] ∧ ys ≠ [] ∧ xs.length + ys.length ≤ LINE
      · rw [if_pos hl] at p'
        obtain ⟨a, vs, e1, q1, s1⟩ := r1
        obtain ⟨b, ws, e2, q2, s2⟩ := r2
        refine .inr (.inr (.inr ⟨a, b, vs, ws, e1, e2, q1, q2, tup_ne s1 hl.1, by rw [s1.len, s2.len, ← line_eq]; exact hl.2.2, ?_⟩))
        have fin : ∀ t, H t = none → Q (.ref t) (upd H t (.tup (vs ++ ws))) := fun t ht =>
          p' ρ (upd H t (.tup (vs ++ ws))) (.ref t) (List.prefix_refl _) (.new ht) ⟨R.scq, R.len, R.nd, fun i o ho => by
            obtain ⟨a', u, f1, f2, f3⟩ := R.obj i o ho
            exact ⟨a', u, f1, by rw [upd_ne (ne_of_none f2 ht)]; exact f2, f3.per (List.prefix_refl _) (.new ht)⟩⟩
            ⟨t, vs ++ ws, rfl, SqT.of upd_same, (RepVs.per (List.prefix_refl _) (.new ht) _ _ s1).append (RepVs.per (List.prefix_refl _) (.new ht) _ _ s2)⟩
        first
          | exact ⟨fun z => absurd z (tup_ne s2 hl.2.1), fun _ => fin⟩
          | (rw [if_neg (tup_ne s2 hl.2.1)]; exact fin)
          | exact fin
      · rw [if_neg hl] at p'; exact p'.elim
    | _ => exact p.elim
  | ref m =>
    cases c2 with
    | ref n =>
      have p' : Post K B (rV K B) W (match h.os[m]?, h.os[n]? with
        | some (.lst a), some (.lst b) => if a.length + b.length ≤ LINE then alloc (.lst (a ++ b)) h else .bad
        | _, _ => .bad) ρ H Q := p
      cases q1 : h.os[m]? with
      | none => rw [q1] at p'; exact p'.elim
      | some o1 =>
        cases q2 : h.os[n]? with
        | none => rw [q1, q2] at p'; cases o1 <;> exact p'.elim
        | some o2 =>
          rw [q1, q2] at p'
          cases o1 with
          | lst xs =>
            cases o2 with
            | lst ys =>
              have p2 : Post K B (rV K B) W (if xs.length + ys.length ≤ LINE then alloc (.lst (xs ++ ys)) h else .bad) ρ H Q := p'
              by_cases hl : xs.length + ys.length ≤ LINE
              · rw [if_pos hl] at p2
                obtain ⟨a, vs, _, e1, h1, s1⟩ := R.lst r1 q1
                obtain ⟨b, ws, _, e2, h2, s2⟩ := R.lst r2 q2
                refine .inr (.inr (.inl ⟨a, b, vs, ws, e1, e2, h1, h2, by rw [s1.len, s2.len, ← line_eq]; exact hl, fun t ht => ?_⟩))
                refine Post.alloc (o := .lst (xs ++ ys)) R ht ⟨_, rfl, ?_⟩ p2
                exact (RepVs.per (List.prefix_append _ _) (.new ht) _ _ s1).append (RepVs.per (List.prefix_append _ _) (.new ht) _ _ s2)
              · rw [if_neg hl] at p2; exact p2.elim
            | _ => exact p'.elim
          | _ => exact p'.elim
    | _ => exact p.elim
  | _ => exact p.elim
theorem se_add (ha : SE X B W a ma) (hb : SE X B W b mb) : SE X B W (.BinOp a .Add b pos) (e2 addV ma mb) := se_op2 op_addAny v_add ha hb
end
end Cn
set_option Elab.async false
set_option linter.all false
set_option maxRecDepth 100000
set_option maxHeartbeats 4000000
namespace Cn
open PySem PySem.Spec PyProof.Rows L2

mutual
def toPy : CD → PyData
  | .non => .none
  | .bl b => .bool b
  | .int i => .int i
  | .str s => .str ⟨s.toArray⟩
  | .lst xs => .list (toPys xs)
  | .tup xs => .tuple (toPys xs)
def toPys : List CD → List PyData
  | [] => []
  | x :: xs => toPy x :: toPys xs
end
theorem beq_str (a b : List Nat) : ((⟨a.toArray⟩ : Str) == ⟨b.toArray⟩) = (a == b) := by
  by_cases e : a = b
  · subst e; simp
  · have h : ¬ (⟨a.toArray⟩ : Str) = ⟨b.toArray⟩ := fun q => e (by
      have := congrArg (fun z : Str => z.cps.toList) q
      simpa using this)
    rw [beq_eq_false_iff_ne.mpr h, beq_eq_false_iff_ne.mpr e]
mutual
theorem eqv_toPy : ∀ d e : CD, PyData.eqv (toPy d) (toPy e) = eqD d e
  | .non, e => by cases e <;> simp [toPy, PyData.eqv, eqD]
  | .bl b, e => by cases e <;> simp [toPy, PyData.eqv, eqD]
  | .int i, e => by cases e <;> simp [toPy, PyData.eqv, eqD]
  | .str s, e => by cases e <;> simp [toPy, PyData.eqv, eqD, beq_str]
  | .lst xs, .lst ys => by simp only [toPy, PyData.eqv, eqD]; exact eqv_toPys xs ys
  | .tup xs, .tup ys => by simp only [toPy, PyData.eqv, eqD]; exact eqv_toPys xs ys
  | .lst _, .non | .lst _, .bl _ | .lst _, .int _ | .lst _, .str _ | .lst _, .tup _ => by simp [toPy, PyData.eqv, eqD]
  | .tup _, .non | .tup _, .bl _ | .tup _, .int _ | .tup _, .str _ | .tup _, .lst _ => by simp [toPy, PyData.eqv, eqD]
theorem eqv_toPys : ∀ d e : List CD, PyData.eqvAll (toPys d) (toPys e) = eqDs d e
  | [], [] => by simp [toPys, PyData.eqvAll, eqDs]
  | [], _ :: _ => by simp [toPys, PyData.eqvAll, eqDs]
  | _ :: _, [] => by simp [toPys, PyData.eqvAll, eqDs]
  | x :: xs, y :: ys => by
    simp only [toPys, PyData.eqvAll, eqDs]
    rw [eqv_toPy x y, eqv_toPys xs ys]
end
theorem strOk_pts {s : List Nat} (h : Pts s) : PyData.strOk ⟨s.toArray⟩ = true := by
  unfold PyData.strOk
  rw [Array.all_toList.symm]
  simp only [List.all_eq_true]
  intro c hc
  exact decide_eq_true (h c hc)
theorem toPys_ints (l : List Int) : toPys (l.map CD.int) = l.map PyData.int := by
  induction l with
  | nil => rfl
  | cons i r ih => simp only [List.map_cons, toPys, toPy, ih]
theorem dpAll_ints {K : PySem.W.Frag} {H : Hp} : ∀ l : List Int, DpAll K H (l.map V.int) (l.map PyData.int)
  | [] => .nil
  | i :: r => .cons (.int i) (dpAll_ints r)
theorem canLay_ints : ∀ l : List Int, PyData.canLayAll0 (l.map PyData.int) = true
  | [] => rfl
  | i :: r => by
    simp only [List.map_cons, PyData.canLayAll0, PyData.canLay0, Bool.true_and]
    exact canLay_ints r
theorem depth_ints : ∀ l : List Int, PyData.depthAll (l.map PyData.int) = 0
  | [] => rfl
  | i :: r => by
    simp only [List.map_cons, PyData.depthAll, PyData.depth, depth_ints r] <;> rfl
section
variable {K : PySem.W.Frag} {B : Bs} {ρ : List Addr} {H : Hp} {h : CH}
structure DatOk (K : PySem.W.Frag) (H : Hp) (v : V) (d : CD) (f : Nat) : Prop where
  dp : Dp K H v (toPy d)
  lay : PyData.canLay0 (toPy d) = true
  dep : PyData.depth (toPy d) ≤ f
structure DatsOk (K : PySem.W.Frag) (H : Hp) (v : List V) (d : List CD) (f : Nat) : Prop where
  dp : DpAll K H v (toPys d)
  lay : PyData.canLayAll0 (toPys d) = true
  dep : PyData.depthAll (toPys d) ≤ f
mutual
theorem data_ok (R : Rel K B ρ H h) : ∀ (f : Nat) (c : CV) (v : V) (d : CD), dataC h f c = some d → RepV K B.sc ρ H c v → DatOk K H v d f
  | f, .non, v, d, e, r => by
    have ed : some CD.non = some d := by simpa [dataC] using e
    cases ed
    have ev : v = .non := r
    subst ev
    exact ⟨.non, rfl, Nat.zero_le _⟩
  | f, .bl b, v, d, e, r => by
    have ed : some (CD.bl b) = some d := by simpa [dataC] using e
    cases ed
    have ev : v = .bl b := r
    subst ev
    exact ⟨.bl b, rfl, Nat.zero_le _⟩
  | f, .int i, v, d, e, r => by
    have ed : some (CD.int i) = some d := by simpa [dataC] using e
    cases ed
    have ev : v = .int i := r
    subst ev
    exact ⟨.int i, rfl, Nat.zero_le _⟩
  | f, .str s, v, d, e, r => by
    have ed : some (CD.str s) = some d := by simpa [dataC] using e
    cases ed
    obtain ⟨ev, hp⟩ := r
    subst ev
    exact ⟨.str _, by simp only [toPy, PyData.canLay0]; exact strOk_pts hp, Nat.zero_le _⟩
  | 0, .tup xs, v, d, e, r => by simp [dataC] at e
  | 0, .ref n, v, d, e, r => by simp [dataC] at e
  | 0, .scr, v, d, e, r => by simp [dataC] at e
  | f + 1, .tup xs, v, d, e, r => by
    simp only [dataC] at e
    cases q : dataCs h f xs with
    | none => rw [q] at e; cases e
    | some ds =>
      rw [q] at e
      cases e
      obtain ⟨a, vs, ev, hs, hr⟩ := r
      subst ev
      obtain ⟨h1, h2, h3⟩ := datas_ok R f xs vs ds q hr
      exact ⟨.tup hs h1, by simp only [toPy, PyData.canLay0]; exact h2, by simp only [toPy, PyData.depth]; omega⟩
  | f + 1, .ref n, v, d, e, r => by
    simp only [dataC] at e
    cases q0 : h.os[n]? with
    | none => rw [q0] at e; cases e
    | some o =>
      rw [q0] at e
      cases o with
      | lst xs =>
        simp only at e
        cases q : dataCs h f xs with
        | none => rw [q] at e; cases e
        | some ds =>
          rw [q] at e
          cases e
          obtain ⟨a, vs, _, ev, hs, hr⟩ := R.lst r q0
          subst ev
          obtain ⟨h1, h2, h3⟩ := datas_ok R f xs vs ds q hr
          exact ⟨.lst (SqL.of hs) h1, by simp only [toPy, PyData.canLay0]; exact h2, by simp only [toPy, PyData.depth]; omega⟩
      | _ => cases e
  | f + 1, .scr, v, d, e, r => by
    have ed : some (CD.lst (h.sc.map CD.int)) = some d := by simpa [dataC] using e
    cases ed
    obtain ⟨a, ev, hs⟩ := r
    subst ev
    rw [R.scq]
    refine ⟨?_, ?_, ?_⟩
    · simp only [toPy, toPys_ints]
      exact .lst hs.sq (dpAll_ints _)
    · simp only [toPy, PyData.canLay0, toPys_ints]
      exact canLay_ints _
    · simp only [toPy, PyData.depth, toPys_ints, depth_ints]
      omega
theorem datas_ok (R : Rel K B ρ H h) : ∀ (f : Nat) (c : List CV) (v : List V) (d : List CD), dataCs h f c = some d → RepVs K B.sc ρ H c v → DatsOk K H v d f
  | f, [], v, d, e, r => by
    have ed : some [] = some d := by simpa [dataCs] using e
    cases ed
    have ev : v = [] := r
    subst ev
    exact ⟨.nil, rfl, Nat.zero_le _⟩
  | f, x :: xs, v, d, e, r => by
    simp only [dataCs] at e
    cases q1 : dataC h f x with
    | none => rw [q1] at e; cases e
    | some d1 =>
      cases q2 : dataCs h f xs with
      | none => rw [q1, q2] at e; cases e
      | some ds =>
        rw [q1, q2] at e
        cases e
        obtain ⟨w, r', ev, hr1, hr2⟩ := r
        subst ev
        obtain ⟨h1, h2, h3⟩ := data_ok R f x w d1 q1 hr1
        obtain ⟨k1, k2, k3⟩ := datas_ok R f xs r' ds q2 hr2
        refine ⟨.cons h1 k1, ?_, ?_⟩
        · simp only [toPys, PyData.canLayAll0, h2, k2, Bool.and_self]
        · simp only [toPys, PyData.depthAll]
          omega
end
theorem shaped_of {d : CD} {v : V} {f : Nat} (o : DatOk K H v d f) (hf : f ≤ 64) : SeqAt.shaped (toPy d) = true := by
  unfold SeqAt.shaped
  rw [o.lay, decide_eq_true (Nat.le_trans o.dep hf)] <;> rfl
theorem v_eq : VOp2 K B eqV (rEqD K) := by
  intro ρ H h c1 c2 v1 v2 W Q R r1 r2 p
  unfold eqV at p
  cases q1 : dataC h 60 c1 with
  | none => rw [q1] at p; exact p.elim
  | some d =>
    cases q2 : dataC h 60 c2 with
    | none => rw [q1, q2] at p; exact p.elim
    | some e =>
      rw [q1, q2] at p
      have o1 := data_ok R 60 c1 v1 d q1 r1
      have o2 := data_ok R 60 c2 v2 e q2 r2
      refine ⟨toPy d, toPy e, o1.dp, o2.dp, shaped_of o1 (by decide), shaped_of o2 (by decide), ?_⟩
      rw [eqv_toPy]
      exact p.ok R rfl
theorem v_ne : VOp2 K B neV (rNeD K) := by
  intro ρ H h c1 c2 v1 v2 W Q R r1 r2 p
  unfold neV at p
  cases q1 : dataC h 60 c1 with
  | none => rw [q1] at p; exact p.elim
  | some d =>
    cases q2 : dataC h 60 c2 with
    | none => rw [q1, q2] at p; exact p.elim
    | some e =>
      rw [q1, q2] at p
      have o1 := data_ok R 60 c1 v1 d q1 r1
      have o2 := data_ok R 60 c2 v2 e q2 r2
      refine ⟨toPy d, toPy e, o1.dp, o2.dp, shaped_of o1 (by decide), shaped_of o2 (by decide), ?_⟩
      rw [eqv_toPy]
      exact p.ok R rfl

theorem flat_rep {c : CV} {v : V} (f : flatC c = true) (r : RepV K B.sc ρ H c v) : flatV v = true := by
  cases c with
  | non => have e : v = .non := r; subst e; rfl
  | bl b => have e : v = .bl b := r; subst e; rfl
  | int i => have e : v = .int i := r; subst e; rfl
  | str s => have e := r.1; subst e; rfl
  | _ => cases f
theorem eqF_ok {c d : CV} {v w : V} (f1 : flatC c = true) (f2 : flatC d = true) (r : RepV K B.sc ρ H c v) (r2 : RepV K B.sc ρ H d w) : L2.eqV v w = eqF c d := by
  cases c with
  | non =>
    have e : v = .non := r
    subst e
    cases d with
    | non => have e : w = .non := r2; subst e; rfl
    | bl b => have e : w = .bl b := r2; subst e; rfl
    | int i => have e : w = .int i := r2; subst e; rfl
    | str s => have e := r2.1; subst e; rfl
    | _ => cases f2
  | bl b =>
    have e : v = .bl b := r
    subst e
    cases d with
    | non => have e : w = .non := r2; subst e; rfl
    | bl b => have e : w = .bl b := r2; subst e; rfl
    | int i => have e : w = .int i := r2; subst e; rfl
    | str s => have e := r2.1; subst e; rfl
    | _ => cases f2
  | int i =>
    have e : v = .int i := r
    subst e
    cases d with
    | non => have e : w = .non := r2; subst e; rfl
    | bl b => have e : w = .bl b := r2; subst e; rfl
    | int i => have e : w = .int i := r2; subst e; rfl
    | str s => have e := r2.1; subst e; rfl
    | _ => cases f2
  | str s =>
    have e := r.1
    subst e
    cases d with
    | non => have e : w = .non := r2; subst e; rfl
    | bl b => have e : w = .bl b := r2; subst e; rfl
    | int i => have e : w = .int i := r2; subst e; rfl
    | str t =>
      have e := r2.1
      subst e
      exact beq_str s t
    | _ => cases f2
  | _ => cases f1
theorem any_ok {d : CV} {w : V} (f2 : flatC d = true) (r2 : RepV K B.sc ρ H d w) : ∀ {cs : List CV} {vs : List V}, cs.all flatC = true → RepVs K B.sc ρ H cs vs → L2.inV w vs = (cs.any fun y => eqF y d) ∧ vs.all flatV = true
  | [], vs, _, r => by
    have e : vs = [] := r
    subst e
    exact ⟨rfl, rfl⟩
  | c :: cs, vs, f, r => by
    obtain ⟨v, r', e, h1, h2⟩ := r
    subst e
    rw [List.all_cons, Bool.and_eq_true] at f
    obtain ⟨k1, k2⟩ := any_ok f2 r2 f.2 h2
    refine ⟨?_, ?_⟩
    · unfold L2.inV
      rw [List.any_cons, List.any_cons, eqF_ok f.1 f2 h1 r2]
      unfold L2.inV at k1
      rw [k1]
    · rw [List.all_cons, flat_rep f.1 h1, k2] <;> rfl
theorem Rel.sqT (R : Rel K B ρ H h) {c : CV} {xs : List CV} {v : V} (r : RepV K B.sc ρ H c v) (e : seqOf h c = some xs) : ∃ a vs, v = .ref a ∧ (SqL K H a vs ∨ SqT K H a vs) ∧ RepVs K B.sc ρ H xs vs := by
  cases c with
  | tup ys =>
    have ey : some ys = some xs := e
    cases ey
    obtain ⟨a, vs, e1, e2, e3⟩ := r
    exact ⟨a, vs, e1, .inr e2, e3⟩
  | ref n =>
    obtain ⟨a, vs, e1, e2, e3⟩ := R.sq r (show lstOf h (.ref n) = some xs from e)
    exact ⟨a, vs, e1, .inl e2, e3⟩
  | scr =>
    obtain ⟨a, vs, e1, e2, e3⟩ := R.sq r (show lstOf h .scr = some xs from e)
    exact ⟨a, vs, e1, .inl e2, e3⟩
  | _ => cases e
def rInAny (K : PySem.W.Frag) (neg : Bool) : R2 := fun x y H Q => (∃ (c : Nat) (z : Str), x = .str ⟨#[c]⟩ ∧ y = .str z ∧ Q (.bl (if neg then !decide (c ∈ z.cps.toList) else decide (c ∈ z.cps.toList))) H) ∨ rIn K neg x y H Q
theorem op_inAny {X : Cx} : OpR X (compareOp .In) (rInAny X.K false) := OpR.or op_in_sign op_in_seq
theorem op_notInAny {X : Cx} : OpR X (compareOp .NotIn) (rInAny X.K true) := OpR.or op_notIn_sign op_notIn_seq
theorem v_inB {x y : CV} {v w : V} {k : Bool} {neg : Bool} {Q : VK} (R : Rel K B ρ H h) (r1 : RepV K B.sc ρ H x v) (r2 : RepV K B.sc ρ H y w) (e : inB x y h = some k) (q : Q (.bl (if neg then !k else k)) H) : rInAny K neg v w H Q := by
  have seq : ∀ (c d : CV), c = x → d = y → (match seqOf h d with
    | some ys => if flatC c && ys.all flatC then some (ys.any fun y => eqF y c) else none
    | none => none) = some k → rInAny K neg v w H Q := fun c d ec ed e2 => by
    subst ec ed
    cases q0 : seqOf h d with
    | none => rw [q0] at e2; cases e2
    | some ys =>
      rw [q0] at e2
      simp only at e2
      by_cases hf : (flatC c && ys.all flatC) = true
      · rw [if_pos hf] at e2
        cases e2
        obtain ⟨f1, f2⟩ := Bool.and_eq_true_iff.mp hf
        obtain ⟨a, vs, e1, hs, hr⟩ := R.sqT r2 q0
        obtain ⟨k1, k2⟩ := any_ok f1 r1 f2 hr
        exact .inr ⟨a, vs, e1, hs, flat_rep f1 r1, k2, by rw [k1]; exact q⟩
      · rw [if_neg hf] at e2; cases e2
  unfold inB at e
  split at e
  · rename_i c z
    cases e
    have e1 := r1.1
    have e2 := r2.1
    subst e1 e2
    exact .inl ⟨c, _, rfl, rfl, q⟩
  · exact seq _ _ rfl rfl e
theorem v_in : VOp2 K B Cn.inV (rInAny K false) := by
  intro ρ H h c1 c2 v1 v2 W Q R r1 r2 p
  unfold Cn.inV at p
  cases q : inB c1 c2 h with
  | none => rw [q] at p; exact p.elim
  | some k =>
    rw [q] at p
    exact v_inB (neg := false) R r1 r2 q (p.ok R rfl)
theorem v_nin : VOp2 K B ninV (rInAny K true) := by
  intro ρ H h c1 c2 v1 v2 W Q R r1 r2 p
  unfold ninV at p
  cases q : inB c1 c2 h with
  | none => rw [q] at p; exact p.elim
  | some k =>
    rw [q] at p
    exact v_inB (neg := true) R r1 r2 q (p.ok R rfl)
end

section
variable {X : Cx} {B : Bs} {W : WX} {a b c e : Expr} {es : List Expr} {ma mb mc : ME CV} {pos : Pos} {k : Nat}
theorem se_eq (hr : Room k X.A) (ha : SE X B W a ma) (hb : SE X B W b mb) : SE X B W (.Compare a [.Eq] [b] pos) (e2 Cn.eqV ma mb) := se_cmp (op_eqD hr.units) v_eq ha hb (nomark _)
theorem se_ne (hr : Room k X.A) (ha : SE X B W a ma) (hb : SE X B W b mb) : SE X B W (.Compare a [.NotEq] [b] pos) (e2 neV ma mb) := se_cmp (op_neD hr.units) v_ne ha hb (nomark _)
theorem st_eq (hr : Room k X.A) (ha : SE X B W a ma) (hb : SE X B W b mb) : ST X B W (.Compare a [.Eq] [b] pos) (tV (e2 Cn.eqV ma mb)) := st_cmp (op_eqD hr.units) v_eq ha hb (nomark _)
theorem st_ne (hr : Room k X.A) (ha : SE X B W a ma) (hb : SE X B W b mb) : ST X B W (.Compare a [.NotEq] [b] pos) (tV (e2 neV ma mb)) := st_cmp (op_neD hr.units) v_ne ha hb (nomark _)
theorem se_lt (ha : SE X B W a ma) (hb : SE X B W b mb) : SE X B W (.Compare a [.Lt] [b] pos) (e2 ltV ma mb) := se_cmp op_lt v_lt ha hb (nomark _)
theorem se_le (ha : SE X B W a ma) (hb : SE X B W b mb) : SE X B W (.Compare a [.LtE] [b] pos) (e2 leV ma mb) := se_cmp op_le v_le ha hb (nomark _)
theorem se_gt (ha : SE X B W a ma) (hb : SE X B W b mb) : SE X B W (.Compare a [.Gt] [b] pos) (e2 gtV ma mb) := se_cmp op_gt v_gt ha hb (nomark _)
theorem se_ge (ha : SE X B W a ma) (hb : SE X B W b mb) : SE X B W (.Compare a [.GtE] [b] pos) (e2 geV ma mb) := se_cmp op_ge v_ge ha hb (nomark _)
theorem st_lt (ha : SE X B W a ma) (hb : SE X B W b mb) : ST X B W (.Compare a [.Lt] [b] pos) (tV (e2 ltV ma mb)) := st_cmp op_lt v_lt ha hb (nomark _)
theorem st_le (ha : SE X B W a ma) (hb : SE X B W b mb) : ST X B W (.Compare a [.LtE] [b] pos) (tV (e2 leV ma mb)) := st_cmp op_le v_le ha hb (nomark _)
theorem st_gt (ha : SE X B W a ma) (hb : SE X B W b mb) : ST X B W (.Compare a [.Gt] [b] pos) (tV (e2 gtV ma mb)) := st_cmp op_gt v_gt ha hb (nomark _)
theorem st_ge (ha : SE X B W a ma) (hb : SE X B W b mb) : ST X B W (.Compare a [.GtE] [b] pos) (tV (e2 geV ma mb)) := st_cmp op_ge v_ge ha hb (nomark _)
theorem se_in (ha : SE X B W a ma) (hb : SE X B W b mb) (hm : behindInMarks .In b = false := by rfl) : SE X B W (.Compare a [.In] [b] pos) (e2 Cn.inV ma mb) := se_cmp op_inAny v_in ha hb hm
theorem se_nin (ha : SE X B W a ma) (hb : SE X B W b mb) (hm : behindInMarks .NotIn b = false := by rfl) : SE X B W (.Compare a [.NotIn] [b] pos) (e2 ninV ma mb) := se_cmp op_notInAny v_nin ha hb hm
theorem st_in (ha : SE X B W a ma) (hb : SE X B W b mb) (hm : behindInMarks .In b = false := by rfl) : ST X B W (.Compare a [.In] [b] pos) (tV (e2 Cn.inV ma mb)) := st_cmp op_inAny v_in ha hb hm
theorem st_nin (ha : SE X B W a ma) (hb : SE X B W b mb) (hm : behindInMarks .NotIn b = false := by rfl) : ST X B W (.Compare a [.NotIn] [b] pos) (tV (e2 ninV ma mb)) := st_cmp op_notInAny v_nin ha hb hm
theorem rep_non {K : PySem.W.Frag} {ρ : List Addr} {H : Hp} {c : CV} {v : V} (r : RepV K B.sc ρ H c v) : decide (v = .non) = isNon c := by
  cases c with
  | non => have e : v = .non := r; subst e; rfl
  | bl b => have e : v = .bl b := r; subst e; rfl
  | int i => have e : v = .int i := r; subst e; rfl
  | str s => have e := r.1; subst e; rfl
  | ref n => obtain ⟨a, _, e⟩ := r; subst e; rfl
  | tup xs => obtain ⟨a, vs, e, _⟩ := r; subst e; rfl
  | scr => obtain ⟨a, e, _⟩ := r; subst e; rfl
theorem tX_isN {K : PySem.W.Frag} {σ : L2.St} {H : Hp} {Q : VK} (h : tX K B (rV K B) W (e1 isNV ma) σ H Q) : tIsN (tX K B (rV K B) W ma) σ H Q := by
  refine tX_bind (rep := rV K B) (f := fun _ => isNV) h fun ρ1 h1 s a v H1 R1 S1 r1 p1 => ?_
  rw [rep_non r1]
  exact p1.ok R1 rfl
theorem tX_notN {K : PySem.W.Frag} {σ : L2.St} {H : Hp} {Q : VK} (h : tX K B (rV K B) W (e1 notNV ma) σ H Q) : tNotN (tX K B (rV K B) W ma) σ H Q := by
  refine tX_bind (rep := rV K B) (f := fun _ => notNV) h fun ρ1 h1 s a v H1 R1 S1 r1 p1 => ?_
  rw [rep_non r1]
  exact p1.ok R1 rfl
theorem se_isN {j p2} (ha : SE X B W a ma) : SE X B W (.Compare a [.Is] [.Constant .none j p2] pos) (e1 isNV ma) := PE.imp (pe_cmp (pc_isN ha) rfl) fun σ H Q h => tX_isN h
theorem se_notN {j p2} (ha : SE X B W a ma) : SE X B W (.Compare a [.IsNot] [.Constant .none j p2] pos) (e1 notNV ma) := PE.imp (pe_cmp (pc_notN ha) rfl) fun σ H Q h => tX_notN h
theorem st_isN {j p2} (ha : SE X B W a ma) : ST X B W (.Compare a [.Is] [.Constant .none j p2] pos) (tV (e1 isNV ma)) := PT.imp (pt_cmp (pc_isN ha) rfl) fun σ H Q h => tX_isN (tX_tV h)
theorem st_notN {j p2} (ha : SE X B W a ma) : ST X B W (.Compare a [.IsNot] [.Constant .none j p2] pos) (tV (e1 notNV ma)) := PT.imp (pt_cmp (pc_notN ha) rfl) fun σ H Q h => tX_notN (tX_tV h)
end
end Cn
set_option Elab.async false
set_option linter.all false
set_option maxRecDepth 100000
set_option maxHeartbeats 4000000
namespace Cn
open PySem PySem.Spec PyProof.Rows L2

section
variable {X : Cx} {B : Bs} {W : WX} {a b c e o : Expr} {es : List Expr} {ma mb mc mo : ME CV} {ms : ME (List CV)} {pos : Pos} {k : Nat}
theorem sa_nil : SA X B W [] aNil := by
  refine PA.imp pa_nil fun σ H Q h => ?_
  obtain ⟨ρ, h0, s, R, S, p⟩ := h
  exact Post.ok R rfl p
theorem sa_cons (ha : SE X B W e ma) (hr : SA X B W es ms) (hs : starEach (e :: es) X.env = (false, eval e X.env) :: starEach es X.env := by rfl) : SA X B W (e :: es) (aCons ma ms) := by
  refine PA.imp (pa_cons ha hr hs) fun σ H Q h => ?_
  refine tX_bind (rep := rV X.K B) (f := fun s x h1 => (ms s h1).bind fun xs h2 => .ok (x :: xs) h2) h fun ρ1 h1 s a v H1 R1 S1 r1 p1 => ?_
  refine ⟨ρ1, h1, s, R1, S1, Post.imp (fun y H2 hh => ?_) (Post.bind (rVs X.K B) p1)⟩
  obtain ⟨xs, h2, ρ2, M, p2⟩ := hh
  exact Post.ok M.rel ⟨v, y, rfl, RepV.per M.pre M.per _ _ r1, M.rp⟩ p2
theorem Rel.fresh {K : PySem.W.Frag} {ρ : List Addr} {H : Hp} {h : CH} {t : Addr} {u : HO} (R : Rel K B ρ H h) (ht : H t = none) : Rel K B ρ (upd H t u) h :=
  ⟨R.scq, R.len, R.nd, fun i o ho => by
    obtain ⟨a', u, f1, f2, f3⟩ := R.obj i o ho
    exact ⟨a', u, f1, by rw [upd_ne (ne_of_none f2 ht)]; exact f2, f3.per (List.prefix_refl _) (.new ht)⟩⟩
theorem Post.tup {K : PySem.W.Frag} {W : XK} {ρ : List Addr} {H : Hp} {h : CH} {Q : VK} {xs : List CV} {vs : List V} {t : Addr} (R : Rel K B ρ H h) (ht : H t = none) (r : RepVs K B.sc ρ H xs vs) (p : Post K B (rV K B) W (.ok (.tup xs) h) ρ H Q) : Q (.ref t) (upd H t (.tup vs)) :=
  p ρ (upd H t (.tup vs)) (.ref t) (List.prefix_refl _) (.new ht) (R.fresh ht) ⟨t, vs, rfl, SqT.of upd_same, RepVs.per (List.prefix_refl _) (.new ht) _ _ r⟩
theorem se_tup {x1} (ha : SA X B W es ms) : SE X B W (.Tuple es x1 pos) (eTup ms) := by
  refine PE.imp (pe_tup ha) fun σ H Q h => ?_
  refine tX_bind (rep := rVs X.K B) (f := fun _ xs h1 => if xs.length ≤ LINE then (.ok (CV.tup xs) h1 : Res CV) else .bad) h fun ρ1 h1 s xs vs H1 R1 S1 r1 p1 => ?_
  by_cases hl : xs.length ≤ LINE
  · rw [if_pos hl] at p1
    exact ⟨by rw [r1.len, ← line_eq]; exact hl, fun t ht => p1.tup R1 ht r1⟩
  · rw [if_neg hl] at p1; exact p1.elim
theorem se_lst (ha : SA X B W es ms) : SE X B W (.List es pos) (eLst ms) := by
  refine PE.imp (pe_lst ha) fun σ H Q h => ?_
  refine tX_bind (rep := rVs X.K B) (f := fun _ xs h1 => if xs.length ≤ LINE then alloc (.lst xs) h1 else .bad) h fun ρ1 h1 s xs vs H1 R1 S1 r1 p1 => ?_
  by_cases hl : xs.length ≤ LINE
  · rw [if_pos hl] at p1
    exact ⟨by rw [r1.len, ← line_eq]; exact hl, fun t ht => Post.alloc (o := .lst xs) R1 ht ⟨vs, rfl, RepVs.per (List.prefix_append _ _) (.new ht) _ _ r1⟩ p1⟩
  · rw [if_neg hl] at p1; exact p1.elim

theorem ix_eq (n : Nat) (i : Int) : ixC n i = ixN n i := rfl
theorem at_rep {K : PySem.W.Frag} {ρ : List Addr} {H : Hp} {xs : List CV} {vs : List V} {i : Int} {c : CV} (r : RepVs K B.sc ρ H xs vs) (e : atC xs i = some c) : ∃ v, atI vs i = some v ∧ RepV K B.sc ρ H c v := by
  unfold atC at e
  unfold atI
  rw [r.len, ← ix_eq]
  cases q : ixC xs.length i with
  | none => rw [q] at e; cases e
  | some j =>
    rw [q] at e
    exact r.get (show xs[j]? = some c from e)
theorem v_ix {K : PySem.W.Frag} : VOp2 K B ixV (rIx K) := by
  intro ρ H h c1 c2 v1 v2 W Q R r1 r2 p
  cases c2 with
  | int i =>
    have e2 : v2 = .int i := r2
    subst e2
    have lst : ∀ x : CV, x = c1 → Post K B (rV K B) W (match lstOf h x with
        | some xs => (match atC xs i with
          | some v => .ok v h
          | none => .bad)
        | none => .bad) ρ H Q → rIx K v1 (.int i) H Q := fun x ex p0 => by
      subst ex
      cases q : lstOf h x with
      | none => rw [q] at p0; exact p0.elim
      | some xs =>
        rw [q] at p0
        simp only at p0
        cases q2 : atC xs i with
        | none => rw [q2] at p0; exact p0.elim
        | some c =>
          rw [q2] at p0
          obtain ⟨a, vs, e, hs, hr⟩ := R.sq r1 q
          obtain ⟨w, h1, h2⟩ := at_rep hr q2
          exact .inl ⟨a, vs, i, w, e, rfl, hs, h1, p0.ok R h2⟩
    cases c1 with
    | tup xs =>
      have p' : Post K B (rV K B) W (match atC xs i with
        | some v => .ok v h
        | none => .bad) ρ H Q := p
      cases q2 : atC xs i with
      | none => rw [q2] at p'; exact p'.elim
      | some c =>
        rw [q2] at p'
        obtain ⟨a, vs, e, hs, hr⟩ := r1
        obtain ⟨w, h1, h2⟩ := at_rep hr q2
        exact .inr (.inl ⟨a, vs, i, w, e, rfl, hs, h1, p'.ok R h2⟩)
    | str z =>
      have p' : Post K B (rV K B) W (if z.length ≤ LINE then (match atC z i with
        | some c => .ok (.str [c]) h
        | none => .bad) else .bad) ρ H Q := p
      by_cases hl : z.length ≤ LINE
      · rw [if_pos hl] at p'
        cases q2 : atC z i with
        | none => rw [q2] at p'; exact p'.elim
        | some c =>
          rw [q2] at p'
          have hm : c ∈ z := by
            unfold atC at q2
            cases q : ixC z.length i with
            | none => rw [q] at q2; cases q2
            | some j => rw [q] at q2; exact List.mem_of_getElem? (show z[j]? = some c from q2)
          exact .inr (.inr ⟨⟨z.toArray⟩, i, c, r1.1, rfl, by rw [str_len, ← line_eq]; exact hl, by show atI z i = some c; exact q2, p'.ok R ⟨rfl, fun d hd => by
            have ed : d = c := by simpa using hd
            rw [ed]; exact r1.2 c hm⟩⟩)
      · rw [if_neg hl] at p'; exact p'.elim
    | ref n => exact lst _ rfl p
    | scr => exact lst _ rfl p
    | _ => exact p.elim
  | _ => cases c1 <;> exact p.elim
theorem se_ix (ha : SE X B W a ma) (hb : SE X B W b mb) (hs : PlainIx b := by exact fun _ _ => rfl) : SE X B W (.Subscript a b pos) (e2 ixV ma mb) := PE.imp (pe_ix ix_seq ha hb hs) fun σ H Q h => tX_op2 v_ix h
theorem so_none : SO X B W none oNone := by
  refine PO.imp po_none fun σ H Q h => ?_
  obtain ⟨ρ, h0, s, R, S, p⟩ := h
  exact Post.ok R rfl p
theorem so_some (ha : SE X B W a ma) : SO X B W (some a) (oSome ma) := by
  refine PO.imp (po_some ha) fun σ H Q h => ?_
  refine tX_bind (rep := rV X.K B) (f := fun _ x h1 => match x with
    | .int i => .ok (some i) h1
    | _ => .bad) h fun ρ1 h1 s a v H1 R1 S1 r1 p1 => ?_
  cases a with
  | int i => exact ⟨i, r1, p1.ok R1 rfl⟩
  | _ => exact p1.elim
theorem six_eq (n d : Nat) (o : Option Int) : sixC n d o = HT.sIx n d o := by
  cases o with
  | none => rfl
  | some v =>
    have e := HT.clip_eq v n d
    show (if v < 0 then max (v + (n : Int)) 0 else min v (n : Int)).toNat = _
    rw [e] <;> rfl
theorem cut_eq {α : Type} (xs : List α) (lo hi : Option Int) : cutC xs lo hi = (xs.drop (HT.sIx xs.length 0 lo)).take (HT.sIx xs.length xs.length hi - HT.sIx xs.length 0 lo) := by
  unfold cutC
  rw [six_eq, six_eq]
theorem cut_rep {K : PySem.W.Frag} {ρ : List Addr} {H : Hp} {xs : List CV} {vs : List V} (lo hi : Option Int) (r : RepVs K B.sc ρ H xs vs) : RepVs K B.sc ρ H (cutC xs lo hi) (cutV vs lo hi) := by
  unfold cutV
  rw [cut_eq, r.len]
  exact (r.drop _).take _
theorem cut_mem {z : List Nat} {lo hi : Option Int} {c : Nat} (h : c ∈ cutC z lo hi) : c ∈ z := by
  unfold cutC at h
  exact List.mem_of_mem_drop (List.mem_of_mem_take h)
def VSl (K : PySem.W.Frag) (B : Bs) (r : V → Option Int → Option Int → Hp → VK → Prop) : Prop := ∀ ρ H h c v lo hi (W : XK) Q, Rel K B ρ H h → RepV K B.sc ρ H c v → Post K B (rV K B) W (sliceV c lo hi h) ρ H Q → r v lo hi H Q
abbrev rSlAny (K : PySem.W.Frag) : V → Option Int → Option Int → Hp → VK → Prop := fun x lo hi H Q => rSlL K x lo hi H Q ∨ (fun x lo hi H Q => rSlT K x lo hi H Q ∨ rSlS x lo hi H Q) x lo hi H Q
theorem sl_any : SlR X (rSlAny X.K) := sl_list.or (sl_tup.or sl_str)
theorem v_sl {K : PySem.W.Frag} : VSl K B (rSlAny K) := by
  intro ρ H h c v lo hi W Q R r p
  have lst : ∀ x : CV, x = c → Post K B (rV K B) W (match lstOf h x with
      | some xs => alloc (.lst (cutC xs lo hi)) h
      | none => .bad) ρ H Q → rSlAny K v lo hi H Q := fun x ex p0 => by
    subst ex
    cases q : lstOf h x with
    | none => rw [q] at p0; exact p0.elim
    | some xs =>
      rw [q] at p0
      obtain ⟨a, vs, e, hs, hr⟩ := R.sq r q
      exact .inl ⟨a, vs, e, hs, fun t ht => Post.alloc (o := .lst (cutC xs lo hi)) R ht ⟨_, rfl, cut_rep lo hi (RepVs.per (List.prefix_append _ _) (.new ht) _ _ hr)⟩ p0⟩
  cases c with
  | str z =>
    have p' : Post K B (rV K B) W (if z.length ≤ LINE then .ok (.str (cutC z lo hi)) h else .bad) ρ H Q := p
    by_cases hl : z.length ≤ LINE
    · rw [if_pos hl] at p'
      refine .inr (.inr ⟨⟨z.toArray⟩, r.1, by rw [str_len, ← line_eq]; exact hl, ?_⟩)
      have e : cutS ⟨z.toArray⟩ lo hi = ⟨(cutC z lo hi).toArray⟩ := by
        unfold cutS
        rw [cut_eq, str_len]
      rw [e]
      exact p'.ok R ⟨rfl, fun c hc => r.2 c (cut_mem hc)⟩
    · rw [if_neg hl] at p'; exact p'.elim
  | tup xs =>
    have p' : Post K B (rV K B) W (if (cutC xs lo hi).length < xs.length then .ok (.tup (cutC xs lo hi)) h else .bad) ρ H Q := p
    by_cases hl : (cutC xs lo hi).length < xs.length
    · rw [if_pos hl] at p'
      obtain ⟨a, vs, e, hs, hr⟩ := r
      refine .inr (.inl ⟨a, vs, e, hs, fun z => ?_, fun t ht => p'.tup R ht (cut_rep lo hi hr)⟩)
      rw [hr.len] at z
      rw [cut_eq, z.1, z.2, List.drop_zero, Nat.sub_zero, List.take_length] at hl
      exact Nat.lt_irrefl _ hl
    · rw [if_neg hl] at p'; exact p'.elim
  | ref n => exact lst _ rfl p
  | scr => exact lst _ rfl p
  | _ => exact p.elim
theorem se_slice {lo hi : Option Expr} {ml mh : ME (Option Int)} {p2 : Pos} (ha : SE X B W a ma) (hl : SO X B W lo ml) (hh : SO X B W hi mh) : SE X B W (.Subscript a (.Slice lo hi none p2) pos) (eSlice ma ml mh) := by
  refine PE.imp (pe_slice sl_any ha hl hh) fun σ H Q h => ?_
  refine tX_bind (rep := rV X.K B) (f := fun s x h1 => (ml s h1).bind fun l h2 => (mh s h2).bind fun u h3 => sliceV x l u h3) h fun ρ1 h1 s a v H1 R1 S1 r1 p1 => ?_
  refine ⟨ρ1, h1, s, R1, S1, Post.imp (fun l H2 hh => ?_) (Post.bind (rEqual (Option Int)) p1)⟩
  obtain ⟨l', h2, ρ2, M, p2⟩ := hh
  have el : l' = l := M.rp
  subst el
  refine ⟨ρ2, h2, s, M.rel, S1.per M.pre M.per, Post.imp (fun u H3 hh => ?_) (Post.bind (rEqual (Option Int)) p2)⟩
  obtain ⟨u', h3, ρ3, M3, p3⟩ := hh
  have eu : u' = u := M3.rp
  subst eu
  exact v_sl ρ3 H3 h3 a v l' u' _ Q M3.rel (RepV.per (M.pre.trans M3.pre) (M.per.trans M3.per) _ _ r1) p3

def VCall (K : PySem.W.Frag) (B : Bs) (f : Def) (r : List V → Hp → VK → Prop) : Prop := ∀ ρ H h cs vs (W : XK) Q, Rel K B ρ H h → RepVs K B.sc ρ H cs vs → Post K B (rV K B) W (f cs h) ρ H Q → r vs H Q
theorem tX_call {K : PySem.W.Frag} {f : Def} {r : List V → Hp → VK → Prop} {σ : L2.St} {H : Hp} {Q : VK} (hv : VCall K B f r) (h : tX K B (rV K B) W (eCall f ms) σ H Q) : tCB r (tX K B (rVs K B) W ms) σ H Q :=
  tX_bind (rep := rVs K B) (f := fun _ => f) h fun ρ1 h1 s a v H1 R1 S1 r1 p1 => hv ρ1 H1 h1 a v _ Q R1 r1 p1
section
variable {x : Str} {p : Pos} {f : Def} {r : List V → Hp → VK → Prop} {id T : String}
theorem se_callB (hc : CallR X (.builtin id) r) (hv : VCall X.K B f r) (hg : Gl X x) (hm : X.mg x = none) (hb : bootBuiltins x = some (.builtin id)) (ha : SA X B W (e :: es) ms) (hn : x ≠ "__name__" := by decide +kernel) (hdb : (x == ("__debug__" : Str)) = false := by decide +kernel)
    (he : starEach (e :: es) X.env = (false, eval e X.env) :: starEach es X.env := by rfl) (hpl : (backTo pos (starEach es X.env)).any (·.1) = false := by rfl) : SE X B W (.Call (.Name x p) (e :: es) [] pos) (eCall f ms) :=
  PE.imp (pe_callB hc hg hm hb ha hn hdb he hpl) fun σ H Q h => tX_call hv h
theorem se_callT (hc : CallR X (.type T) r) (hv : VCall X.K B f r) (hg : Gl X x) (hm : X.mg x = none) (hb : bootBuiltins x = some (.type T)) (ha : SA X B W (e :: es) ms) (hn : x ≠ "__name__" := by decide +kernel) (hdb : (x == ("__debug__" : Str)) = false := by decide +kernel)
    (he : starEach (e :: es) X.env = (false, eval e X.env) :: starEach es X.env := by rfl) (hpl : (backTo pos (starEach es X.env)).any (·.1) = false := by rfl) : SE X B W (.Call (.Name x p) (e :: es) [] pos) (eCall f ms) :=
  PE.imp (pe_callTy hc hg hm hb ha hn hdb he hpl) fun σ H Q h => tX_call hv h
end
theorem one_rep {K : PySem.W.Frag} {ρ : List Addr} {H : Hp} {c : CV} {vs : List V} (r : RepVs K B.sc ρ H [c] vs) : ∃ v, vs = [v] ∧ RepV K B.sc ρ H c v := by
  obtain ⟨v, r', e, h1, h2⟩ := r
  have e2 : r' = [] := h2
  subst e2
  exact ⟨v, e, h1⟩
theorem two_rep {K : PySem.W.Frag} {ρ : List Addr} {H : Hp} {c d : CV} {vs : List V} (r : RepVs K B.sc ρ H [c, d] vs) : ∃ v w, vs = [v, w] ∧ RepV K B.sc ρ H c v ∧ RepV K B.sc ρ H d w := by
  obtain ⟨v, r', e, h1, h2⟩ := r
  obtain ⟨w, e2, h3⟩ := one_rep h2
  subst e2
  exact ⟨v, w, e, h1, h3⟩
theorem v_len {K : PySem.W.Frag} : VCall K B lenV (fun xs H Q => ∃ x n, xs = [x] ∧ LenV K x H n ∧ Q (.int n) H) := by
  intro ρ H h cs vs W Q R r p
  unfold lenV at p
  split at p
  · rename_i z
    obtain ⟨v, e, r1⟩ := one_rep r
    subst e
    by_cases hl : z.length ≤ LINE
    · rw [if_pos hl] at p
      have e1 := r1.1
      subst e1
      exact ⟨_, z.length, rfl, ⟨by rw [str_len, ← line_eq]; exact hl, by rw [str_len]⟩, p.ok R rfl⟩
    · rw [if_neg hl] at p; exact p.elim
  · rename_i xs
    obtain ⟨v, e, r1⟩ := one_rep r
    subst e
    obtain ⟨a, ws, e1, hs, hr⟩ := r1
    subst e1
    exact ⟨_, xs.length, rfl, .inr ⟨ws, hs, hr.len.symm⟩, p.ok R rfl⟩
  · rename_i x _ _
    obtain ⟨v, e, r1⟩ := one_rep r
    subst e
    cases q : lstOf h x with
    | none => rw [q] at p; exact p.elim
    | some xs =>
      rw [q] at p
      obtain ⟨a, ws, e1, hs, hr⟩ := R.sq r1 q
      subst e1
      exact ⟨_, xs.length, rfl, .inl ⟨ws, hs, hr.len.symm⟩, p.ok R rfl⟩
  · exact p.elim
theorem v_abs {K : PySem.W.Frag} : VCall K B absV (fun xs H Q => ∃ i, xs = [.int i] ∧ Q (.int (if i < 0 then -i else i)) H) := by
  intro ρ H h cs vs W Q R r p
  unfold absV at p
  split at p
  · rename_i i
    obtain ⟨v, e, r1⟩ := one_rep r
    have e1 : v = .int i := r1
    subst e1
    exact ⟨i, e, p.ok R rfl⟩
  · exact p.elim
theorem log2_le {n : Nat} (h : n < 1000000000000000000000000000000) : n.log2 < 1920 := by
  by_cases h0 : n = 0
  · subst h0; decide
  · refine Nat.lt_trans ((Nat.log2_lt h0).mpr (Nat.lt_of_lt_of_le h (by decide : 1000000000000000000000000000000 ≤ 2 ^ 200))) (by decide)
theorem numC_pts (n : Nat) : Pts (numC n) := fun c hc => by
  have q : NumText.AllDigits (TL.numL n) := TL.numL_digits n
  have := q c hc
  omega
theorem v_str {K : PySem.W.Frag} : VCall K B strV (fun xs H Q => ∃ i, xs = [.int i] ∧ i.natAbs.log2 < 1920 ∧ Q (.str (toString i)) H) := by
  intro ρ H h cs vs W Q R r p
  unfold strV at p
  split at p
  · rename_i i
    obtain ⟨v, e, r1⟩ := one_rep r
    have e1 : v = .int i := r1
    subst e1
    by_cases hl : 0 ≤ i ∧ i < 1000000000000000000000000000000
    · rw [if_pos hl] at p
      refine ⟨i, e, log2_le (by omega), ?_⟩
      obtain ⟨n, en⟩ := Int.eq_ofNat_of_zero_le hl.1
      have es : (Str.ofString (toString i) : Str) = ⟨(numC i.toNat).toArray⟩ := TL.ext_tl (by
        rw [en]
        show TL.tl (Str.ofString (toString ((n : Nat) : Int))) = _
        rw [TL.tl_num, TL.tl_mk] <;> rfl)
      rw [es]
      exact p.ok R ⟨rfl, numC_pts _⟩
    · rw [if_neg hl] at p; exact p.elim
  · exact p.elim
abbrev rIntAny : List V → Hp → VK → Prop := fun xs H Q => ((∃ i, xs = [.int i] ∧ Q (.int i) H) ∨ ∃ k, xs = [.bl k] ∧ Q (.int (if k then 1 else 0)) H) ∨ ∃ a n, xs = [V.str a] ∧ PySem.intText? a = some n ∧ a.length ≤ 640 ∧ Q (.int n) H
theorem call_intAny : CallR X (.type "int") rIntAny := CallR.or call_int1 call_int_str
theorem v_int {K : PySem.W.Frag} : VCall K B intV rIntAny := by
  intro ρ H h cs vs W Q R r p
  unfold intV at p
  split at p
  · rename_i i
    obtain ⟨v, e, r1⟩ := one_rep r
    have e1 : v = .int i := r1
    subst e1
    exact .inl (.inl ⟨i, e, p.ok R rfl⟩)
  · rename_i k
    obtain ⟨v, e, r1⟩ := one_rep r
    have e1 : v = .bl k := r1
    subst e1
    exact .inl (.inr ⟨k, e, p.ok R rfl⟩)
  · rename_i z
    obtain ⟨v, e, r1⟩ := one_rep r
    have e1 := r1.1
    subst e1
    by_cases hl : z ≠ [] ∧ z.length ≤ 640 ∧ (z.all fun c => decide (48 ≤ c ∧ c ≤ 57)) = true
    · rw [if_pos hl] at p
      refine .inr ⟨_, _, e, intText_digits (x := ⟨z.toArray⟩) (fun c hc => ?_) hl.1 (by rw [str_len]; omega), by rw [str_len]; exact hl.2.1, p.ok R rfl⟩
      exact of_decide_eq_true (List.all_eq_true.mp hl.2.2 c hc)
    · rw [if_neg hl] at p; exact p.elim
  · exact p.elim
theorem se_len {x : Str} {p : Pos} (hg : Gl X "len") (hm : X.mg "len" = none) (ha : SA X B W [e] ms) (he : starEach [e] X.env = [(false, eval e X.env)] := by rfl) : SE X B W (.Call (.Name "len" p) [e] [] pos) (eCall lenV ms) :=
  se_callB call_len v_len hg hm PySem.boot_len ha (he := he)
def kindN (k : Nat) : String := if k = 0 then "NoneType" else if k = 1 then "bool" else if k = 2 then "int" else if k = 3 then "str" else if k = 4 then "tuple" else if k = 5 then "list" else "dict"
theorem kind_ty {K : PySem.W.Frag} {ρ : List Addr} {H : Hp} {h : CH} {c : CV} {v : V} (R : Rel K B ρ H h) (r : RepV K B.sc ρ H c v) (hk : kindC c h < 7) : TyX K H v (.type (kindN (kindC c h))) := by
  cases c with
  | non => have e : v = .non := r; subst e; exact .base .non
  | bl b => have e : v = .bl b := r; subst e; exact .base (.bl b)
  | int i => have e : v = .int i := r; subst e; exact .base (.int i)
  | str s => have e := r.1; subst e; exact .base (.str _)
  | tup xs =>
    obtain ⟨a, vs, e, hs, _⟩ := r
    subst e
    rcases hs with (hs | ⟨o, hs⟩) | ⟨o, its, n, hl, hc, _⟩
    · exact .base (.tup hs)
    · exact .fTuple hs
    · exact .kTuple hl hc
  | scr =>
    obtain ⟨a, e, hs⟩ := r
    subst e
    rcases hs with ⟨o, hs⟩ | ⟨o, its, n, hl, hc, _⟩
    · exact .base (.frz hs)
    · exact .kList hl hc
  | ref n =>
    obtain ⟨a, e1, e2⟩ := r
    subst e2
    have hk' : kindO h.os[n]? < 7 := hk
    have goal : ∀ m, m = kindO h.os[n]? → TyX K H (.ref a) (.type (kindN m)) := fun m em => by
      cases q : h.os[n]? with
      | none =>
        rw [q] at hk'
        exact absurd (show (8 : Nat) < 7 from hk') (by decide)
      | some o =>
        rw [q] at hk' em
        obtain ⟨a', u, f1, f2, f3⟩ := R.obj n o q
        rw [e1] at f1
        cases f1
        cases o with
        | lst xs =>
          obtain ⟨vs, e, _⟩ := f3
          subst em e
          exact .base (.lst f2)
        | dK kvs =>
          obtain ⟨vs, e, _⟩ := f3
          subst em e
          exact .base (.dK f2)
        | dT kvs =>
          obtain ⟨vs, e, _⟩ := f3
          subst em e
          exact .base (.dT f2)
        | ins c fs => exact absurd (show (7 : Nat) < 7 from hk') (by decide)
    exact goal _ rfl
theorem kit_all : ∀ k j : Nat, k < 7 → j < 7 → j ≠ 2 → kitB (kindN k) (kindN j) = some (k == j) := by
  have h : ((List.range 7).all fun k => (List.range 7).all fun j => j == 2 || kitB (kindN k) (kindN j) == some (k == j)) = true := by decide +kernel
  intro k j hk hj hn
  have h1 := List.all_eq_true.mp h k (List.mem_range.mpr hk)
  have h2 := List.all_eq_true.mp h1 j (List.mem_range.mpr hj)
  rcases Bool.or_eq_true_iff.mp h2 with h3 | h3
  · exact absurd (eq_of_beq h3) hn
  · exact eq_of_beq h3
theorem se_isi {T : String} {p p2 : Pos} {j : Nat} (hj : j < 7) (h2 : j ≠ 2) (eT : kindN j = T) (hg : Gl X "isinstance") (hm : X.mg "isinstance" = none) (ha : SE X B W a ma) {xT : Str} (hgT : Gl X xT) (hmT : X.mg xT = none) (hvT : bootBuiltins xT = some (.type T))
    (hnT : xT ≠ "__name__" := by decide +kernel) (hdT : (xT == ("__debug__" : Str)) = false := by decide +kernel)
    (hs : starEach [a, .Name xT p2] X.env = (false, eval a X.env) :: starEach [.Name xT p2] X.env := by rfl) (hpl : (backTo pos (starEach [.Name xT p2] X.env)).any (·.1) = false := by rfl) :
    SE X B W (.Call (.Name "isinstance" p) [a, .Name xT p2] [] pos) (e1 (isiV j) ma) := by
  have hT : PE X (.Name xT p2) (tC (.ty T)) := pe_bltn hgT hmT hvT rfl hnT hdT
  refine PE.imp (pe_callB call_isi hg hm (by decide +kernel) (pa_cons ha (pa_cons hT pa_nil rfl) hs) (he := hs) (hpl := hpl)) fun σ H Q h => ?_
  refine tX_bind (rep := rV X.K B) (f := fun _ => isiV j) h fun ρ1 h1 s c v H1 R1 S1 r1 p1 => ?_
  unfold isiV at p1
  by_cases hk : kindC c h1 < 7
  · rw [if_pos hk] at p1
    refine ⟨v, .ty T, .type (kindN (kindC c h1)), .type T, (kindC c h1 == j), rfl, .ty T, kind_ty R1 r1 hk, ?_, p1.ok R1 rfl⟩
    rw [← eT]
    exact kit_ty (kit_all _ _ hk hj h2)
  · rw [if_neg hk] at p1; exact p1.elim

def VMeth (K : PySem.W.Frag) (B : Bs) (k : Nat) (f : Def) (r : V → List V → Hp → VK → Prop) : Prop := ∀ ρ H h c cs v vs (W : XK) Q, Rel K B ρ H h → RepV K B.sc ρ H c v → RepVs K B.sc ρ H cs vs → Post K B (rV K B) W (f (c :: cs) h) ρ H Q → r v vs H Q
theorem kind_no {k : Nat} {T : String} {P : Prop} (hT : (k = 3 ∧ T = "str") ∨ (k = 5 ∧ T = "list") ∨ (k = 6 ∧ T = "dict")) (j : Nat) (hj : j = k) (h : j ≠ 3 ∧ j ≠ 5 ∧ j ≠ 6) : P := by
  subst hj
  rcases hT with ⟨z, _⟩ | ⟨z, _⟩ | ⟨z, _⟩
  · exact absurd z h.1
  · exact absurd z h.2.1
  · exact absurd z h.2.2
theorem kind_is {K : PySem.W.Frag} {ρ : List Addr} {H : Hp} {h : CH} {c : CV} {v : V} {k : Nat} {T : String} (R : Rel K B ρ H h) (r : RepV K B.sc ρ H c v) (hk : kindC c h = k) (hT : (k = 3 ∧ T = "str") ∨ (k = 5 ∧ T = "list") ∨ (k = 6 ∧ T = "dict")) : tyV K T v H := by
  have is5 : ∀ {P : Prop}, (5 : Nat) = k → (T = "list" → P) → P := fun hj q => by
    subst hj
    rcases hT with ⟨z, _⟩ | ⟨_, e⟩ | ⟨z, _⟩
    · exact absurd z (by decide)
    · exact q e
    · exact absurd z (by decide)
  have is6 : ∀ {P : Prop}, (6 : Nat) = k → (T = "dict" → P) → P := fun hj q => by
    subst hj
    rcases hT with ⟨z, _⟩ | ⟨z, _⟩ | ⟨_, e⟩
    · exact absurd z (by decide)
    · exact absurd z (by decide)
    · exact q e
  cases c with
  | str s =>
    have e := r.1
    subst e
    have hk' : (3 : Nat) = k := hk
    subst hk'
    rcases hT with ⟨z, e⟩ | ⟨z, e⟩ | ⟨z, e⟩
    · exact e
    · exact absurd z (by decide)
    · exact absurd z (by decide)
  | scr =>
    obtain ⟨a, e, hs⟩ := r
    subst e
    exact is5 hk fun e => .inl ⟨e, _, hs.sq⟩
  | ref n =>
    obtain ⟨a, e1, e2⟩ := r
    subst e2
    have hk' : kindO h.os[n]? = k := hk
    cases q : h.os[n]? with
    | none =>
      rw [q] at hk'
      exact kind_no hT 8 hk' (by decide)
    | some o =>
      rw [q] at hk'
      obtain ⟨a', u, f1, f2, f3⟩ := R.obj n o q
      rw [e1] at f1
      cases f1
      cases o with
      | lst xs =>
        obtain ⟨vs, e, _⟩ := f3
        subst e
        exact is5 hk' fun e => .inl ⟨e, _, SqL.of f2⟩
      | dK kvs =>
        obtain ⟨vs, e, _⟩ := f3
        subst e
        exact is6 hk' fun e => .inr (.inr (.inl ⟨e, .inl ⟨_, f2⟩⟩))
      | dT kvs =>
        obtain ⟨vs, e, _⟩ := f3
        subst e
        exact is6 hk' fun e => .inr (.inr (.inl ⟨e, .inr ⟨_, f2⟩⟩))
      | ins c fs => exact kind_no hT 7 hk' (by decide)
  | non => exact kind_no hT 0 hk (by decide)
  | bl b => exact kind_no hT 1 hk (by decide)
  | int i => exact kind_no hT 2 hk (by decide)
  | tup xs => exact kind_no hT 4 hk (by decide)
section
variable {name : Str} {apos cpos : Pos} {T id : String} {r : V → List V → Hp → VK → Prop} {f : Def} {kd : Nat}
theorem se_bm (pa : PlainAttrs T) (slot : Slot T name id) (hty : typeOf (.builtin id) = pure (.type "method_descriptor")) (hm : MtR X id r) (hT : (kd = 3 ∧ T = "str") ∨ (kd = 5 ∧ T = "list") ∨ (kd = 6 ∧ T = "dict")) (hv : VMeth X.K B kd f r) (ho : SE X B W o mo) (ha : SA X B W (e :: es) ms)
    (hbase : attributeBase o name X.env (eval o X.env) = eval o X.env := by rfl)
    (hfew : ((backTo cpos (starEach (e :: es) X.env)).all (fun x => !x.1) && (backToKw cpos (keywordEach [] X.env)).all (fun x => x.1.isSome)
      && decide ((e :: es).length + ([] : List Keyword).length + (if ([] : List Keyword).isEmpty then 0 else 1) < 30)) = true := by rfl)
    (hline : (apos.endLine == cpos.line) = true := by rfl) (hs : starEach (e :: es) X.env = (false, eval e X.env) :: starEach es X.env := by rfl) (hplain : (backTo cpos (starEach es X.env)).any (·.1) = false := by rfl) :
    SE X B W (.Call (.Attribute o name apos) (e :: es) [] cpos) (eBM kd f mo ms) := by
  refine PE.imp (pe_bm pa slot hty hm ho ha hbase hfew hline hs hplain) fun σ H Q h => ?_
  refine tX_bind (rep := rV X.K B) (f := fun s x h1 => if kindC x h1 = kd then (ms s h1).bind fun xs h2 => f (x :: xs) h2 else .bad) h fun ρ1 h1 s c v H1 R1 S1 r1 p1 => ?_
  by_cases hk : kindC c h1 = kd
  · rw [if_pos hk] at p1
    refine ⟨kind_is R1 r1 hk hT, ρ1, h1, s, R1, S1, Post.imp (fun y H2 hh => ?_) (Post.bind (rVs X.K B) p1)⟩
    obtain ⟨xs, h2, ρ2, M, p2⟩ := hh
    exact hv ρ2 H2 h2 c xs v y _ Q M.rel (RepV.per M.pre M.per _ _ r1) M.rp p2
  · rw [if_neg hk] at p1; exact p1.elim
theorem se_bm0 (pa : PlainAttrs T) (slot : Slot T name id) (hty : typeOf (.builtin id) = pure (.type "method_descriptor")) (hm : MtR X id r) (hT : (kd = 3 ∧ T = "str") ∨ (kd = 5 ∧ T = "list") ∨ (kd = 6 ∧ T = "dict")) (hv : VMeth X.K B kd f r) (ho : SE X B W o mo)
    (hbase : attributeBase o name X.env (eval o X.env) = eval o X.env := by rfl) (hline : (apos.endLine == cpos.line) = true := by rfl) :
    SE X B W (.Call (.Attribute o name apos) [] [] cpos) (eBM kd f mo aNil) := by
  refine PE.imp (pe_bm0 pa slot hty hm ho hbase hline) fun σ H Q h => ?_
  refine tX_bind (rep := rV X.K B) (f := fun s x h1 => if kindC x h1 = kd then (aNil s h1).bind fun xs h2 => f (x :: xs) h2 else .bad) h fun ρ1 h1 s c v H1 R1 S1 r1 p1 => ?_
  by_cases hk : kindC c h1 = kd
  · rw [if_pos hk] at p1
    exact ⟨kind_is R1 r1 hk hT, hv ρ1 H1 h1 c [] v [] _ Q R1 r1 rfl p1⟩
  · rw [if_neg hk] at p1; exact p1.elim
end
theorem v_append {K : PySem.W.Frag} : VMeth K B 5 appendV rAppend := by
  intro ρ H h c cs v vs W Q R r rs p
  unfold appendV at p
  split at p
  · rename_i n x e
    injection e with e1 e2
    subst e1 e2
    obtain ⟨w, ew, rw'⟩ := one_rep rs
    subst ew
    cases q : h.os[n]? with
    | none => rw [q] at p; exact p.elim
    | some o =>
      rw [q] at p
      cases o with
      | lst xs =>
        have p' : Post K B (rV K B) W (if xs.length < LINE then .ok .non (h.set n (.lst (xs ++ [x]))) else .bad) ρ H Q := p
        by_cases hl : xs.length < LINE
        · rw [if_pos hl] at p'
          obtain ⟨a, ws, ea, ev, hH, hr⟩ := R.lst r q
          subst ev
          have mu : Mut (H a) := by rw [hH]; trivial
          refine ⟨a, ws, w, rfl, rfl, hH, by rw [hr.len, ← line_eq]; exact hl, p' ρ _ .non (List.prefix_refl _) (.write mu) (R.set ea mu ⟨_, rfl, ?_⟩) rfl⟩
          exact (RepVs.per (List.prefix_refl _) (.write mu) _ _ hr).append (RepVs.one (RepV.per (List.prefix_refl _) (.write mu) _ _ rw'))
        · rw [if_neg hl] at p'; exact p'.elim
      | _ => exact p.elim
  · exact p.elim
theorem v_popAt {K : PySem.W.Frag} : VMeth K B 5 popAtV rPopAt := by
  intro ρ H h c cs v vs W Q R r rs p
  unfold popAtV at p
  split at p
  · rename_i n i e
    injection e with e1 e2
    subst e1 e2
    obtain ⟨w, ew, rw'⟩ := one_rep rs
    have ew2 : w = .int i := rw'
    subst ew ew2
    cases q : h.os[n]? with
    | none => rw [q] at p; exact p.elim
    | some o =>
      rw [q] at p
      cases o with
      | lst xs =>
        have p' : Post K B (rV K B) W (if 0 ≤ i ∧ i < xs.length ∧ i < B62 then (match xs[i.toNat]? with
          | some v => .ok v (h.set n (.lst (xs.eraseIdx i.toNat)))
          | none => .bad) else .bad) ρ H Q := p
        by_cases hl : 0 ≤ i ∧ i < xs.length ∧ i < B62
        · rw [if_pos hl] at p'
          cases q2 : xs[i.toNat]? with
          | none => rw [q2] at p'; exact p'.elim
          | some y =>
            rw [q2] at p'
            obtain ⟨a, ws, ea, ev, hH, hr⟩ := R.lst r q
            subst ev
            have mu : Mut (H a) := by rw [hH]; trivial
            obtain ⟨z, hz, rz⟩ := hr.get q2
            have hb : i < 2 ^ 63 := by
              have := hl.2.2
              unfold B62 at this
              omega
            refine ⟨a, ws, i, i.toNat, z, rfl, rfl, hH, by omega, hb, ?_, hz, p' ρ _ z (List.prefix_refl _) (.write mu) (R.set ea mu ⟨_, rfl, ?_⟩) (RepV.per (List.prefix_refl _) (.write mu) _ _ rz)⟩
            · have hi : ixN ws.length i = some i.toNat := by
                unfold ixN
                rw [hr.len, if_pos hl.1, if_pos hl.2.1]
              exact (ixN_seq hi).1
            · exact (RepVs.per (List.prefix_refl _) (.write mu) _ _ hr).eraseIdx _
        · rw [if_neg hl] at p'; exact p'.elim
      | _ => exact p.elim
  · exact p.elim
theorem v_pop {K : PySem.W.Frag} : VMeth K B 5 popV rPop := by
  intro ρ H h c cs v vs W Q R r rs p
  unfold popV at p
  split at p
  · rename_i n e
    injection e with e1 e2
    subst e1 e2
    have ew : vs = [] := rs
    subst ew
    cases q : h.os[n]? with
    | none => rw [q] at p; exact p.elim
    | some o =>
      rw [q] at p
      cases o with
      | lst xs =>
        have p' : Post K B (rV K B) W (match xs[xs.length - 1]? with
          | some v => .ok v (h.set n (.lst xs.dropLast))
          | none => .bad) ρ H Q := p
        cases q2 : xs[xs.length - 1]? with
        | none => rw [q2] at p'; exact p'.elim
        | some y =>
          rw [q2] at p'
          obtain ⟨a, ws, ea, ev, hH, hr⟩ := R.lst r q
          subst ev
          have mu : Mut (H a) := by rw [hH]; trivial
          obtain ⟨z, hz, rz⟩ := hr.get q2
          exact ⟨a, ws, z, rfl, rfl, hH, by rw [hr.len]; exact hz, p' ρ _ z (List.prefix_refl _) (.write mu) (R.set ea mu ⟨_, rfl, (RepVs.per (List.prefix_refl _) (.write mu) _ _ hr).dropLast⟩) (RepV.per (List.prefix_refl _) (.write mu) _ _ rz)⟩
      | _ => exact p.elim
  · exact p.elim
theorem pre1 (c x : Nat) (r : List Nat) : TL.pre [c] (x :: r) = decide (x = c) := by
  unfold TL.pre
  by_cases e : x = c
  · subst e; simp
  · simp [e]
theorem par1 (c : Nat) : ∀ (l acc : List Nat), TL.par [c] acc l = match partC c l with
    | some (a, b) => some (acc ++ a, b)
    | none => none
  | [], acc => rfl
  | x :: r, acc => by
    unfold TL.par partC
    rw [pre1]
    by_cases e : x = c
    · rw [if_pos (decide_eq_true e), if_pos e]
      simp
    · rw [if_neg (by simp [e]), if_neg e, par1 c r (acc ++ [x])]
      cases partC c r with
      | none => rfl
      | some q =>
        obtain ⟨a, b⟩ := q
        simp
theorem partC_mem {c : Nat} : ∀ {l a b : List Nat}, partC c l = some (a, b) → l = a ++ c :: b
  | [], a, b, h => by cases h
  | x :: r, a, b, h => by
    unfold partC at h
    by_cases e : x = c
    · rw [if_pos e] at h
      cases h
      rw [e] <;> rfl
    · rw [if_neg e] at h
      cases q : partC c r with
      | none => rw [q] at h; cases h
      | some q' =>
        obtain ⟨a', b'⟩ := q'
        rw [q] at h
        cases h
        rw [partC_mem q] <;> rfl
theorem v_partition {K : PySem.W.Frag} : VMeth K B 3 partitionV (fun x xs H Q => ∃ a b, x = .str a ∧ xs = [.str b] ∧ (b.length == 0) = false ∧ a.length ≤ sizeLine ∧
    ∀ p, H p = none → Q (.ref p) (upd H p (.tup [.str (Txt.partition a b).1, .str (Txt.partition a b).2.1, .str (Txt.partition a b).2.2]))) := by
  intro ρ H h c cs v vs W Q R r rs p
  unfold partitionV at p
  split at p
  · rename_i a c' e
    injection e with e1 e2
    subst e1 e2
    obtain ⟨w, ew, rw'⟩ := one_rep rs
    have ev := r.1
    have ew2 := rw'.1
    subst ev ew ew2
    by_cases hl : a.length ≤ LINE ∧ c' < 256
    · rw [if_pos hl] at p
      refine ⟨_, _, rfl, rfl, rfl, by rw [str_len, ← line_eq]; exact hl.1, fun t ht => ?_⟩
      have e : Txt.partition ⟨a.toArray⟩ ⟨[c'].toArray⟩ = (match partC c' a with | some (x, y) => ((⟨x.toArray⟩, ⟨[c'].toArray⟩, ⟨y.toArray⟩) : Str × Str × Str) | none => (⟨a.toArray⟩, Str.empty, Str.empty)) := by
        rw [TL.partition_par _ _ (by simp)]
        show (match TL.par [c'] [] a with | some (a, b) => ((⟨a.toArray⟩, ⟨[c'].toArray⟩, ⟨b.toArray⟩) : Str × Str × Str) | none => (⟨a.toArray⟩, Str.empty, Str.empty)) = _
        rw [par1 c' a []]
        cases partC c' a with
        | none => rfl
        | some q => rfl
      rw [e]
      cases q : partC c' a with
      | none =>
        rw [q] at p
        refine Post.tup (xs := [.str a, .str [], .str []]) R ht ?_ p
        exact ⟨_, _, rfl, ⟨rfl, r.2⟩, _, _, rfl, ⟨rfl, fun _ z => nomatch z⟩, _, _, rfl, ⟨rfl, fun _ z => nomatch z⟩, rfl⟩
      | some q' =>
        obtain ⟨x, y⟩ := q'
        rw [q] at p
        have em := partC_mem q
        refine Post.tup (xs := [.str x, .str [c'], .str y]) R ht ?_ p
        exact ⟨_, _, rfl, ⟨rfl, fun d hd => r.2 d (by rw [em]; exact List.mem_append_left _ hd)⟩, _, _, rfl, ⟨rfl, rw'.2⟩, _, _, rfl, ⟨rfl, fun d hd => r.2 d (by rw [em]; exact List.mem_append_right _ (List.mem_cons_of_mem _ hd))⟩, rfl⟩
    · rw [if_neg hl] at p; exact p.elim
  · exact p.elim
theorem join_pts {sep : List Nat} (hs : Pts sep) : ∀ {zs : List (List Nat)}, (∀ z ∈ zs, Pts z) → Pts (joinC sep zs)
  | [], _ => fun _ h => nomatch h
  | [x], h => h x (List.mem_cons_self ..)
  | x :: y :: r, h => pts_append (pts_append (h x (List.mem_cons_self ..)) hs) (join_pts hs (zs := y :: r) fun z hz => h z (List.mem_cons_of_mem _ hz))
theorem join_str (sep : List Nat) : ∀ zs : List (List Nat), Str.join ⟨sep.toArray⟩ (zs.map fun z => (⟨z.toArray⟩ : Str)) = ⟨(joinC sep zs).toArray⟩
  | [] => rfl
  | [x] => rfl
  | x :: y :: r => by
    have ih := join_str sep (y :: r)
    show (⟨x.toArray⟩ : Str) ++ ⟨sep.toArray⟩ ++ Str.join ⟨sep.toArray⟩ ((y :: r).map fun z => (⟨z.toArray⟩ : Str)) = _
    rw [ih, str_append, str_append] <;> rfl
theorem v_join {K : PySem.W.Frag} : VMeth K B 3 joinV (fun x xs H Q => ∃ a p, ∃ ys : List Str, x = .str a ∧ xs = [.ref p] ∧ (SqL K H p (ys.map V.str) ∨ SqT K H p (ys.map V.str)) ∧
    (ys.map (·.length)).sum + ys.length * a.length ≤ 16777216 ∧ Q (.str (Txt.join a ys)) H) := by
  intro ρ H h c cs v vs W Q R r rs p
  unfold joinV at p
  split at p
  · rename_i a y e
    injection e with e1 e2
    subst e1 e2
    obtain ⟨w, ew, rw'⟩ := one_rep rs
    have ev := r.1
    subst ev ew
    cases q : seqOf h y with
    | none => rw [q] at p; exact p.elim
    | some xs =>
      rw [q] at p
      simp only at p
      cases q2 : strsOf xs with
      | none => rw [q2] at p; exact p.elim
      | some zs =>
        rw [q2] at p
        simp only at p
        obtain ⟨ad, us, eu, hs, hr⟩ := R.sqT rw' q
        obtain ⟨k1, k2⟩ := hr.strs q2
        subst eu k1
        by_cases hl : (zs.map (·.length)).sum + zs.length * a.length ≤ LINE
        · rw [if_pos hl] at p
          have el : (fun z : List Nat => (⟨z.toArray⟩ : Str).length) = fun z => z.length := funext fun z => str_len z
          refine ⟨_, ad, zs.map fun z => (⟨z.toArray⟩ : Str), rfl, rfl, hs, ?_, ?_⟩
          · rw [List.map_map, List.length_map, str_len]
            show (zs.map fun z => (⟨z.toArray⟩ : Str).length).sum + zs.length * a.length ≤ 16777216
            rw [el]
            exact hl
          · rw [TL.join_eq, join_str]
            exact p.ok R ⟨rfl, join_pts r.2 k2⟩
        · rw [if_neg hl] at p; exact p.elim
  · exact p.elim
end
end Cn
set_option Elab.async false
set_option linter.all false
set_option maxRecDepth 100000
set_option maxHeartbeats 4000000
namespace Cn
open PySem PySem.Spec PyProof.Rows L2
section
variable {X : Cx} {B : Bs} {W : WX} {a b c e o : Expr} {es rest : List Expr} {ma mb mc mo : ME CV} {ta tb : ME Bool} {ms : ME (List CV)} {pos : Pos} {k : Nat}
theorem tX_mono {α β : Type} {K : PySem.W.Frag} {rep : RP α β} {m : ME α} {σ : L2.St} {H : Hp} {Q Q' : β → Hp → Prop} (h : tX K B rep W m σ H Q) (hq : ∀ v H1, Q v H1 → Q' v H1) : tX K B rep W m σ H Q' := by
  obtain ⟨ρ, h0, s, R, S, p⟩ := h
  exact ⟨ρ, h0, s, R, S, p.imp hq⟩
theorem tX_bool {γ δ : Type} {K : PySem.W.Frag} {rep2 : RP γ δ} {m : ME Bool} {f : CS → Bool → CH → Res γ} {σ : L2.St} {H : Hp} {Q : δ → Hp → Prop} {R : Bool → Hp → Prop}
    (h : tX K B rep2 W (fun s h => (m s h).bind (f s)) σ H Q)
    (k : ∀ b H1, tX K B rep2 W (fun s h => f s b h) σ H1 Q → R b H1) : tX K B (rEqual Bool) W m σ H R :=
  tX_bind (rep := rEqual Bool) h fun ρ1 h1 s a v H1 R1 S1 r1 p1 => k v H1 (by
    have e : a = v := r1
    subst e
    exact ⟨ρ1, h1, s, R1, S1, p1⟩)
theorem tX_ok {α β : Type} {K : PySem.W.Frag} {rep : RP α β} {c : α} {v : β} {σ : L2.St} {H : Hp} {Q : β → Hp → Prop} (h : tX K B rep W (fun _ h => .ok c h) σ H Q) (r : ∀ ρ, rep ρ H c v) : Q v H := by
  obtain ⟨ρ, h0, s, R, S, p⟩ := h
  exact Post.ok R (r ρ) p
theorem sw_and1 (ha : ST X B W a ta) : SW X B W (.BoolOp .And [a] pos) ta := pw_and1 ha
theorem sw_or1 (ha : ST X B W a ta) : SW X B W (.BoolOp .Or [a] pos) ta := pw_or1 ha
theorem sw_and (ha : ST X B W a ta) (hb : SW X B W (.BoolOp .And (b :: rest) pos) tb) : SW X B W (.BoolOp .And (a :: b :: rest) pos) (Cn.tAnd ta tb) := by
  refine PW.imp (pw_and ha hb) fun σ H Q h => ?_
  refine tX_bool (f := fun s k h1 => if k then tb s h1 else .ok false h1) h fun k H1 h1 => ?_
  cases k with
  | true => exact h1
  | false => exact tX_ok (v := false) h1 fun _ => rfl
theorem sw_or (ha : ST X B W a ta) (hb : SW X B W (.BoolOp .Or (b :: rest) pos) tb) : SW X B W (.BoolOp .Or (a :: b :: rest) pos) (Cn.tOr ta tb) := by
  refine PW.imp (pw_or ha hb) fun σ H Q h => ?_
  refine tX_bool (f := fun s k h1 => if k then .ok true h1 else tb s h1) h fun k H1 h1 => ?_
  cases k with
  | true => exact tX_ok (v := true) h1 fun _ => rfl
  | false => exact h1
theorem st_w (h : SW X B W a ta) : ST X B W a ta := h.pt
theorem st_not (ha : ST X B W a ta) : ST X B W (.UnaryOp .Not a pos) (Cn.tNot ta) := by
  refine PT.imp (pt_not ha) fun σ H Q h => ?_
  exact tX_bool (f := fun s k h1 => .ok (!k) h1) h fun k H1 h1 => tX_ok (v := !k) h1 fun _ => rfl
theorem se_if (hc : ST X B W c ta) (ha : SE X B W a ma) (hb : SE X B W b mb) : SE X B W (.IfExp c a b pos) (eIf ta ma mb) := by
  refine PE.imp (pe_ifExp hc ha hb) fun σ H Q h => ?_
  refine tX_bool (f := fun s k h1 => if k then ma s h1 else mb s h1) h fun k H1 h1 => ?_
  cases k with
  | true => exact h1
  | false => exact h1
theorem se_one {op} (ha : SE X B W a ma) : SE X B W (.BoolOp op [a] pos) ma := pe_one ha
theorem tX_val {γ δ : Type} {K : PySem.W.Frag} {rep2 : RP γ δ} {m : ME CV} {f : CS → CV → CH → Res γ} {σ : L2.St} {H : Hp} {Q : δ → Hp → Prop} {R : V → Hp → Prop}
    (h : tX K B rep2 W (fun s h => (m s h).bind (f s)) σ H Q)
    (k : ∀ c v H1, (∃ ρ h1, Rel K B ρ H1 h1 ∧ RepV K B.sc ρ H1 c v) → tX K B rep2 W (fun s h => f s c h) σ H1 Q → R v H1) : tX K B (rV K B) W m σ H R :=
  tX_bind (rep := rV K B) h fun ρ1 h1 s a v H1 R1 S1 r1 p1 => k a v H1 ⟨ρ1, h1, R1, r1⟩ ⟨ρ1, h1, s, R1, S1, p1⟩
theorem se_and (ha : SE X B W a ma) (hb : SE X B W (.BoolOp .And (b :: rest) pos) mb) : SE X B W (.BoolOp .And (a :: b :: rest) pos) (eAnd ma mb) := by
  refine PE.imp (pe_and ha hb) fun σ H Q h => ?_
  refine tX_val (f := fun s x h1 => match x with
    | .bl true => mb s h1
    | .bl false => .ok (.bl false) h1
    | _ => .bad) h fun c v H1 ⟨ρ, h1, R, r⟩ h2 => ?_
  cases c with
  | bl k =>
    refine ⟨k, r, ?_⟩
    cases k with
    | true => exact h2
    | false => exact tX_ok (v := V.bl false) h2 fun _ => rfl
  | _ =>
    obtain ⟨_, _, _, _, _, p⟩ := h2
    exact p.elim
theorem se_or (ha : SE X B W a ma) (hb : SE X B W (.BoolOp .Or (b :: rest) pos) mb) : SE X B W (.BoolOp .Or (a :: b :: rest) pos) (eOr ma mb) := by
  refine PE.imp (pe_or ha hb) fun σ H Q h => ?_
  refine tX_val (f := fun s x h1 => match x with
    | .bl true => .ok (.bl true) h1
    | .bl false => mb s h1
    | _ => .bad) h fun c v H1 ⟨ρ, h1, R, r⟩ h2 => ?_
  cases c with
  | bl k =>
    refine ⟨k, r, ?_⟩
    cases k with
    | true => exact tX_ok (v := V.bl true) h2 fun _ => rfl
    | false => exact h2
  | _ =>
    obtain ⟨_, _, _, _, _, p⟩ := h2
    exact p.elim
theorem se_not (ha : SE X B W a ma) : SE X B W (.UnaryOp .Not a pos) (eNot ma) := by
  refine PE.imp (pe_not ha) fun σ H Q h => ?_
  refine tX_val (f := fun s x h1 => match x with
    | .bl k => (.ok (CV.bl (!k)) h1 : Res CV)
    | _ => .bad) h fun c v H1 ⟨ρ, h1, R, r⟩ h2 => ?_
  cases c with
  | bl k => exact ⟨k, r, tX_ok (v := V.bl (!k)) h2 fun _ => rfl⟩
  | _ =>
    obtain ⟨_, _, _, _, _, p⟩ := h2
    exact p.elim
theorem se_neg (ha : SE X B W a ma) : SE X B W (.UnaryOp .USub a pos) (e1 negV ma) := by
  refine PE.imp (pe_un un_neg ha) fun σ H Q h => ?_
  refine tX_val (f := fun _ => negV) h fun c v H1 ⟨ρ, h1, R, r⟩ h2 => ?_
  cases c with
  | int i => exact ⟨i, r, tX_ok (c := CV.int (-i)) (v := V.int (-i)) h2 fun _ => rfl⟩
  | _ =>
    obtain ⟨_, _, _, _, _, p⟩ := h2
    exact p.elim
theorem tX_chain {K : PySem.W.Frag} {f g : CV → CV → CH → Res CV} {r r' : R2} (hf : VOp2 K B f r) (hg : VOp2 K B g r') {σ : L2.St} {H : Hp} {Q : VK} (h : tX K B (rV K B) W (eChain f g ma mb mc) σ H Q) :
    tChain r r' (tX K B (rV K B) W ma) (tX K B (rV K B) W mb) (tX K B (rV K B) W mc) σ H Q := by
  refine tX_bind (rep := rV K B) (f := fun s x h1 => (mb s h1).bind fun y h2 => (f x y h2).bind fun z h3 => match z with
    | .bl true => (mc s h3).bind fun w h4 => g y w h4
    | .bl false => .ok (.bl false) h3
    | _ => .bad) h fun ρ1 h1 s a v H1 R1 S1 r1 p1 => ?_
  refine ⟨ρ1, h1, s, R1, S1, Post.imp (fun y H2 hh => ?_) (Post.bind (rV K B) p1)⟩
  obtain ⟨a2, h2, ρ2, M, p2⟩ := hh
  refine hf ρ2 H2 h2 a a2 v y _ _ M.rel (RepV.per M.pre M.per _ _ r1) M.rp (Post.imp (fun z H3 hh => ?_) (Post.bind (rV K B) p2))
  obtain ⟨a3, h3, ρ3, M3, p3⟩ := hh
  cases a3 with
  | bl k =>
    refine ⟨k, M3.rp, ?_⟩
    cases k with
    | true =>
      have goal : tX K B (rV K B) W mc σ H3 fun w H4 => r' y w H4 Q := by
        refine ⟨ρ3, h3, s, M3.rel, S1.per (M.pre.trans M3.pre) (M.per.trans M3.per), Post.imp (fun w H4 hh => ?_) (Post.bind (rV K B) p3)⟩
        obtain ⟨a4, h4, ρ4, M4, p4⟩ := hh
        exact hg ρ4 H4 h4 a2 a4 y w _ Q M4.rel (RepV.per (M3.pre.trans M4.pre) (M3.per.trans M4.per) _ _ M.rp) M4.rp p4
      exact goal
    | false => exact Post.ok (c := CV.bl false) M3.rel (show RepV K B.sc ρ3 H3 (.bl false) (.bl false) from rfl) p3
  | _ => exact p3.elim
theorem st_chain {op op' : CmpOp} {f g : CV → CV → CH → Res CV} {r r' : R2} (ho : OpR X (compareOp op) r) (ho' : OpR X (compareOp op') r') (hf : VOp2 X.K B f r) (hg : VOp2 X.K B g r') (ha : SE X B W a ma) (hb : SE X B W b mb) (hc : SE X B W c mc)
    (hm : lastMarks [op, op'] [b, c] = false := by with_unfolding_all rfl) : ST X B W (.Compare a [op, op'] [b, c] pos) (tV (eChain f g ma mb mc)) :=
  PT.imp (pt_chain ho ho' ha hb hc hm) fun σ H Q h => tX_chain (Q := fun x H' => ∃ k, x = .bl k ∧ Q k H') hf hg (tX_tV h)
theorem se_chain {op op' : CmpOp} {f g : CV → CV → CH → Res CV} {r r' : R2} (ho : OpR X (compareOp op) r) (ho' : OpR X (compareOp op') r') (hf : VOp2 X.K B f r) (hg : VOp2 X.K B g r') (ha : SE X B W a ma) (hb : SE X B W b mb) (hc : SE X B W c mc)
    (hm : lastMarks [op, op'] [b, c] = false := by with_unfolding_all rfl) : SE X B W (.Compare a [op, op'] [b, c] pos) (eChain f g ma mb mc) :=
  PE.imp (pe_chain ho ho' ha hb hc hm) fun σ H Q h => tX_chain hf hg h
end

def SOk (K : PySem.W.Frag) (B : Bs) (W : WX) (r : SR) (ρ : List Addr) (H : Hp) (D : Ends) : Prop := match r with
  | .nx s h => ∀ ρ' H' σ', ρ <+: ρ' → Per K H H' → Rel K B ρ' H' h → RepS K B ρ' H' s σ' → D.nx σ' H'
  | .rt c h => ∀ ρ' H' v, ρ <+: ρ' → Per K H H' → Rel K B ρ' H' h → RepV K B.sc ρ' H' c v → D.rt v H'
  | .bk s h => ∀ ρ' H' σ', ρ <+: ρ' → Per K H H' → Rel K B ρ' H' h → RepS K B ρ' H' s σ' → D.bk σ' H'
  | .ct s h => ∀ ρ' H' σ', ρ <+: ρ' → Per K H H' → Rel K B ρ' H' h → RepS K B ρ' H' s σ' → D.ct σ' H'
  | .ex c d s h => ∀ ρ' H' σ' dx, ρ <+: ρ' → Per K H H' → Rel K B ρ' H' h → RepS K B ρ' H' s σ' → RepX K B ρ' H' d dx → W (.ref (B.ca c)) dx σ' H'
  | .bad => False
def tS (K : PySem.W.Frag) (B : Bs) (W : WX) (m : MS) : TS := fun D σ H => ∃ ρ h s, Rel K B ρ H h ∧ RepS K B ρ H s σ ∧ SOk K B W (m s h) ρ H D
abbrev SS (X : Cx) (B : Bs) (W : WX) (st : Stmt) (m : MS) : Prop := PS X st (tS X.K B W m)
abbrev SSs (X : Cx) (B : Bs) (W : WX) (st : List Stmt) (m : MS) : Prop := PSs X st (tS X.K B W m)
theorem PS.imp {X : Cx} {st : Stmt} {t t' : TS} (p : PS X st t) (h : ∀ D σ H, t' D σ H → t D σ H) : PS X st t' := ⟨fun pins s σ H D I hw => p.run pins s σ H D I (h D σ H hw)⟩
theorem PSs.imp {X : Cx} {st : List Stmt} {t t' : TS} (p : PSs X st t) (h : ∀ D σ H, t' D σ H → t D σ H) : PSs X st t' := ⟨fun pins s σ H D I hw => p.run pins s σ H D I (h D σ H hw)⟩
section
variable {X : Cx} {B : Bs} {W : WX} {a b c e o : Expr} {es : List Expr} {st : Stmt} {sts sts' : List Stmt} {ma mb mc mo : ME CV} {ta : ME Bool} {ms : ME (List CV)} {m m' : MS} {pos : Pos} {K : PySem.W.Frag} {ρ ρ1 : List Addr} {H H1 : Hp} {D : Ends} {r : SR}
theorem SOk.later (a : ρ <+: ρ1) (b : Per K H H1) (p : SOk K B W r ρ H D) : SOk K B W r ρ1 H1 D := by
  cases r with
  | nx s h => exact fun ρ' H' σ' a' b' R S => p ρ' H' σ' (a.trans a') (b.trans b') R S
  | rt c h => exact fun ρ' H' v a' b' R S => p ρ' H' v (a.trans a') (b.trans b') R S
  | bk s h => exact fun ρ' H' σ' a' b' R S => p ρ' H' σ' (a.trans a') (b.trans b') R S
  | ct s h => exact fun ρ' H' σ' a' b' R S => p ρ' H' σ' (a.trans a') (b.trans b') R S
  | ex c d s h => exact fun ρ' H' σ' dx a' b' R S x => p ρ' H' σ' dx (a.trans a') (b.trans b') R S x
  | bad => exact p
theorem SOk.bind {α β : Type} {f : α → CH → SR} {rr : Res α} {s : CS} {σ : L2.St} (rep : RP α β) (S : RepS K B ρ H s σ) (p : SOk K B W (rBind rr s f) ρ H D) :
    Post K B rep (fun c d H' => W c d σ H') rr ρ H (fun v H1 => ∃ a h1 ρ1, Mid K B rep ρ H v H1 a h1 ρ1 ∧ SOk K B W (f a h1) ρ1 H1 D) := by
  cases rr with
  | ok c h' => exact fun ρ' H' v a b cc d => ⟨c, h', ρ', ⟨a, b, cc, d⟩, SOk.later a b (show SOk K B W (f c h') ρ H D from p)⟩
  | ex c d h' => exact fun ρ' H' dx a b R x => p ρ' H' σ dx a b R (S.per a b) x
  | bad => exact p
theorem tS_bind {α β : Type} {rep : RP α β} {m : ME α} {f : CS → α → CH → SR} {σ : L2.St} {Q : β → Hp → Prop} (h : tS K B W (fun s h => rBind (m s h) s (f s)) D σ H)
    (k : ∀ ρ1 h1 s a v H1, Rel K B ρ1 H1 h1 → RepS K B ρ1 H1 s σ → rep ρ1 H1 a v → SOk K B W (f s a h1) ρ1 H1 D → Q v H1) : tX K B rep W m σ H Q := by
  obtain ⟨ρ, h0, s, R0, S, p⟩ := h
  refine ⟨ρ, h0, s, R0, S, Post.imp (fun v H1 hh => ?_) (SOk.bind rep S p)⟩
  obtain ⟨a, h1, ρ1, M, p1⟩ := hh
  exact k ρ1 h1 s a v H1 M.rel (S.per M.pre M.per) M.rp p1
theorem SOk.nx {s : CS} {h : CH} {σ : L2.St} (R : Rel K B ρ H h) (S : RepS K B ρ H s σ) (p : SOk K B W (.nx s h) ρ H D) : D.nx σ H := p ρ H σ (List.prefix_refl _) Per.refl R S
theorem ss_nil : SSs X B W [] sNil := PSs.imp pss_nil fun D σ H h => by
  obtain ⟨ρ, h0, s, R0, S, p⟩ := h
  exact p.nx R0 S
theorem ss_one (h : SS X B W st m) : SSs X B W [st] m := pss_one h
theorem ss_cons (h1 : SS X B W st m) (h2 : SSs X B W sts m') : SSs X B W (st :: sts) (sSeq m m') := PSs.imp (pss_cons h1 h2) fun D σ H h => by
  obtain ⟨ρ, h0, s, R0, S, p⟩ := h
  refine ⟨ρ, h0, s, R0, S, ?_⟩
  have p' : SOk X.K B W (match m s h0 with
    | .nx s1 h1 => m' s1 h1
    | r => r) ρ H D := p
  cases q : m s h0 with
  | nx s1 h1 =>
    rw [q] at p'
    exact fun ρ' H' σ' a b R S' => ⟨ρ', h1, s1, R, S', SOk.later a b p'⟩
  | rt c h1 => rw [q] at p'; exact p'
  | bk s1 h1 => rw [q] at p'; exact p'
  | ct s1 h1 => rw [q] at p'; exact p'
  | ex c d s1 h1 => rw [q] at p'; exact p'
  | bad => rw [q] at p'; exact p'
theorem ss_pass : SS X B W (.Pass pos) sNil := PS.imp ps_pass fun D σ H h => by
  obtain ⟨ρ, h0, s, R0, S, p⟩ := h
  exact p.nx R0 S
theorem ss_cont : SS X B W (.Continue pos) sCont := PS.imp ps_continue fun D σ H h => by
  obtain ⟨ρ, h0, s, R0, S, p⟩ := h
  exact p ρ H σ (List.prefix_refl _) Per.refl R0 S
theorem ss_expr (ha : SE X B W a ma) (hs : swapsWith a none pos.line X.env = pure false := by rfl) : SS X B W (.Expr a pos) (sE ma) := PS.imp (ps_expr ha hs) fun D σ H h =>
  tS_bind (rep := rV X.K B) (f := fun s _ h1 => .nx s h1) h fun ρ1 h1 s c v H1 R S r p => p.nx R S
theorem ss_ret (ha : SE X B W a ma) : SS X B W (.Return (some a) pos) (sRet ma) := PS.imp (ps_ret ha) fun D σ H h =>
  tS_bind (rep := rV X.K B) (f := fun _ x h1 => .rt x h1) h fun ρ1 h1 s c v H1 R S r p => p ρ1 H1 v (List.prefix_refl _) Per.refl R r
theorem ss_retN : SS X B W (.Return none pos) sRetN := PS.imp ps_retN fun D σ H h => by
  obtain ⟨ρ, h0, s, R0, S, p⟩ := h
  exact p ρ H .non (List.prefix_refl _) Per.refl R0 rfl
theorem ss_set {i : Nat} {x : Str} {pos' : Pos} (hN : X.N.Nodup) (ha : SE X B W a ma) (hi : X.N[i]? = some x := by rfl) (hx : Loc X.env.scope x := by first | exact Or.inl rfl | exact Or.inr rfl) (hs : swapsWith a (some (.Name x pos')) pos.line X.env = pure false := by rfl)
    (hf : X.fn x = true ∨ X.env.scope.names.lookup x = some .local := by first | exact .inl rfl | exact .inr rfl | assumption) : SS X B W (.Assign [.Name x pos'] a pos) (sSet i ma) := PS.imp (ps_set hN hi hx ha hs hf) fun D σ H h =>
  tS_bind (rep := rV X.K B) (f := fun s x h1 => .nx (s.set i (some x)) h1) h fun ρ1 h1 s c v H1 R S r p => p.nx R (S.set r)
theorem ss_if (hc : ST X B W c ta) (ha : SSs X B W sts m) (hb : SSs X B W sts' m') : SS X B W (.If c sts sts' pos) (sIf ta m m') := PS.imp (ps_if hc ha hb) fun D σ H h => by
  refine tS_bind (rep := rEqual Bool) (f := fun s k h1 => if k then m s h1 else m' s h1) h fun ρ1 h1 s k v H1 R S r p => ?_
  have e : k = v := r
  subst e
  cases k with
  | true => exact ⟨ρ1, h1, s, R, S, p⟩
  | false => exact ⟨ρ1, h1, s, R, S, p⟩

theorem wipe_get (σ : L2.St) : ∀ (vs : List Nat) (j : Nat), (wipe σ vs)[j]? = if j ∈ vs ∧ j < σ.length then some none else σ[j]?
  | [], j => by simp [wipe]
  | v :: vs, j => by
    show ((wipe σ vs).set v none)[j]? = _
    by_cases hv : v = j
    · subst hv
      by_cases hl : v < σ.length
      · rw [List.getElem?_set_self (by rw [wipe_length]; exact hl), if_pos ⟨List.mem_cons_self .., hl⟩]
      · rw [List.getElem?_eq_none (by rw [List.length_set, wipe_length]; omega), if_neg (fun z => hl z.2), List.getElem?_eq_none (by omega)]
    · rw [List.getElem?_set_ne hv, wipe_get σ vs j]
      by_cases hm : j ∈ vs
      · by_cases hl : j < σ.length
        · rw [if_pos ⟨hm, hl⟩, if_pos ⟨List.mem_cons_of_mem _ hm, hl⟩]
        · rw [if_neg (fun z => hl z.2), if_neg (fun z => hl z.2)]
      · rw [if_neg (fun z => hm z.1), if_neg (fun z => by
          rcases List.mem_cons.mp z.1 with e | e
          · exact hv e.symm
          · exact hm e)]
theorem wipe_set {σ : L2.St} {own : List Nat} {i : Nat} {x : Option V} (hi : i ∈ own) : wipe (σ.set i x) own = wipe σ own := by
  refine List.ext_getElem? fun j => ?_
  rw [wipe_get, wipe_get, List.length_set]
  by_cases h : j ∈ own ∧ j < σ.length
  · rw [if_pos h, if_pos h]
  · rw [if_neg h, if_neg h]
    by_cases hij : i = j
    · subst hij
      have hl : ¬ i < σ.length := fun z => h ⟨hi, z⟩
      rw [List.getElem?_eq_none (by rw [List.length_set]; omega), List.getElem?_eq_none (by omega)]
    · rw [List.getElem?_set_ne hij]
def tG (K : PySem.W.Frag) (B : Bs) (own : List Nat) (g : MG) : TG := fun v σ H Q => ∃ ρ h s c, Rel K B ρ H h ∧ RepS K B ρ H s σ ∧ RepV K B.sc ρ H c v ∧ ∃ s1 h1, g c s h = some (s1, h1) ∧
  ∀ ρ' H' σ', ρ <+: ρ' → Per K H H' → Rel K B ρ' H' h1 → RepS K B ρ' H' s1 σ' → wipe σ' own = wipe σ own → Q σ' H'
def tGs (K : PySem.W.Frag) (B : Bs) (own : List Nat) (g : MGs) : TGs := fun vs σ H Q => ∃ ρ h s cs, Rel K B ρ H h ∧ RepS K B ρ H s σ ∧ RepVs K B.sc ρ H cs vs ∧ ∃ s1 h1, g cs s h = some (s1, h1) ∧
  ∀ ρ' H' σ', ρ <+: ρ' → Per K H H' → Rel K B ρ' H' h1 → RepS K B ρ' H' s1 σ' → wipe σ' own = wipe σ own → Q σ' H'
abbrev SG (X : Cx) (B : Bs) (own : List Nat) (tg : Expr) (g : MG) : Prop := PG X tg (tG X.K B own g)
abbrev SGs (X : Cx) (B : Bs) (own : List Nat) (tg : List Expr) (g : MGs) : Prop := PGs X tg (tGs X.K B own g)
theorem PG.imp {tg : Expr} {t t' : TG} (p : PG X tg t) (h : ∀ v σ H Q, t' v σ H Q → t v σ H Q) : PG X tg t' := ⟨fun pins s σ H v u Q I r hw => p.run pins s σ H v u Q I r (h v σ H Q hw)⟩
theorem PGs.imp {tg : List Expr} {t t' : TGs} (p : PGs X tg t) (h : ∀ v σ H Q, t' v σ H Q → t v σ H Q) : PGs X tg t' := ⟨fun pins s σ H v u Q I r hw => p.run pins s σ H v u Q I r (h v σ H Q hw)⟩
variable {own : List Nat}
theorem sg_name {i : Nat} {x : Str} (hN : X.N.Nodup) (hi : X.N[i]? = some x := by rfl) (ho : i ∈ own := by decide) (hx : Loc X.env.scope x := by first | exact Or.inl rfl | exact Or.inr rfl) (hf : X.fn x = true ∨ X.env.scope.names.lookup x = some .local := by first | exact .inl rfl | exact .inr rfl | assumption) : SG X B own (.Name x pos) (gSet i) :=
  PG.imp (pg_name hN hi hx hf) fun v σ H Q h => by
    obtain ⟨ρ, h0, s, c, R, S, r, s1, h1, e, q⟩ := h
    cases e
    exact q ρ H _ (List.prefix_refl _) Per.refl R (S.set r) (wipe_set ho)
theorem sgs_nil : SGs X B own [] gsNil := PGs.imp pgs_nil fun v σ H Q h => by
  obtain ⟨ρ, h0, s, cs, R, S, r, s1, h1, e, q⟩ := h
  cases cs with
  | nil =>
    cases e
    exact ⟨r, q ρ H σ (List.prefix_refl _) Per.refl R S rfl⟩
  | cons x xs => cases e
theorem sgs_cons {tg : Expr} {tgs : List Expr} {g : MG} {gs : MGs} (h1 : SG X B own tg g) (h2 : SGs X B own tgs gs) (hs : (assignEach (tg :: tgs) X.env).map (·.2) = assign tg X.env :: (assignEach tgs X.env).map (·.2) := by rfl) : SGs X B own (tg :: tgs) (gsCons g gs) := PGs.imp (pgs_cons h1 h2 hs) fun v σ H Q h => by
  obtain ⟨ρ, h0, s, cs, R, S, r, s1, h1, e, q⟩ := h
  cases cs with
  | nil => cases e
  | cons x xs =>
    obtain ⟨w, r', ev, r1, r2⟩ := r
    have e' : (match g x s h0 with
      | some (s1, h1) => gs xs s1 h1
      | none => none) = some (s1, h1) := e
    cases q1 : g x s h0 with
    | none => rw [q1] at e'; cases e'
    | some p1 =>
      obtain ⟨s2, h2⟩ := p1
      rw [q1] at e'
      refine ⟨w, r', ev, ρ, h0, s, x, R, S, r1, s2, h2, q1, fun ρ' H' σ' a b R' S' ew => ?_⟩
      exact ⟨ρ', h2, s2, xs, R', S', RepVs.per a b _ _ r2, s1, h1, e', fun ρ'' H'' σ'' a' b' R'' S'' ew' => q ρ'' H'' σ'' (a.trans a') (b.trans b') R'' S'' (ew'.trans ew)⟩
theorem sg_tup {tgs : List Expr} {kk : Nat} {gs : MGs} {n : Nat} (hc : X.calm = true) (h : SGs X B own tgs gs) (hn : (assignEach tgs X.env).length = n := by rfl) (hst : (assignEach tgs X.env).findIdx? (·.1) = none := by rfl) : SG X B own (.Tuple tgs kk pos) (Cn.gTup n gs) :=
  PG.imp (pg_tup hc h hn hst) fun v σ H Q hh => by
    obtain ⟨ρ, h0, s, c, R, S, r, s1, h1, e, q⟩ := hh
    cases c with
    | tup xs =>
      have e' : (if xs.length = n then gs xs s h0 else none) = some (s1, h1) := e
      by_cases hl : xs.length = n
      · rw [if_pos hl] at e'
        obtain ⟨ad, vs, ev, hs, hr⟩ := r
        exact ⟨ad, vs, ev, hs, by rw [hr.len]; exact hl, ρ, h0, s, xs, R, S, hr, s1, h1, e', q⟩
      · rw [if_neg hl] at e'; cases e'
    | _ => cases e
theorem ss_asg {tg : Expr} {g : MG} (own : List Nat) (ha : SE X B W a ma) (hg : SG X B own tg g) (hs : swapsWithSole [tg] a pos.line X.env = pure false := by rfl) (hw : swappedStores [tg] a X.env = pure none := by rfl) (h1 : (assignEach [tg] X.env).map (·.2) = [assign tg X.env] := by rfl) :
    SS X B W (.Assign [tg] a pos) (sAsg ma g) := PS.imp (ps_asg ha hg hs hw h1) fun D σ H h => by
  refine tS_bind (rep := rV X.K B) (f := fun s x h1 => match g x s h1 with
    | some (s1, h2) => .nx s1 h2
    | none => .bad) h fun ρ1 h1 s c v H1 R S r p => ?_
  cases q : g c s h1 with
  | none => rw [q] at p; exact p.elim
  | some p1 =>
    obtain ⟨s2, h2⟩ := p1
    rw [q] at p
    exact ⟨ρ1, h1, s, c, R, S, r, s2, h2, q, fun ρ' H' σ' a b R' S' _ => p ρ' H' σ' a b R' S'⟩
def VSet (K : PySem.W.Frag) (B : Bs) (t : TSet) : Prop := ∀ ρ H h o i x vo vi vx h' Q, Rel K B ρ H h → RepV K B.sc ρ H o vo → RepV K B.sc ρ H i vi → RepV K B.sc ρ H x vx → setIxV o i x h = some h' → (∀ ρ' H', ρ <+: ρ' → Per K H H' → Rel K B ρ' H' h' → Q H') → t vo vi vx H Q
theorem v_set : VSet K B rSetL := by
  intro ρ H h o i x vo vi vx h' Q R ro ri rx e q
  cases o with
  | ref n =>
    cases i with
    | int k =>
      have e' : (match h.os[n]? with
        | some (.lst xs) => (match ixC xs.length k with
          | some j => some (h.set n (.lst (xs.set j x)))
          | none => none)
        | _ => none) = some h' := e
      have ei : vi = .int k := ri
      subst ei
      cases q1 : h.os[n]? with
      | none => rw [q1] at e'; cases e'
      | some ob =>
        rw [q1] at e'
        cases ob with
        | lst xs =>
          simp only at e'
          cases q2 : ixC xs.length k with
          | none => rw [q2] at e'; cases e'
          | some j =>
            rw [q2] at e'
            cases e'
            obtain ⟨a, ws, ea, ev, hH, hr⟩ := R.lst ro q1
            subst ev
            have mu : Mut (H a) := by rw [hH]; trivial
            exact ⟨a, ws, k, j, rfl, rfl, hH, by rw [hr.len]; exact q2, q ρ _ (List.prefix_refl _) (.write mu) (R.set ea mu ⟨_, rfl, (RepVs.per (List.prefix_refl _) (.write mu) _ _ hr).set (RepV.per (List.prefix_refl _) (.write mu) _ _ rx) j⟩)⟩
        | _ => cases e'
    | _ => cases e
  | _ => cases e
theorem ss_setIx {p2 : Pos} (hv : SE X B W a ma) (ho : SE X B W o mo) (hi : SE X B W b mb) (hs : swapsWithSole [.Subscript o b p2] a pos.line X.env = pure false := by rfl) (hw : swappedStores [.Subscript o b p2] a X.env = pure none := by rfl)
    (h1 : (assignEach [.Subscript o b p2] X.env).map (·.2) = [assign (.Subscript o b p2) X.env] := by rfl)
    (ha : ∀ v, assign (.Subscript o b p2) X.env v = (do
      let ov ← holding [v] (eval o X.env)
      let iv ← holding [v, ov] (eval b X.env)
      standAt p2
      holding [v, ov, iv] (setItem ov iv v)
      release [v, ov, iv] []) := by intro _; rfl) : SS X B W (.Assign [.Subscript o b p2] a pos) (sSetIx ma mo mb) := PS.imp (ps_asg hv (pg_sub ho hi set_list ha) hs hw h1) fun D σ H h => by
  refine tS_bind (rep := rV X.K B) (f := fun s x h1 => rBind (mo s h1) s fun y h2 => rBind (mb s h2) s fun z h3 => match setIxV y z x h3 with
    | some h4 => .nx s h4
    | none => .bad) h fun ρ1 h1 s x vx H1 R S r p => ?_
  refine ⟨ρ1, h1, s, R, S, Post.imp (fun vy H2 hh => ?_) (SOk.bind (rV X.K B) S p)⟩
  obtain ⟨y, h2, ρ2, M2, p2⟩ := hh
  refine ⟨ρ2, h2, s, M2.rel, S.per M2.pre M2.per, Post.imp (fun vz H3 hh => ?_) (SOk.bind (rV X.K B) (S.per M2.pre M2.per) p2)⟩
  obtain ⟨z, h3, ρ3, M3, p3⟩ := hh
  cases q : setIxV y z x h3 with
  | none => rw [q] at p3; exact p3.elim
  | some h4 =>
    rw [q] at p3
    exact v_set ρ3 H3 h3 y z x vy vz vx h4 _ M3.rel (RepV.per M3.pre M3.per _ _ M2.rp) M3.rp (RepV.per (M2.pre.trans M3.pre) (M2.per.trans M3.per) _ _ r) q fun ρ' H' a b R' =>
      p3 ρ' H' σ a b R' ((S.per (M2.pre.trans M3.pre) (M2.per.trans M3.per)).per a b)
end
end Cn
set_option Elab.async false
set_option linter.all false
set_option maxRecDepth 100000
set_option maxHeartbeats 4000000
namespace Cn
open PySem PySem.Spec PyProof.Rows L2
section
variable {X : Cx} {B : Bs} {W : WX} {a b c e o tg : Expr} {es : List Expr} {st : Stmt} {sts sts' : List Stmt} {ma mb mc mo : ME CV} {ta : ME Bool} {ms : ME (List CV)} {m m' : MS} {g : MG} {pos : Pos} {K : PySem.W.Frag} {ρ ρ1 : List Addr} {H H1 : Hp} {D : Ends} {r : SR}
theorem ss_while (n : Nat) (hp : PassesOwn (model X.prog X.w) X.A X.env X.xe) (hc : ST X B W c ta) (hb : SSs X B W sts m) : SS X B W (.While c sts [] pos) (sWhile ta m n) := PS.imp (ps_while hp hc hb) fun D σ H h => by
  obtain ⟨ρ0, h0, s0, R0, S0, p0⟩ := h
  refine ⟨fun n σ H => ∃ ρ h s, Rel X.K B ρ H h ∧ RepS X.K B ρ H s σ ∧ SOk X.K B W (sWhile ta m n s h) ρ H D, ⟨n, ρ0, h0, s0, R0, S0, p0⟩, ?_⟩
  rintro n σ H ⟨ρ, h, s, R, S, p⟩
  cases n with
  | zero => exact p.elim
  | succ n =>
    refine tS_bind (rep := rEqual Bool) (m := ta) (f := fun s k h1 => if k then (match m s h1 with
      | .nx s2 h2 => sWhile ta m n s2 h2
      | .ct s2 h2 => sWhile ta m n s2 h2
      | .bk s2 h2 => .nx s2 h2
      | r => r) else .nx s h1) ⟨ρ, h, s, R, S, p⟩ fun ρ1 h1 s k v H1 R S r p => ?_
    have e : k = v := r
    subst e
    cases k with
    | true =>
      rw [if_pos rfl] at p ⊢
      refine ⟨fun σ H => ∃ ρ h s, Rel X.K B ρ H h ∧ RepS X.K B ρ H s σ ∧ SOk X.K B W (sWhile ta m n s h) ρ H D, fun σ' H' w => ⟨n, Nat.lt_succ_self _, w⟩, ρ1, h1, s, R, S, ?_⟩
      cases q : m s h1 with
      | nx s2 h2 => rw [q] at p; exact fun ρ' H' σ' a b R' S' => ⟨ρ', h2, s2, R', S', SOk.later a b p⟩
      | ct s2 h2 => rw [q] at p; exact fun ρ' H' σ' a b R' S' => ⟨ρ', h2, s2, R', S', SOk.later a b p⟩
      | bk s2 h2 => rw [q] at p; exact p
      | rt x h2 => rw [q] at p; exact p
      | ex c d s2 h2 => rw [q] at p; exact p
      | bad => rw [q] at p; exact p
    | false =>
      rw [if_neg Bool.false_ne_true] at p ⊢
      exact p.nx R S

structure ItOk (K : PySem.W.Frag) (B : Bs) (J : It) (x : CV) (v : V) : Prop where
  stop : ∀ ρ H h i, Rel K B ρ H h → RepV K B.sc ρ H x v → itemAt x i h = some none → J.stop i H
  go : ∀ ρ H h i c, Rel K B ρ H h → RepV K B.sc ρ H x v → itemAt x i h = some (some c) → J.go i H ∧ ∀ y H', J.yld i H y H' → H' = H ∧ RepV K B.sc ρ H c y
def iAny (K : PySem.W.Frag) (tl : TE) : TI := fun σ H R => tl σ H fun x H1 => (∃ a, x = .ref a ∧ (∃ xs, SqL K H1 a xs) ∧ ∀ J : It, (∀ i H, (∃ xs x, SqL K H a xs ∧ xs[i]? = some x) → J.go i H) → (∀ i H y H', J.yld i H y H' → H' = H ∧ ∀ xs, SqL K H a xs → xs[i]? = some y) → (∀ i H, (∃ xs, SqL K H a xs ∧ xs.length ≤ i) → J.stop i H) → R J H1) ∨
  (∃ a, x = .ref a ∧ (∃ xs, SqT K H1 a xs) ∧ R (Itt K a) H1) ∨ ∃ z, x = .str z ∧ R (Its z) H1
theorem pi_any {l : Expr} {tl : TE} (hl : PE X l tl) : PI X tg l (iAny X.K tl) := by
  refine ⟨fun pins s σ H R I h => ?_⟩
  refine thn (hl.run pins s σ H _ I h) fun v s1 ⟨x, H1, I1, r1, q1⟩ => ?_
  rcases q1 with ⟨a, e, ⟨xs, hq⟩, q⟩ | ⟨a, e, ⟨xs, hq⟩, q⟩ | ⟨x, ex, q⟩
  · subst e
    cases r1
    obtain ⟨its, rv, p, hz⟩ := I1.list hq
    refine wpAny_pyIter_list p.isList ?_
    refine ⟨s1.heap.objs.size, [s1.heap.objs.size], _, _, H1, rfl, I1.kept (t' := s1.toks) fun b o e => Heap.get?_push_of_some _ e, turn_list a _, ⟨_, Heap.get?_push_size _ rfl, rfl, rfl⟩, fun b hb => ?_, q (Itl X.K a) (fun _ _ h => h) (fun _ _ _ _ h => h) fun _ _ h => h⟩
    have e : b = s1.heap.objs.size := by simpa using hb
    subst e
    exact I1.fpOk (Nat.le_refl _) (I1.hok.fresh (Nat.le_refl _))
  · subst e
    cases r1
    obtain ⟨its, rv, p, hz⟩ := I1.tuple hq
    refine wpAny_pyIter_tuple (show s1.heap.IsTuple a its.toArray from p) ?_
    refine ⟨s1.heap.objs.size, [s1.heap.objs.size], _, _, H1, rfl, I1.kept (t' := s1.toks) fun b o e => Heap.get?_push_of_some _ e, turn_tuple a _, ⟨_, Heap.get?_push_size _ rfl, rfl, rfl⟩, fun b hb => ?_, q⟩
    have e : b = s1.heap.objs.size := by simpa using hb
    subst e
    exact I1.fpOk (Nat.le_refl _) (I1.hok.fresh (Nat.le_refl _))
  · subst ex
    obtain ⟨t, rfl⟩ := r1
    cases ha : x.cps.all (· < 128)
    · exact wpAny_pyIter_wide ha (pi_one (tk := s1.toks) I1 _ (turn_str _ x t "str_iterator" (.inr rfl)) ⟨_, Heap.get?_push_size _ rfl, rfl, rfl⟩ q)
    · exact wpAny_pyIter_ascii ha (pi_one (tk := s1.toks) I1 _ (turn_str _ x t "str_ascii_iterator" (.inl rfl)) ⟨_, Heap.get?_push_size _ rfl, rfl, rfl⟩ q)
theorem iAny_of {K : PySem.W.Frag} {σ : L2.St} {H : Hp} {R : It → Hp → Prop} {m : ME CV} (h : tX K B (rV K B) W m σ H fun v H1 => ∃ ρ1 h1 s c, Rel K B ρ1 H1 h1 ∧ RepS K B ρ1 H1 s σ ∧ RepV K B.sc ρ1 H1 c v ∧ itemAt c 0 h1 ≠ none ∧ ∀ J : It, ItOk K B J c v → R J H1) : iAny K (tX K B (rV K B) W m) σ H R := by
  refine tX_mono h fun v H1 hh => ?_
  obtain ⟨ρ1, h1, s, c, R1, S1, r1, ni, q⟩ := hh
  have lst : ∀ x : CV, x = c → (∀ i h, itemAt x i h = match lstOf h x with
      | some xs => some xs[i]?
      | none => none) → ∃ a, v = .ref a ∧ (∃ xs, SqL K H1 a xs) ∧ ∀ J : It, (∀ i H, (∃ xs x, SqL K H a xs ∧ xs[i]? = some x) → J.go i H) → (∀ i H y H', J.yld i H y H' → H' = H ∧ ∀ xs, SqL K H a xs → xs[i]? = some y) → (∀ i H, (∃ xs, SqL K H a xs ∧ xs.length ≤ i) → J.stop i H) → R J H1 := fun x ex hi => by
    subst ex
    have key : ∀ {ρ H h xs a}, Rel K B ρ H h → RepV K B.sc ρ H x v → v = .ref a → lstOf h x = some xs → ∃ vs, SqL K H a vs ∧ RepVs K B.sc ρ H xs vs := fun {ρ H h xs a} R r ev q => by
      obtain ⟨a', vs, e1, e2, e3⟩ := R.sq r q
      rw [ev] at e1
      cases e1
      exact ⟨vs, e2, e3⟩
    cases q0 : lstOf h1 x with
    | none =>
      rw [hi, q0] at ni
      exact absurd rfl ni
    | some xs0 =>
      obtain ⟨a, vs, e1, e2, e3⟩ := R1.sq r1 q0
      refine ⟨a, e1, ⟨vs, e2⟩, fun J hg hy hs => q J ⟨fun ρ H h i R r e => ?_, fun ρ H h i c R r e => ?_⟩⟩
      · rw [hi] at e
        cases q1 : lstOf h x with
        | none => rw [q1] at e; cases e
        | some xs =>
          rw [q1] at e
          obtain ⟨ws, f1, f2⟩ := key R r e1 q1
          have e' : xs[i]? = none := Option.some.inj e
          exact hs i H ⟨ws, f1, by rw [f2.len]; exact List.getElem?_eq_none_iff.mp e'⟩
      · rw [hi] at e
        cases q1 : lstOf h x with
        | none => rw [q1] at e; cases e
        | some xs =>
          rw [q1] at e
          obtain ⟨ws, f1, f2⟩ := key R r e1 q1
          have e' : xs[i]? = some c := Option.some.inj e
          obtain ⟨w, hw, rw'⟩ := f2.get e'
          refine ⟨hg i H ⟨ws, w, f1, hw⟩, fun y H' yy => ?_⟩
          obtain ⟨z1, z2⟩ := hy i H y H' yy
          have z3 := z2 ws f1
          rw [hw] at z3
          cases z3
          exact ⟨z1, rw'⟩
  cases c with
  | tup xs =>
    obtain ⟨a, vs, e1, e2, e3⟩ := id r1
    refine .inr (.inl ⟨a, e1, ⟨vs, e2⟩, q _ ⟨fun ρ H h i R r e => ?_, fun ρ H h i c R r e => ?_⟩⟩)
    · obtain ⟨a', ws, f1, f2, f3⟩ := r
      rw [e1] at f1
      cases f1
      have e' : xs[i]? = none := Option.some.inj e
      exact ⟨ws, f2, by rw [f3.len]; exact List.getElem?_eq_none_iff.mp e'⟩
    · obtain ⟨a', ws, f1, f2, f3⟩ := r
      rw [e1] at f1
      cases f1
      have e' : xs[i]? = some c := Option.some.inj e
      obtain ⟨w, hw, rw'⟩ := f3.get e'
      refine ⟨⟨ws, w, f2, hw⟩, fun y H' yy => ?_⟩
      obtain ⟨z1, z2⟩ := yy
      have z3 := z2 ws f2
      rw [hw] at z3
      cases z3
      exact ⟨z1, rw'⟩
  | str z =>
    have e1 := r1.1
    refine .inr (.inr ⟨⟨z.toArray⟩, e1, q _ ⟨fun ρ H h i R r e => ?_, fun ρ H h i c R r e => ?_⟩⟩)
    · have e' : (z[i]?.map fun c => CV.str [c]) = none := Option.some.inj e
      have e2 : z[i]? = none := by
        cases q : z[i]? with
        | none => rfl
        | some y => rw [q] at e'; cases e'
      show z.toArray.size ≤ i
      rw [List.size_toArray]
      exact List.getElem?_eq_none_iff.mp e2
    · have e' : (z[i]?.map fun c => CV.str [c]) = some c := Option.some.inj e
      cases q : z[i]? with
      | none => rw [q] at e'; cases e'
      | some y =>
        rw [q] at e'
        cases e'
        refine ⟨?_, fun y' H' yy => ?_⟩
        · show i < z.toArray.size
          rw [List.size_toArray]
          exact (List.getElem?_eq_some_iff.mp q).1
        · obtain ⟨z1, d, hd, ed⟩ := yy
          have hd' : z[i]? = some d := by simpa using hd
          rw [q] at hd'
          cases hd'
          exact ⟨z1, ed, fun d' hd' => by
            have : d' = y := by simpa using hd'
            rw [this]
            exact r.2 y (List.mem_of_getElem? q)⟩
  | ref n => exact .inl (lst _ rfl fun _ _ => rfl)
  | scr => exact .inl (lst _ rfl fun _ _ => rfl)
  | non => exact absurd rfl ni
  | bl b => exact absurd rfl ni
  | int i => exact absurd rfl ni
theorem ss_for (hp : PassesOwn (model X.prog X.w) X.A X.env X.xe) (hc : X.calm = true) (ha : SE X B W a ma) (own : List Nat) (hg : SG X B own tg g) (hb : SSs X B W sts m) (hs : ∀ x, foldedSetIterable a X.env x = pure x := by intro _; rfl) : SS X B W (.For tg a sts [] pos) (sFor ma g m) :=
  PS.imp (ps_for hp hc (pi_any ha) hg hb hs) fun D σ H h => by
  refine iAny_of (tS_bind (rep := rV X.K B) (f := fun s x h1 => forLoop x g m (lenAt x h1 + 1) 0 s h1) h fun ρ1 h1 s x v H1 R S r p => ⟨ρ1, h1, s, x, R, S, r, ?_, fun J ok => ?_⟩)
  · intro z
    unfold forLoop at p
    rw [z] at p
    exact p.elim
  refine ⟨fun i n σ H => ∃ ρ h s, Rel X.K B ρ H h ∧ RepS X.K B ρ H s σ ∧ RepV X.K B.sc ρ H x v ∧ SOk X.K B W (forLoop x g m n i s h) ρ H D, ⟨_, ρ1, h1, s, R, S, r, p⟩, ?_⟩
  rintro i n σ H ⟨ρ, h, s, R, S, r, p⟩
  cases n with
  | zero => exact p.elim
  | succ n =>
    unfold forLoop at p
    cases q : itemAt x i h with
    | none => rw [q] at p; exact p.elim
    | some oc =>
      rw [q] at p
      cases oc with
      | none => exact .inl ⟨ok.stop ρ H h i R r q, p.nx R S⟩
      | some c =>
        obtain ⟨hgo, hy⟩ := ok.go ρ H h i c R r q
        refine .inr ⟨hgo, fun σ H => ∃ ρ h s, Rel X.K B ρ H h ∧ RepS X.K B ρ H s σ ∧ RepV X.K B.sc ρ H x v ∧ SOk X.K B W (forLoop x g m n (i + 1) s h) ρ H D, fun σ' H' w => ⟨n, Nat.lt_succ_self _, w⟩, fun y H' yy => ?_⟩
        obtain ⟨eH, ry⟩ := hy y H' yy
        subst eH
        simp only at p
        cases q2 : g c s h with
        | none => rw [q2] at p; exact p.elim
        | some p1 =>
          obtain ⟨s1, h1'⟩ := p1
          rw [q2] at p
          simp only at p
          refine ⟨ρ, h, s, c, R, S, ry, s1, h1', q2, fun ρ' H' σ' a b R' S' _ => ⟨ρ', h1', s1, R', S', ?_⟩⟩
          cases q3 : m s1 h1' with
          | nx s2 h2 => rw [q3] at p; exact fun ρ'' H'' σ'' a' b' R'' S'' => ⟨ρ'', h2, s2, R'', S'', RepV.per (a.trans a') (b.trans b') _ _ r, SOk.later (a.trans a') (b.trans b') p⟩
          | ct s2 h2 => rw [q3] at p; exact fun ρ'' H'' σ'' a' b' R'' S'' => ⟨ρ'', h2, s2, R'', S'', RepV.per (a.trans a') (b.trans b') _ _ r, SOk.later (a.trans a') (b.trans b') p⟩
          | bk s2 h2 => rw [q3] at p; exact SOk.later (r := .nx s2 h2) a b p
          | rt x h2 => rw [q3] at p; exact SOk.later (r := .rt x h2) a b p
          | ex c d s2 h2 => rw [q3] at p; exact SOk.later (r := .ex c d s2 h2) a b p
          | bad => rw [q3] at p; exact p
theorem rng_core {lo : Int} {σ : L2.St} {H : Hp} {n : Nat} {tbd : TS} {gt : TG} {own : List Nat} (hgt : gt = tG K B own g) (htb : tbd = tS K B W m) (h0 : ∃ ρ h s, Rel K B ρ H h ∧ RepS K B ρ H s σ ∧ SOk K B W (rngLoop lo g m n 0 s h) ρ H D) :
    ∃ Wv : Nat → Nat → L2.St → Hp → Prop, (∃ m, Wv 0 m σ H) ∧ ∀ i m σ H, Wv i m σ H →
      ((Itr lo n).stop i H ∧ D.nx σ H) ∨ ((Itr lo n).go i H ∧ ∃ N : L2.St → Hp → Prop, (∀ σ' H', N σ' H' → ∃ m', m' < m ∧ Wv (i + 1) m' σ' H') ∧ ∀ x H', (Itr lo n).yld i H x H' → gt x σ H' fun σ2 H2 => tbd { D with nx := N, ct := N, bk := D.nx } σ2 H2) := by
  subst hgt htb
  obtain ⟨ρ0, h0, s0, R0, S0, p0⟩ := h0
  refine ⟨fun i k σ H => i + k = n ∧ ∃ ρ h s, Rel K B ρ H h ∧ RepS K B ρ H s σ ∧ SOk K B W (rngLoop lo g m k i s h) ρ H D, ⟨n, Nat.zero_add _, ρ0, h0, s0, R0, S0, p0⟩, ?_⟩
  rintro i k σ H ⟨hk, ρ, h, s, R, S, p⟩
  cases k with
  | zero => exact .inl ⟨by show n ≤ i; omega, p.nx R S⟩
  | succ k =>
    refine .inr ⟨by show i < n; omega, fun σ H => ∃ ρ h s, Rel K B ρ H h ∧ RepS K B ρ H s σ ∧ SOk K B W (rngLoop lo g m k (i + 1) s h) ρ H D, fun σ' H' w => ⟨k, Nat.lt_succ_self _, by omega, w⟩, fun y H' yy => ?_⟩
    obtain ⟨eH, ey⟩ := yy
    subst eH ey
    unfold rngLoop at p
    cases q2 : g (.int (lo + i)) s h with
    | none => rw [q2] at p; exact p.elim
    | some p1 =>
      obtain ⟨s1, h1'⟩ := p1
      rw [q2] at p
      simp only at p
      refine ⟨ρ, h, s, .int (lo + i), R, S, rfl, s1, h1', q2, fun ρ' H' σ' a b R' S' _ => ⟨ρ', h1', s1, R', S', ?_⟩⟩
      cases q3 : m s1 h1' with
      | nx s2 h2 => rw [q3] at p; exact fun ρ'' H'' σ'' a' b' R'' S'' => ⟨ρ'', h2, s2, R'', S'', SOk.later (a.trans a') (b.trans b') p⟩
      | ct s2 h2 => rw [q3] at p; exact fun ρ'' H'' σ'' a' b' R'' S'' => ⟨ρ'', h2, s2, R'', S'', SOk.later (a.trans a') (b.trans b') p⟩
      | bk s2 h2 => rw [q3] at p; exact SOk.later (r := .nx s2 h2) a b p
      | rt x h2 => rw [q3] at p; exact SOk.later (r := .rt x h2) a b p
      | ex c d s2 h2 => rw [q3] at p; exact SOk.later (r := .ex c d s2 h2) a b p
      | bad => rw [q3] at p; exact p
theorem b62 : (2 : Int) ^ 62 = B62 := by decide
theorem ss_rng1 {p2 p3 : Pos} (hp : PassesOwn (model X.prog X.w) X.A X.env X.xe) (hc : X.calm = true) (hgr : Gl X "range") (hm : X.mg "range" = none) (ha : SE X B W a ma) (own : List Nat) (hg : SG X B own tg g) (hb : SSs X B W sts m) (hse : starEach [a] X.env = [(false, eval a X.env)] := by rfl)
    (hs : ∀ x, foldedSetIterable (.Call (.Name "range" p2) [a] [] p3) X.env x = pure x := by intro _; rfl) : SS X B W (.For tg (.Call (.Name "range" p2) [a] [] p3) sts [] pos) (sForR1 ma g m) :=
  PS.imp (ps_for hp hc (pi_range1 hgr hm (pa_cons ha pa_nil hse) hse) hg hb hs) fun D σ H h => by
  refine tS_bind (rep := rV X.K B) (f := fun s x h1 => match x with
    | .int j => if -B62 ≤ j ∧ j < B62 then rngLoop 0 g m j.toNat 0 s h1 else .bad
    | _ => .bad) h fun ρ1 h1 s x v H1 R S r p => ?_
  cases x with
  | int j =>
    have ev : v = .int j := r
    subst ev
    simp only at p
    by_cases hl : -B62 ≤ j ∧ j < B62
    · rw [if_pos hl] at p
      exact ⟨j, rfl, by rw [b62]; exact hl.1, by rw [b62]; exact hl.2, rng_core rfl rfl ⟨ρ1, h1, s, R, S, p⟩⟩
    · rw [if_neg hl] at p; exact p.elim
  | _ => exact p.elim
theorem ss_rng2 {p2 p3 : Pos} (hp : PassesOwn (model X.prog X.w) X.A X.env X.xe) (hc : X.calm = true) (hgr : Gl X "range") (hm : X.mg "range" = none) (ha : SE X B W a ma) (ha2 : SE X B W b mb) (own : List Nat) (hg : SG X B own tg g) (hb : SSs X B W sts m)
    (hse : starEach [a, b] X.env = [(false, eval a X.env), (false, eval b X.env)] := by rfl) (hse2 : starEach [b] X.env = [(false, eval b X.env)] := by rfl)
    (hs : ∀ x, foldedSetIterable (.Call (.Name "range" p2) [a, b] [] p3) X.env x = pure x := by intro _; rfl) : SS X B W (.For tg (.Call (.Name "range" p2) [a, b] [] p3) sts [] pos) (sForR2 ma mb g m) :=
  PS.imp (ps_for hp hc (pi_range2 hgr hm (pa_cons ha (pa_cons ha2 pa_nil hse2) (by rw [hse, hse2])) hse hse2) hg hb hs) fun D σ H h => by
  refine tS_bind (rep := rV X.K B) (f := fun s x h1 => rBind (mb s h1) s fun y h2 => match x, y with
    | .int i, .int j => if -B62 ≤ i ∧ i < B62 ∧ -B62 ≤ j ∧ j < B62 then rngLoop i g m (j - i).toNat 0 s h2 else .bad
    | _, _ => .bad) h fun ρ1 h1 s x v H1 R S r p => ?_
  refine ⟨ρ1, h1, s, R, S, Post.imp (fun vy H2 hh => ?_) (SOk.bind (rV X.K B) S p)⟩
  obtain ⟨y, h2, ρ2, M2, p2⟩ := hh
  cases x with
  | int i =>
    cases y with
    | int j =>
      have ev : v = .int i := r
      have ey : vy = .int j := M2.rp
      subst ev ey
      simp only at p2
      by_cases hl : -B62 ≤ i ∧ i < B62 ∧ -B62 ≤ j ∧ j < B62
      · rw [if_pos hl] at p2
        exact ⟨i, j, rfl, by rw [b62]; exact hl, rng_core rfl rfl ⟨ρ2, h2, s, M2.rel, S.per M2.pre M2.per, p2⟩⟩
      · rw [if_neg hl] at p2; exact p2.elim
    | _ => exact p2.elim
  | _ => exact p2.elim

theorem wipe_rep {s : CS} {σ : L2.St} (S : RepS K B ρ H s σ) : ∀ own : List Nat, RepS K B ρ H (wipeC s own) (wipe σ own)
  | [] => S
  | v :: vs => by
    have ih := wipe_rep S vs
    show RepS K B ρ H ((wipeC s vs).set v none) ((wipe σ vs).set v none)
    refine ⟨by rw [List.length_set, List.length_set]; exact ih.1, fun i c e => ?_⟩
    by_cases hi : v = i
    · subst hi
      by_cases hv : v < (wipeC s vs).length
      · rw [List.getElem?_set_self hv] at e; cases e
      · rw [List.getElem?_eq_none (by rw [List.length_set]; omega)] at e; cases e
    · rw [List.getElem?_set_ne hi] at e
      obtain ⟨w, e2, r2⟩ := ih.2 i c e
      exact ⟨w, by rw [List.getElem?_set_ne hi]; exact e2, r2⟩
abbrev W0 : WX := fun _ _ _ _ => False
abbrev STs (X : Cx) (B : Bs) (W : WX) (ifs : List Expr) (m : ME Bool) : Prop := PTs X ifs (tX X.K B (rEqual Bool) W m)
theorem PTs.imp {X : Cx} {e : List Expr} {t t' : TT} (p : PTs X e t) (h : ∀ σ H Q, t' σ H Q → t σ H Q) : PTs X e t' := ⟨fun pins s σ H Q I hw => p.run pins s σ H Q I (h σ H Q hw)⟩
theorem sts_nil : STs X B W [] Cn.tYes := PTs.imp pts_nil fun σ H Q h => tX_ok (v := true) h fun _ => rfl
theorem sts_one (h : ST X B W a ta) : STs X B W [a] ta := pts_one h
theorem turn_core {own : List Nat} {D : Nat} {Da : Addr} {x : CV} {y : V} {h h' : CH} {s : CS} {σ : L2.St} {Nx : Hp → Prop} {me : ME CV} (R : Rel K B ρ H h) (S : RepS K B ρ H s (wipe σ own)) (hD : ρ[D]? = some Da) (ry : RepV K B.sc ρ H x y)
    (e : lcTurn D g ta me x s h = some h') (nx : ∀ ρ' H', ρ <+: ρ' → Per K H H' → Rel K B ρ' H' h' → Nx H') :
    tG K B own g y (wipe σ own) H fun σ2 H2 => wipe σ2 own = wipe σ own ∧ tX K B (rEqual Bool) W0 ta σ2 H2 fun b H3 =>
      if b = true then tX K B (rV K B) W0 me σ2 H3 fun y H4 => ∃ acc, H4 Da = some (.lst acc) ∧ acc.length < sizeLine ∧ Nx (upd H4 Da (.lst (acc ++ [y]))) else Nx H3 := by
  unfold lcTurn at e
  cases q1 : g x s h with
  | none => rw [q1] at e; cases e
  | some p1 =>
    obtain ⟨s1, h1⟩ := p1
    rw [q1] at e
    simp only at e
    refine ⟨ρ, h, s, x, R, S, ry, s1, h1, q1, fun ρ2 H2 σ2 a2 b2 R2 S2 ew => ⟨?_, ρ2, h1, s1, R2, S2, ?_⟩⟩
    · rw [ew]
      refine List.ext_getElem? fun j => ?_
      rw [wipe_get, wipe_get, wipe_length]
      by_cases hj : j ∈ own ∧ j < σ.length
      · rw [if_pos hj, if_pos hj]
      · rw [if_neg hj, if_neg hj]
    cases q2 : ta s1 h1 with
    | bad => rw [q2] at e; cases e
    | ex c d h2 => rw [q2] at e; cases e
    | ok k h2 =>
      rw [q2] at e
      intro ρ3 H3 v a3 b3 R3 ev
      have ev' : k = v := ev
      subst ev'
      cases k with
      | false =>
        simp only at e
        cases e
        rw [if_neg Bool.false_ne_true]
        exact nx ρ3 H3 (a2.trans a3) (b2.trans b3) R3
      | true =>
        simp only at e
        rw [if_pos rfl]
        refine ⟨ρ3, h2, s1, R3, S2.per a3 b3, ?_⟩
        cases q3 : me s1 h2 with
        | bad => rw [q3] at e; cases e
        | ex c d h3 => rw [q3] at e; cases e
        | ok z h3 =>
          rw [q3] at e
          simp only at e
          intro ρ4 H4 w a4 b4 R4 rw'
          cases q4 : h3.os[D]? with
          | none => rw [q4] at e; cases e
          | some ob =>
            rw [q4] at e
            cases ob with
            | lst xs =>
              simp only at e
              by_cases hl : xs.length < LINE
              · rw [if_pos hl] at e
                cases e
                obtain ⟨a', acc, f1, f2, f3, f4⟩ := R4.lst (v := .ref Da) ⟨Da, pre_get (a2.trans (a3.trans a4)) hD, rfl⟩ q4
                cases f2
                have mu : Mut (H4 Da) := by rw [f3]; trivial
                refine ⟨acc, f3, by rw [f4.len, ← line_eq]; exact hl, nx ρ4 _ (a2.trans (a3.trans a4)) ((b2.trans (b3.trans b4)).trans (.write mu)) (R4.set f1 mu ⟨_, rfl, ?_⟩)⟩
                exact (RepVs.per (List.prefix_refl _) (.write mu) _ _ f4).append (RepVs.one (RepV.per (List.prefix_refl _) (.write mu) _ _ rw'))
              · rw [if_neg hl] at e; cases e
            | _ => cases e
theorem lc_core' {own : List Nat} {x : CV} {v : V} {J : It} {h : CH} {s : CS} {σ : L2.St} {me : ME CV} {Q : VK} {WX' : XK} (ok : ItOk K B J x v) (R : Rel K B ρ H h) (S : RepS K B ρ H s σ) (r : RepV K B.sc ρ H x v)
    (p : Post K B (rV K B) WX' (match lcLoop x h.os.length g ta me (wipeC s own) (lenAt x h + 1) 0 (h.new (.lst [])) with
      | some h2 => .ok (.ref h.os.length) h2
      | none => .bad) ρ H Q) (D : Addr) (hD : H D = none) :
    ∃ Wv : Nat → Nat → Hp → Prop, (∃ m, Wv 0 m (upd H D (.lst []))) ∧ ∀ i m H, Wv i m H → (J.stop i H ∧ Q (.ref D) H) ∨ (J.go i H ∧ ∃ Nx : Hp → Prop, (∀ H', Nx H' → ∃ m', m' < m ∧ Wv (i + 1) m' H') ∧
      ∀ y H', J.yld i H y H' → tG K B own g y (wipe σ own) H' fun σ2 H2 => wipe σ2 own = wipe σ own ∧ tX K B (rEqual Bool) W0 ta σ2 H2 fun b H3 =>
        if b = true then tX K B (rV K B) W0 me σ2 H3 fun y H4 => ∃ acc, H4 D = some (.lst acc) ∧ acc.length < sizeLine ∧ Nx (upd H4 D (.lst (acc ++ [y]))) else Nx H3) := by
  cases qL : lcLoop x h.os.length g ta me (wipeC s own) (lenAt x h + 1) 0 (h.new (.lst [])) with
  | none => rw [qL] at p; exact p.elim
  | some hf =>
    rw [qL] at p
    have R1 : Rel K B (ρ ++ [D]) (upd H D (.lst [])) (h.new (.lst [])) := R.new hD ⟨[], rfl, rfl⟩
    have hDr : (ρ ++ [D])[h.os.length]? = some D := by
      rw [← R.len, List.getElem?_append_right (Nat.le_refl _), Nat.sub_self] <;> rfl
    refine ⟨fun i n H' => ∃ ρ' h', (ρ ++ [D]) <+: ρ' ∧ Per K H H' ∧ Rel K B ρ' H' h' ∧ lcLoop x h.os.length g ta me (wipeC s own) n i h' = some hf, ⟨lenAt x h + 1, ρ ++ [D], h.new (.lst []), List.prefix_refl _, .new hD, R1, qL⟩, ?_⟩
    rintro i n H' ⟨ρ', h', a', b', R', q⟩
    have pr : ρ <+: ρ' := (List.prefix_append _ _).trans a'
    cases n with
    | zero => cases q
    | succ n =>
      unfold lcLoop at q
      cases q1 : itemAt x i h' with
      | none => rw [q1] at q; cases q
      | some oc =>
        rw [q1] at q
        cases oc with
        | none =>
          simp only at q
          cases q
          exact .inl ⟨ok.stop ρ' H' _ i R' (RepV.per pr b' _ _ r) q1, p ρ' H' (.ref D) pr b' R' ⟨D, pre_get a' hDr, rfl⟩⟩
        | some c =>
          obtain ⟨hgo, hy⟩ := ok.go ρ' H' h' i c R' (RepV.per pr b' _ _ r) q1
          simp only at q
          cases q2 : lcTurn h.os.length g ta me c (wipeC s own) h' with
          | none => rw [q2] at q; cases q
          | some h1 =>
            rw [q2] at q
            simp only at q
            refine .inr ⟨hgo, fun H'' => ∃ ρ'' h'', (ρ ++ [D]) <+: ρ'' ∧ Per K H H'' ∧ Rel K B ρ'' H'' h'' ∧ lcLoop x h.os.length g ta me (wipeC s own) n (i + 1) h'' = some hf, fun H' w => ⟨n, Nat.lt_succ_self _, w⟩, fun y H'' yy => ?_⟩
            obtain ⟨eH, ry⟩ := hy y H'' yy
            subst eH
            exact turn_core (D := h.os.length) R' ((wipe_rep S own).per pr b') (pre_get a' hDr) ry q2 fun ρ'' H'' a'' b'' R'' => ⟨ρ'', h1, a'.trans a'', b'.trans b'', R'', q⟩
theorem lc_rng' {own : List Nat} {lo : Int} {n : Nat} {h : CH} {s : CS} {σ : L2.St} {me : ME CV} {Q : VK} {WX' : XK} (R : Rel K B ρ H h) (S : RepS K B ρ H s σ)
    (p : Post K B (rV K B) WX' (match lcRng lo h.os.length g ta me (wipeC s own) n 0 (h.new (.lst [])) with
      | some h2 => .ok (.ref h.os.length) h2
      | none => .bad) ρ H Q) (D : Addr) (hD : H D = none) :
    ∃ Wv : Nat → Nat → Hp → Prop, (∃ m, Wv 0 m (upd H D (.lst []))) ∧ ∀ i m H, Wv i m H → ((Itr lo n).stop i H ∧ Q (.ref D) H) ∨ ((Itr lo n).go i H ∧ ∃ Nx : Hp → Prop, (∀ H', Nx H' → ∃ m', m' < m ∧ Wv (i + 1) m' H') ∧
      ∀ y H', (Itr lo n).yld i H y H' → tG K B own g y (wipe σ own) H' fun σ2 H2 => wipe σ2 own = wipe σ own ∧ tX K B (rEqual Bool) W0 ta σ2 H2 fun b H3 =>
        if b = true then tX K B (rV K B) W0 me σ2 H3 fun y H4 => ∃ acc, H4 D = some (.lst acc) ∧ acc.length < sizeLine ∧ Nx (upd H4 D (.lst (acc ++ [y]))) else Nx H3) := by
  cases qL : lcRng lo h.os.length g ta me (wipeC s own) n 0 (h.new (.lst [])) with
  | none => rw [qL] at p; exact p.elim
  | some hf =>
    rw [qL] at p
    have R1 : Rel K B (ρ ++ [D]) (upd H D (.lst [])) (h.new (.lst [])) := R.new hD ⟨[], rfl, rfl⟩
    have hDr : (ρ ++ [D])[h.os.length]? = some D := by
      rw [← R.len, List.getElem?_append_right (Nat.le_refl _), Nat.sub_self] <;> rfl
    refine ⟨fun i k H' => i + k = n ∧ ∃ ρ' h', (ρ ++ [D]) <+: ρ' ∧ Per K H H' ∧ Rel K B ρ' H' h' ∧ lcRng lo h.os.length g ta me (wipeC s own) k i h' = some hf, ⟨n, Nat.zero_add _, ρ ++ [D], h.new (.lst []), List.prefix_refl _, .new hD, R1, qL⟩, ?_⟩
    rintro i k H' ⟨hk, ρ', h', a', b', R', q⟩
    have pr : ρ <+: ρ' := (List.prefix_append _ _).trans a'
    cases k with
    | zero =>
      cases q
      exact .inl ⟨by show n ≤ i; omega, p ρ' H' (.ref D) pr b' R' ⟨D, pre_get a' hDr, rfl⟩⟩
    | succ k =>
      unfold lcRng at q
      cases q2 : lcTurn h.os.length g ta me (.int (lo + i)) (wipeC s own) h' with
      | none => rw [q2] at q; cases q
      | some h1 =>
        rw [q2] at q
        simp only at q
        refine .inr ⟨by show i < n; omega, fun H' => ∃ ρ' h', (ρ ++ [D]) <+: ρ' ∧ Per K H H' ∧ Rel K B ρ' H' h' ∧ lcRng lo h.os.length g ta me (wipeC s own) k (i + 1) h' = some hf, fun H' w => ⟨k, Nat.lt_succ_self _, by omega, w⟩, fun y H'' yy => ?_⟩
        obtain ⟨eH, ey⟩ := yy
        subst eH ey
        exact turn_core R' ((wipe_rep S own).per pr b') (pre_get a' hDr) (show RepV K B.sc ρ' H'' (.int (lo + i)) (.int (lo + i)) from rfl) q2 fun ρ'' H'' a'' b'' R'' => ⟨ρ'', h1, a'.trans a'', b'.trans b'', R'', q⟩
section
variable {elt it : Expr} {ifs : List Expr} {scope : Scope} {own : List (Str × Nat)} {me : ME CV}
abbrev Blk (X : Cx) (scope : Scope) (s : Shared) (H : Hp) (C : Addr) (cl : List (Str × Addr)) (fp : List Addr) : Cx := X.blk s H scope (compEnvC scope cl C X.env) fp
theorem tX_comp {σ : L2.St} {H : Hp} {Q : VK} {vs : List Nat} (h : tX K B (rV K B) W (eComp vs ma g ta me) σ H Q) : tLc (iAny K (tX K B (rV K B) W ma)) (tG K B vs g) (tX K B (rEqual Bool) W0 ta) (tX K B (rV K B) W0 me) vs σ H Q := by
  refine iAny_of (tX_bind (rep := rV K B) (f := fun s x h1 => match lcLoop x h1.os.length g ta me (wipeC s vs) (lenAt x h1 + 1) 0 (h1.new (.lst [])) with
    | some h2 => (.ok (CV.ref h1.os.length) h2 : Res CV)
    | none => .bad) h fun ρ1 h1 s x v H1 R S r p => ⟨ρ1, h1, s, x, R, S, r, ?_, fun J ok D hD => lc_core' ok R S r p D hD⟩)
  intro z
  have z' : itemAt x 0 (h1.new (.lst [])) = none := by
    cases x with
    | ref n =>
      have z2 : (match lstOf h1 (.ref n) with
        | some xs => some xs[0]?
        | none => none) = none := z
      show (match lstOf (h1.new (.lst [])) (.ref n) with
        | some xs => some xs[0]?
        | none => none) = none
      have e2 : lstOf h1 (.ref n) = none := by
        cases q : lstOf h1 (.ref n) with
        | none => rfl
        | some xs => rw [q] at z2; cases z2
      obtain ⟨a, ha, _⟩ := id r
      have hn : n < h1.os.length := by rw [← R.len]; exact (List.getElem?_eq_some_iff.mp ha).1
      have e3 : lstOf (h1.new (.lst [])) (.ref n) = lstOf h1 (.ref n) := by
        show (match (h1.os ++ [CO.lst []])[n]? with
          | some (.lst xs) => some xs
          | _ => none) = (match h1.os[n]? with
          | some (.lst xs) => some xs
          | _ => none)
        rw [List.getElem?_append_left hn]
      rw [e3, e2]
    | scr => exact z
    | tup xs => exact z
    | str s => exact z
    | non => rfl
    | bl b => rfl
    | int i => rfl
  have p' : Post K B (rV K B) (fun c d H' => W c d σ H') (match lcLoop x h1.os.length g ta me (wipeC s vs) (lenAt x h1 + 1) 0 (h1.new (.lst [])) with
    | some h2 => .ok (.ref h1.os.length) h2
    | none => .bad) ρ1 H1 Q := p
  unfold lcLoop at p'
  rw [z'] at p'
  exact p'.elim
theorem se_comp (hc : X.calm = true) (hN : X.N.Nodup) (ha : SE X B W it ma) (ok : BlkOk X.N X.env.scope scope own) (hg : ∀ (s : Shared) (H : Hp) (C : Addr) (cl : List (Str × Addr)) (fp : List Addr), SG (Blk X scope s H C cl fp) B (own.map (·.2)) tg g)
    (ht : ∀ (s : Shared) (H : Hp) (C : Addr) (cl : List (Str × Addr)) (fp : List Addr), STs (Blk X scope s H C cl fp) B W0 ifs ta) (he : ∀ (s : Shared) (H : Hp) (C : Addr) (cl : List (Str × Addr)) (fp : List Addr), SE (Blk X scope s H C cl fp) B W0 elt me)
    (hs : ∀ x, foldedSetIterable it X.env x = pure x := by intro _; rfl) : SE X B W (.ListComp elt [⟨tg, it, ifs, 0⟩] scope pos) (eComp (own.map (·.2)) ma g ta me) :=
  PE.imp (pe_lc hc hN (pi_any ha) ok hg ht he hs) fun σ H Q h => tX_comp h
theorem ss_setComp {i : Nat} {y : Str} {py spos : Pos} (hc : X.calm = true) (hN : X.N.Nodup) (hyl : X.env.scope.names.lookup y = some .local) (hsw : swapsWith (.ListComp elt [⟨tg, it, ifs, 0⟩] scope pos) (some (.Name y py)) spos.line X.env = pure true) (ha : SE X B W it ma) (ok : BlkOk X.N X.env.scope scope own)
    (hg : ∀ (s : Shared) (H : Hp) (C : Addr) (cl : List (Str × Addr)) (fp : List Addr), SG (Blk X scope s H C cl fp) B (own.map (·.2)) tg g)
    (ht : ∀ (s : Shared) (H : Hp) (C : Addr) (cl : List (Str × Addr)) (fp : List Addr), STs (Blk X scope s H C cl fp) B W0 ifs ta) (he : ∀ (s : Shared) (H : Hp) (C : Addr) (cl : List (Str × Addr)) (fp : List Addr), SE (Blk X scope s H C cl fp) B W0 elt me)
    (hy : X.N[i]? = some y := by rfl) (hs : ∀ x, foldedSetIterable it X.env x = pure x := by intro _; rfl) : SS X B W (.Assign [.Name y py] (.ListComp elt [⟨tg, it, ifs, 0⟩] scope pos) spos) (sSet i (eComp (own.map (·.2)) ma g ta me)) :=
  PS.imp (ps_setLc hc hN hy hyl hsw (pi_any ha) ok hg ht he hs) fun D σ H h => by
  exact tX_comp (tS_bind (rep := rV X.K B) (f := fun s x h1 => .nx (s.set i (some x)) h1) h fun ρ1 h1 s c v H1 R S r p => p.nx R (S.set r))
theorem tX_compR {σ : L2.St} {H : Hp} {Q : VK} {vs : List Nat} (h : tX K B (rV K B) W (eCompR vs ma g ta me) σ H Q) : tLc (iRng1 (tCons (tX K B (rV K B) W ma) tNil)) (tG K B vs g) (tX K B (rEqual Bool) W0 ta) (tX K B (rV K B) W0 me) vs σ H Q := by
  refine tX_bind (rep := rV K B) (f := fun s x h1 => match x with
    | .int j => if -B62 ≤ j ∧ j < B62 then (match lcRng 0 h1.os.length g ta me (wipeC s vs) j.toNat 0 (h1.new (.lst [])) with
      | some h2 => (.ok (CV.ref h1.os.length) h2 : Res CV)
      | none => .bad) else .bad
    | _ => .bad) h fun ρ1 h1 s x v H1 R S r p => ?_
  cases x with
  | int j =>
    have ev : v = .int j := r
    subst ev
    simp only at p
    by_cases hl : -B62 ≤ j ∧ j < B62
    · rw [if_pos hl] at p
      exact ⟨j, rfl, by rw [b62]; exact hl.1, by rw [b62]; exact hl.2, fun D hD => lc_rng' R S p D hD⟩
    · rw [if_neg hl] at p; exact p.elim
  | _ => exact p.elim
theorem se_compR {p2 p3 : Pos} (hc : X.calm = true) (hN : X.N.Nodup) (hgr : Gl X "range") (hm : X.mg "range" = none) (ha : SE X B W a ma) (ok : BlkOk X.N X.env.scope scope own) (hg : ∀ (s : Shared) (H : Hp) (C : Addr) (cl : List (Str × Addr)) (fp : List Addr), SG (Blk X scope s H C cl fp) B (own.map (·.2)) tg g)
    (ht : ∀ (s : Shared) (H : Hp) (C : Addr) (cl : List (Str × Addr)) (fp : List Addr), STs (Blk X scope s H C cl fp) B W0 ifs ta) (he : ∀ (s : Shared) (H : Hp) (C : Addr) (cl : List (Str × Addr)) (fp : List Addr), SE (Blk X scope s H C cl fp) B W0 elt me)
    (hse : starEach [a] X.env = [(false, eval a X.env)] := by rfl) (hs : ∀ x, foldedSetIterable (.Call (.Name "range" p2) [a] [] p3) X.env x = pure x := by intro _; rfl) : SE X B W (.ListComp elt [⟨tg, .Call (.Name "range" p2) [a] [] p3, ifs, 0⟩] scope pos) (eCompR (own.map (·.2)) ma g ta me) :=
  PE.imp (pe_lc hc hN (pi_range1 hgr hm (pa_cons ha pa_nil hse) hse) ok hg ht he hs) fun σ H Q h => tX_compR h
theorem ss_setCompR {i : Nat} {y : Str} {py spos p2 p3 : Pos} (hc : X.calm = true) (hN : X.N.Nodup) (hyl : X.env.scope.names.lookup y = some .local) (hsw : swapsWith (.ListComp elt [⟨tg, .Call (.Name "range" p2) [a] [] p3, ifs, 0⟩] scope pos) (some (.Name y py)) spos.line X.env = pure true) (hgr : Gl X "range") (hm : X.mg "range" = none) (ha : SE X B W a ma) (ok : BlkOk X.N X.env.scope scope own)
    (hg : ∀ (s : Shared) (H : Hp) (C : Addr) (cl : List (Str × Addr)) (fp : List Addr), SG (Blk X scope s H C cl fp) B (own.map (·.2)) tg g)
    (ht : ∀ (s : Shared) (H : Hp) (C : Addr) (cl : List (Str × Addr)) (fp : List Addr), STs (Blk X scope s H C cl fp) B W0 ifs ta) (he : ∀ (s : Shared) (H : Hp) (C : Addr) (cl : List (Str × Addr)) (fp : List Addr), SE (Blk X scope s H C cl fp) B W0 elt me)
    (hy : X.N[i]? = some y := by rfl) (hse : starEach [a] X.env = [(false, eval a X.env)] := by rfl) (hs : ∀ x, foldedSetIterable (.Call (.Name "range" p2) [a] [] p3) X.env x = pure x := by intro _; rfl) : SS X B W (.Assign [.Name y py] (.ListComp elt [⟨tg, .Call (.Name "range" p2) [a] [] p3, ifs, 0⟩] scope pos) spos) (sSet i (eCompR (own.map (·.2)) ma g ta me)) :=
  PS.imp (ps_setLc hc hN hy hyl hsw (pi_range1 hgr hm (pa_cons ha pa_nil hse) hse) ok hg ht he hs) fun D σ H h => by
  exact tX_compR (tS_bind (rep := rV X.K B) (f := fun s x h1 => .nx (s.set i (some x)) h1) h fun ρ1 h1 s c v H1 R S r p => p.nx R (S.set r))
end
end

def spM (K : PySem.W.Frag) (B : Bs) (m : Def) : Sp := fun vs H Q E => ∃ ρ h cs, Rel K B ρ H h ∧ RepVs K B.sc ρ H cs vs ∧ Post K B (rV K B) E (m cs h) ρ H Q
theorem start_rep {K : PySem.W.Frag} {B : Bs} {ρ : List Addr} {H : Hp} {N : List Str} : ∀ {cs : List CV} {vs : List V}, RepVs K B.sc ρ H cs vs → RepS K B ρ H (cs.map some ++ List.replicate (N.length - cs.length) none) (L2.start N vs) := fun {cs vs} r => by
  unfold L2.start
  rw [r.len]
  refine ⟨by rw [List.length_append, List.length_append, List.length_map, List.length_map, List.length_replicate, List.length_replicate, r.len], fun i c e => ?_⟩
  by_cases hi : i < cs.length
  · rw [List.getElem?_append_left (by rw [List.length_map]; exact hi), List.getElem?_map] at e
    cases q : cs[i]? with
    | none => rw [q] at e; cases e
    | some d =>
      rw [q] at e
      cases e
      obtain ⟨v, hv, rv⟩ := r.get q
      exact ⟨v, by rw [List.getElem?_append_left (by rw [List.length_map, r.len]; exact hi), List.getElem?_map, hv] <;> rfl, rv⟩
  · rw [List.getElem?_append_right (by rw [List.length_map]; omega)] at e
    obtain ⟨_, e2⟩ := List.getElem?_eq_some_iff.mp e
    rw [List.getElem_replicate] at e2
    cases e2
section
variable {P : Program} {w : World} {K : PySem.W.Frag} {B : Bs} {mg : Str → Option Value} {base : Heap} {x qual : Str} {params : Arguments} {body : List Stmt} {scope : Scope} {dvs : List V} {kws : List (Str × V)} {f : Addr} {fd : FuncData} {N ps : List Str} {k : Nat}
abbrev WB (E : XK) : WX := fun c d _ H' => E c d H'
theorem runD_len {n k : Nat} {b : MS} {cs : List CV} {h : CH} {ρ : List Addr} {H : Hp} {Q : VK} {E : XK} (p : Post K B (rV K B) E (runD n k b cs h) ρ H Q) : cs.length = k := by
  unfold runD at p
  by_cases hl : cs.length = k
  · exact hl
  · rw [if_neg hl] at p; exact p.elim
theorem def_ok (F : FunD K x qual params body scope dvs kws f fd) (S : FnScope N ps scope) (b : MS) {nN nP : Nat} (eN : N.length = nN) (eP : ps.length = nP)
    (hb : ∀ (cdv : Value) (A : Around) (outer : List Env) (s : Shared) (H : Hp) (E : XK), Room k (A.deeper (envOfC qual scope s.heap.objs.size f cdv)) →
      SSs (cxOf (L2.CX P w) P w K mg base N qual scope f cdv A outer s H E) B (WB E) body b) : FnOk P w K mg base (L2.CX P w) (k + 1) f fd ps (spM K B (runD nN nP b)) := by
  subst eN eP
  refine F.ok S (fun vs H Q E h => ?_) fun cdv A outer s H vs Q E hr h => ⟨_, hb cdv A outer s H E hr, ?_⟩
  · obtain ⟨ρ, h0, cs, R, r, p⟩ := h
    rw [r.len, runD_len p]
  · obtain ⟨ρ, h0, cs, R, r, p⟩ := h
    have hl := runD_len p
    refine ⟨ρ, h0, _, R, start_rep r, ?_⟩
    unfold runD at p
    rw [if_pos hl] at p
    cases q : b (cs.map some ++ List.replicate (N.length - cs.length) none) h0 with
    | nx s1 h1 => rw [q] at p; exact fun ρ' H' σ' a b R' S' => p ρ' H' .non a b R' rfl
    | rt v h1 => rw [q] at p; exact fun ρ' H' u a b R' r' => p ρ' H' u a b R' r'
    | ex c d s1 h1 => rw [q] at p; exact fun ρ' H' σ' dx a b R' S' x => p ρ' H' dx a b R' x
    | bk s1 h1 => rw [q] at p; exact p.elim
    | ct s1 h1 => rw [q] at p; exact p.elim
    | bad => rw [q] at p; exact p.elim
end
section
variable {X : Cx} {B : Bs} {W : WX} {e o : Expr} {es : List Expr} {ms : ME (List CV)} {pos p : Pos} {k n : Nat} {f : Addr} {fd : FuncData} {ps : List Str} {x : Str} {m : Def}
theorem spM_of {K : PySem.W.Frag} {ρ : List Addr} {H : Hp} {h : CH} {cs : List CV} {vs : List V} {Q : VK} {E : XK} (R : Rel K B ρ H h) (r : RepVs K B.sc ρ H cs vs) (p : Post K B (rV K B) E (m cs h) ρ H Q) : spM K B m vs H Q E := ⟨ρ, h, cs, R, r, p⟩
theorem se_call (F : FnOk X.prog X.w X.K X.mg X.base (L2.CX X.prog X.w) k f fd ps (spM X.K B m)) (hr : Room k X.A) (hg : Gl X x) (hm : X.mg x = some (.ref f)) (hk : PySem.W.keepIn X.K (.ref f) = true) (hb : Binds X.K fd ps []) (tk : Takes X W) (ha : SA X B W (e :: es) ms)
    (hdb : (x == ("__debug__" : Str)) = false := by decide +kernel) (he : starEach (e :: es) X.env = (false, eval e X.env) :: starEach es X.env := by rfl) (hpl : (backTo pos (starEach es X.env)).any (·.1) = false := by rfl) : SE X B W (.Call (.Name x p) (e :: es) [] pos) (eCall m ms) :=
  PE.imp (pe_callS F hr hg hm hk hb (fun σ => passAt tk σ) ha hdb he hpl) fun σ H Q h =>
    tX_bind (rep := rVs X.K B) (f := fun _ => m) h fun ρ1 h1 s a v H1 R1 S1 r1 p1 => spM_of R1 r1 p1
theorem se_call0 (F : FnOk X.prog X.w X.K X.mg X.base (L2.CX X.prog X.w) k f fd ps (spM X.K B m)) (hr : Room k X.A) (hg : Gl X x) (hm : X.mg x = some (.ref f)) (hk : PySem.W.keepIn X.K (.ref f) = true) (hb : Binds X.K fd ps []) (tk : Takes X W)
    (hdb : (x == ("__debug__" : Str)) = false := by decide +kernel) : SE X B W (.Call (.Name x p) [] [] pos) (eCall m aNil) := by
  refine ⟨fun pins s σ H Q I h => ?_⟩
  obtain ⟨ρ, h0, s0, R, S, q⟩ := h
  refine wpAny_Call_Name_kw (ld_glob I hg hm ?_ hdb)
  exact PySem.W.callWith_K0 I.kIn hk (run_fnS (us := []) (vs := []) (E := WE W) F hr hb (passAt tk σ) I .nil (spM_of R (show RepVs X.K B.sc ρ H [] [] from rfl) q))
end
end Cn
namespace Cn
open PySem PySem.Spec PyProof.Rows L2
section
variable {X : Cx} {B : Bs} {W : WX} {pos : Pos}
theorem se_gstr {x z : Str} (l : List Nat) (hg : Gl X x) (hm : ∃ t, X.mg x = some (.str z t)) (h : (decide (z = ⟨l.toArray⟩) && l.all fun c => decide (c < 1114112)) = true := by decide +kernel) (hd : (x == ("__debug__" : Str)) = false := by decide +kernel) : SE X B W (.Name x pos) (eC (.str l)) := by
  obtain ⟨t, hm⟩ := hm
  obtain ⟨h1, h2⟩ := Bool.and_eq_true_iff.mp h
  exact se_glob (v := .str z) hg hm ⟨t, rfl⟩ (fun _ _ => ⟨congrArg V.str (of_decide_eq_true h1), fun c hc => of_decide_eq_true (List.all_eq_true.mp h2 c hc)⟩) hd
theorem se_gint {x : Str} {i : Int} (hg : Gl X x) (hm : ∃ t, X.mg x = some (.int i t)) (hd : (x == ("__debug__" : Str)) = false := by decide +kernel) : SE X B W (.Name x pos) (eC (.int i)) := by
  obtain ⟨t, hm⟩ := hm
  exact se_glob (v := .int i) hg hm ⟨t, rfl⟩ (fun _ _ => rfl) hd
end
def Okd (P : Program) (w : World) (K : PySem.W.Frag) (mg : Str → Option Value) (base : Heap) (B : Bs) (k : Nat) (f : Addr) (ps : List Str) (m : Def) : Prop :=
  ∃ fd, FnOk P w K mg base (L2.CX P w) k f fd ps (spM K B m) ∧ Binds K fd ps [] ∧ PySem.W.keepIn K (.ref f) = true
section
variable {X : Cx} {B : Bs} {W : WX} {e o : Expr} {es : List Expr} {ms : ME (List CV)} {pos p : Pos} {k n : Nat} {f : Addr} {ps : List Str} {x : Str} {m : Def}
theorem se_cd (F : Okd X.prog X.w X.K X.mg X.base B k f ps m) (hr : Room k X.A) (hg : Gl X x) (hm : X.mg x = some (.ref f)) (tk : Takes X W) (ha : SA X B W (e :: es) ms)
    (hdb : (x == ("__debug__" : Str)) = false := by decide +kernel) (he : starEach (e :: es) X.env = (false, eval e X.env) :: starEach es X.env := by rfl) (hpl : (backTo pos (starEach es X.env)).any (·.1) = false := by rfl) : SE X B W (.Call (.Name x p) (e :: es) [] pos) (eCall m ms) := by
  obtain ⟨fd, F1, F2, F3⟩ := F
  exact se_call F1 hr hg hm F3 F2 tk ha hdb he hpl
theorem se_cd0 (F : Okd X.prog X.w X.K X.mg X.base B k f ps m) (hr : Room k X.A) (hg : Gl X x) (hm : X.mg x = some (.ref f)) (tk : Takes X W)
    (hdb : (x == ("__debug__" : Str)) = false := by decide +kernel) : SE X B W (.Call (.Name x p) [] [] pos) (eCall m aNil) := by
  obtain ⟨fd, F1, F2, F3⟩ := F
  exact se_call0 F1 hr hg hm F3 F2 tk hdb
end
end Cn
set_option Elab.async false
set_option linter.all false
set_option maxRecDepth 100000
set_option maxHeartbeats 4000000
namespace Cn
open PySem PySem.Spec PyProof.Rows L2
theorem idx_of {c : Nat} : ∀ {a : List Nat} {i : Nat}, a[i]? = some c → (∀ k, k < i → ¬ a[k]? = some c) → a.idxOf c = i
  | [], i, h, _ => by cases h
  | x :: r, 0, h, _ => by
    have e : x = c := by simpa using h
    subst e
    simp
  | x :: r, i + 1, h, hk => by
    have h0 : ¬ x = c := fun e => hk 0 (Nat.succ_pos _) (by simp [e])
    have ih := idx_of (a := r) (i := i) (by simpa using h) fun k hlt => by
      have := hk (k + 1) (Nat.succ_lt_succ hlt)
      simpa using this
    rw [List.idxOf_cons, ih]
    have : (x == c) = false := beq_eq_false_iff_ne.mpr h0
    rw [this] <;> rfl
section
variable {B : Bs} {K : PySem.W.Frag}
theorem v_index : VMeth K B 3 indexV (fun x xs H Q => ∃ a b i rest, x = .str a ∧ xs = [.str b] ∧ Builtin.Str.occurrences a b 0 a.length 1 = i :: rest ∧ Q (.int (i : Nat)) H) := by
  intro ρ H h c cs v vs W Q R r rs p
  unfold indexV at p
  split at p
  · rename_i a c' e
    injection e with e1 e2
    subst e1 e2
    obtain ⟨w, ew, rw'⟩ := one_rep rs
    have ev := r.1
    have ew2 := rw'.1
    subst ev ew ew2
    by_cases hl : a.length ≤ LINE ∧ c' ∈ a
    · rw [if_pos hl] at p
      rcases StrLaws.occ_head (⟨a.toArray⟩ : Str) ⟨#[c']⟩ 1 (Nat.le_refl 1) with ⟨h0, hn⟩ | ⟨i, rest, h0, hi, hn⟩
      · obtain ⟨j, hj⟩ := List.mem_iff_getElem?.mp hl.2
        exact absurd ((StrLaws.subAt_one (⟨a.toArray⟩ : Str) c' j).mpr hj) (hn j)
      · refine ⟨_, _, i, rest, rfl, rfl, h0, ?_⟩
        have e1 : a[i]? = some c' := (StrLaws.subAt_one (⟨a.toArray⟩ : Str) c' i).mp hi
        have e2 : a.idxOf c' = i := idx_of e1 fun k hk z => hn k hk ((StrLaws.subAt_one (⟨a.toArray⟩ : Str) c' k).mpr z)
        rw [e2] at p
        exact p.ok R rfl
    · rw [if_neg hl] at p; exact p.elim
  · exact p.elim
end
end Cn
set_option Elab.async false
set_option linter.all false
set_option maxRecDepth 100000
set_option maxHeartbeats 4000000
namespace Cn
open PySem PySem.Spec PyProof.Rows L2
section
variable {P : Program} {w : World} {K : PySem.W.Frag} {mg : Str → Option Value} {base : Heap} {k : Nat} {f : Addr} {fd : FuncData} {x : Str} {m : Def} {ca : Nat → Addr} {an : List Str}
def spLaw (K : PySem.W.Frag) (ca : Nat → Addr) (an : List Str) (m : Def) : Sp := fun vs H Q _ => ∃ ns, spM K ⟨ca, an, ns⟩ m vs H Q fun _ _ _ => False
theorem law_ok (F : ∀ ns, FnOk P w K mg base (L2.CX P w) k f fd [x] (spM K ⟨ca, an, ns⟩ m)) : FnOk P w K mg base CX0 k f fd [x] (spLaw K ca an m) := by
  refine ⟨fun vs H Q E h => ?_, fun A outer s H args us vs Q E hr e hb hv h => ?_⟩
  · obtain ⟨ns, h⟩ := h
    exact (F ns).len _ _ _ _ h
  · obtain ⟨ns, h⟩ := h
    refine codeAny_mono ((F ns).run A outer s H args us vs Q _ hr e hb hv h) fun r s' z => ?_
    cases r with
    | ok fl => cases fl <;> exact z
    | error u =>
      obtain ⟨a, G, H', cls, d, _, _, _, _, _, _, _, z⟩ := z
      exact z.elim
theorem only_scr {H : Hp} {a : Addr} {xs : List V} (o : Only H) (h : SqL K H a xs) : ScrAt K H a xs := by
  rcases h with (h | h) | h
  · rcases o a with e | ⟨ob, ys, e⟩
    · rw [h] at e; cases e
    · rw [h] at e; cases e
  · obtain ⟨ob, h⟩ := h
    exact .inl ⟨ob, h⟩
  · exact .inr h
theorem sp_law {n : Nat} (hm : ∀ ns : List Int, ns.length ≤ n → ∃ h, m [.scr] ⟨ns, []⟩ = .ok (.bl true) h) (H : Hp) (a : Addr) (ns : List Int) (hl : ns.length ≤ n) (hO : Only H) (hS : SqL K H a (ns.map V.int)) :
    spLaw K ca an m [.ref a] H (fun v _ => v = .bl true) fun _ _ _ => False := by
  obtain ⟨h, e⟩ := hm ns hl
  refine ⟨ns, [], ⟨ns, []⟩, [.scr], ⟨rfl, rfl, List.nodup_nil, fun i o q => ?_⟩, ⟨_, _, rfl, ⟨a, rfl, only_scr hO hS⟩, rfl⟩, ?_⟩
  · simp at q
  · rw [e]
    intro ρ' H' v _ _ _ r
    exact r
end
end Cn
set_option Elab.async false
set_option maxRecDepth 100000
namespace Mir
open Cn
def m_made_of : Def := runD 3 2 (
    sSeq (sIf (Cn.tNot (tV (eChain leV leV (eC (.int 1)) (eCall lenV (aCons (eVar 0) (aNil))) (eC (.int 16))))) (sRet (eC (.bl false)))
    (sNil))
    (sSeq (sFor (eVar 0) (gSet 2)
    (sIf (tV (e2 ninV (eVar 2) (eVar 1))) (sRet (eC (.bl false)))
    (sNil)))
    (sRet (eC (.bl true)))))
def m_is_name : Def := runD 1 1 (
    sRet (eAnd (eCall m_made_of (aCons (eVar 0) (aCons (e2 addV (eC (.str [97, 98, 99, 100, 101, 102, 103, 104, 105, 106, 107, 108, 109, 110, 111, 112, 113, 114, 115, 116, 117, 118, 119, 120, 121, 122])) (eC (.str [48, 49, 50, 51, 52, 53, 54, 55, 56, 57]))) (aNil)))) (e2 Cn.inV (e2 ixV (eVar 0) (eC (.int 0))) (eC (.str [97, 98, 99, 100, 101, 102, 103, 104, 105, 106, 107, 108, 109, 110, 111, 112, 113, 114, 115, 116, 117, 118, 119, 120, 121, 122])))))
def m_is_tag : Def := runD 1 1 (
    sRet (eCall m_made_of (aCons (eVar 0) (aCons (e2 addV (e2 addV (eC (.str [97, 98, 99, 100, 101, 102, 103, 104, 105, 106, 107, 108, 109, 110, 111, 112, 113, 114, 115, 116, 117, 118, 119, 120, 121, 122])) (eC (.str [65, 66, 67, 68, 69, 70, 71, 72, 73, 74, 75, 76, 77, 78, 79, 80, 81, 82, 83, 84, 85, 86, 87, 88, 89, 90]))) (eC (.str [48, 49, 50, 51, 52, 53, 54, 55, 56, 57]))) (aNil)))))
def m_read_number : Def := runD 4 2 (
    sSeq (sIf (Cn.tOr (Cn.tNot (tV (eChain leV leV (eC (.int 1)) (eCall lenV (aCons (eVar 0) (aNil))) (eC (.int 9))))) (Cn.tAnd (tV (e2 Cn.eqV (e2 ixV (eVar 0) (eC (.int 0))) (eC (.str [48])))) (tV (e2 gtV (eCall lenV (aCons (eVar 0) (aNil))) (eC (.int 1)))))) (sRet (eC .non))
    (sNil))
    (sSeq (sFor (eVar 0) (gSet 2)
    (sIf (tV (e2 ninV (eVar 2) (eC (.str [48, 49, 50, 51, 52, 53, 54, 55, 56, 57])))) (sRet (eC .non))
    (sNil)))
    (sSeq (sSet 3 (eCall intV (aCons (eVar 0) (aNil))))
    (sSeq (sIf (tV (e2 gtV (eVar 3) (eVar 1))) (sRet (eC .non))
    (sNil))
    (sRet (eVar 3))))))
def m_split_address : Def := runD 4 1 (
    sSeq (sAsg (eBM 3 partitionV (eVar 0) (aCons (eC (.str [64])) (aNil))) (Cn.gTup 3 (gsCons (gSet 1) (gsCons (gSet 2) (gsCons (gSet 3) (gsNil))))))
    (sSeq (sIf (Cn.tOr (tV (e2 Cn.eqV (eVar 2) (eC (.str [])))) (Cn.tOr (Cn.tNot (tV (eCall m_is_name (aCons (eVar 1) (aNil))))) (Cn.tNot (tV (eCall m_is_name (aCons (eVar 3) (aNil))))))) (sRet (eC .non))
    (sNil))
    (sRet (eTup (aCons (eVar 1) (aCons (eVar 3) (aNil)))))))
def m_is_address : Def := runD 1 1 (
    sRet (e1 notNV (eCall m_split_address (aCons (eVar 0) (aNil)))))
abbrev m_law_state : Def := Dw.m_law_state
abbrev m_law_draw : Def := Dw.m_law_draw
abbrev m_law_pick : Def := Dw.m_law_pick
def m_law_chars : Def := runD 0 0 (
    sRet (eC (.str [32, 33, 34, 35, 36, 38, 39, 40, 41, 42, 43, 44, 45, 46, 47, 48, 49, 50, 51, 52, 53, 54, 55, 56, 57, 58, 59, 60, 61, 62, 63, 64, 65, 66, 67, 68, 69, 70, 71, 72, 73, 74, 75, 76, 77, 78, 79, 80, 81, 82, 83, 84, 85, 86, 87, 88, 89, 90, 91, 92, 93, 94, 95, 96, 97, 98, 99, 100, 101, 102, 103, 104, 105, 106, 107, 108, 109, 110, 111, 112, 113, 114, 115, 116, 117, 118, 119, 120, 121, 122, 123, 124, 125, 126])))
def m_law_word : Def := runD 4 3 (
    sRet (eBM 3 joinV (eC (.str [])) (aCons (eCompR [3] (eVar 2) (gSet 3) (Cn.tYes) (eCall m_law_pick (aCons (eVar 0) (aCons (eVar 1) (aNil))))) (aNil))))
def m_law_name : Def := runD 2 1 (
    sSeq (sSet 1 (eC (.str [97, 98, 99, 100, 101, 102, 103, 104, 105, 106, 107, 108, 109, 110, 111, 112, 113, 114, 115, 116, 117, 118, 119, 120, 121, 122])))
    (sRet (e2 addV (eCall m_law_pick (aCons (eVar 0) (aCons (eVar 1) (aNil)))) (eCall m_law_word (aCons (eVar 0) (aCons (e2 addV (eVar 1) (eC (.str [48, 49, 50, 51, 52, 53, 54, 55, 56, 57]))) (aCons (eCall m_law_draw (aCons (eVar 0) (aCons (eC (.int 17)) (aNil)))) (aNil))))))))
def m_law_base : Def := runD 2 1 (
    sSeq (sSet 1 (eCall m_law_draw (aCons (eVar 0) (aCons (eC (.int 6)) (aNil)))))
    (sSeq (sIf (tV (e2 ltV (eVar 1) (eC (.int 2)))) (sRet (eCall m_law_name (aCons (eVar 0) (aNil))))
    (sNil))
    (sSeq (sIf (tV (e2 Cn.eqV (eVar 1) (eC (.int 2)))) (sRet (e2 addV (e2 addV (eCall m_law_name (aCons (eVar 0) (aNil))) (eC (.str [64]))) (eCall m_law_name (aCons (eVar 0) (aNil)))))
    (sNil))
    (sSeq (sIf (tV (e2 Cn.eqV (eVar 1) (eC (.int 3)))) (sRet (eCall strV (aCons (eCall m_law_pick (aCons (eVar 0) (aCons (eLst (aCons (eC (.int 0)) (aCons (eC (.int 9)) (aCons (eC (.int 10)) (aCons (eC (.int 999999999)) (aCons (eC (.int 1000000000)) (aCons (eCall m_law_draw (aCons (eVar 0) (aCons (eC (.int 100000)) (aNil)))) (aNil)))))))) (aNil)))) (aNil))))
    (sNil))
    (sSeq (sIf (tV (e2 Cn.eqV (eVar 1) (eC (.int 4)))) (sRet (eCall m_law_word (aCons (eVar 0) (aCons (eC (.str [97, 98, 122, 65, 90, 48, 49, 57])) (aCons (eCall m_law_draw (aCons (eVar 0) (aCons (eC (.int 18)) (aNil)))) (aNil))))))
    (sNil))
    (sRet (eCall m_law_word (aCons (eVar 0) (aCons (eCall m_law_chars aNil) (aCons (eCall m_law_draw (aCons (eVar 0) (aCons (eC (.int 6)) (aNil)))) (aNil)))))))))))
def m_law_changed : Def := runD 4 2 (
    sSeq (sSet 2 (eCall m_law_draw (aCons (eVar 0) (aCons (e2 addV (eCall lenV (aCons (eVar 1) (aNil))) (eC (.int 1))) (aNil)))))
    (sSeq (sSet 3 (eCall m_law_draw (aCons (eVar 0) (aCons (eC (.int 5)) (aNil)))))
    (sSeq (sIf (tV (e2 Cn.eqV (eVar 3) (eC (.int 0)))) (sRet (e2 addV (e2 addV (eSlice (eVar 1) oNone (oSome (eVar 2))) (eCall m_law_pick (aCons (eVar 0) (aCons (eCall m_law_chars aNil) (aNil))))) (eSlice (eVar 1) (oSome (eVar 2)) oNone)))
    (sNil))
    (sSeq (sIf (tV (e2 Cn.eqV (eVar 3) (eC (.int 1)))) (sRet (e2 addV (eSlice (eVar 1) oNone (oSome (eVar 2))) (eSlice (eVar 1) (oSome (e2 addV (eVar 2) (eC (.int 1)))) oNone)))
    (sNil))
    (sSeq (sIf (tV (e2 Cn.eqV (eVar 3) (eC (.int 2)))) (sRet (e2 addV (e2 addV (eSlice (eVar 1) oNone (oSome (eVar 2))) (eCall m_law_pick (aCons (eVar 0) (aCons (eCall m_law_chars aNil) (aNil))))) (eSlice (eVar 1) (oSome (e2 addV (eVar 2) (eC (.int 1)))) oNone)))
    (sNil))
    (sRet (eVar 1)))))))
def m_law_only : Def := runD 3 2 (
    sSeq (sFor (eVar 0) (gSet 2)
    (sIf (tV (e2 ninV (eVar 2) (eVar 1))) (sRet (eC (.bl false)))
    (sNil)))
    (sRet (eC (.bl true))))
def m_law_same : Def := runD 2 2 (
    sRet (eAnd (e1 (isiV 1) (eVar 0)) (e2 Cn.eqV (eVar 0) (eVar 1))))
def m_law_is_name : Def := runD 2 1 (
    sSeq (sSet 1 (eC (.str [97, 98, 99, 100, 101, 102, 103, 104, 105, 106, 107, 108, 109, 110, 111, 112, 113, 114, 115, 116, 117, 118, 119, 120, 121, 122])))
    (sRet (eAnd (eChain leV leV (eC (.int 1)) (eCall lenV (aCons (eVar 0) (aNil))) (eC (.int 16))) (eAnd (eCall m_law_only (aCons (eVar 0) (aCons (e2 addV (eVar 1) (eC (.str [48, 49, 50, 51, 52, 53, 54, 55, 56, 57]))) (aNil)))) (e2 Cn.inV (e2 ixV (eVar 0) (eC (.int 0))) (eVar 1))))))
def m_law_is_tag : Def := runD 2 1 (
    sSeq (sSet 1 (eC (.str [97, 98, 99, 100, 101, 102, 103, 104, 105, 106, 107, 108, 109, 110, 111, 112, 113, 114, 115, 116, 117, 118, 119, 120, 121, 122, 65, 66, 67, 68, 69, 70, 71, 72, 73, 74, 75, 76, 77, 78, 79, 80, 81, 82, 83, 84, 85, 86, 87, 88, 89, 90, 48, 49, 50, 51, 52, 53, 54, 55, 56, 57])))
    (sRet (eAnd (eChain leV leV (eC (.int 1)) (eCall lenV (aCons (eVar 0) (aNil))) (eC (.int 16))) (eCall m_law_only (aCons (eVar 0) (aCons (eVar 1) (aNil)))))))
def m_law_number : Def := runD 4 2 (
    sSeq (sIf (Cn.tOr (Cn.tNot (tV (eChain leV leV (eC (.int 1)) (eCall lenV (aCons (eVar 0) (aNil))) (eC (.int 9))))) (Cn.tOr (Cn.tNot (tV (eCall m_law_only (aCons (eVar 0) (aCons (eC (.str [48, 49, 50, 51, 52, 53, 54, 55, 56, 57])) (aNil)))))) (Cn.tAnd (tV (e2 neV (eVar 0) (eC (.str [48])))) (tV (e2 Cn.eqV (e2 ixV (eVar 0) (eC (.int 0))) (eC (.str [48]))))))) (sRet (eC .non))
    (sNil))
    (sSeq (sSet 2 (eC (.int 0)))
    (sSeq (sFor (eVar 0) (gSet 3)
    (sSet 2 (e2 addV (e2 mulV (eVar 2) (eC (.int 10))) (eBM 3 indexV (eC (.str [48, 49, 50, 51, 52, 53, 54, 55, 56, 57])) (aCons (eVar 3) (aNil))))))
    (sSeq (sIf (tV (e2 gtV (eVar 2) (eVar 1))) (sRet (eC .non))
    (sNil))
    (sRet (eVar 2))))))
def m_law_split : Def := runD 2 1 (
    sSeq (sIf (tV (e2 ninV (eC (.str [64])) (eVar 0))) (sRet (eC .non))
    (sNil))
    (sSeq (sSet 1 (eBM 3 indexV (eVar 0) (aCons (eC (.str [64])) (aNil))))
    (sSeq (sIf (Cn.tOr (Cn.tNot (tV (eCall m_law_is_name (aCons (eSlice (eVar 0) oNone (oSome (eVar 1))) (aNil))))) (Cn.tNot (tV (eCall m_law_is_name (aCons (eSlice (eVar 0) (oSome (e2 addV (eVar 1) (eC (.int 1)))) oNone) (aNil)))))) (sRet (eC .non))
    (sNil))
    (sRet (eTup (aCons (eSlice (eVar 0) oNone (oSome (eVar 1))) (aCons (eSlice (eVar 0) (oSome (e2 addV (eVar 1) (eC (.int 1)))) oNone) (aNil))))))))
def m_law : Def := runD 7 1 (
    sSeq (sSet 1 (eCall m_law_state (aCons (eVar 0) (aNil))))
    (sSeq (sForR1 (e2 addV (eC (.int 3)) (eCall lenV (aCons (eSlice (eVar 0) oNone (oSome (eC (.int 60)))) (aNil)))) (gSet 2)
    (sSeq (sSet 3 (eCall m_law_changed (aCons (eVar 1) (aCons (eCall m_law_base (aCons (eVar 1) (aNil))) (aNil)))))
    (sSeq (sSet 4 (eCall m_law_pick (aCons (eVar 1) (aCons (eLst (aCons (eC (.int 0)) (aCons (eC (.int 9)) (aCons (eC (.int 99)) (aCons (eC (.int 65535)) (aCons (eC (.int 999999999)) (aCons (eCall m_law_draw (aCons (eVar 1) (aCons (eC (.int 1000000)) (aNil)))) (aNil)))))))) (aNil)))))
    (sSeq (sIf (Cn.tOr (Cn.tNot (tV (eCall m_law_same (aCons (eCall m_is_name (aCons (eVar 3) (aNil))) (aCons (eCall m_law_is_name (aCons (eVar 3) (aNil))) (aNil)))))) (Cn.tNot (tV (eCall m_law_same (aCons (eCall m_is_tag (aCons (eVar 3) (aNil))) (aCons (eCall m_law_is_tag (aCons (eVar 3) (aNil))) (aNil))))))) (sRet (eC (.bl false)))
    (sNil))
    (sSeq (sSet 5 (eCall m_read_number (aCons (eVar 3) (aCons (eVar 4) (aNil)))))
    (sSeq (sIf (Cn.tOr (tV (e1 (isiV 1) (eVar 5))) (tV (e2 neV (eVar 5) (eCall m_law_number (aCons (eVar 3) (aCons (eVar 4) (aNil))))))) (sRet (eC (.bl false)))
    (sNil))
    (sSeq (sSet 6 (eCall m_law_split (aCons (eVar 3) (aNil))))
    (sIf (Cn.tOr (tV (e2 neV (eCall m_split_address (aCons (eVar 3) (aNil))) (eVar 6))) (Cn.tNot (tV (eCall m_law_same (aCons (eCall m_is_address (aCons (eVar 3) (aNil))) (aCons (e1 notNV (eVar 6)) (aNil))))))) (sRet (eC (.bl false)))
    (sNil)))))))))
    (sRet (eC (.bl true)))))
end Mir
set_option maxRecDepth 100000
set_option linter.all false
namespace Pf
open Cn Mir Dw
def digits : List Nat := [48, 49, 50, 51, 52, 53, 54, 55, 56, 57]
def small : List Nat := [97, 98, 99, 100, 101, 102, 103, 104, 105, 106, 107, 108, 109, 110, 111, 112, 113, 114, 115, 116, 117, 118, 119, 120, 121, 122]
def large : List Nat := [65, 66, 67, 68, 69, 70, 71, 72, 73, 74, 75, 76, 77, 78, 79, 80, 81, 82, 83, 84, 85, 86, 87, 88, 89, 90]
def allIn (w sg : List Nat) : Bool := w.all fun c => decide (c ∈ sg)
def made (w sg : List Nat) : Bool := decide (1 ≤ w.length) && decide (w.length ≤ 16) && allIn w sg
def isName (w : List Nat) : Bool := made w (small ++ digits) && (match w with
  | c :: _ => decide (c ∈ small)
  | [] => false)
def isTag (w : List Nat) : Bool := made w (small ++ large ++ digits)
def number (w : List Nat) (most : Int) : CV := if (1 ≤ w.length ∧ w.length ≤ 9) ∧ allIn w digits = true ∧ ¬ (w.head? = some 48 ∧ 1 < w.length) ∧ ¬ most < (digsVal w : Int) then .int (digsVal w) else .non
def split (w : List Nat) : CV := if 64 ∈ w ∧ isName (w.take (w.idxOf 64)) = true ∧ isName (w.drop (w.idxOf 64 + 1)) = true then .tup [.str (w.take (w.idxOf 64)), .str (w.drop (w.idxOf 64 + 1))] else .non
section
variable {h : CH} {w sg : List Nat}
theorem made_of (l : w.length ≤ 10000) : m_made_of [.str w, .str sg] h = .ok (.bl (made w sg)) h := by
  refine ev_def rfl ?_
  simp (disch := omega)
  have e : made w sg = (decide (1 ≤ w.length) && decide (w.length ≤ 16) && allIn w sg) := rfl
  split
  · split
    · refine only_loop (w := w) (sg := sg) _ none rfl (by simp) (fun v => by simp) (fun q v => ?_) fun q => ?_
      · refine ⟨?_, rfl⟩
        rw [e, show allIn w sg = true from q]; simp; omega
      · refine ⟨?_, rfl⟩
        rw [e, show allIn w sg = false from q]; simp
    · rw [e]; simp; omega
  · rw [e]; simp; omega
theorem only (l : w.length ≤ 10000) : m_law_only [.str w, .str sg] h = .ok (.bl (allIn w sg)) h := by
  refine ev_def rfl ?_
  simp (disch := omega)
  refine only_loop (w := w) (sg := sg) _ none rfl (by simp) (fun v => by simp) (fun q v => ?_) fun q => ?_
  · exact ⟨q, rfl⟩
  · exact ⟨by rw [show allIn w sg = false from q], rfl⟩
theorem is_name (l : w.length ≤ 10000) : m_is_name [.str w] h = .ok (.bl (isName w)) h := by
  refine ev_def rfl ?_
  simp (disch := first | omega | decide) [made_of l]
  unfold isName
  split
  · next m =>
    rw [show made w (small ++ digits) = true from m]
    cases w with
    | nil => simp [made] at m
    | cons c r => simp (disch := omega) [small]
  · next m =>
    rw [show made w (small ++ digits) = false by simpa [small, digits] using m]; simp
theorem law_is_name (l : w.length ≤ 10000) : m_law_is_name [.str w] h = .ok (.bl (isName w)) h := by
  refine ev_def rfl ?_
  simp (disch := first | omega | decide) [only l]
  unfold isName made
  cases w with
  | nil => simp
  | cons c r =>
    split
    · next m =>
      split
      · split
        · next q =>
          rw [show allIn (c :: r) (small ++ digits) = true from q]
          simp (disch := omega) at m ⊢
          simp (disch := omega) [small]; simp at *; omega
        · next q =>
          rw [show allIn (c :: r) (small ++ digits) = false by simpa [small, digits] using q]; simp
      · simp at *; omega
    · simp at *; omega
theorem is_tag (l : w.length ≤ 10000) : m_is_tag [.str w] h = .ok (.bl (isTag w)) h := by
  refine ev_def rfl ?_
  simp (disch := first | omega | decide) [made_of l]
  rfl
theorem law_is_tag (l : w.length ≤ 10000) : m_law_is_tag [.str w] h = .ok (.bl (isTag w)) h := by
  refine ev_def rfl ?_
  simp (disch := first | omega | decide) [only l]
  have e : isTag w = (decide (1 ≤ w.length) && decide (w.length ≤ 16) && allIn w (small ++ large ++ digits)) := rfl
  split
  · split
    · rw [e]; simp [small, large, digits]; omega
    · rw [e]; simp; omega
  · rw [e]; simp; omega
theorem int_digits {z : List Nat} (z0 : z ≠ []) (l : z.length ≤ 640) (d : allIn z digits = true) : intV [.str z] h = .ok (.int (digsVal z)) h := by
  refine if_pos ⟨z0, l, ?_⟩
  unfold allIn at d
  rw [List.all_eq_true] at d ⊢
  intro x hx
  have := of_decide_eq_true (d x hx)
  simp [digits] at this
  simp
  omega
theorem read_number (l : w.length ≤ 10000) (most : Int) : m_read_number [.str w, .int most] h = .ok (number w most) h := by
  refine ev_def rfl ?_
  refine Sk_guard (¬ (1 ≤ w.length ∧ w.length ≤ 9) ∨ (w.head? = some 48 ∧ 1 < w.length)) ?_ (fun c => ?_) fun c => ?_
  · simp (disch := first | omega | decide)
    cases w with
    | nil => simp
    | cons c r => simp (disch := omega); grind
  · simp; unfold number; rw [if_neg (by grind)]
  refine Sk_seq (fun s1 h1 => (∃ o, s1 = [some (.str w), some (.int most), o, none]) ∧ h1 = h ∧ allIn w digits = true) ?_ ?_
  · refine only_loop (w := w) (sg := digits) _ none rfl (by simp) (fun v => by simp [digits]) (fun q v => ⟨⟨_, rfl⟩, rfl, q⟩) fun q => ?_
    have q : allIn w digits = false := q
    exact ⟨by unfold number; rw [if_neg (by rw [q]; simp)], rfl⟩
  · rintro _ _ ⟨⟨o, rfl⟩, rfl, q⟩
    have w0 : w ≠ [] := by intro e; subst e; simp at c
    simp [int_digits w0 (by omega) q]
    unfold number
    by_cases m : most < (digsVal w : Int)
    · rw [if_pos m, if_neg (by grind)]
    · rw [if_neg m, if_pos (by grind)]
theorem idx_digit : ∀ x ∈ digits, (digits.idxOf x : Nat) = x - 48 := by decide
theorem digs_snoc (a : List Nat) (x : Nat) : digsVal (a ++ [x]) = digsVal a * 10 + (x - 48) := by simp [digsVal]
theorem law_number (l : w.length ≤ 10000) (most : Int) : m_law_number [.str w, .int most] h = .ok (number w most) h := by
  refine ev_def rfl ?_
  refine Sk_guard (¬ (1 ≤ w.length ∧ w.length ≤ 9) ∨ allIn w digits = false ∨ (w.head? = some 48 ∧ 1 < w.length)) ?_ (fun c => ?_) fun c => ?_
  · simp (disch := first | omega | decide) [only l]
    cases w with
    | nil => simp
    | cons c r =>
      simp (disch := omega) [digits]
      cases r <;> simp <;> grind
  · simp; unfold number; rw [if_neg (by grind)]
  have q : allIn w digits = true := by grind
  rw [Sk_sSeq, Sk_sSet, Ok_eC]
  refine Sk_seq (fun s1 h1 => (∃ o, s1 = [some (.str w), some (.int most), some (.int (digsVal w)), o]) ∧ h1 = h) ?_ ?_
  · refine Sk_sFor ?_
    refine Ok.eq (a := .str w) (h := h) rfl ?_
    refine ⟨w.map fun c => CV.str [c], fun i s h1 => h1 = h ∧ ∃ o, s = [some (.str w), some (.int most), some (.int (digsVal (w.take i))), o], fun i s h1 _ => item_str, by simp [lenAt], ⟨rfl, none, rfl⟩, ?_, ?_⟩
    · rintro i v s h1 e ⟨rfl, o, rfl⟩
      rw [List.getElem?_map] at e
      obtain ⟨x, ex, rfl⟩ := Option.map_eq_some_iff.mp e
      refine ⟨_, _, rfl, ?_⟩
      have mx : x ∈ digits := of_decide_eq_true (List.all_eq_true.mp q x (List.mem_of_getElem? ex))
      have ei : ([48, 49, 50, 51, 52, 53, 54, 55, 56, 57] : List Nat).idxOf x = x - 48 := idx_digit x mx
      simp (disch := decide) only [Sk_sSet, Ok_e2, Ok_eBM, Ok_eC, Ok_aCons, Ok_aNil, w_var0, w_varS, z_mul, z_add, Ok_ok, z_kind_s, List.set_cons_zero, List.set_cons_succ]
      refine ⟨trivial, Ok.eq (index_char (by decide) mx) (Ok.eq rfl ⟨rfl, some (.str [x]), ?_⟩)⟩
      rw [List.take_succ, ex, ei]
      rw [show (w.take i ++ (some x).toList) = w.take i ++ [x] from rfl, digs_snoc]
      rw [Int.natCast_add, Int.natCast_mul]
      rfl
    · rintro s h1 ⟨rfl, o, rfl⟩
      rw [List.length_map, List.take_length]
      exact ⟨⟨_, rfl⟩, rfl⟩
  · rintro _ _ ⟨⟨o, rfl⟩, rfl⟩
    simp
    unfold number
    by_cases m : most < (digsVal w : Int)
    · rw [if_pos m, if_neg (by grind)]
    · rw [if_neg m, if_pos (by grind)]
theorem idx_lt (m : 64 ∈ w) : w.idxOf 64 < w.length := List.idxOf_lt_length_of_mem m
theorem split_address (l : w.length ≤ 10000) : m_split_address [.str w] h = .ok (split w) h := by
  refine ev_def rfl ?_
  by_cases m : 64 ∈ w
  · have := idx_lt m
    simp (disch := first | omega | decide) [m, is_name (w := w.take (w.idxOf 64)) (h := h) (by simp; omega), is_name (w := w.drop (w.idxOf 64 + 1)) (h := h) (by simp; omega)]
    unfold split
    by_cases a : isName (w.take (w.idxOf 64)) = true <;> by_cases b : isName (w.drop (w.idxOf 64 + 1)) = true <;> simp [m, a, b]
  · simp (disch := first | omega | decide) [m, split]
theorem is_address (l : w.length ≤ 10000) : m_is_address [.str w] h = .ok (.bl (!isNon (split w))) h := by
  refine ev_def rfl ?_
  simp [split_address l, notNV]
theorem law_split (l : w.length ≤ 10000) : m_law_split [.str w] h = .ok (split w) h := by
  refine ev_def rfl ?_
  simp (disch := first | omega | decide)
  by_cases m : 64 ∈ w
  · have := idx_lt m
    simp (disch := first | omega | assumption) [m, law_is_name (w := w.take (w.idxOf 64)) (h := h) (by simp; omega), law_is_name (w := w.drop (w.idxOf 64 + 1)) (h := h) (by simp; omega)]
    unfold split
    by_cases a : isName (w.take (w.idxOf 64)) = true <;> by_cases b : isName (w.drop (w.idxOf 64 + 1)) = true <;> simp [m, a, b]
  · simp [m, split]
theorem same (a b : Bool) : m_law_same [.bl a, .bl b] h = .ok (.bl (decide (a = b))) h := by
  refine ev_def rfl ?_
  simp
end
end Pf
set_option maxRecDepth 100000
set_option linter.all false
namespace Pf
open Cn Mir Dw
variable {n c : Nat} {h : CH} {Q : CV → CH → Prop}
def charsL : List Nat := [32, 33, 34, 35, 36, 38, 39, 40, 41, 42, 43, 44, 45, 46, 47, 48, 49, 50, 51, 52, 53, 54, 55, 56, 57, 58, 59, 60, 61, 62, 63, 64, 65, 66, 67, 68, 69, 70, 71, 72, 73, 74, 75, 76, 77, 78, 79, 80, 81, 82, 83, 84, 85, 86, 87, 88, 89, 90, 91, 92, 93, 94, 95, 96, 97, 98, 99, 100, 101, 102, 103, 104, 105, 106, 107, 108, 109, 110, 111, 112, 113, 114, 115, 116, 117, 118, 119, 120, 121, 122, 123, 124, 125, 126]
theorem chars : m_law_chars [] h = .ok (.str charsL) h := rfl
theorem word {z : List Nat} {k : Nat} (d : Dr n c h) (k1 : k ≤ 1000) (l : 0 < z.length) (l2 : z.length ≤ 16777216)
    (q : ∀ (cs : List Nat) h', cs.length = k → (∀ x ∈ cs, x ∈ z) → Dr n c h' → Fr n c h h' → Q (.str cs) h') : Ok (m_law_word [.ref n, .str z, .int k] h) Q := by
  refine Ok_runD _ _ _ _ rfl ?_
  simp
  refine draw_word (n := n) (c := c) (k := k) (z := z) d (by omega) (by simp) (fun v h1 => ⟨_, rfl, fun o => by simpa [wipeC] using o⟩) l l2 fun cs h' lc mc d' f' e => ?_
  exact Ok.eq (join_chars e (by omega)) (q cs h' lc mc d' f')
theorem name (d : Dr n c h) (q : ∀ (cs : List Nat) h', cs.length ≤ 17 → Dr n c h' → Fr n c h h' → Q (.str cs) h') : Ok (m_law_name [.ref n] h) Q := by
  refine Ok_runD _ _ _ _ rfl ?_
  simp
  refine pick_str d (by simp) (by simp) fun i v h1 _ d1 f1 l1 => ?_
  refine draw (k := 17) d1 (by omega) (by omega) fun v2 h2 hv d2 f2 l2 => ?_
  refine word d2 (by omega) (by simp) (by simp) fun cs h3 lc mc d3 f3 => ?_
  refine Ok.eq (add_str (by simp; omega)) ?_
  exact q _ _ (by simp; omega) d3 ((f1.trans f2).trans f3)
theorem num_len (n : Nat) (l : n < 10000000000) : (numC n).length ≤ 10 := by
  unfold numC
  rw [List.length_map]
  exact (Nat.length_toDigits_le_iff (by omega) (by omega)).mpr l
theorem base (d : Dr n c h) (q : ∀ (cs : List Nat) h', cs.length ≤ 100 → Dr n c h' → Fr n c h h' → Q (.str cs) h') : Ok (m_law_base [.ref n] h) Q := by
  refine Ok_runD _ _ _ _ rfl ?_
  rw [Sk_sSeq]
  simp only [Sk_sSet, Ok_eCall, Ok_aCons, Ok_aNil, Ok_eC]
  refine Ok.eq (a := .ref n) (h := h) rfl ?_
  refine draw (k := 6) d (by omega) (by omega) fun v h1 hv d1 f1 l1 => ?_
  refine Sk_guard (v < 2) (by simp <;> omega) (fun _ => ?_) fun c1 => ?_
  · simp
    exact name d1 fun cs h2 lc d2 f2 => q cs h2 (by omega) d2 (f1.trans f2)
  refine Sk_guard (v = 2) (by simp <;> omega) (fun _ => ?_) fun c2 => ?_
  · simp
    refine name d1 fun cs h2 lc d2 f2 => ?_
    rw [z_adds _ _ (by simp; omega), Ok_ok]
    refine name d2 fun cs3 h3 lc3 d3 f3 => ?_
    rw [z_adds _ _ (by simp; omega), Ok_ok]
    exact q _ h3 (by simp; omega) d3 ((f1.trans f2).trans f3)
  refine Sk_guard (v = 3) (by simp <;> omega) (fun _ => ?_) fun c3 => ?_
  · simp
    refine draw (k := 100000) d1 (by omega) (by omega) fun v2 h2 hv2 d2 f2 l2 => ?_
    have := d2.lt
    refine pick_lst (d2.new _) get_self (by simp) (by simp) (by omega) (by omega) fun i x h3 ex d3 f3 l3 => ?_
    have : ∃ j : Nat, x = .int j ∧ j < 10000000000 := by
      rcases i with _ | _ | _ | _ | _ | _ | _ <;> simp at ex <;> subst ex
      · exact ⟨0, rfl, by omega⟩
      · exact ⟨9, rfl, by omega⟩
      · exact ⟨10, rfl, by omega⟩
      · exact ⟨999999999, rfl, by omega⟩
      · exact ⟨1000000000, rfl, by omega⟩
      · exact ⟨v2, rfl, by omega⟩
    obtain ⟨j, rfl, lj⟩ := this
    rw [z_str _ (by omega) (by omega), Ok_ok, Int.toNat_natCast]
    have := num_len j lj
    exact q _ _ (by omega) d3 (((f1.trans f2).trans (.new _)).trans f3)
  refine Sk_guard (v = 4) (by simp <;> omega) (fun _ => ?_) fun c4 => ?_
  · simp
    refine draw (k := 18) d1 (by omega) (by omega) fun v2 h2 hv2 d2 f2 l2 => ?_
    refine word d2 (by omega) (by simp) (by simp) fun cs h3 lc mc d3 f3 => ?_
    exact q _ _ (by omega) d3 ((f1.trans f2).trans f3)
  · simp [chars]
    refine draw (k := 6) d1 (by omega) (by omega) fun v2 h2 hv2 d2 f2 l2 => ?_
    refine word d2 (by omega) (by simp [charsL]) (by simp [charsL]) fun cs h3 lc mc d3 f3 => ?_
    exact q _ _ (by omega) d3 ((f1.trans f2).trans f3)
theorem changed {w : List Nat} (d : Dr n c h) (l : w.length ≤ 100) (q : ∀ (cs : List Nat) h', cs.length ≤ 1000 → Dr n c h' → Fr n c h h' → Q (.str cs) h') : Ok (m_law_changed [.ref n, .str w] h) Q := by
  refine Ok_runD _ _ _ _ rfl ?_
  rw [Sk_sSeq]
  simp (disch := omega) only [Sk_sSet, Ok_eCall, Ok_aCons, Ok_aNil, Ok_eC, Ok_e2]
  refine Ok.eq (a := .ref n) (h := h) rfl ?_
  refine Ok.eq (a := .str w) (h := h) rfl ?_
  rw [z_lens _ (by omega), Ok_ok, z_add, Ok_ok]
  refine draw (k := w.length + 1) d (by omega) (by omega) fun v h1 hv d1 f1 l1 => ?_
  rw [Sk_sSeq]
  simp only [Sk_sSet, Ok_eCall, Ok_aCons, Ok_aNil, Ok_eC, Ok_e2]
  refine Ok.eq (a := .ref n) (h := h1) rfl ?_
  refine draw (k := 5) d1 (by omega) (by omega) fun v2 h2 hv2 d2 f2 l2 => ?_
  have pk : ∀ {Q : CV → CH → Prop}, (∀ ch h', Dr n c h' → Fr n c h2 h' → Q (.str [ch]) h') → Ok (Mir.m_law_pick [.ref n, .str charsL] h2) Q := fun k => pick_str d2 (by simp [charsL]) (by simp [charsL]) fun i v h3 _ d3 f3 _ => k v h3 d3 f3
  refine Sk_guard (v2 = 0) (by simp <;> omega) (fun _ => ?_) fun c1 => ?_
  · simp (disch := omega) [chars]
    refine pk fun ch h3 d3 f3 => ?_
    simp (disch := first | omega | (simp; omega))
    exact q _ _ (by simp; omega) d3 ((f1.trans f2).trans f3)
  refine Sk_guard (v2 = 1) (by simp <;> omega) (fun _ => ?_) fun c2 => ?_
  · simp (disch := first | omega | (simp; omega))
    exact q _ _ (by simp; omega) d2 (f1.trans f2)
  refine Sk_guard (v2 = 2) (by simp <;> omega) (fun _ => ?_) fun c3 => ?_
  · simp (disch := omega) [chars]
    refine pk fun ch h3 d3 f3 => ?_
    simp (disch := first | omega | (simp; omega))
    exact q _ _ (by simp; omega) d3 ((f1.trans f2).trans f3)
  · simp
    exact q _ _ (by omega) d2 (f1.trans f2)
theorem split_cases (w : List Nat) : split w = .non ∨ ∃ a b, split w = .tup [.str a, .str b] := by
  unfold split
  split
  · exact .inr ⟨_, _, rfl⟩
  · exact .inl rfl
theorem number_cases (w : List Nat) (m : Int) : number w m = .non ∨ ∃ i, number w m = .int i := by
  unfold number
  split
  · exact .inr ⟨_, rfl⟩
  · exact .inl rfl
theorem law_true (ns : List Int) (hl : ns.length ≤ 63) : ∃ h', m_law [.scr] ⟨ns, []⟩ = .ok (.bl true) h' := by
  have : Ok (m_law [.scr] ⟨ns, []⟩) fun v _ => v = .bl true := by
    refine Ok_runD _ _ _ _ rfl ?_
    rw [Sk_sSeq]
    simp only [Sk_sSet, Ok_eCall, Ok_aCons, Ok_aNil]
    refine Ok.eq (a := .scr) rfl ?_
    refine state hl fun n c h0 d0 _ _ e0 _ _ => ?_
    refine Sk_seq (fun s1 h1 => True) ?_ (fun s1 h1 _ => by simp)
    refine Sk_sForR1 ?_
    simp only [Ok_e2, Ok_eC, Ok_eCall, Ok_aCons, Ok_aNil, Ok_eSlice, Ok_oNone, w_oSome, AsI_int]
    refine Ok.eq (a := .scr) rfl ?_
    rw [slice_scr, Ok_alloc]
    have lc := cut_len (h0.sc.map CV.int) none (some 60)
    rw [List.length_map, e0] at lc
    refine Ok.eq (len_lst get_self) ?_
    rw [z_add, Ok_ok]
    refine ⟨3 + (cutC (h0.sc.map CV.int) none (some 60)).length, fun i s h => Dr n c h ∧ ∃ o2 o3 o4 o5 o6, s = [some .scr, some (.ref n), o2, o3, o4, o5, o6], by rw [Int.natCast_add]; rfl, ?_, ⟨d0.new _, _, _, _, _, _, rfl⟩, ?_, fun _ _ _ => trivial⟩
    · have : (ns : List Int).length ≤ 63 := hl
      rw [e0]
      have lc : (cutC (ns.map CV.int) none (some 60)).length ≤ ns.length := lc
      show 3 + (cutC (ns.map CV.int) none (some 60)).length < _
      omega
    rintro i s h hi ⟨d, o2, o3, o4, o5, o6, rfl⟩
    refine ⟨_, _, rfl, ?_⟩
    rw [Sk_sSeq]
    simp only [Sk_sSet, Ok_eCall, Ok_aCons, Ok_aNil]
    refine Ok.eq (a := .ref n) rfl ?_
    refine Ok.eq (a := .ref n) rfl ?_
    refine base d fun w h1 lw d1 f1 => ?_
    refine changed d1 lw fun w h2 lw d2 f2 => ?_
    rw [Sk_sSeq]
    simp only [Sk_sSet, Ok_eCall, Ok_aCons, Ok_aNil, Ok_eLst, Ok_eC]
    refine Ok.eq (a := .ref n) rfl ?_
    refine Ok.eq (a := .ref n) rfl ?_
    refine draw (k := 1000000) d2 (by omega) (by omega) fun v h3 hv d3 f3 l3 => ?_
    refine ⟨by simp, ?_⟩
    have := d3.lt
    refine pick_lst (d3.new _) get_self (by simp) (by simp) (by omega) (by omega) fun i x h4 ex d4 f4 l4 => ?_
    have : ∃ j : Int, x = .int j := by
      rcases i with _ | _ | _ | _ | _ | _ | _ <;> simp at ex <;> subst ex <;> exact ⟨_, rfl⟩
    obtain ⟨j, rfl⟩ := this
    refine Sk_guard False ?_ (fun c => c.elim) fun _ => ?_
    · simp [is_name (w := w) (by omega), law_is_name (w := w) (by omega), is_tag (w := w) (by omega), law_is_tag (w := w) (by omega), same]
    rw [Sk_sSeq, Sk_sSet, Ok_eCall, Ok_aCons]
    refine Ok.eq (a := .str w) rfl ?_
    rw [Ok_aCons]
    refine Ok.eq (a := .int j) rfl ?_
    rw [Ok_aNil]
    refine Ok.eq (read_number (by omega) j) ?_
    refine Sk_guard False ?_ (fun c => c.elim) fun _ => ?_
    · simp [law_number (w := w) (by omega)]
      rcases number_cases w j with e | ⟨i, e⟩ <;> rw [e] <;> simp
    rw [Sk_sSeq]
    simp [law_split (w := w) (by omega), split_address (w := w) (by omega), is_address (w := w) (by omega)]
    rcases split_cases w with e | ⟨a, b, e⟩
    · rw [e]
      simp [same, isNon]
      exact d4
    · rw [e]
      rw [z_ne_self (d := .tup [.str a, .str b]) (by simp [dataC, dataCs])]
      simp [same, isNon]
      exact d4
  obtain ⟨v, h', e, q⟩ := Ok_iff.mp this
  exact ⟨h', by rw [e, q]⟩
end Pf
set_option Elab.async false
set_option linter.all false
set_option maxRecDepth 100000
set_option maxHeartbeats 4000000
namespace Wk
open PySem PySem.Spec PyProof.Rows L2 Cn Mir
def top (i : Nat) : Stmt := PySem.Challenge.pw_trunkland_k01_words.main.body.getD i (.Pass ⟨0, 0, 0, 0⟩)
abbrev sD_m_made_of : Stmt := top 5
def d_m_made_of : He.DefD := ⟨("made_of", none), "made_of", "made_of", defArgs sD_m_made_of, defBody sD_m_made_of, defScope sD_m_made_of, [], []⟩
abbrev sD_m_is_name : Stmt := top 6
def d_m_is_name : He.DefD := ⟨("is_name", none), "is_name", "is_name", defArgs sD_m_is_name, defBody sD_m_is_name, defScope sD_m_is_name, [], []⟩
abbrev sD_m_is_tag : Stmt := top 7
def d_m_is_tag : He.DefD := ⟨("is_tag", none), "is_tag", "is_tag", defArgs sD_m_is_tag, defBody sD_m_is_tag, defScope sD_m_is_tag, [], []⟩
abbrev sD_m_read_number : Stmt := top 8
def d_m_read_number : He.DefD := ⟨("read_number", none), "read_number", "read_number", defArgs sD_m_read_number, defBody sD_m_read_number, defScope sD_m_read_number, [], []⟩
abbrev sD_m_split_address : Stmt := top 9
def d_m_split_address : He.DefD := ⟨("split_address", none), "split_address", "split_address", defArgs sD_m_split_address, defBody sD_m_split_address, defScope sD_m_split_address, [], []⟩
abbrev sD_m_is_address : Stmt := top 10
def d_m_is_address : He.DefD := ⟨("is_address", none), "is_address", "is_address", defArgs sD_m_is_address, defBody sD_m_is_address, defScope sD_m_is_address, [], []⟩
abbrev sD_m_law_state : Stmt := top 12
def d_m_law_state : He.DefD := ⟨("_law_state", none), "_law_state", "_law_state", defArgs sD_m_law_state, defBody sD_m_law_state, defScope sD_m_law_state, [], []⟩
abbrev sD_m_law_draw : Stmt := top 13
def d_m_law_draw : He.DefD := ⟨("_law_draw", none), "_law_draw", "_law_draw", defArgs sD_m_law_draw, defBody sD_m_law_draw, defScope sD_m_law_draw, [], []⟩
abbrev sD_m_law_pick : Stmt := top 14
def d_m_law_pick : He.DefD := ⟨("_law_pick", none), "_law_pick", "_law_pick", defArgs sD_m_law_pick, defBody sD_m_law_pick, defScope sD_m_law_pick, [], []⟩
abbrev sD_m_law_chars : Stmt := top 15
def d_m_law_chars : He.DefD := ⟨("_law_chars", none), "_law_chars", "_law_chars", defArgs sD_m_law_chars, defBody sD_m_law_chars, defScope sD_m_law_chars, [], []⟩
abbrev sD_m_law_word : Stmt := top 16
def d_m_law_word : He.DefD := ⟨("_law_word", none), "_law_word", "_law_word", defArgs sD_m_law_word, defBody sD_m_law_word, defScope sD_m_law_word, [], []⟩
abbrev sD_m_law_name : Stmt := top 17
def d_m_law_name : He.DefD := ⟨("_law_name", none), "_law_name", "_law_name", defArgs sD_m_law_name, defBody sD_m_law_name, defScope sD_m_law_name, [], []⟩
abbrev sD_m_law_base : Stmt := top 18
def d_m_law_base : He.DefD := ⟨("_law_base", none), "_law_base", "_law_base", defArgs sD_m_law_base, defBody sD_m_law_base, defScope sD_m_law_base, [], []⟩
abbrev sD_m_law_changed : Stmt := top 19
def d_m_law_changed : He.DefD := ⟨("_law_changed", none), "_law_changed", "_law_changed", defArgs sD_m_law_changed, defBody sD_m_law_changed, defScope sD_m_law_changed, [], []⟩
abbrev sD_m_law_only : Stmt := top 20
def d_m_law_only : He.DefD := ⟨("_law_only", none), "_law_only", "_law_only", defArgs sD_m_law_only, defBody sD_m_law_only, defScope sD_m_law_only, [], []⟩
abbrev sD_m_law_same : Stmt := top 21
def d_m_law_same : He.DefD := ⟨("_law_same", none), "_law_same", "_law_same", defArgs sD_m_law_same, defBody sD_m_law_same, defScope sD_m_law_same, [], []⟩
abbrev sD_m_law_is_name : Stmt := top 22
def d_m_law_is_name : He.DefD := ⟨("_law_is_name", none), "_law_is_name", "_law_is_name", defArgs sD_m_law_is_name, defBody sD_m_law_is_name, defScope sD_m_law_is_name, [], []⟩
abbrev sD_m_law_is_tag : Stmt := top 23
def d_m_law_is_tag : He.DefD := ⟨("_law_is_tag", none), "_law_is_tag", "_law_is_tag", defArgs sD_m_law_is_tag, defBody sD_m_law_is_tag, defScope sD_m_law_is_tag, [], []⟩
abbrev sD_m_law_number : Stmt := top 24
def d_m_law_number : He.DefD := ⟨("_law_number", none), "_law_number", "_law_number", defArgs sD_m_law_number, defBody sD_m_law_number, defScope sD_m_law_number, [], []⟩
abbrev sD_m_law_split : Stmt := top 25
def d_m_law_split : He.DefD := ⟨("_law_split", none), "_law_split", "_law_split", defArgs sD_m_law_split, defBody sD_m_law_split, defScope sD_m_law_split, [], []⟩
abbrev sD_m_law : Stmt := top 26
def d_m_law : He.DefD := ⟨("law", none), "law", "law", defArgs sD_m_law, defBody sD_m_law, defScope sD_m_law, [], []⟩
def fns : List He.DefD := [d_m_made_of, d_m_is_name, d_m_is_tag, d_m_read_number, d_m_split_address, d_m_is_address, d_m_law_state, d_m_law_draw, d_m_law_pick, d_m_law_chars, d_m_law_word, d_m_law_name, d_m_law_base, d_m_law_changed, d_m_law_only, d_m_law_same, d_m_law_is_name, d_m_law_is_tag, d_m_law_number, d_m_law_split, d_m_law]
def fas : List He.Fa := [.free "len", .int "MOST_SIGNS" (16), .str "SMALL" "abcdefghijklmnopqrstuvwxyz", .str "DIGITS" "0123456789", .glo "made_of", .str "LARGE" "ABCDEFGHIJKLMNOPQRSTUVWXYZ", .free "int", .glo "is_name", .glo "split_address", .free "abs", .glo "_law_draw", .glo "_law_pick", .free "range", .glo "_law_word", .glo "_law_name", .free "str", .glo "_law_chars", .free "isinstance", .free "bool", .glo "_law_only", .glo "_law_is_name", .glo "_law_state", .glo "_law_base", .glo "_law_changed", .glo "_law_same", .glo "_law_is_tag", .glo "is_tag", .glo "read_number", .glo "_law_number", .glo "_law_split", .glo "is_address", .glo "law"]
section
variable {P : Program} {w : World} {K : PySem.W.Frag} {mg : Str → Option Value} {base h : Heap} {B : Bs}
theorem sc_m_made_of : FnScope ["word", "signs", "char"] ["word", "signs"] (defScope sD_m_made_of) := ⟨rfl, rfl, rfl, by decide +kernel, rfl, by decide +kernel, by decide +kernel⟩
theorem fn_m_made_of (KX : K.In h) (G : h.Ns mainGlobals mg) (c : He.SaysD fas fns K) {fd : FuncData} (F : FunD K d_m_made_of.name d_m_made_of.qual d_m_made_of.params d_m_made_of.body d_m_made_of.scope (He.DefD.dvs K d_m_made_of) (He.DefD.kws K d_m_made_of) (He.fAd K d_m_made_of.at_) fd) : FnOk P w K mg base (L2.CX P w) 1 (He.fAd K d_m_made_of.at_) fd ["word", "signs"] (spM K B m_made_of) := by
  refine def_ok (k := 0) (nN := 3) (nP := 2) F sc_m_made_of _ rfl rfl fun cdv A outer s H E hr => ?_
  have tk := takes_of (X := cxOf (L2.CX P w) P w K mg base ["word", "signs", "char"] "made_of" (defScope sD_m_made_of) (He.fAd K d_m_made_of.at_) cdv A outer s H E) (E := E) rfl rfl rfl rfl
  have hp := passes_of (X := cxOf (L2.CX P w) P w K mg base ["word", "signs", "char"] "made_of" (defScope sD_m_made_of) (He.fAd K d_m_made_of.at_) cdv A outer s H E) rfl
  exact (ss_cons (ss_if (st_not (st_chain op_le op_le v_le v_le se_int (se_callB call_len v_len rfl (He.free_ok KX G (c.fact 0 (f := .free "len") rfl)) (by decide +kernel) (sa_cons (se_var 0) sa_nil)) (se_gint rfl (He.int_ok KX G (c.fact 1 (f := .int "MOST_SIGNS" (16)) rfl))))) (ss_one (ss_ret se_bl))
    ss_nil)
    (ss_cons (ss_for hp rfl (se_var 0) [2] (sg_name sc_m_made_of.nd)
    (ss_one (ss_if (st_nin (se_var 2) (se_var 1)) (ss_one (ss_ret se_bl))
    ss_nil)))
    (ss_one (ss_ret se_bl))))
theorem bd_m_made_of {fd : FuncData} (F : FunD K d_m_made_of.name d_m_made_of.qual d_m_made_of.params d_m_made_of.body d_m_made_of.scope (He.DefD.dvs K d_m_made_of) (He.DefD.kws K d_m_made_of) (He.fAd K d_m_made_of.at_) fd) : Binds K fd ["word", "signs"] [] := FunD.bindsN (ps := ["word", "signs"]) F fun _ _ _ _ _ _ us hl => match us, hl with | [_, _], _ => rfl
theorem ok_m_made_of (KX : K.In h) (G : h.Ns mainGlobals mg) (c : He.SaysD fas fns K) : Okd P w K mg base B 1 (He.fAd K d_m_made_of.at_) ["word", "signs"] m_made_of := by
  obtain ⟨fd, F⟩ := c.def_ 0 (d := d_m_made_of) rfl
  exact ⟨fd, fn_m_made_of KX G c F, bd_m_made_of F, F.kp⟩
theorem sc_m_is_name : FnScope ["word"] ["word"] (defScope sD_m_is_name) := ⟨rfl, rfl, rfl, by decide +kernel, rfl, by decide +kernel, by decide +kernel⟩
theorem fn_m_is_name (KX : K.In h) (G : h.Ns mainGlobals mg) (c : He.SaysD fas fns K) (F_m_made_of : Okd P w K mg base B 1 (He.fAd K d_m_made_of.at_) ["word", "signs"] m_made_of) {fd : FuncData} (F : FunD K d_m_is_name.name d_m_is_name.qual d_m_is_name.params d_m_is_name.body d_m_is_name.scope (He.DefD.dvs K d_m_is_name) (He.DefD.kws K d_m_is_name) (He.fAd K d_m_is_name.at_) fd) : FnOk P w K mg base (L2.CX P w) 2 (He.fAd K d_m_is_name.at_) fd ["word"] (spM K B m_is_name) := by
  refine def_ok (k := 1) (nN := 1) (nP := 1) F sc_m_is_name _ rfl rfl fun cdv A outer s H E hr => ?_
  have tk := takes_of (X := cxOf (L2.CX P w) P w K mg base ["word"] "is_name" (defScope sD_m_is_name) (He.fAd K d_m_is_name.at_) cdv A outer s H E) (E := E) rfl rfl rfl rfl
  have hp := passes_of (X := cxOf (L2.CX P w) P w K mg base ["word"] "is_name" (defScope sD_m_is_name) (He.fAd K d_m_is_name.at_) cdv A outer s H E) rfl
  exact (ss_one (ss_ret (se_and (se_cd F_m_made_of (hr.mono (by decide)) rfl (He.glo_ok KX G (c.fact 4 (f := .glo "made_of") rfl)) tk (sa_cons (se_var 0) (sa_cons (se_add (se_gstr [97, 98, 99, 100, 101, 102, 103, 104, 105, 106, 107, 108, 109, 110, 111, 112, 113, 114, 115, 116, 117, 118, 119, 120, 121, 122] rfl (He.str_ok KX G (c.fact 2 (f := .str "SMALL" "abcdefghijklmnopqrstuvwxyz") rfl))) (se_gstr [48, 49, 50, 51, 52, 53, 54, 55, 56, 57] rfl (He.str_ok KX G (c.fact 3 (f := .str "DIGITS" "0123456789") rfl)))) sa_nil))) (se_one (se_in (se_ix (se_var 0) se_int) (se_gstr [97, 98, 99, 100, 101, 102, 103, 104, 105, 106, 107, 108, 109, 110, 111, 112, 113, 114, 115, 116, 117, 118, 119, 120, 121, 122] rfl (He.str_ok KX G (c.fact 2 (f := .str "SMALL" "abcdefghijklmnopqrstuvwxyz") rfl))))))))
theorem bd_m_is_name {fd : FuncData} (F : FunD K d_m_is_name.name d_m_is_name.qual d_m_is_name.params d_m_is_name.body d_m_is_name.scope (He.DefD.dvs K d_m_is_name) (He.DefD.kws K d_m_is_name) (He.fAd K d_m_is_name.at_) fd) : Binds K fd ["word"] [] := FunD.bindsN (ps := ["word"]) F fun _ _ _ _ _ _ us hl => match us, hl with | [_], _ => rfl
theorem ok_m_is_name (KX : K.In h) (G : h.Ns mainGlobals mg) (c : He.SaysD fas fns K) (F_m_made_of : Okd P w K mg base B 1 (He.fAd K d_m_made_of.at_) ["word", "signs"] m_made_of) : Okd P w K mg base B 2 (He.fAd K d_m_is_name.at_) ["word"] m_is_name := by
  obtain ⟨fd, F⟩ := c.def_ 1 (d := d_m_is_name) rfl
  exact ⟨fd, fn_m_is_name KX G c F_m_made_of F, bd_m_is_name F, F.kp⟩
theorem sc_m_is_tag : FnScope ["word"] ["word"] (defScope sD_m_is_tag) := ⟨rfl, rfl, rfl, by decide +kernel, rfl, by decide +kernel, by decide +kernel⟩
theorem fn_m_is_tag (KX : K.In h) (G : h.Ns mainGlobals mg) (c : He.SaysD fas fns K) (F_m_made_of : Okd P w K mg base B 1 (He.fAd K d_m_made_of.at_) ["word", "signs"] m_made_of) {fd : FuncData} (F : FunD K d_m_is_tag.name d_m_is_tag.qual d_m_is_tag.params d_m_is_tag.body d_m_is_tag.scope (He.DefD.dvs K d_m_is_tag) (He.DefD.kws K d_m_is_tag) (He.fAd K d_m_is_tag.at_) fd) : FnOk P w K mg base (L2.CX P w) 2 (He.fAd K d_m_is_tag.at_) fd ["word"] (spM K B m_is_tag) := by
  refine def_ok (k := 1) (nN := 1) (nP := 1) F sc_m_is_tag _ rfl rfl fun cdv A outer s H E hr => ?_
  have tk := takes_of (X := cxOf (L2.CX P w) P w K mg base ["word"] "is_tag" (defScope sD_m_is_tag) (He.fAd K d_m_is_tag.at_) cdv A outer s H E) (E := E) rfl rfl rfl rfl
  have hp := passes_of (X := cxOf (L2.CX P w) P w K mg base ["word"] "is_tag" (defScope sD_m_is_tag) (He.fAd K d_m_is_tag.at_) cdv A outer s H E) rfl
  exact (ss_one (ss_ret (se_cd F_m_made_of (hr.mono (by decide)) rfl (He.glo_ok KX G (c.fact 4 (f := .glo "made_of") rfl)) tk (sa_cons (se_var 0) (sa_cons (se_add (se_add (se_gstr [97, 98, 99, 100, 101, 102, 103, 104, 105, 106, 107, 108, 109, 110, 111, 112, 113, 114, 115, 116, 117, 118, 119, 120, 121, 122] rfl (He.str_ok KX G (c.fact 2 (f := .str "SMALL" "abcdefghijklmnopqrstuvwxyz") rfl))) (se_gstr [65, 66, 67, 68, 69, 70, 71, 72, 73, 74, 75, 76, 77, 78, 79, 80, 81, 82, 83, 84, 85, 86, 87, 88, 89, 90] rfl (He.str_ok KX G (c.fact 5 (f := .str "LARGE" "ABCDEFGHIJKLMNOPQRSTUVWXYZ") rfl)))) (se_gstr [48, 49, 50, 51, 52, 53, 54, 55, 56, 57] rfl (He.str_ok KX G (c.fact 3 (f := .str "DIGITS" "0123456789") rfl)))) sa_nil)))))
theorem bd_m_is_tag {fd : FuncData} (F : FunD K d_m_is_tag.name d_m_is_tag.qual d_m_is_tag.params d_m_is_tag.body d_m_is_tag.scope (He.DefD.dvs K d_m_is_tag) (He.DefD.kws K d_m_is_tag) (He.fAd K d_m_is_tag.at_) fd) : Binds K fd ["word"] [] := FunD.bindsN (ps := ["word"]) F fun _ _ _ _ _ _ us hl => match us, hl with | [_], _ => rfl
theorem ok_m_is_tag (KX : K.In h) (G : h.Ns mainGlobals mg) (c : He.SaysD fas fns K) (F_m_made_of : Okd P w K mg base B 1 (He.fAd K d_m_made_of.at_) ["word", "signs"] m_made_of) : Okd P w K mg base B 2 (He.fAd K d_m_is_tag.at_) ["word"] m_is_tag := by
  obtain ⟨fd, F⟩ := c.def_ 2 (d := d_m_is_tag) rfl
  exact ⟨fd, fn_m_is_tag KX G c F_m_made_of F, bd_m_is_tag F, F.kp⟩
theorem sc_m_read_number : FnScope ["word", "most", "char", "value"] ["word", "most"] (defScope sD_m_read_number) := ⟨rfl, rfl, rfl, by decide +kernel, rfl, by decide +kernel, by decide +kernel⟩
theorem fn_m_read_number (KX : K.In h) (G : h.Ns mainGlobals mg) (c : He.SaysD fas fns K) {fd : FuncData} (F : FunD K d_m_read_number.name d_m_read_number.qual d_m_read_number.params d_m_read_number.body d_m_read_number.scope (He.DefD.dvs K d_m_read_number) (He.DefD.kws K d_m_read_number) (He.fAd K d_m_read_number.at_) fd) : FnOk P w K mg base (L2.CX P w) 1 (He.fAd K d_m_read_number.at_) fd ["word", "most"] (spM K B m_read_number) := by
  refine def_ok (k := 0) (nN := 4) (nP := 2) F sc_m_read_number _ rfl rfl fun cdv A outer s H E hr => ?_
  have tk := takes_of (X := cxOf (L2.CX P w) P w K mg base ["word", "most", "char", "value"] "read_number" (defScope sD_m_read_number) (He.fAd K d_m_read_number.at_) cdv A outer s H E) (E := E) rfl rfl rfl rfl
  have hp := passes_of (X := cxOf (L2.CX P w) P w K mg base ["word", "most", "char", "value"] "read_number" (defScope sD_m_read_number) (He.fAd K d_m_read_number.at_) cdv A outer s H E) rfl
  exact (ss_cons (ss_if (st_w (sw_or (st_not (st_chain op_le op_le v_le v_le se_int (se_callB call_len v_len rfl (He.free_ok KX G (c.fact 0 (f := .free "len") rfl)) (by decide +kernel) (sa_cons (se_var 0) sa_nil)) se_int)) (sw_or1 (st_w (sw_and (st_eq hr (se_ix (se_var 0) se_int) (se_str [48])) (sw_and1 (st_gt (se_callB call_len v_len rfl (He.free_ok KX G (c.fact 0 (f := .free "len") rfl)) (by decide +kernel) (sa_cons (se_var 0) sa_nil)) se_int))))))) (ss_one (ss_ret se_non))
    ss_nil)
    (ss_cons (ss_for hp rfl (se_var 0) [2] (sg_name sc_m_read_number.nd)
    (ss_one (ss_if (st_nin (se_var 2) (se_gstr [48, 49, 50, 51, 52, 53, 54, 55, 56, 57] rfl (He.str_ok KX G (c.fact 3 (f := .str "DIGITS" "0123456789") rfl)))) (ss_one (ss_ret se_non))
    ss_nil)))
    (ss_cons (ss_set (i := 3) sc_m_read_number.nd (se_callT call_intAny v_int rfl (He.free_ok KX G (c.fact 6 (f := .free "int") rfl)) (by decide +kernel) (sa_cons (se_var 0) sa_nil)))
    (ss_cons (ss_if (st_gt (se_var 3) (se_var 1)) (ss_one (ss_ret se_non))
    ss_nil)
    (ss_one (ss_ret (se_var 3)))))))
theorem bd_m_read_number {fd : FuncData} (F : FunD K d_m_read_number.name d_m_read_number.qual d_m_read_number.params d_m_read_number.body d_m_read_number.scope (He.DefD.dvs K d_m_read_number) (He.DefD.kws K d_m_read_number) (He.fAd K d_m_read_number.at_) fd) : Binds K fd ["word", "most"] [] := FunD.bindsN (ps := ["word", "most"]) F fun _ _ _ _ _ _ us hl => match us, hl with | [_, _], _ => rfl
theorem ok_m_read_number (KX : K.In h) (G : h.Ns mainGlobals mg) (c : He.SaysD fas fns K) : Okd P w K mg base B 1 (He.fAd K d_m_read_number.at_) ["word", "most"] m_read_number := by
  obtain ⟨fd, F⟩ := c.def_ 3 (d := d_m_read_number) rfl
  exact ⟨fd, fn_m_read_number KX G c F, bd_m_read_number F, F.kp⟩
theorem sc_m_split_address : FnScope ["word", "user", "sign", "host"] ["word"] (defScope sD_m_split_address) := ⟨rfl, rfl, rfl, by decide +kernel, rfl, by decide +kernel, by decide +kernel⟩
theorem fn_m_split_address (KX : K.In h) (G : h.Ns mainGlobals mg) (c : He.SaysD fas fns K) (F_m_is_name : Okd P w K mg base B 2 (He.fAd K d_m_is_name.at_) ["word"] m_is_name) {fd : FuncData} (F : FunD K d_m_split_address.name d_m_split_address.qual d_m_split_address.params d_m_split_address.body d_m_split_address.scope (He.DefD.dvs K d_m_split_address) (He.DefD.kws K d_m_split_address) (He.fAd K d_m_split_address.at_) fd) : FnOk P w K mg base (L2.CX P w) 3 (He.fAd K d_m_split_address.at_) fd ["word"] (spM K B m_split_address) := by
  refine def_ok (k := 2) (nN := 4) (nP := 1) F sc_m_split_address _ rfl rfl fun cdv A outer s H E hr => ?_
  have tk := takes_of (X := cxOf (L2.CX P w) P w K mg base ["word", "user", "sign", "host"] "split_address" (defScope sD_m_split_address) (He.fAd K d_m_split_address.at_) cdv A outer s H E) (E := E) rfl rfl rfl rfl
  have hp := passes_of (X := cxOf (L2.CX P w) P w K mg base ["word", "user", "sign", "host"] "split_address" (defScope sD_m_split_address) (He.fAd K d_m_split_address.at_) cdv A outer s H E) rfl
  exact (ss_cons (ss_asg [3, 2, 1] (se_bm PySem.F.plainAttrs_str PySem.F.slot_str_partition PySem.F.type_str_partition mt_partition (.inl ⟨rfl, rfl⟩) v_partition (se_var 0) (sa_cons (se_str [64]) sa_nil)) (sg_tup rfl (sgs_cons (sg_name sc_m_split_address.nd) (sgs_cons (sg_name sc_m_split_address.nd) (sgs_cons (sg_name sc_m_split_address.nd) sgs_nil)))))
    (ss_cons (ss_if (st_w (sw_or (st_eq hr (se_var 2) (se_str [])) (sw_or (st_not (st_val (se_cd F_m_is_name (hr.mono (by decide)) rfl (He.glo_ok KX G (c.fact 7 (f := .glo "is_name") rfl)) tk (sa_cons (se_var 1) sa_nil)))) (sw_or1 (st_not (st_val (se_cd F_m_is_name (hr.mono (by decide)) rfl (He.glo_ok KX G (c.fact 7 (f := .glo "is_name") rfl)) tk (sa_cons (se_var 3) sa_nil)))))))) (ss_one (ss_ret se_non))
    ss_nil)
    (ss_one (ss_ret (se_tup (sa_cons (se_var 1) (sa_cons (se_var 3) sa_nil)))))))
theorem bd_m_split_address {fd : FuncData} (F : FunD K d_m_split_address.name d_m_split_address.qual d_m_split_address.params d_m_split_address.body d_m_split_address.scope (He.DefD.dvs K d_m_split_address) (He.DefD.kws K d_m_split_address) (He.fAd K d_m_split_address.at_) fd) : Binds K fd ["word"] [] := FunD.bindsN (ps := ["word"]) F fun _ _ _ _ _ _ us hl => match us, hl with | [_], _ => rfl
theorem ok_m_split_address (KX : K.In h) (G : h.Ns mainGlobals mg) (c : He.SaysD fas fns K) (F_m_is_name : Okd P w K mg base B 2 (He.fAd K d_m_is_name.at_) ["word"] m_is_name) : Okd P w K mg base B 3 (He.fAd K d_m_split_address.at_) ["word"] m_split_address := by
  obtain ⟨fd, F⟩ := c.def_ 4 (d := d_m_split_address) rfl
  exact ⟨fd, fn_m_split_address KX G c F_m_is_name F, bd_m_split_address F, F.kp⟩
theorem sc_m_is_address : FnScope ["word"] ["word"] (defScope sD_m_is_address) := ⟨rfl, rfl, rfl, by decide +kernel, rfl, by decide +kernel, by decide +kernel⟩
theorem fn_m_is_address (KX : K.In h) (G : h.Ns mainGlobals mg) (c : He.SaysD fas fns K) (F_m_split_address : Okd P w K mg base B 3 (He.fAd K d_m_split_address.at_) ["word"] m_split_address) {fd : FuncData} (F : FunD K d_m_is_address.name d_m_is_address.qual d_m_is_address.params d_m_is_address.body d_m_is_address.scope (He.DefD.dvs K d_m_is_address) (He.DefD.kws K d_m_is_address) (He.fAd K d_m_is_address.at_) fd) : FnOk P w K mg base (L2.CX P w) 4 (He.fAd K d_m_is_address.at_) fd ["word"] (spM K B m_is_address) := by
  refine def_ok (k := 3) (nN := 1) (nP := 1) F sc_m_is_address _ rfl rfl fun cdv A outer s H E hr => ?_
  have tk := takes_of (X := cxOf (L2.CX P w) P w K mg base ["word"] "is_address" (defScope sD_m_is_address) (He.fAd K d_m_is_address.at_) cdv A outer s H E) (E := E) rfl rfl rfl rfl
  have hp := passes_of (X := cxOf (L2.CX P w) P w K mg base ["word"] "is_address" (defScope sD_m_is_address) (He.fAd K d_m_is_address.at_) cdv A outer s H E) rfl
  exact (ss_one (ss_ret (se_notN (se_cd F_m_split_address (hr.mono (by decide)) rfl (He.glo_ok KX G (c.fact 8 (f := .glo "split_address") rfl)) tk (sa_cons (se_var 0) sa_nil)))))
theorem bd_m_is_address {fd : FuncData} (F : FunD K d_m_is_address.name d_m_is_address.qual d_m_is_address.params d_m_is_address.body d_m_is_address.scope (He.DefD.dvs K d_m_is_address) (He.DefD.kws K d_m_is_address) (He.fAd K d_m_is_address.at_) fd) : Binds K fd ["word"] [] := FunD.bindsN (ps := ["word"]) F fun _ _ _ _ _ _ us hl => match us, hl with | [_], _ => rfl
theorem ok_m_is_address (KX : K.In h) (G : h.Ns mainGlobals mg) (c : He.SaysD fas fns K) (F_m_split_address : Okd P w K mg base B 3 (He.fAd K d_m_split_address.at_) ["word"] m_split_address) : Okd P w K mg base B 4 (He.fAd K d_m_is_address.at_) ["word"] m_is_address := by
  obtain ⟨fd, F⟩ := c.def_ 5 (d := d_m_is_address) rfl
  exact ⟨fd, fn_m_is_address KX G c F_m_split_address F, bd_m_is_address F, F.kp⟩
theorem sc_m_law_state : FnScope ["_law_script", "_law_seed", "_law_cell"] ["_law_script"] (defScope sD_m_law_state) := ⟨rfl, rfl, rfl, by decide +kernel, rfl, by decide +kernel, by decide +kernel⟩
theorem fn_m_law_state (KX : K.In h) (G : h.Ns mainGlobals mg) (c : He.SaysD fas fns K) {fd : FuncData} (F : FunD K d_m_law_state.name d_m_law_state.qual d_m_law_state.params d_m_law_state.body d_m_law_state.scope (He.DefD.dvs K d_m_law_state) (He.DefD.kws K d_m_law_state) (He.fAd K d_m_law_state.at_) fd) : FnOk P w K mg base (L2.CX P w) 1 (He.fAd K d_m_law_state.at_) fd ["_law_script"] (spM K B m_law_state) := by
  refine def_ok (k := 0) (nN := 3) (nP := 1) F sc_m_law_state _ rfl rfl fun cdv A outer s H E hr => ?_
  have tk := takes_of (X := cxOf (L2.CX P w) P w K mg base ["_law_script", "_law_seed", "_law_cell"] "_law_state" (defScope sD_m_law_state) (He.fAd K d_m_law_state.at_) cdv A outer s H E) (E := E) rfl rfl rfl rfl
  have hp := passes_of (X := cxOf (L2.CX P w) P w K mg base ["_law_script", "_law_seed", "_law_cell"] "_law_state" (defScope sD_m_law_state) (He.fAd K d_m_law_state.at_) cdv A outer s H E) rfl
  exact (ss_cons (ss_set (i := 1) sc_m_law_state.nd se_int)
    (ss_cons (ss_for hp rfl (se_var 0) [2] (sg_name sc_m_law_state.nd)
    (ss_one (ss_set (i := 1) sc_m_law_state.nd (se_mod (se_callT call_intAny v_int rfl (He.free_ok KX G (c.fact 6 (f := .free "int") rfl)) (by decide +kernel) (sa_cons (se_add (se_mul (se_var 1) se_int) (se_var 2)) sa_nil)) se_int))))
    (ss_one (ss_ret (se_lst (sa_cons (se_comp (own := [("_law_cell", 2)]) rfl sc_m_law_state.nd (se_var 0) (blkOk_by (own := [("_law_cell", 2)]) (N := ["_law_script", "_law_seed", "_law_cell"]) (sc := defScope sD_m_law_state) (by decide +kernel)) (fun _ _ _ _ _ => (sg_name sc_m_law_state.nd)) (fun _ _ _ _ _ => sts_nil) (fun _ _ _ _ _ => (se_callB call_abs v_abs rfl (He.free_ok KX G (c.fact 9 (f := .free "abs") rfl)) (by decide +kernel) (sa_cons (se_var 2) sa_nil)))) (sa_cons (se_add (se_var 1) se_int) sa_nil)))))))
theorem bd_m_law_state {fd : FuncData} (F : FunD K d_m_law_state.name d_m_law_state.qual d_m_law_state.params d_m_law_state.body d_m_law_state.scope (He.DefD.dvs K d_m_law_state) (He.DefD.kws K d_m_law_state) (He.fAd K d_m_law_state.at_) fd) : Binds K fd ["_law_script"] [] := FunD.bindsN (ps := ["_law_script"]) F fun _ _ _ _ _ _ us hl => match us, hl with | [_], _ => rfl
theorem ok_m_law_state (KX : K.In h) (G : h.Ns mainGlobals mg) (c : He.SaysD fas fns K) : Okd P w K mg base B 1 (He.fAd K d_m_law_state.at_) ["_law_script"] m_law_state := by
  obtain ⟨fd, F⟩ := c.def_ 6 (d := d_m_law_state) rfl
  exact ⟨fd, fn_m_law_state KX G c F, bd_m_law_state F, F.kp⟩
theorem sc_m_law_draw : FnScope ["_law_state_here", "_law_many", "_law_cells", "_law_value", "_law_mixed"] ["_law_state_here", "_law_many"] (defScope sD_m_law_draw) := ⟨rfl, rfl, rfl, by decide +kernel, rfl, by decide +kernel, by decide +kernel⟩
theorem fn_m_law_draw (KX : K.In h) (G : h.Ns mainGlobals mg) (c : He.SaysD fas fns K) {fd : FuncData} (F : FunD K d_m_law_draw.name d_m_law_draw.qual d_m_law_draw.params d_m_law_draw.body d_m_law_draw.scope (He.DefD.dvs K d_m_law_draw) (He.DefD.kws K d_m_law_draw) (He.fAd K d_m_law_draw.at_) fd) : FnOk P w K mg base (L2.CX P w) 1 (He.fAd K d_m_law_draw.at_) fd ["_law_state_here", "_law_many"] (spM K B m_law_draw) := by
  refine def_ok (k := 0) (nN := 5) (nP := 2) F sc_m_law_draw _ rfl rfl fun cdv A outer s H E hr => ?_
  have tk := takes_of (X := cxOf (L2.CX P w) P w K mg base ["_law_state_here", "_law_many", "_law_cells", "_law_value", "_law_mixed"] "_law_draw" (defScope sD_m_law_draw) (He.fAd K d_m_law_draw.at_) cdv A outer s H E) (E := E) rfl rfl rfl rfl
  have hp := passes_of (X := cxOf (L2.CX P w) P w K mg base ["_law_state_here", "_law_many", "_law_cells", "_law_value", "_law_mixed"] "_law_draw" (defScope sD_m_law_draw) (He.fAd K d_m_law_draw.at_) cdv A outer s H E) rfl
  exact (ss_cons (ss_set (i := 2) sc_m_law_draw.nd (se_ix (se_var 0) se_int))
    (ss_cons (ss_while 1000 hp (st_w (sw_and (st_gt (se_callB call_len v_len rfl (He.free_ok KX G (c.fact 0 (f := .free "len") rfl)) (by decide +kernel) (sa_cons (se_var 2) sa_nil)) se_int) (sw_and1 (st_eq hr (se_ix (se_var 2) se_int) se_int)))) (ss_one (ss_expr (se_bm PySem.F.plainAttrs_list PySem.F.slot_list_pop PySem.F.type_list_pop mt_popAt (.inr (.inl ⟨rfl, rfl⟩)) v_popAt (se_var 2) (sa_cons se_int sa_nil)))))
    (ss_cons (ss_if (st_gt (se_callB call_len v_len rfl (He.free_ok KX G (c.fact 0 (f := .free "len") rfl)) (by decide +kernel) (sa_cons (se_var 2) sa_nil)) se_int) (ss_cons (ss_set (i := 3) sc_m_law_draw.nd (se_ix (se_var 2) se_int))
    (ss_cons (ss_setIx (se_fdiv (se_var 3) (se_var 1)) (se_var 2) se_int)
    (ss_one (ss_ret (se_mod (se_callT call_intAny v_int rfl (He.free_ok KX G (c.fact 6 (f := .free "int") rfl)) (by decide +kernel) (sa_cons (se_var 3) sa_nil)) (se_var 1))))))
    ss_nil)
    (ss_cons (ss_set (i := 4) sc_m_law_draw.nd (se_mod (se_callT call_intAny v_int rfl (He.free_ok KX G (c.fact 6 (f := .free "int") rfl)) (by decide +kernel) (sa_cons (se_add (se_mul (se_ix (se_var 0) se_int) se_int) se_int) sa_nil)) se_int))
    (ss_cons (ss_setIx (se_var 4) (se_var 0) se_int)
    (ss_one (ss_ret (se_mod (se_callT call_intAny v_int rfl (He.free_ok KX G (c.fact 6 (f := .free "int") rfl)) (by decide +kernel) (sa_cons (se_fdiv (se_var 4) se_int) sa_nil)) (se_var 1)))))))))
theorem bd_m_law_draw {fd : FuncData} (F : FunD K d_m_law_draw.name d_m_law_draw.qual d_m_law_draw.params d_m_law_draw.body d_m_law_draw.scope (He.DefD.dvs K d_m_law_draw) (He.DefD.kws K d_m_law_draw) (He.fAd K d_m_law_draw.at_) fd) : Binds K fd ["_law_state_here", "_law_many"] [] := FunD.bindsN (ps := ["_law_state_here", "_law_many"]) F fun _ _ _ _ _ _ us hl => match us, hl with | [_, _], _ => rfl
theorem ok_m_law_draw (KX : K.In h) (G : h.Ns mainGlobals mg) (c : He.SaysD fas fns K) : Okd P w K mg base B 1 (He.fAd K d_m_law_draw.at_) ["_law_state_here", "_law_many"] m_law_draw := by
  obtain ⟨fd, F⟩ := c.def_ 7 (d := d_m_law_draw) rfl
  exact ⟨fd, fn_m_law_draw KX G c F, bd_m_law_draw F, F.kp⟩
theorem sc_m_law_pick : FnScope ["_law_state_here", "_law_row"] ["_law_state_here", "_law_row"] (defScope sD_m_law_pick) := ⟨rfl, rfl, rfl, by decide +kernel, rfl, by decide +kernel, by decide +kernel⟩
theorem fn_m_law_pick (KX : K.In h) (G : h.Ns mainGlobals mg) (c : He.SaysD fas fns K) (F_m_law_draw : Okd P w K mg base B 1 (He.fAd K d_m_law_draw.at_) ["_law_state_here", "_law_many"] m_law_draw) {fd : FuncData} (F : FunD K d_m_law_pick.name d_m_law_pick.qual d_m_law_pick.params d_m_law_pick.body d_m_law_pick.scope (He.DefD.dvs K d_m_law_pick) (He.DefD.kws K d_m_law_pick) (He.fAd K d_m_law_pick.at_) fd) : FnOk P w K mg base (L2.CX P w) 2 (He.fAd K d_m_law_pick.at_) fd ["_law_state_here", "_law_row"] (spM K B m_law_pick) := by
  refine def_ok (k := 1) (nN := 2) (nP := 2) F sc_m_law_pick _ rfl rfl fun cdv A outer s H E hr => ?_
  have tk := takes_of (X := cxOf (L2.CX P w) P w K mg base ["_law_state_here", "_law_row"] "_law_pick" (defScope sD_m_law_pick) (He.fAd K d_m_law_pick.at_) cdv A outer s H E) (E := E) rfl rfl rfl rfl
  have hp := passes_of (X := cxOf (L2.CX P w) P w K mg base ["_law_state_here", "_law_row"] "_law_pick" (defScope sD_m_law_pick) (He.fAd K d_m_law_pick.at_) cdv A outer s H E) rfl
  exact (ss_one (ss_ret (se_ix (se_var 1) (se_cd F_m_law_draw (hr.mono (by decide)) rfl (He.glo_ok KX G (c.fact 10 (f := .glo "_law_draw") rfl)) tk (sa_cons (se_var 0) (sa_cons (se_callB call_len v_len rfl (He.free_ok KX G (c.fact 0 (f := .free "len") rfl)) (by decide +kernel) (sa_cons (se_var 1) sa_nil)) sa_nil))))))
theorem bd_m_law_pick {fd : FuncData} (F : FunD K d_m_law_pick.name d_m_law_pick.qual d_m_law_pick.params d_m_law_pick.body d_m_law_pick.scope (He.DefD.dvs K d_m_law_pick) (He.DefD.kws K d_m_law_pick) (He.fAd K d_m_law_pick.at_) fd) : Binds K fd ["_law_state_here", "_law_row"] [] := FunD.bindsN (ps := ["_law_state_here", "_law_row"]) F fun _ _ _ _ _ _ us hl => match us, hl with | [_, _], _ => rfl
theorem ok_m_law_pick (KX : K.In h) (G : h.Ns mainGlobals mg) (c : He.SaysD fas fns K) (F_m_law_draw : Okd P w K mg base B 1 (He.fAd K d_m_law_draw.at_) ["_law_state_here", "_law_many"] m_law_draw) : Okd P w K mg base B 2 (He.fAd K d_m_law_pick.at_) ["_law_state_here", "_law_row"] m_law_pick := by
  obtain ⟨fd, F⟩ := c.def_ 8 (d := d_m_law_pick) rfl
  exact ⟨fd, fn_m_law_pick KX G c F_m_law_draw F, bd_m_law_pick F, F.kp⟩
theorem sc_m_law_chars : FnScope [] [] (defScope sD_m_law_chars) := ⟨rfl, rfl, rfl, by decide +kernel, rfl, by decide +kernel, by decide +kernel⟩
theorem fn_m_law_chars (KX : K.In h) (G : h.Ns mainGlobals mg) (c : He.SaysD fas fns K) {fd : FuncData} (F : FunD K d_m_law_chars.name d_m_law_chars.qual d_m_law_chars.params d_m_law_chars.body d_m_law_chars.scope (He.DefD.dvs K d_m_law_chars) (He.DefD.kws K d_m_law_chars) (He.fAd K d_m_law_chars.at_) fd) : FnOk P w K mg base (L2.CX P w) 1 (He.fAd K d_m_law_chars.at_) fd [] (spM K B m_law_chars) := by
  refine def_ok (k := 0) (nN := 0) (nP := 0) F sc_m_law_chars _ rfl rfl fun cdv A outer s H E hr => ?_
  have tk := takes_of (X := cxOf (L2.CX P w) P w K mg base [] "_law_chars" (defScope sD_m_law_chars) (He.fAd K d_m_law_chars.at_) cdv A outer s H E) (E := E) rfl rfl rfl rfl
  have hp := passes_of (X := cxOf (L2.CX P w) P w K mg base [] "_law_chars" (defScope sD_m_law_chars) (He.fAd K d_m_law_chars.at_) cdv A outer s H E) rfl
  exact (ss_one (ss_ret (se_str [32, 33, 34, 35, 36, 38, 39, 40, 41, 42, 43, 44, 45, 46, 47, 48, 49, 50, 51, 52, 53, 54, 55, 56, 57, 58, 59, 60, 61, 62, 63, 64, 65, 66, 67, 68, 69, 70, 71, 72, 73, 74, 75, 76, 77, 78, 79, 80, 81, 82, 83, 84, 85, 86, 87, 88, 89, 90, 91, 92, 93, 94, 95, 96, 97, 98, 99, 100, 101, 102, 103, 104, 105, 106, 107, 108, 109, 110, 111, 112, 113, 114, 115, 116, 117, 118, 119, 120, 121, 122, 123, 124, 125, 126])))
theorem bd_m_law_chars {fd : FuncData} (F : FunD K d_m_law_chars.name d_m_law_chars.qual d_m_law_chars.params d_m_law_chars.body d_m_law_chars.scope (He.DefD.dvs K d_m_law_chars) (He.DefD.kws K d_m_law_chars) (He.fAd K d_m_law_chars.at_) fd) : Binds K fd [] [] := FunD.bindsN (ps := []) F fun _ _ _ _ _ _ us hl => match us, hl with | [], _ => rfl
theorem ok_m_law_chars (KX : K.In h) (G : h.Ns mainGlobals mg) (c : He.SaysD fas fns K) : Okd P w K mg base B 1 (He.fAd K d_m_law_chars.at_) [] m_law_chars := by
  obtain ⟨fd, F⟩ := c.def_ 9 (d := d_m_law_chars) rfl
  exact ⟨fd, fn_m_law_chars KX G c F, bd_m_law_chars F, F.kp⟩
theorem sc_m_law_word : FnScope ["_law_state_here", "_law_chars_here", "_law_many", "_law_k"] ["_law_state_here", "_law_chars_here", "_law_many"] (defScope sD_m_law_word) := ⟨rfl, rfl, rfl, by decide +kernel, rfl, by decide +kernel, by decide +kernel⟩
theorem fn_m_law_word (KX : K.In h) (G : h.Ns mainGlobals mg) (c : He.SaysD fas fns K) (F_m_law_pick : Okd P w K mg base B 2 (He.fAd K d_m_law_pick.at_) ["_law_state_here", "_law_row"] m_law_pick) {fd : FuncData} (F : FunD K d_m_law_word.name d_m_law_word.qual d_m_law_word.params d_m_law_word.body d_m_law_word.scope (He.DefD.dvs K d_m_law_word) (He.DefD.kws K d_m_law_word) (He.fAd K d_m_law_word.at_) fd) : FnOk P w K mg base (L2.CX P w) 3 (He.fAd K d_m_law_word.at_) fd ["_law_state_here", "_law_chars_here", "_law_many"] (spM K B m_law_word) := by
  refine def_ok (k := 2) (nN := 4) (nP := 3) F sc_m_law_word _ rfl rfl fun cdv A outer s H E hr => ?_
  have tk := takes_of (X := cxOf (L2.CX P w) P w K mg base ["_law_state_here", "_law_chars_here", "_law_many", "_law_k"] "_law_word" (defScope sD_m_law_word) (He.fAd K d_m_law_word.at_) cdv A outer s H E) (E := E) rfl rfl rfl rfl
  have hp := passes_of (X := cxOf (L2.CX P w) P w K mg base ["_law_state_here", "_law_chars_here", "_law_many", "_law_k"] "_law_word" (defScope sD_m_law_word) (He.fAd K d_m_law_word.at_) cdv A outer s H E) rfl
  exact (ss_one (ss_ret (se_bm PySem.F.plainAttrs_str PySem.F.slot_str_join PySem.F.type_str_join mt_join (.inl ⟨rfl, rfl⟩) v_join (se_str []) (sa_cons (se_compR (own := [("_law_k", 3)]) rfl sc_m_law_word.nd rfl (He.free_ok KX G (c.fact 12 (f := .free "range") rfl)) (se_var 2) (blkOk_by (own := [("_law_k", 3)]) (N := ["_law_state_here", "_law_chars_here", "_law_many", "_law_k"]) (sc := defScope sD_m_law_word) (by decide +kernel)) (fun _ _ _ _ _ => (sg_name sc_m_law_word.nd)) (fun _ _ _ _ _ => sts_nil) (fun _ _ _ _ _ => (se_cd F_m_law_pick (hr.mono (by decide)) rfl (He.glo_ok KX G (c.fact 11 (f := .glo "_law_pick") rfl)) takes0 (sa_cons (se_var 0) (sa_cons (se_var 1) sa_nil))))) sa_nil))))
theorem bd_m_law_word {fd : FuncData} (F : FunD K d_m_law_word.name d_m_law_word.qual d_m_law_word.params d_m_law_word.body d_m_law_word.scope (He.DefD.dvs K d_m_law_word) (He.DefD.kws K d_m_law_word) (He.fAd K d_m_law_word.at_) fd) : Binds K fd ["_law_state_here", "_law_chars_here", "_law_many"] [] := FunD.bindsN (ps := ["_law_state_here", "_law_chars_here", "_law_many"]) F fun _ _ _ _ _ _ us hl => match us, hl with | [_, _, _], _ => rfl
theorem ok_m_law_word (KX : K.In h) (G : h.Ns mainGlobals mg) (c : He.SaysD fas fns K) (F_m_law_pick : Okd P w K mg base B 2 (He.fAd K d_m_law_pick.at_) ["_law_state_here", "_law_row"] m_law_pick) : Okd P w K mg base B 3 (He.fAd K d_m_law_word.at_) ["_law_state_here", "_law_chars_here", "_law_many"] m_law_word := by
  obtain ⟨fd, F⟩ := c.def_ 10 (d := d_m_law_word) rfl
  exact ⟨fd, fn_m_law_word KX G c F_m_law_pick F, bd_m_law_word F, F.kp⟩
theorem sc_m_law_name : FnScope ["_law_state_here", "_law_small"] ["_law_state_here"] (defScope sD_m_law_name) := ⟨rfl, rfl, rfl, by decide +kernel, rfl, by decide +kernel, by decide +kernel⟩
theorem fn_m_law_name (KX : K.In h) (G : h.Ns mainGlobals mg) (c : He.SaysD fas fns K) (F_m_law_draw : Okd P w K mg base B 1 (He.fAd K d_m_law_draw.at_) ["_law_state_here", "_law_many"] m_law_draw) (F_m_law_pick : Okd P w K mg base B 2 (He.fAd K d_m_law_pick.at_) ["_law_state_here", "_law_row"] m_law_pick) (F_m_law_word : Okd P w K mg base B 3 (He.fAd K d_m_law_word.at_) ["_law_state_here", "_law_chars_here", "_law_many"] m_law_word) {fd : FuncData} (F : FunD K d_m_law_name.name d_m_law_name.qual d_m_law_name.params d_m_law_name.body d_m_law_name.scope (He.DefD.dvs K d_m_law_name) (He.DefD.kws K d_m_law_name) (He.fAd K d_m_law_name.at_) fd) : FnOk P w K mg base (L2.CX P w) 4 (He.fAd K d_m_law_name.at_) fd ["_law_state_here"] (spM K B m_law_name) := by
  refine def_ok (k := 3) (nN := 2) (nP := 1) F sc_m_law_name _ rfl rfl fun cdv A outer s H E hr => ?_
  have tk := takes_of (X := cxOf (L2.CX P w) P w K mg base ["_law_state_here", "_law_small"] "_law_name" (defScope sD_m_law_name) (He.fAd K d_m_law_name.at_) cdv A outer s H E) (E := E) rfl rfl rfl rfl
  have hp := passes_of (X := cxOf (L2.CX P w) P w K mg base ["_law_state_here", "_law_small"] "_law_name" (defScope sD_m_law_name) (He.fAd K d_m_law_name.at_) cdv A outer s H E) rfl
  exact (ss_cons (ss_set (i := 1) sc_m_law_name.nd (se_str [97, 98, 99, 100, 101, 102, 103, 104, 105, 106, 107, 108, 109, 110, 111, 112, 113, 114, 115, 116, 117, 118, 119, 120, 121, 122]))
    (ss_one (ss_ret (se_add (se_cd F_m_law_pick (hr.mono (by decide)) rfl (He.glo_ok KX G (c.fact 11 (f := .glo "_law_pick") rfl)) tk (sa_cons (se_var 0) (sa_cons (se_var 1) sa_nil))) (se_cd F_m_law_word (hr.mono (by decide)) rfl (He.glo_ok KX G (c.fact 13 (f := .glo "_law_word") rfl)) tk (sa_cons (se_var 0) (sa_cons (se_add (se_var 1) (se_str [48, 49, 50, 51, 52, 53, 54, 55, 56, 57])) (sa_cons (se_cd F_m_law_draw (hr.mono (by decide)) rfl (He.glo_ok KX G (c.fact 10 (f := .glo "_law_draw") rfl)) tk (sa_cons (se_var 0) (sa_cons se_int sa_nil))) sa_nil))))))))
theorem bd_m_law_name {fd : FuncData} (F : FunD K d_m_law_name.name d_m_law_name.qual d_m_law_name.params d_m_law_name.body d_m_law_name.scope (He.DefD.dvs K d_m_law_name) (He.DefD.kws K d_m_law_name) (He.fAd K d_m_law_name.at_) fd) : Binds K fd ["_law_state_here"] [] := FunD.bindsN (ps := ["_law_state_here"]) F fun _ _ _ _ _ _ us hl => match us, hl with | [_], _ => rfl
theorem ok_m_law_name (KX : K.In h) (G : h.Ns mainGlobals mg) (c : He.SaysD fas fns K) (F_m_law_draw : Okd P w K mg base B 1 (He.fAd K d_m_law_draw.at_) ["_law_state_here", "_law_many"] m_law_draw) (F_m_law_pick : Okd P w K mg base B 2 (He.fAd K d_m_law_pick.at_) ["_law_state_here", "_law_row"] m_law_pick) (F_m_law_word : Okd P w K mg base B 3 (He.fAd K d_m_law_word.at_) ["_law_state_here", "_law_chars_here", "_law_many"] m_law_word) : Okd P w K mg base B 4 (He.fAd K d_m_law_name.at_) ["_law_state_here"] m_law_name := by
  obtain ⟨fd, F⟩ := c.def_ 11 (d := d_m_law_name) rfl
  exact ⟨fd, fn_m_law_name KX G c F_m_law_draw F_m_law_pick F_m_law_word F, bd_m_law_name F, F.kp⟩
theorem sc_m_law_base : FnScope ["_law_state_here", "_law_kind"] ["_law_state_here"] (defScope sD_m_law_base) := ⟨rfl, rfl, rfl, by decide +kernel, rfl, by decide +kernel, by decide +kernel⟩
theorem fn_m_law_base (KX : K.In h) (G : h.Ns mainGlobals mg) (c : He.SaysD fas fns K) (F_m_law_draw : Okd P w K mg base B 1 (He.fAd K d_m_law_draw.at_) ["_law_state_here", "_law_many"] m_law_draw) (F_m_law_pick : Okd P w K mg base B 2 (He.fAd K d_m_law_pick.at_) ["_law_state_here", "_law_row"] m_law_pick) (F_m_law_chars : Okd P w K mg base B 1 (He.fAd K d_m_law_chars.at_) [] m_law_chars) (F_m_law_word : Okd P w K mg base B 3 (He.fAd K d_m_law_word.at_) ["_law_state_here", "_law_chars_here", "_law_many"] m_law_word) (F_m_law_name : Okd P w K mg base B 4 (He.fAd K d_m_law_name.at_) ["_law_state_here"] m_law_name) {fd : FuncData} (F : FunD K d_m_law_base.name d_m_law_base.qual d_m_law_base.params d_m_law_base.body d_m_law_base.scope (He.DefD.dvs K d_m_law_base) (He.DefD.kws K d_m_law_base) (He.fAd K d_m_law_base.at_) fd) : FnOk P w K mg base (L2.CX P w) 5 (He.fAd K d_m_law_base.at_) fd ["_law_state_here"] (spM K B m_law_base) := by
  refine def_ok (k := 4) (nN := 2) (nP := 1) F sc_m_law_base _ rfl rfl fun cdv A outer s H E hr => ?_
  have tk := takes_of (X := cxOf (L2.CX P w) P w K mg base ["_law_state_here", "_law_kind"] "_law_base" (defScope sD_m_law_base) (He.fAd K d_m_law_base.at_) cdv A outer s H E) (E := E) rfl rfl rfl rfl
  have hp := passes_of (X := cxOf (L2.CX P w) P w K mg base ["_law_state_here", "_law_kind"] "_law_base" (defScope sD_m_law_base) (He.fAd K d_m_law_base.at_) cdv A outer s H E) rfl
  exact (ss_cons (ss_set (i := 1) sc_m_law_base.nd (se_cd F_m_law_draw (hr.mono (by decide)) rfl (He.glo_ok KX G (c.fact 10 (f := .glo "_law_draw") rfl)) tk (sa_cons (se_var 0) (sa_cons se_int sa_nil))))
    (ss_cons (ss_if (st_lt (se_var 1) se_int) (ss_one (ss_ret (se_cd F_m_law_name (hr.mono (by decide)) rfl (He.glo_ok KX G (c.fact 14 (f := .glo "_law_name") rfl)) tk (sa_cons (se_var 0) sa_nil))))
    ss_nil)
    (ss_cons (ss_if (st_eq hr (se_var 1) se_int) (ss_one (ss_ret (se_add (se_add (se_cd F_m_law_name (hr.mono (by decide)) rfl (He.glo_ok KX G (c.fact 14 (f := .glo "_law_name") rfl)) tk (sa_cons (se_var 0) sa_nil)) (se_str [64])) (se_cd F_m_law_name (hr.mono (by decide)) rfl (He.glo_ok KX G (c.fact 14 (f := .glo "_law_name") rfl)) tk (sa_cons (se_var 0) sa_nil)))))
    ss_nil)
    (ss_cons (ss_if (st_eq hr (se_var 1) se_int) (ss_one (ss_ret (se_callT call_str_int v_str rfl (He.free_ok KX G (c.fact 15 (f := .free "str") rfl)) (by decide +kernel) (sa_cons (se_cd F_m_law_pick (hr.mono (by decide)) rfl (He.glo_ok KX G (c.fact 11 (f := .glo "_law_pick") rfl)) tk (sa_cons (se_var 0) (sa_cons (se_lst (sa_cons se_int (sa_cons se_int (sa_cons se_int (sa_cons se_int (sa_cons se_int (sa_cons (se_cd F_m_law_draw (hr.mono (by decide)) rfl (He.glo_ok KX G (c.fact 10 (f := .glo "_law_draw") rfl)) tk (sa_cons (se_var 0) (sa_cons se_int sa_nil))) sa_nil))))))) sa_nil))) sa_nil))))
    ss_nil)
    (ss_cons (ss_if (st_eq hr (se_var 1) se_int) (ss_one (ss_ret (se_cd F_m_law_word (hr.mono (by decide)) rfl (He.glo_ok KX G (c.fact 13 (f := .glo "_law_word") rfl)) tk (sa_cons (se_var 0) (sa_cons (se_str [97, 98, 122, 65, 90, 48, 49, 57]) (sa_cons (se_cd F_m_law_draw (hr.mono (by decide)) rfl (He.glo_ok KX G (c.fact 10 (f := .glo "_law_draw") rfl)) tk (sa_cons (se_var 0) (sa_cons se_int sa_nil))) sa_nil))))))
    ss_nil)
    (ss_one (ss_ret (se_cd F_m_law_word (hr.mono (by decide)) rfl (He.glo_ok KX G (c.fact 13 (f := .glo "_law_word") rfl)) tk (sa_cons (se_var 0) (sa_cons (se_cd0 F_m_law_chars (hr.mono (by decide)) rfl (He.glo_ok KX G (c.fact 16 (f := .glo "_law_chars") rfl)) tk) (sa_cons (se_cd F_m_law_draw (hr.mono (by decide)) rfl (He.glo_ok KX G (c.fact 10 (f := .glo "_law_draw") rfl)) tk (sa_cons (se_var 0) (sa_cons se_int sa_nil))) sa_nil)))))))))))
theorem bd_m_law_base {fd : FuncData} (F : FunD K d_m_law_base.name d_m_law_base.qual d_m_law_base.params d_m_law_base.body d_m_law_base.scope (He.DefD.dvs K d_m_law_base) (He.DefD.kws K d_m_law_base) (He.fAd K d_m_law_base.at_) fd) : Binds K fd ["_law_state_here"] [] := FunD.bindsN (ps := ["_law_state_here"]) F fun _ _ _ _ _ _ us hl => match us, hl with | [_], _ => rfl
theorem ok_m_law_base (KX : K.In h) (G : h.Ns mainGlobals mg) (c : He.SaysD fas fns K) (F_m_law_draw : Okd P w K mg base B 1 (He.fAd K d_m_law_draw.at_) ["_law_state_here", "_law_many"] m_law_draw) (F_m_law_pick : Okd P w K mg base B 2 (He.fAd K d_m_law_pick.at_) ["_law_state_here", "_law_row"] m_law_pick) (F_m_law_chars : Okd P w K mg base B 1 (He.fAd K d_m_law_chars.at_) [] m_law_chars) (F_m_law_word : Okd P w K mg base B 3 (He.fAd K d_m_law_word.at_) ["_law_state_here", "_law_chars_here", "_law_many"] m_law_word) (F_m_law_name : Okd P w K mg base B 4 (He.fAd K d_m_law_name.at_) ["_law_state_here"] m_law_name) : Okd P w K mg base B 5 (He.fAd K d_m_law_base.at_) ["_law_state_here"] m_law_base := by
  obtain ⟨fd, F⟩ := c.def_ 12 (d := d_m_law_base) rfl
  exact ⟨fd, fn_m_law_base KX G c F_m_law_draw F_m_law_pick F_m_law_chars F_m_law_word F_m_law_name F, bd_m_law_base F, F.kp⟩
theorem sc_m_law_changed : FnScope ["_law_state_here", "_law_word_here", "_law_at", "_law_kind"] ["_law_state_here", "_law_word_here"] (defScope sD_m_law_changed) := ⟨rfl, rfl, rfl, by decide +kernel, rfl, by decide +kernel, by decide +kernel⟩
theorem fn_m_law_changed (KX : K.In h) (G : h.Ns mainGlobals mg) (c : He.SaysD fas fns K) (F_m_law_draw : Okd P w K mg base B 1 (He.fAd K d_m_law_draw.at_) ["_law_state_here", "_law_many"] m_law_draw) (F_m_law_pick : Okd P w K mg base B 2 (He.fAd K d_m_law_pick.at_) ["_law_state_here", "_law_row"] m_law_pick) (F_m_law_chars : Okd P w K mg base B 1 (He.fAd K d_m_law_chars.at_) [] m_law_chars) {fd : FuncData} (F : FunD K d_m_law_changed.name d_m_law_changed.qual d_m_law_changed.params d_m_law_changed.body d_m_law_changed.scope (He.DefD.dvs K d_m_law_changed) (He.DefD.kws K d_m_law_changed) (He.fAd K d_m_law_changed.at_) fd) : FnOk P w K mg base (L2.CX P w) 3 (He.fAd K d_m_law_changed.at_) fd ["_law_state_here", "_law_word_here"] (spM K B m_law_changed) := by
  refine def_ok (k := 2) (nN := 4) (nP := 2) F sc_m_law_changed _ rfl rfl fun cdv A outer s H E hr => ?_
  have tk := takes_of (X := cxOf (L2.CX P w) P w K mg base ["_law_state_here", "_law_word_here", "_law_at", "_law_kind"] "_law_changed" (defScope sD_m_law_changed) (He.fAd K d_m_law_changed.at_) cdv A outer s H E) (E := E) rfl rfl rfl rfl
  have hp := passes_of (X := cxOf (L2.CX P w) P w K mg base ["_law_state_here", "_law_word_here", "_law_at", "_law_kind"] "_law_changed" (defScope sD_m_law_changed) (He.fAd K d_m_law_changed.at_) cdv A outer s H E) rfl
  exact (ss_cons (ss_set (i := 2) sc_m_law_changed.nd (se_cd F_m_law_draw (hr.mono (by decide)) rfl (He.glo_ok KX G (c.fact 10 (f := .glo "_law_draw") rfl)) tk (sa_cons (se_var 0) (sa_cons (se_add (se_callB call_len v_len rfl (He.free_ok KX G (c.fact 0 (f := .free "len") rfl)) (by decide +kernel) (sa_cons (se_var 1) sa_nil)) se_int) sa_nil))))
    (ss_cons (ss_set (i := 3) sc_m_law_changed.nd (se_cd F_m_law_draw (hr.mono (by decide)) rfl (He.glo_ok KX G (c.fact 10 (f := .glo "_law_draw") rfl)) tk (sa_cons (se_var 0) (sa_cons se_int sa_nil))))
    (ss_cons (ss_if (st_eq hr (se_var 3) se_int) (ss_one (ss_ret (se_add (se_add (se_slice (se_var 1) so_none (so_some (se_var 2))) (se_cd F_m_law_pick (hr.mono (by decide)) rfl (He.glo_ok KX G (c.fact 11 (f := .glo "_law_pick") rfl)) tk (sa_cons (se_var 0) (sa_cons (se_cd0 F_m_law_chars (hr.mono (by decide)) rfl (He.glo_ok KX G (c.fact 16 (f := .glo "_law_chars") rfl)) tk) sa_nil)))) (se_slice (se_var 1) (so_some (se_var 2)) so_none))))
    ss_nil)
    (ss_cons (ss_if (st_eq hr (se_var 3) se_int) (ss_one (ss_ret (se_add (se_slice (se_var 1) so_none (so_some (se_var 2))) (se_slice (se_var 1) (so_some (se_add (se_var 2) se_int)) so_none))))
    ss_nil)
    (ss_cons (ss_if (st_eq hr (se_var 3) se_int) (ss_one (ss_ret (se_add (se_add (se_slice (se_var 1) so_none (so_some (se_var 2))) (se_cd F_m_law_pick (hr.mono (by decide)) rfl (He.glo_ok KX G (c.fact 11 (f := .glo "_law_pick") rfl)) tk (sa_cons (se_var 0) (sa_cons (se_cd0 F_m_law_chars (hr.mono (by decide)) rfl (He.glo_ok KX G (c.fact 16 (f := .glo "_law_chars") rfl)) tk) sa_nil)))) (se_slice (se_var 1) (so_some (se_add (se_var 2) se_int)) so_none))))
    ss_nil)
    (ss_one (ss_ret (se_var 1))))))))
theorem bd_m_law_changed {fd : FuncData} (F : FunD K d_m_law_changed.name d_m_law_changed.qual d_m_law_changed.params d_m_law_changed.body d_m_law_changed.scope (He.DefD.dvs K d_m_law_changed) (He.DefD.kws K d_m_law_changed) (He.fAd K d_m_law_changed.at_) fd) : Binds K fd ["_law_state_here", "_law_word_here"] [] := FunD.bindsN (ps := ["_law_state_here", "_law_word_here"]) F fun _ _ _ _ _ _ us hl => match us, hl with | [_, _], _ => rfl
theorem ok_m_law_changed (KX : K.In h) (G : h.Ns mainGlobals mg) (c : He.SaysD fas fns K) (F_m_law_draw : Okd P w K mg base B 1 (He.fAd K d_m_law_draw.at_) ["_law_state_here", "_law_many"] m_law_draw) (F_m_law_pick : Okd P w K mg base B 2 (He.fAd K d_m_law_pick.at_) ["_law_state_here", "_law_row"] m_law_pick) (F_m_law_chars : Okd P w K mg base B 1 (He.fAd K d_m_law_chars.at_) [] m_law_chars) : Okd P w K mg base B 3 (He.fAd K d_m_law_changed.at_) ["_law_state_here", "_law_word_here"] m_law_changed := by
  obtain ⟨fd, F⟩ := c.def_ 13 (d := d_m_law_changed) rfl
  exact ⟨fd, fn_m_law_changed KX G c F_m_law_draw F_m_law_pick F_m_law_chars F, bd_m_law_changed F, F.kp⟩
theorem sc_m_law_only : FnScope ["_law_word_here", "_law_chars_here", "_law_char"] ["_law_word_here", "_law_chars_here"] (defScope sD_m_law_only) := ⟨rfl, rfl, rfl, by decide +kernel, rfl, by decide +kernel, by decide +kernel⟩
theorem fn_m_law_only (KX : K.In h) (G : h.Ns mainGlobals mg) (c : He.SaysD fas fns K) {fd : FuncData} (F : FunD K d_m_law_only.name d_m_law_only.qual d_m_law_only.params d_m_law_only.body d_m_law_only.scope (He.DefD.dvs K d_m_law_only) (He.DefD.kws K d_m_law_only) (He.fAd K d_m_law_only.at_) fd) : FnOk P w K mg base (L2.CX P w) 1 (He.fAd K d_m_law_only.at_) fd ["_law_word_here", "_law_chars_here"] (spM K B m_law_only) := by
  refine def_ok (k := 0) (nN := 3) (nP := 2) F sc_m_law_only _ rfl rfl fun cdv A outer s H E hr => ?_
  have tk := takes_of (X := cxOf (L2.CX P w) P w K mg base ["_law_word_here", "_law_chars_here", "_law_char"] "_law_only" (defScope sD_m_law_only) (He.fAd K d_m_law_only.at_) cdv A outer s H E) (E := E) rfl rfl rfl rfl
  have hp := passes_of (X := cxOf (L2.CX P w) P w K mg base ["_law_word_here", "_law_chars_here", "_law_char"] "_law_only" (defScope sD_m_law_only) (He.fAd K d_m_law_only.at_) cdv A outer s H E) rfl
  exact (ss_cons (ss_for hp rfl (se_var 0) [2] (sg_name sc_m_law_only.nd)
    (ss_one (ss_if (st_nin (se_var 2) (se_var 1)) (ss_one (ss_ret se_bl))
    ss_nil)))
    (ss_one (ss_ret se_bl)))
theorem bd_m_law_only {fd : FuncData} (F : FunD K d_m_law_only.name d_m_law_only.qual d_m_law_only.params d_m_law_only.body d_m_law_only.scope (He.DefD.dvs K d_m_law_only) (He.DefD.kws K d_m_law_only) (He.fAd K d_m_law_only.at_) fd) : Binds K fd ["_law_word_here", "_law_chars_here"] [] := FunD.bindsN (ps := ["_law_word_here", "_law_chars_here"]) F fun _ _ _ _ _ _ us hl => match us, hl with | [_, _], _ => rfl
theorem ok_m_law_only (KX : K.In h) (G : h.Ns mainGlobals mg) (c : He.SaysD fas fns K) : Okd P w K mg base B 1 (He.fAd K d_m_law_only.at_) ["_law_word_here", "_law_chars_here"] m_law_only := by
  obtain ⟨fd, F⟩ := c.def_ 14 (d := d_m_law_only) rfl
  exact ⟨fd, fn_m_law_only KX G c F, bd_m_law_only F, F.kp⟩
theorem sc_m_law_same : FnScope ["_law_told", "_law_due"] ["_law_told", "_law_due"] (defScope sD_m_law_same) := ⟨rfl, rfl, rfl, by decide +kernel, rfl, by decide +kernel, by decide +kernel⟩
theorem fn_m_law_same (KX : K.In h) (G : h.Ns mainGlobals mg) (c : He.SaysD fas fns K) {fd : FuncData} (F : FunD K d_m_law_same.name d_m_law_same.qual d_m_law_same.params d_m_law_same.body d_m_law_same.scope (He.DefD.dvs K d_m_law_same) (He.DefD.kws K d_m_law_same) (He.fAd K d_m_law_same.at_) fd) : FnOk P w K mg base (L2.CX P w) 1 (He.fAd K d_m_law_same.at_) fd ["_law_told", "_law_due"] (spM K B m_law_same) := by
  refine def_ok (k := 0) (nN := 2) (nP := 2) F sc_m_law_same _ rfl rfl fun cdv A outer s H E hr => ?_
  have tk := takes_of (X := cxOf (L2.CX P w) P w K mg base ["_law_told", "_law_due"] "_law_same" (defScope sD_m_law_same) (He.fAd K d_m_law_same.at_) cdv A outer s H E) (E := E) rfl rfl rfl rfl
  have hp := passes_of (X := cxOf (L2.CX P w) P w K mg base ["_law_told", "_law_due"] "_law_same" (defScope sD_m_law_same) (He.fAd K d_m_law_same.at_) cdv A outer s H E) rfl
  exact (ss_one (ss_ret (se_and (se_isi (j := 1) (T := "bool") (by decide) (by decide) (by decide +kernel) (by rfl) (He.free_ok KX G (c.fact 17 (f := .free "isinstance") rfl)) (se_var 0) (by rfl) (He.free_ok KX G (c.fact 18 (f := .free "bool") rfl)) (by rfl) (by decide +kernel)) (se_one (se_eq hr (se_var 0) (se_var 1))))))
theorem bd_m_law_same {fd : FuncData} (F : FunD K d_m_law_same.name d_m_law_same.qual d_m_law_same.params d_m_law_same.body d_m_law_same.scope (He.DefD.dvs K d_m_law_same) (He.DefD.kws K d_m_law_same) (He.fAd K d_m_law_same.at_) fd) : Binds K fd ["_law_told", "_law_due"] [] := FunD.bindsN (ps := ["_law_told", "_law_due"]) F fun _ _ _ _ _ _ us hl => match us, hl with | [_, _], _ => rfl
theorem ok_m_law_same (KX : K.In h) (G : h.Ns mainGlobals mg) (c : He.SaysD fas fns K) : Okd P w K mg base B 1 (He.fAd K d_m_law_same.at_) ["_law_told", "_law_due"] m_law_same := by
  obtain ⟨fd, F⟩ := c.def_ 15 (d := d_m_law_same) rfl
  exact ⟨fd, fn_m_law_same KX G c F, bd_m_law_same F, F.kp⟩
theorem sc_m_law_is_name : FnScope ["_law_word_here", "_law_small"] ["_law_word_here"] (defScope sD_m_law_is_name) := ⟨rfl, rfl, rfl, by decide +kernel, rfl, by decide +kernel, by decide +kernel⟩
theorem fn_m_law_is_name (KX : K.In h) (G : h.Ns mainGlobals mg) (c : He.SaysD fas fns K) (F_m_law_only : Okd P w K mg base B 1 (He.fAd K d_m_law_only.at_) ["_law_word_here", "_law_chars_here"] m_law_only) {fd : FuncData} (F : FunD K d_m_law_is_name.name d_m_law_is_name.qual d_m_law_is_name.params d_m_law_is_name.body d_m_law_is_name.scope (He.DefD.dvs K d_m_law_is_name) (He.DefD.kws K d_m_law_is_name) (He.fAd K d_m_law_is_name.at_) fd) : FnOk P w K mg base (L2.CX P w) 2 (He.fAd K d_m_law_is_name.at_) fd ["_law_word_here"] (spM K B m_law_is_name) := by
  refine def_ok (k := 1) (nN := 2) (nP := 1) F sc_m_law_is_name _ rfl rfl fun cdv A outer s H E hr => ?_
  have tk := takes_of (X := cxOf (L2.CX P w) P w K mg base ["_law_word_here", "_law_small"] "_law_is_name" (defScope sD_m_law_is_name) (He.fAd K d_m_law_is_name.at_) cdv A outer s H E) (E := E) rfl rfl rfl rfl
  have hp := passes_of (X := cxOf (L2.CX P w) P w K mg base ["_law_word_here", "_law_small"] "_law_is_name" (defScope sD_m_law_is_name) (He.fAd K d_m_law_is_name.at_) cdv A outer s H E) rfl
  exact (ss_cons (ss_set (i := 1) sc_m_law_is_name.nd (se_str [97, 98, 99, 100, 101, 102, 103, 104, 105, 106, 107, 108, 109, 110, 111, 112, 113, 114, 115, 116, 117, 118, 119, 120, 121, 122]))
    (ss_one (ss_ret (se_and (se_chain op_le op_le v_le v_le se_int (se_callB call_len v_len rfl (He.free_ok KX G (c.fact 0 (f := .free "len") rfl)) (by decide +kernel) (sa_cons (se_var 0) sa_nil)) se_int) (se_and (se_cd F_m_law_only (hr.mono (by decide)) rfl (He.glo_ok KX G (c.fact 19 (f := .glo "_law_only") rfl)) tk (sa_cons (se_var 0) (sa_cons (se_add (se_var 1) (se_str [48, 49, 50, 51, 52, 53, 54, 55, 56, 57])) sa_nil))) (se_one (se_in (se_ix (se_var 0) se_int) (se_var 1))))))))
theorem bd_m_law_is_name {fd : FuncData} (F : FunD K d_m_law_is_name.name d_m_law_is_name.qual d_m_law_is_name.params d_m_law_is_name.body d_m_law_is_name.scope (He.DefD.dvs K d_m_law_is_name) (He.DefD.kws K d_m_law_is_name) (He.fAd K d_m_law_is_name.at_) fd) : Binds K fd ["_law_word_here"] [] := FunD.bindsN (ps := ["_law_word_here"]) F fun _ _ _ _ _ _ us hl => match us, hl with | [_], _ => rfl
theorem ok_m_law_is_name (KX : K.In h) (G : h.Ns mainGlobals mg) (c : He.SaysD fas fns K) (F_m_law_only : Okd P w K mg base B 1 (He.fAd K d_m_law_only.at_) ["_law_word_here", "_law_chars_here"] m_law_only) : Okd P w K mg base B 2 (He.fAd K d_m_law_is_name.at_) ["_law_word_here"] m_law_is_name := by
  obtain ⟨fd, F⟩ := c.def_ 16 (d := d_m_law_is_name) rfl
  exact ⟨fd, fn_m_law_is_name KX G c F_m_law_only F, bd_m_law_is_name F, F.kp⟩
theorem sc_m_law_is_tag : FnScope ["_law_word_here", "_law_letters"] ["_law_word_here"] (defScope sD_m_law_is_tag) := ⟨rfl, rfl, rfl, by decide +kernel, rfl, by decide +kernel, by decide +kernel⟩
theorem fn_m_law_is_tag (KX : K.In h) (G : h.Ns mainGlobals mg) (c : He.SaysD fas fns K) (F_m_law_only : Okd P w K mg base B 1 (He.fAd K d_m_law_only.at_) ["_law_word_here", "_law_chars_here"] m_law_only) {fd : FuncData} (F : FunD K d_m_law_is_tag.name d_m_law_is_tag.qual d_m_law_is_tag.params d_m_law_is_tag.body d_m_law_is_tag.scope (He.DefD.dvs K d_m_law_is_tag) (He.DefD.kws K d_m_law_is_tag) (He.fAd K d_m_law_is_tag.at_) fd) : FnOk P w K mg base (L2.CX P w) 2 (He.fAd K d_m_law_is_tag.at_) fd ["_law_word_here"] (spM K B m_law_is_tag) := by
  refine def_ok (k := 1) (nN := 2) (nP := 1) F sc_m_law_is_tag _ rfl rfl fun cdv A outer s H E hr => ?_
  have tk := takes_of (X := cxOf (L2.CX P w) P w K mg base ["_law_word_here", "_law_letters"] "_law_is_tag" (defScope sD_m_law_is_tag) (He.fAd K d_m_law_is_tag.at_) cdv A outer s H E) (E := E) rfl rfl rfl rfl
  have hp := passes_of (X := cxOf (L2.CX P w) P w K mg base ["_law_word_here", "_law_letters"] "_law_is_tag" (defScope sD_m_law_is_tag) (He.fAd K d_m_law_is_tag.at_) cdv A outer s H E) rfl
  exact (ss_cons (ss_set (i := 1) sc_m_law_is_tag.nd (se_str [97, 98, 99, 100, 101, 102, 103, 104, 105, 106, 107, 108, 109, 110, 111, 112, 113, 114, 115, 116, 117, 118, 119, 120, 121, 122, 65, 66, 67, 68, 69, 70, 71, 72, 73, 74, 75, 76, 77, 78, 79, 80, 81, 82, 83, 84, 85, 86, 87, 88, 89, 90, 48, 49, 50, 51, 52, 53, 54, 55, 56, 57]))
    (ss_one (ss_ret (se_and (se_chain op_le op_le v_le v_le se_int (se_callB call_len v_len rfl (He.free_ok KX G (c.fact 0 (f := .free "len") rfl)) (by decide +kernel) (sa_cons (se_var 0) sa_nil)) se_int) (se_one (se_cd F_m_law_only (hr.mono (by decide)) rfl (He.glo_ok KX G (c.fact 19 (f := .glo "_law_only") rfl)) tk (sa_cons (se_var 0) (sa_cons (se_var 1) sa_nil))))))))
theorem bd_m_law_is_tag {fd : FuncData} (F : FunD K d_m_law_is_tag.name d_m_law_is_tag.qual d_m_law_is_tag.params d_m_law_is_tag.body d_m_law_is_tag.scope (He.DefD.dvs K d_m_law_is_tag) (He.DefD.kws K d_m_law_is_tag) (He.fAd K d_m_law_is_tag.at_) fd) : Binds K fd ["_law_word_here"] [] := FunD.bindsN (ps := ["_law_word_here"]) F fun _ _ _ _ _ _ us hl => match us, hl with | [_], _ => rfl
theorem ok_m_law_is_tag (KX : K.In h) (G : h.Ns mainGlobals mg) (c : He.SaysD fas fns K) (F_m_law_only : Okd P w K mg base B 1 (He.fAd K d_m_law_only.at_) ["_law_word_here", "_law_chars_here"] m_law_only) : Okd P w K mg base B 2 (He.fAd K d_m_law_is_tag.at_) ["_law_word_here"] m_law_is_tag := by
  obtain ⟨fd, F⟩ := c.def_ 17 (d := d_m_law_is_tag) rfl
  exact ⟨fd, fn_m_law_is_tag KX G c F_m_law_only F, bd_m_law_is_tag F, F.kp⟩
theorem sc_m_law_number : FnScope ["_law_word_here", "_law_most", "_law_value", "_law_digit"] ["_law_word_here", "_law_most"] (defScope sD_m_law_number) := ⟨rfl, rfl, rfl, by decide +kernel, rfl, by decide +kernel, by decide +kernel⟩
theorem fn_m_law_number (KX : K.In h) (G : h.Ns mainGlobals mg) (c : He.SaysD fas fns K) (F_m_law_only : Okd P w K mg base B 1 (He.fAd K d_m_law_only.at_) ["_law_word_here", "_law_chars_here"] m_law_only) {fd : FuncData} (F : FunD K d_m_law_number.name d_m_law_number.qual d_m_law_number.params d_m_law_number.body d_m_law_number.scope (He.DefD.dvs K d_m_law_number) (He.DefD.kws K d_m_law_number) (He.fAd K d_m_law_number.at_) fd) : FnOk P w K mg base (L2.CX P w) 2 (He.fAd K d_m_law_number.at_) fd ["_law_word_here", "_law_most"] (spM K B m_law_number) := by
  refine def_ok (k := 1) (nN := 4) (nP := 2) F sc_m_law_number _ rfl rfl fun cdv A outer s H E hr => ?_
  have tk := takes_of (X := cxOf (L2.CX P w) P w K mg base ["_law_word_here", "_law_most", "_law_value", "_law_digit"] "_law_number" (defScope sD_m_law_number) (He.fAd K d_m_law_number.at_) cdv A outer s H E) (E := E) rfl rfl rfl rfl
  have hp := passes_of (X := cxOf (L2.CX P w) P w K mg base ["_law_word_here", "_law_most", "_law_value", "_law_digit"] "_law_number" (defScope sD_m_law_number) (He.fAd K d_m_law_number.at_) cdv A outer s H E) rfl
  exact (ss_cons (ss_if (st_w (sw_or (st_not (st_chain op_le op_le v_le v_le se_int (se_callB call_len v_len rfl (He.free_ok KX G (c.fact 0 (f := .free "len") rfl)) (by decide +kernel) (sa_cons (se_var 0) sa_nil)) se_int)) (sw_or (st_not (st_val (se_cd F_m_law_only (hr.mono (by decide)) rfl (He.glo_ok KX G (c.fact 19 (f := .glo "_law_only") rfl)) tk (sa_cons (se_var 0) (sa_cons (se_str [48, 49, 50, 51, 52, 53, 54, 55, 56, 57]) sa_nil))))) (sw_or1 (st_w (sw_and (st_ne hr (se_var 0) (se_str [48])) (sw_and1 (st_eq hr (se_ix (se_var 0) se_int) (se_str [48]))))))))) (ss_one (ss_ret se_non))
    ss_nil)
    (ss_cons (ss_set (i := 2) sc_m_law_number.nd se_int)
    (ss_cons (ss_for hp rfl (se_var 0) [3] (sg_name sc_m_law_number.nd)
    (ss_one (ss_set (i := 2) sc_m_law_number.nd (se_add (se_mul (se_var 2) se_int) (se_bm PySem.F.plainAttrs_str PySem.F.slot_str_index PySem.F.type_str_index mt_sindex (.inl ⟨rfl, rfl⟩) v_index (se_str [48, 49, 50, 51, 52, 53, 54, 55, 56, 57]) (sa_cons (se_var 3) sa_nil))))))
    (ss_cons (ss_if (st_gt (se_var 2) (se_var 1)) (ss_one (ss_ret se_non))
    ss_nil)
    (ss_one (ss_ret (se_var 2)))))))
theorem bd_m_law_number {fd : FuncData} (F : FunD K d_m_law_number.name d_m_law_number.qual d_m_law_number.params d_m_law_number.body d_m_law_number.scope (He.DefD.dvs K d_m_law_number) (He.DefD.kws K d_m_law_number) (He.fAd K d_m_law_number.at_) fd) : Binds K fd ["_law_word_here", "_law_most"] [] := FunD.bindsN (ps := ["_law_word_here", "_law_most"]) F fun _ _ _ _ _ _ us hl => match us, hl with | [_, _], _ => rfl
theorem ok_m_law_number (KX : K.In h) (G : h.Ns mainGlobals mg) (c : He.SaysD fas fns K) (F_m_law_only : Okd P w K mg base B 1 (He.fAd K d_m_law_only.at_) ["_law_word_here", "_law_chars_here"] m_law_only) : Okd P w K mg base B 2 (He.fAd K d_m_law_number.at_) ["_law_word_here", "_law_most"] m_law_number := by
  obtain ⟨fd, F⟩ := c.def_ 18 (d := d_m_law_number) rfl
  exact ⟨fd, fn_m_law_number KX G c F_m_law_only F, bd_m_law_number F, F.kp⟩
theorem sc_m_law_split : FnScope ["_law_word_here", "_law_at"] ["_law_word_here"] (defScope sD_m_law_split) := ⟨rfl, rfl, rfl, by decide +kernel, rfl, by decide +kernel, by decide +kernel⟩
theorem fn_m_law_split (KX : K.In h) (G : h.Ns mainGlobals mg) (c : He.SaysD fas fns K) (F_m_law_is_name : Okd P w K mg base B 2 (He.fAd K d_m_law_is_name.at_) ["_law_word_here"] m_law_is_name) {fd : FuncData} (F : FunD K d_m_law_split.name d_m_law_split.qual d_m_law_split.params d_m_law_split.body d_m_law_split.scope (He.DefD.dvs K d_m_law_split) (He.DefD.kws K d_m_law_split) (He.fAd K d_m_law_split.at_) fd) : FnOk P w K mg base (L2.CX P w) 3 (He.fAd K d_m_law_split.at_) fd ["_law_word_here"] (spM K B m_law_split) := by
  refine def_ok (k := 2) (nN := 2) (nP := 1) F sc_m_law_split _ rfl rfl fun cdv A outer s H E hr => ?_
  have tk := takes_of (X := cxOf (L2.CX P w) P w K mg base ["_law_word_here", "_law_at"] "_law_split" (defScope sD_m_law_split) (He.fAd K d_m_law_split.at_) cdv A outer s H E) (E := E) rfl rfl rfl rfl
  have hp := passes_of (X := cxOf (L2.CX P w) P w K mg base ["_law_word_here", "_law_at"] "_law_split" (defScope sD_m_law_split) (He.fAd K d_m_law_split.at_) cdv A outer s H E) rfl
  exact (ss_cons (ss_if (st_nin (se_str [64]) (se_var 0)) (ss_one (ss_ret se_non))
    ss_nil)
    (ss_cons (ss_set (i := 1) sc_m_law_split.nd (se_bm PySem.F.plainAttrs_str PySem.F.slot_str_index PySem.F.type_str_index mt_sindex (.inl ⟨rfl, rfl⟩) v_index (se_var 0) (sa_cons (se_str [64]) sa_nil)))
    (ss_cons (ss_if (st_w (sw_or (st_not (st_val (se_cd F_m_law_is_name (hr.mono (by decide)) rfl (He.glo_ok KX G (c.fact 20 (f := .glo "_law_is_name") rfl)) tk (sa_cons (se_slice (se_var 0) so_none (so_some (se_var 1))) sa_nil)))) (sw_or1 (st_not (st_val (se_cd F_m_law_is_name (hr.mono (by decide)) rfl (He.glo_ok KX G (c.fact 20 (f := .glo "_law_is_name") rfl)) tk (sa_cons (se_slice (se_var 0) (so_some (se_add (se_var 1) se_int)) so_none) sa_nil))))))) (ss_one (ss_ret se_non))
    ss_nil)
    (ss_one (ss_ret (se_tup (sa_cons (se_slice (se_var 0) so_none (so_some (se_var 1))) (sa_cons (se_slice (se_var 0) (so_some (se_add (se_var 1) se_int)) so_none) sa_nil))))))))
theorem bd_m_law_split {fd : FuncData} (F : FunD K d_m_law_split.name d_m_law_split.qual d_m_law_split.params d_m_law_split.body d_m_law_split.scope (He.DefD.dvs K d_m_law_split) (He.DefD.kws K d_m_law_split) (He.fAd K d_m_law_split.at_) fd) : Binds K fd ["_law_word_here"] [] := FunD.bindsN (ps := ["_law_word_here"]) F fun _ _ _ _ _ _ us hl => match us, hl with | [_], _ => rfl
theorem ok_m_law_split (KX : K.In h) (G : h.Ns mainGlobals mg) (c : He.SaysD fas fns K) (F_m_law_is_name : Okd P w K mg base B 2 (He.fAd K d_m_law_is_name.at_) ["_law_word_here"] m_law_is_name) : Okd P w K mg base B 3 (He.fAd K d_m_law_split.at_) ["_law_word_here"] m_law_split := by
  obtain ⟨fd, F⟩ := c.def_ 19 (d := d_m_law_split) rfl
  exact ⟨fd, fn_m_law_split KX G c F_m_law_is_name F, bd_m_law_split F, F.kp⟩
theorem sc_m_law : FnScope ["_law_script", "_law_state_here", "_law_k", "_law_word_here", "_law_most", "_law_told", "_law_due"] ["_law_script"] (defScope sD_m_law) := ⟨rfl, rfl, rfl, by decide +kernel, rfl, by decide +kernel, by decide +kernel⟩
theorem fn_m_law (KX : K.In h) (G : h.Ns mainGlobals mg) (c : He.SaysD fas fns K) (F_m_is_name : Okd P w K mg base B 2 (He.fAd K d_m_is_name.at_) ["word"] m_is_name) (F_m_is_tag : Okd P w K mg base B 2 (He.fAd K d_m_is_tag.at_) ["word"] m_is_tag) (F_m_read_number : Okd P w K mg base B 1 (He.fAd K d_m_read_number.at_) ["word", "most"] m_read_number) (F_m_split_address : Okd P w K mg base B 3 (He.fAd K d_m_split_address.at_) ["word"] m_split_address) (F_m_is_address : Okd P w K mg base B 4 (He.fAd K d_m_is_address.at_) ["word"] m_is_address) (F_m_law_state : Okd P w K mg base B 1 (He.fAd K d_m_law_state.at_) ["_law_script"] m_law_state) (F_m_law_draw : Okd P w K mg base B 1 (He.fAd K d_m_law_draw.at_) ["_law_state_here", "_law_many"] m_law_draw) (F_m_law_pick : Okd P w K mg base B 2 (He.fAd K d_m_law_pick.at_) ["_law_state_here", "_law_row"] m_law_pick) (F_m_law_base : Okd P w K mg base B 5 (He.fAd K d_m_law_base.at_) ["_law_state_here"] m_law_base) (F_m_law_changed : Okd P w K mg base B 3 (He.fAd K d_m_law_changed.at_) ["_law_state_here", "_law_word_here"] m_law_changed) (F_m_law_same : Okd P w K mg base B 1 (He.fAd K d_m_law_same.at_) ["_law_told", "_law_due"] m_law_same) (F_m_law_is_name : Okd P w K mg base B 2 (He.fAd K d_m_law_is_name.at_) ["_law_word_here"] m_law_is_name) (F_m_law_is_tag : Okd P w K mg base B 2 (He.fAd K d_m_law_is_tag.at_) ["_law_word_here"] m_law_is_tag) (F_m_law_number : Okd P w K mg base B 2 (He.fAd K d_m_law_number.at_) ["_law_word_here", "_law_most"] m_law_number) (F_m_law_split : Okd P w K mg base B 3 (He.fAd K d_m_law_split.at_) ["_law_word_here"] m_law_split) {fd : FuncData} (F : FunD K d_m_law.name d_m_law.qual d_m_law.params d_m_law.body d_m_law.scope (He.DefD.dvs K d_m_law) (He.DefD.kws K d_m_law) (He.fAd K d_m_law.at_) fd) : FnOk P w K mg base (L2.CX P w) 6 (He.fAd K d_m_law.at_) fd ["_law_script"] (spM K B m_law) := by
  refine def_ok (k := 5) (nN := 7) (nP := 1) F sc_m_law _ rfl rfl fun cdv A outer s H E hr => ?_
  have tk := takes_of (X := cxOf (L2.CX P w) P w K mg base ["_law_script", "_law_state_here", "_law_k", "_law_word_here", "_law_most", "_law_told", "_law_due"] "law" (defScope sD_m_law) (He.fAd K d_m_law.at_) cdv A outer s H E) (E := E) rfl rfl rfl rfl
  have hp := passes_of (X := cxOf (L2.CX P w) P w K mg base ["_law_script", "_law_state_here", "_law_k", "_law_word_here", "_law_most", "_law_told", "_law_due"] "law" (defScope sD_m_law) (He.fAd K d_m_law.at_) cdv A outer s H E) rfl
  exact (ss_cons (ss_set (i := 1) sc_m_law.nd (se_cd F_m_law_state (hr.mono (by decide)) rfl (He.glo_ok KX G (c.fact 21 (f := .glo "_law_state") rfl)) tk (sa_cons (se_var 0) sa_nil)))
    (ss_cons (ss_rng1 hp rfl rfl (He.free_ok KX G (c.fact 12 (f := .free "range") rfl)) (se_add se_int (se_callB call_len v_len rfl (He.free_ok KX G (c.fact 0 (f := .free "len") rfl)) (by decide +kernel) (sa_cons (se_slice (se_var 0) so_none (so_some se_int)) sa_nil))) [2] (sg_name sc_m_law.nd)
    (ss_cons (ss_set (i := 3) sc_m_law.nd (se_cd F_m_law_changed (hr.mono (by decide)) rfl (He.glo_ok KX G (c.fact 23 (f := .glo "_law_changed") rfl)) tk (sa_cons (se_var 1) (sa_cons (se_cd F_m_law_base (hr.mono (by decide)) rfl (He.glo_ok KX G (c.fact 22 (f := .glo "_law_base") rfl)) tk (sa_cons (se_var 1) sa_nil)) sa_nil))))
    (ss_cons (ss_set (i := 4) sc_m_law.nd (se_cd F_m_law_pick (hr.mono (by decide)) rfl (He.glo_ok KX G (c.fact 11 (f := .glo "_law_pick") rfl)) tk (sa_cons (se_var 1) (sa_cons (se_lst (sa_cons se_int (sa_cons se_int (sa_cons se_int (sa_cons se_int (sa_cons se_int (sa_cons (se_cd F_m_law_draw (hr.mono (by decide)) rfl (He.glo_ok KX G (c.fact 10 (f := .glo "_law_draw") rfl)) tk (sa_cons (se_var 1) (sa_cons se_int sa_nil))) sa_nil))))))) sa_nil))))
    (ss_cons (ss_if (st_w (sw_or (st_not (st_val (se_cd F_m_law_same (hr.mono (by decide)) rfl (He.glo_ok KX G (c.fact 24 (f := .glo "_law_same") rfl)) tk (sa_cons (se_cd F_m_is_name (hr.mono (by decide)) rfl (He.glo_ok KX G (c.fact 7 (f := .glo "is_name") rfl)) tk (sa_cons (se_var 3) sa_nil)) (sa_cons (se_cd F_m_law_is_name (hr.mono (by decide)) rfl (He.glo_ok KX G (c.fact 20 (f := .glo "_law_is_name") rfl)) tk (sa_cons (se_var 3) sa_nil)) sa_nil))))) (sw_or1 (st_not (st_val (se_cd F_m_law_same (hr.mono (by decide)) rfl (He.glo_ok KX G (c.fact 24 (f := .glo "_law_same") rfl)) tk (sa_cons (se_cd F_m_is_tag (hr.mono (by decide)) rfl (He.glo_ok KX G (c.fact 26 (f := .glo "is_tag") rfl)) tk (sa_cons (se_var 3) sa_nil)) (sa_cons (se_cd F_m_law_is_tag (hr.mono (by decide)) rfl (He.glo_ok KX G (c.fact 25 (f := .glo "_law_is_tag") rfl)) tk (sa_cons (se_var 3) sa_nil)) sa_nil)))))))) (ss_one (ss_ret se_bl))
    ss_nil)
    (ss_cons (ss_set (i := 5) sc_m_law.nd (se_cd F_m_read_number (hr.mono (by decide)) rfl (He.glo_ok KX G (c.fact 27 (f := .glo "read_number") rfl)) tk (sa_cons (se_var 3) (sa_cons (se_var 4) sa_nil))))
    (ss_cons (ss_if (st_w (sw_or (st_val (se_isi (j := 1) (T := "bool") (by decide) (by decide) (by decide +kernel) (by rfl) (He.free_ok KX G (c.fact 17 (f := .free "isinstance") rfl)) (se_var 5) (by rfl) (He.free_ok KX G (c.fact 18 (f := .free "bool") rfl)) (by rfl) (by decide +kernel))) (sw_or1 (st_ne hr (se_var 5) (se_cd F_m_law_number (hr.mono (by decide)) rfl (He.glo_ok KX G (c.fact 28 (f := .glo "_law_number") rfl)) tk (sa_cons (se_var 3) (sa_cons (se_var 4) sa_nil))))))) (ss_one (ss_ret se_bl))
    ss_nil)
    (ss_cons (ss_set (i := 6) sc_m_law.nd (se_cd F_m_law_split (hr.mono (by decide)) rfl (He.glo_ok KX G (c.fact 29 (f := .glo "_law_split") rfl)) tk (sa_cons (se_var 3) sa_nil)))
    (ss_one (ss_if (st_w (sw_or (st_ne hr (se_cd F_m_split_address (hr.mono (by decide)) rfl (He.glo_ok KX G (c.fact 8 (f := .glo "split_address") rfl)) tk (sa_cons (se_var 3) sa_nil)) (se_var 6)) (sw_or1 (st_not (st_val (se_cd F_m_law_same (hr.mono (by decide)) rfl (He.glo_ok KX G (c.fact 24 (f := .glo "_law_same") rfl)) tk (sa_cons (se_cd F_m_is_address (hr.mono (by decide)) rfl (He.glo_ok KX G (c.fact 30 (f := .glo "is_address") rfl)) tk (sa_cons (se_var 3) sa_nil)) (sa_cons (se_notN (se_var 6)) sa_nil)))))))) (ss_one (ss_ret se_bl))
    ss_nil)))))))))
    (ss_one (ss_ret se_bl))))
theorem bd_m_law {fd : FuncData} (F : FunD K d_m_law.name d_m_law.qual d_m_law.params d_m_law.body d_m_law.scope (He.DefD.dvs K d_m_law) (He.DefD.kws K d_m_law) (He.fAd K d_m_law.at_) fd) : Binds K fd ["_law_script"] [] := FunD.bindsN (ps := ["_law_script"]) F fun _ _ _ _ _ _ us hl => match us, hl with | [_], _ => rfl
theorem ok_m_law (KX : K.In h) (G : h.Ns mainGlobals mg) (c : He.SaysD fas fns K) (F_m_is_name : Okd P w K mg base B 2 (He.fAd K d_m_is_name.at_) ["word"] m_is_name) (F_m_is_tag : Okd P w K mg base B 2 (He.fAd K d_m_is_tag.at_) ["word"] m_is_tag) (F_m_read_number : Okd P w K mg base B 1 (He.fAd K d_m_read_number.at_) ["word", "most"] m_read_number) (F_m_split_address : Okd P w K mg base B 3 (He.fAd K d_m_split_address.at_) ["word"] m_split_address) (F_m_is_address : Okd P w K mg base B 4 (He.fAd K d_m_is_address.at_) ["word"] m_is_address) (F_m_law_state : Okd P w K mg base B 1 (He.fAd K d_m_law_state.at_) ["_law_script"] m_law_state) (F_m_law_draw : Okd P w K mg base B 1 (He.fAd K d_m_law_draw.at_) ["_law_state_here", "_law_many"] m_law_draw) (F_m_law_pick : Okd P w K mg base B 2 (He.fAd K d_m_law_pick.at_) ["_law_state_here", "_law_row"] m_law_pick) (F_m_law_base : Okd P w K mg base B 5 (He.fAd K d_m_law_base.at_) ["_law_state_here"] m_law_base) (F_m_law_changed : Okd P w K mg base B 3 (He.fAd K d_m_law_changed.at_) ["_law_state_here", "_law_word_here"] m_law_changed) (F_m_law_same : Okd P w K mg base B 1 (He.fAd K d_m_law_same.at_) ["_law_told", "_law_due"] m_law_same) (F_m_law_is_name : Okd P w K mg base B 2 (He.fAd K d_m_law_is_name.at_) ["_law_word_here"] m_law_is_name) (F_m_law_is_tag : Okd P w K mg base B 2 (He.fAd K d_m_law_is_tag.at_) ["_law_word_here"] m_law_is_tag) (F_m_law_number : Okd P w K mg base B 2 (He.fAd K d_m_law_number.at_) ["_law_word_here", "_law_most"] m_law_number) (F_m_law_split : Okd P w K mg base B 3 (He.fAd K d_m_law_split.at_) ["_law_word_here"] m_law_split) : Okd P w K mg base B 6 (He.fAd K d_m_law.at_) ["_law_script"] m_law := by
  obtain ⟨fd, F⟩ := c.def_ 20 (d := d_m_law) rfl
  exact ⟨fd, fn_m_law KX G c F_m_is_name F_m_is_tag F_m_read_number F_m_split_address F_m_is_address F_m_law_state F_m_law_draw F_m_law_pick F_m_law_base F_m_law_changed F_m_law_same F_m_law_is_name F_m_law_is_tag F_m_law_number F_m_law_split F, bd_m_law F, F.kp⟩
abbrev ca (K : PySem.W.Frag) : Nat → Addr := fun _ => 0
abbrev an : List Str := []
theorem whole (KX : K.In h) (G : h.Ns mainGlobals mg) (c : He.SaysD fas fns K) {fd : FuncData} (F : FunD K d_m_law.name d_m_law.qual d_m_law.params d_m_law.body d_m_law.scope (He.DefD.dvs K d_m_law) (He.DefD.kws K d_m_law) (He.fAd K d_m_law.at_) fd) :
    FnOk P w K mg base CX0 6 (He.fAd K d_m_law.at_) fd ["_law_script"] (spLaw K (ca K) an m_law) := by
  refine law_ok fun ns => ?_
  generalize ca K = ca
  have F_m_made_of : Okd P w K mg base ⟨ca, an, ns⟩ 1 (He.fAd K d_m_made_of.at_) ["word", "signs"] m_made_of := ok_m_made_of KX G c
  have F_m_is_name : Okd P w K mg base ⟨ca, an, ns⟩ 2 (He.fAd K d_m_is_name.at_) ["word"] m_is_name := ok_m_is_name KX G c F_m_made_of
  have F_m_is_tag : Okd P w K mg base ⟨ca, an, ns⟩ 2 (He.fAd K d_m_is_tag.at_) ["word"] m_is_tag := ok_m_is_tag KX G c F_m_made_of
  have F_m_read_number : Okd P w K mg base ⟨ca, an, ns⟩ 1 (He.fAd K d_m_read_number.at_) ["word", "most"] m_read_number := ok_m_read_number KX G c
  have F_m_split_address : Okd P w K mg base ⟨ca, an, ns⟩ 3 (He.fAd K d_m_split_address.at_) ["word"] m_split_address := ok_m_split_address KX G c F_m_is_name
  have F_m_is_address : Okd P w K mg base ⟨ca, an, ns⟩ 4 (He.fAd K d_m_is_address.at_) ["word"] m_is_address := ok_m_is_address KX G c F_m_split_address
  have F_m_law_state : Okd P w K mg base ⟨ca, an, ns⟩ 1 (He.fAd K d_m_law_state.at_) ["_law_script"] m_law_state := ok_m_law_state KX G c
  have F_m_law_draw : Okd P w K mg base ⟨ca, an, ns⟩ 1 (He.fAd K d_m_law_draw.at_) ["_law_state_here", "_law_many"] m_law_draw := ok_m_law_draw KX G c
  have F_m_law_pick : Okd P w K mg base ⟨ca, an, ns⟩ 2 (He.fAd K d_m_law_pick.at_) ["_law_state_here", "_law_row"] m_law_pick := ok_m_law_pick KX G c F_m_law_draw
  have F_m_law_chars : Okd P w K mg base ⟨ca, an, ns⟩ 1 (He.fAd K d_m_law_chars.at_) [] m_law_chars := ok_m_law_chars KX G c
  have F_m_law_word : Okd P w K mg base ⟨ca, an, ns⟩ 3 (He.fAd K d_m_law_word.at_) ["_law_state_here", "_law_chars_here", "_law_many"] m_law_word := ok_m_law_word KX G c F_m_law_pick
  have F_m_law_name : Okd P w K mg base ⟨ca, an, ns⟩ 4 (He.fAd K d_m_law_name.at_) ["_law_state_here"] m_law_name := ok_m_law_name KX G c F_m_law_draw F_m_law_pick F_m_law_word
  have F_m_law_base : Okd P w K mg base ⟨ca, an, ns⟩ 5 (He.fAd K d_m_law_base.at_) ["_law_state_here"] m_law_base := ok_m_law_base KX G c F_m_law_draw F_m_law_pick F_m_law_chars F_m_law_word F_m_law_name
  have F_m_law_changed : Okd P w K mg base ⟨ca, an, ns⟩ 3 (He.fAd K d_m_law_changed.at_) ["_law_state_here", "_law_word_here"] m_law_changed := ok_m_law_changed KX G c F_m_law_draw F_m_law_pick F_m_law_chars
  have F_m_law_only : Okd P w K mg base ⟨ca, an, ns⟩ 1 (He.fAd K d_m_law_only.at_) ["_law_word_here", "_law_chars_here"] m_law_only := ok_m_law_only KX G c
  have F_m_law_same : Okd P w K mg base ⟨ca, an, ns⟩ 1 (He.fAd K d_m_law_same.at_) ["_law_told", "_law_due"] m_law_same := ok_m_law_same KX G c
  have F_m_law_is_name : Okd P w K mg base ⟨ca, an, ns⟩ 2 (He.fAd K d_m_law_is_name.at_) ["_law_word_here"] m_law_is_name := ok_m_law_is_name KX G c F_m_law_only
  have F_m_law_is_tag : Okd P w K mg base ⟨ca, an, ns⟩ 2 (He.fAd K d_m_law_is_tag.at_) ["_law_word_here"] m_law_is_tag := ok_m_law_is_tag KX G c F_m_law_only
  have F_m_law_number : Okd P w K mg base ⟨ca, an, ns⟩ 2 (He.fAd K d_m_law_number.at_) ["_law_word_here", "_law_most"] m_law_number := ok_m_law_number KX G c F_m_law_only
  have F_m_law_split : Okd P w K mg base ⟨ca, an, ns⟩ 3 (He.fAd K d_m_law_split.at_) ["_law_word_here"] m_law_split := ok_m_law_split KX G c F_m_law_is_name
  exact fn_m_law KX G c F_m_is_name F_m_is_tag F_m_read_number F_m_split_address F_m_is_address F_m_law_state F_m_law_draw F_m_law_pick F_m_law_base F_m_law_changed F_m_law_same F_m_law_is_name F_m_law_is_tag F_m_law_number F_m_law_split F
end
end Wk
set_option Elab.async false
set_option linter.all false
set_option maxRecDepth 100000
set_option maxHeartbeats 0
namespace Wk
open PySem PySem.Spec PyProof.Rows L2 Cn Mir
abbrev R : PySem.W.OpenRow := PySem.W.OpenLaw.row PySem.Challenge.rw_trunkland_k01_words
abbrev hk : PySem.W.Hook := He.hookD 4 fas fns
def ob (s : PySem.W.SharedT) : He.AlD := He.obsDG 4 fas fns (HandSHeadRun.getT s)
theorem ob_eq (s : PySem.W.SharedT) : ob s = hk.obs s.abs := He.obsDG_eq (HandSHeadRun.getT_eq s)
def loose : List Str := (["SMALL", "LARGE", "DIGITS", "MOST_SIGNS", "made_of", "is_name", "is_tag", "read_number", "split_address", "is_address", "_law_state", "_law_draw", "_law_pick", "_law_chars", "_law_word", "_law_name", "_law_base", "_law_changed", "_law_only", "_law_same", "_law_is_name", "_law_is_tag", "_law_number", "_law_split"] : List Str)
theorem run (w : World) : HandSHeadRun.RunEq R (PySem.W.view R.prog [26]) hk ob 3000 loose w := by
  intro os
  kernel_rfl
end Wk
open PySem PySem.W PySem.Calls PyProof.Rows
theorem PySem.Challenge.cw_trunkland_k01_words_holds : PySem.Challenge.rw_trunkland_k01_words.Holds := by
  w_on; o_law
  refine HandSHeadRun.head_any (r := OpenLaw.row PySem.Challenge.rw_trunkland_k01_words) (q := view (OpenLaw.row PySem.Challenge.rw_trunkland_k01_words).prog [26]) (H := Wk.hk) (ob := Wk.ob) (M := 3000) (loose := Wk.loose) (d := HandSHeadRun.topDef (OpenLaw.row PySem.Challenge.rw_trunkland_k01_words).prog 26) (kwd := []) Wk.ob_eq
    (by kernel_rfl) (fun s => by kernel_rfl) Wk.run (by kernel_rfl) (by kernel_rfl) (by kernel_rfl) (by rfl) (by first | assumption | decide +kernel) (by decide +kernel) ⟨rfl, rfl, rfl, rfl, rfl, by decide +kernel⟩ ?hw ?hc
  case hw => w_witness2
  case hc =>
    refine L2.walk_ofE (l := PySem.Challenge.rw_trunkland_k01_words) (n := 63) (k := 6) (x := "_law_script") (CX := L2.CX0) rfl (by decide) (by kernel_rfl) ⟨rfl, by decide, by decide⟩ ?F (fun _ _ _ _ z => z)
    intro w mg fa h Y G hmg0
    obtain ⟨K, KX, c⟩ := Y
    have hmg : mg ("law" : PySem.Str) = some (.ref fa) := by
      have e : (HandSHeadRun.topDef (OpenLaw.row PySem.Challenge.rw_trunkland_k01_words).prog 26).name = ("law" : PySem.Str) := by kernel_rfl
      rw [← e]
      exact hmg0
    obtain ⟨fd, F⟩ := c.def_ 20 (d := Wk.d_m_law) rfl
    have e := hmg.symm.trans (He.glo_ok KX G (c.fact 31 (f := .glo "law") rfl))
    cases e
    have b := L2.FunD.bindsA (ps := ["_law_script"]) F fun _ _ _ _ _ _ us hl => match us, hl with | [_], _ => rfl
    exact ⟨K, fd, Cn.spLaw K (Wk.ca K) Wk.an Mir.m_law, KX, fun s v => b s [v] rfl, fun H a ns hl hO hS => Cn.sp_law Pf.law_true H a ns hl hO hS, fun base _ _ => Wk.whole KX G c F⟩
