import PyProof.Rows.All
import PyProof.P3Statements
import PyProof.EqLayable
import KE.SortData
import KE.DataMinMax
import KE.DataCmp
import HandS.ForMost
import HandS.ForExc
import HandS.TupAny
import HandS.TupMul
import HandS.Style
import HandS.IsInst
import HandS.Flow
import HandS.Deep
import HandS.Conv
import HandS.Defaults
import HandS.Codes
import HandS.Zip
import HandS.Walk
import HandS.TupLe
import HandS.Sort
import HandS.NoneIn
import HandS.TupSets
import HandS.SetBool
import HandS.DictComp
import HandS.Keys
import KE.KStateDown
import Lean
import HandS.Ends
import HandS.More
import HandS.Words
import HandS.WordsExc
import HandS.Head0
import HandS.Head1
import HandS.Head2
import HandS.HeadEnd
import HandS.HeadHook1
import HandS.HeadHook2
import PySem.Challenge.RW_unknownwords_k99_whole_parts_of_endless
set_option autoImplicit false
set_option linter.all false
/-! Ev: a small pure evaluator for the part of Python that the laws use: data as trees, mutable lists as cells. -/
namespace Ev
open PySem (Str Pos Scope PyData)

inductive Ty where
  | int | bool | str | list | tuple | dict
  deriving DecidableEq, Inhabited
/-- data: a list that is inline is never changed again; what changes stands in a cell -/
inductive D where
  | non | bl (b : Bool) | int (i : Int) | str (x : Str) | ty (t : Ty)
  | tup (xs : List D) | lst (xs : List D) | dic (ks vs : List D)
  | cell (c : Nat) | strm | scr (ns : List Int) | rng (i j : Int)
  deriving Inhabited

mutual
/-- no cell stands in it -/
def D.pure : D → Bool
  | .non => true
  | .bl _ => true
  | .int _ => true
  | .str _ => true
  | .ty _ => true
  | .tup xs => D.pures xs
  | .lst xs => D.pures xs
  | .dic ks vs => D.pures ks && D.pures vs
  | .cell _ => false
  | .strm => true
  | .scr _ => true
  | .rng _ _ => true
def D.pures : List D → Bool
  | [] => true
  | x :: xs => x.pure && D.pures xs
end
mutual
/-- equal as trees (kinds apart) -/
def D.beq : D → D → Bool
  | .non, .non => true
  | .bl a, .bl b => a == b
  | .int i, .int j => i == j
  | .str x, .str y => decide (x = y)
  | .ty x, .ty y => decide (x = y)
  | .tup xs, .tup ys => D.beqs xs ys
  | .lst xs, .lst ys => D.beqs xs ys
  | .dic ks vs, .dic js ws => D.beqs ks js && D.beqs vs ws
  | .cell a, .cell b => a == b
  | .strm, .strm => true
  | .scr a, .scr b => a == b
  | .rng a b, .rng c d => a == c && b == d
  | _, _ => false
def D.beqs : List D → List D → Bool
  | [], [] => true
  | x :: xs, y :: ys => D.beq x y && D.beqs xs ys
  | _, _ => false
end
mutual
/-- data that == is told of; all else as a dict -/
def D.py : D → PyData
  | .non => .none
  | .bl b => .bool b
  | .int i => .int i
  | .str x => .str x
  | .tup xs => .tuple (D.pys xs)
  | .lst xs => .list (D.pys xs)
  | _ => .dict []
def D.pys : List D → List PyData
  | [] => []
  | x :: xs => x.py :: D.pys xs
end

/-- a mutable thing -/
inductive C where
  | dead | lst (xs : List D) | dic (ks vs : List D)
  deriving Inhabited
def C.beq : C → C → Bool
  | .dead, .dead => true
  | .lst xs, .lst ys => D.beqs xs ys
  | .dic ks vs, .dic js ws => D.beqs ks js && D.beqs vs ws
  | _, _ => false
def beqC : List C → List C → Bool
  | [], [] => true
  | x :: xs, y :: ys => C.beq x y && beqC xs ys
  | _, _ => false

/-- the stream of draws: what is left of the script, the great cell at hand, the count, the mix -/
structure Strm where
  cells : List Int
  big : Int
  cnt : Int
  mix : Int
/-- within these bounds a draw is known -/
def Strm.fit (s : Strm) : Bool := decide (0 ≤ s.cnt) && decide (s.cnt < 2 ^ 40) && decide (0 ≤ s.mix) && decide (s.mix < 2 ^ 31)
structure Mem where
  S : List C
  st : Option Strm
abbrev Env := List (Option D)
abbrev Lim : Nat := 16777216

/-! ### operations on values -/
inductive Bop where
  | add | sub | mul | fdiv | mod | pow
inductive Cop where
  | eq | ne | lt | le | gt | ge | is | isnot | in_ | notin

def mulOk (i j : Int) : Bool := decide (-(2 ^ 64) < i ∧ i < 2 ^ 64) || decide (-(2 ^ 64) < j ∧ j < 2 ^ 64)
def rep (xs : List D) (n : Nat) : List D := (List.replicate n xs).flatten
/-- the items of a list -/
def listOf (M : Mem) : D → Option (List D)
  | .lst xs => some xs
  | .cell c => match M.S[c]? with
    | some (.lst xs) => some xs
    | _ => none
  | _ => none
/-- the items of a list, of a tuple -/
def seqOf (M : Mem) : D → Option (List D)
  | .tup xs => some xs
  | d => listOf M d

def rangeD (i j : Int) : List D := (List.range (j - i).toNat).map fun k => .int (i + (k : Nat))
def in62 (i : Int) : Bool := decide (-(2 ^ 62) ≤ i) && decide (i < 2 ^ 62)
/-- what list(..) makes a list of -/
def lseq (M : Mem) : D → Option (List D)
  | .scr ns => some (ns.map .int)
  | .rng i j => if in62 i && in62 j && decide ((j - i).toNat ≤ Lim) then some (rangeD i j) else none
  | d => seqOf M d

def intBin : Bop → Int → Int → Option Int
  | .add, i, j => some (i + j)
  | .sub, i, j => some (i - j)
  | .mul, i, j => if mulOk i j then some (i * j) else none
  | .fdiv, i, j => if 0 < j ∧ j < 1073741824 then some (i / j) else none
  | .mod, i, j => if 0 < j then some (i % j) else none
  | .pow, i, j => if 0 ≤ j ∧ j ≤ 1000000 ∧ i.natAbs < 2 ^ 64 then some (i ^ j.toNat) else none
def opBin (M : Mem) (o : Bop) (a b : D) : Option D := match a, b with
  | .int i, .int j => (intBin o i j).map .int
  | .str x, .str y => match o with
    | .add => if x.length + y.length ≤ Lim then some (.str (x ++ y)) else none
    | _ => none
  | .tup xs, .tup ys => match o with
    | .add => if xs.length + ys.length ≤ Lim then some (.tup (xs ++ ys)) else none
    | _ => none
  | .tup xs, .int n => match o with
    | .mul => if n < 2 ^ 63 ∧ -(2 ^ 63) ≤ n ∧ xs.length * n.toNat ≤ Lim then some (.tup (rep xs n.toNat)) else none
    | _ => none
  | a, .int n => match o, listOf M a with
    | .mul, some xs => if n < 2 ^ 63 ∧ -(2 ^ 63) ≤ n ∧ xs.length * n.toNat ≤ Lim then some (.lst (rep xs n.toNat)) else none
    | _, _ => none
  | a, b => match o, listOf M a, listOf M b with
    | .add, some xs, some ys => if xs.length + ys.length ≤ Lim then some (.lst (xs ++ ys)) else none
    | _, _, _ => none

mutual
/-- read through the cells, as far as n deep -/
def deref (M : Mem) : Nat → D → Option D
  | 0, _ => none
  | n + 1, .cell c => match M.S[c]? with
    | some (.lst xs) => (derefs M n xs).map .lst
    | _ => none
  | n + 1, .tup xs => (derefs M n xs).map .tup
  | n + 1, .lst xs => (derefs M n xs).map .lst
  | _ + 1, .non => some .non
  | _ + 1, .bl b => some (.bl b)
  | _ + 1, .int i => some (.int i)
  | _ + 1, .str x => some (.str x)
  | _ + 1, _ => none
  termination_by n d => (n, 0)
def derefs (M : Mem) : Nat → List D → Option (List D)
  | _, [] => some []
  | n, x :: xs => match deref M n x, derefs M n xs with
    | some y, some ys => some (y :: ys)
    | _, _ => none
  termination_by n xs => (n, xs.length + 1)
end
/-- data without cells as it stands; else read through -/
def view (M : Mem) (d : D) : Option D := if d.pure then some d else deref M 64 d
def eqD (M : Mem) (a b : D) : Option Bool := match view M a, view M b with
  | some a, some b => if PySem.SeqAt.shaped a.py && PySem.SeqAt.shaped b.py then some (PyData.eqv a.py b.py) else none
  | _, _ => none

/-- x in xs: each item's == with x -/
def inD (M : Mem) (a : D) (xs : List D) : Option Bool := match view M a, view M (.lst xs) with
  | some a, some (.lst ys) => if PySem.SeqAt.shaped a.py && PySem.SeqAt.shaped (D.lst ys).py then some (ys.any fun y => PyData.eqv y.py a.py) else none
  | _, _ => none
/-- xs.index(a): the first place of an equal one -/
def fdxD (M : Mem) (a xs : D) : Option D := match view M a, view M xs with
  | some a, some (.lst ys) => if PySem.SeqAt.shaped a.py && PySem.SeqAt.shaped (D.lst ys).py then (ys.findIdx? fun y => PyData.eqv y.py a.py).map fun j => .int (j : Nat) else none
  | _, _ => none
/-! ### the order of data -/
def okData (d : D) : Bool := PyData.canLay0 d.py && decide (d.py.depth ≤ 50)
def alikeB (a b : D) : Bool := PySem.W.alike a.py b.py
def D.tupNe : D → Bool
  | .tup (_ :: _) => true
  | _ => false
def D.noTup : D → Bool
  | .tup _ => false
  | .non => false
  | _ => true
def D.notNon : D → Bool
  | .non => false
  | _ => true
def dLt (a b : D) : Bool := PySem.W.dataLt a.py b.py
def dLe (a b : D) : Bool := !dLt b a
def alikes (ds : List D) : Bool := ds.all fun a => ds.all fun b => alikeB a b
/-- sorted(..) -/
def sortD (ds : List D) : Option (List D) := if ds.all okData && alikes ds && (ds.all D.tupNe || ds.all D.noTup) && decide (ds.length ≤ Lim) then some (ds.mergeSort dLe) else none
/-- sorted by what is read through their cells -/
def sortC (M : Mem) (ds : List D) : Option (List D) := match derefs M 64 ds with
  | some ys => if ys.all okData && alikes ys && (ys.all D.tupNe || ys.all D.noTup) && decide (ds.length ≤ Lim) then some (((ds.zip ys).mergeSort fun a b => dLe a.2 b.2).map (·.1)) else none
  | none => none
def leastD (ds : List D) : Option D := match ds with
  | [] => none
  | d :: r => if (d :: r).all okData && alikes (d :: r) && (d :: r).all D.notNon then some (r.foldl (fun a y => if dLt y a then y else a) d) else none
def greatD (ds : List D) : Option D := match ds with
  | [] => none
  | d :: r => if (d :: r).all okData && alikes (d :: r) && (d :: r).all D.notNon then some (r.foldl (fun a y => if dLt a y then y else a) d) else none
def ordD (M : Mem) (f : D → D → Bool) (a b : D) : Option Bool := match view M a, view M b with
  | some a, some b => if okData a && okData b && alikeB a b && a.notNon then some (f a b) else none
  | _, _ => none
def strLt (x y : Str) : Bool := decide (x.cps.toList < y.cps.toList)
def signIn (x y : Str) : Bool := match x.cps.toList with
  | [c] => y.cps.toList.contains c
  | _ => false
/-- a key of a dict: an int, a text -/
def keyB : D → Bool
  | .int _ => true
  | .str _ => true
  | _ => false
/-- what a dict holds at an int, at a text -/
def dicAt : List D → List D → D → Option D
  | .int k :: ks, v :: vs, .int j => if k = j then some v else dicAt ks vs (.int j)
  | .str _ :: ks, _ :: vs, .int j => dicAt ks vs (.int j)
  | .str k :: ks, v :: vs, .str j => if k = j then some v else dicAt ks vs (.str j)
  | .int _ :: ks, _ :: vs, .str j => dicAt ks vs (.str j)
  | _, _, _ => none
/-- the keys and the values of a dict -/
def dicOf (M : Mem) : D → Option (List D × List D)
  | .dic ks vs => some (ks, vs)
  | .cell c => match M.S[c]? with
    | some (.dic ks vs) => some (ks, vs)
    | _ => none
  | _ => none
/-- is it a key there -/
def dicIn (ks vs : List D) (k : D) : Option Bool := if keyB k then some (dicAt ks vs k).isSome else none
def putDv : List D → List D → D → D → List D
  | k0 :: ks, v0 :: vs, k, d => (if D.beq k0 k then d else v0) :: putDv ks vs k d
  | _, _, _, _ => []
/-- in its place, or at the end -/
def putDk (ks : List D) (k : D) : List D := if ks.any (fun j => D.beq j k) then ks else ks ++ [k]
def putDw (ks vs : List D) (k d : D) : List D := if ks.any (fun j => D.beq j k) then putDv ks vs k d else vs ++ [d]
def opCmp (M : Mem) (o : Cop) (a b : D) : Option Bool := match o with
  | .eq => eqD M a b
  | .ne => (eqD M a b).map (!·)
  | .lt => match a, b with
    | .int i, .int j => some (decide (i < j))
    | .str x, .str y => some (strLt x y)
    | a, b => ordD M dLt a b
  | .le => match a, b with
    | .int i, .int j => some (decide (i ≤ j))
    | a, b => ordD M (fun a b => !dLt b a) a b
  | .gt => match a, b with
    | .int i, .int j => some (decide (j < i))
    | a, b => ordD M (fun a b => dLt b a) a b
  | .ge => match a, b with
    | .int i, .int j => some (decide (j ≤ i))
    | a, b => ordD M (fun a b => !dLt a b) a b
  | .is => match b with
    | .non => some (match a with
      | .non => true
      | _ => false)
    | .bl c => match a with
      | .bl d => some (decide (d = c))
      | _ => none
    | _ => none
  | .isnot => match b with
    | .non => some (match a with
      | .non => false
      | _ => true)
    | .bl c => match a with
      | .bl d => some (!decide (d = c))
      | _ => none
    | _ => none
  | .in_ => match a, b with
    | .str x, .str y => if x.length = 1 then some (signIn x y) else none
    | a, b => match seqOf M b with
      | some xs => inD M a xs
      | none => match dicOf M b with
        | some (ks, vs) => dicIn ks vs a
        | none => none
  | .notin => match a, b with
    | .str x, .str y => if x.length = 1 then some (!signIn x y) else none
    | a, b => match seqOf M b with
      | some xs => (inD M a xs).map (!·)
      | none => match dicOf M b with
        | some (ks, vs) => (dicIn ks vs a).map (!·)
        | none => none

def tyOf (M : Mem) : D → Option Ty
  | .bl _ => some .bool
  | .int _ => some .int
  | .str _ => some .str
  | .tup _ => some .tuple
  | .lst _ => some .list
  | .dic _ _ => some .dict
  | .cell c => match M.S[c]? with
    | some (.lst _) => some .list
    | some (.dic _ _) => some .dict
    | _ => none
  | _ => none
/-- an int among the classes? a bool is one, too -/
def isTy (t u : Ty) : Bool := t == u || (t == .bool && u == .int)
def isiOne (M : Mem) (d : D) (u : Ty) : Option Bool := match d with
  | .non => some false
  | d => (tyOf M d).map fun t => isTy t u
def tysOf : List D → Option (List Ty)
  | [] => some []
  | .ty t :: r => (tysOf r).map (t :: ·)
  | _ => none
def isiD (M : Mem) (d c : D) : Option Bool := match c with
  | .ty u => isiOne M d u
  | .tup cs => match tysOf cs with
    | some us => match d with
      | .non => some false
      | d => (tyOf M d).map fun t => us.any (isTy t)
    | none => none
  | _ => none

def truth (M : Mem) : D → Option Bool
  | .non => some false
  | .bl b => some b
  | .int i => some (i != 0)
  | .str x => if x.length ≤ Lim then some ((x.length : Int) != 0) else none
  | .tup xs => some (!xs.isEmpty)
  | .lst xs => some (!xs.isEmpty)
  | .dic ks _ => some (!ks.isEmpty)
  | .cell c => match M.S[c]? with
    | some (.lst xs) => some (!xs.isEmpty)
    | some (.dic ks _) => some (!ks.isEmpty)
    | _ => none
  | _ => none
def lenD (M : Mem) : D → Option Nat
  | .str x => if x.length ≤ Lim then some x.length else none
  | .dic ks _ => some ks.length
  | .cell c => match M.S[c]? with
    | some (.lst xs) => some xs.length
    | some (.dic ks _) => some ks.length
    | _ => none
  | d => (seqOf M d).map List.length

/-- the place of an index -/
def ixOf (n : Nat) (i : Int) : Option Nat := if 0 ≤ i then (if i < n then some i.toNat else none) else if 0 ≤ i + n then some (i + n).toNat else none
def atD {α : Type} (xs : List α) (i : Int) : Option α := match ixOf xs.length i with
  | some j => xs[j]?
  | none => none
def idxD (M : Mem) (a i : D) : Option D := match i with
  | .str j => match a with
    | .dic ks vs => dicAt ks vs (.str j)
    | a => match dicOf M a with
      | some (ks, vs) => dicAt ks vs (.str j)
      | none => none
  | .int i => match a with
    | .dic ks vs => dicAt ks vs (.int i)
    | .str x => if x.length ≤ Lim then (atD x.cps.toList i).map fun c => .str ⟨#[c]⟩ else none
    | a => match seqOf M a with
      | some xs => atD xs i
      | none => match dicOf M a with
        | some (ks, vs) => dicAt ks vs (.int i)
        | none => none
  | _ => none
/-- an end of a slice -/
def sliceIx (n d : Nat) : Option Int → Nat
  | none => d
  | some v => if v < 0 then (v + (n : Int)).toNat else min v.toNat n
def cut {α : Type} (xs : List α) (lo hi : Option Int) : List α := (xs.drop (sliceIx xs.length 0 lo)).take (sliceIx xs.length xs.length hi - sliceIx xs.length 0 lo)
def slcD (M : Mem) (a : D) (lo hi : Option Int) : Option D := match a with
  | .tup xs => some (.tup (cut xs lo hi))
  | .str x => if x.length ≤ Lim then some (.str ⟨(cut x.cps.toList lo hi).toArray⟩) else none
  | a => (listOf M a).map fun xs => .lst (cut xs lo hi)
def revD (M : Mem) (a : D) : Option D := match a with
  | .tup xs => some (.tup xs.reverse)
  | a => (listOf M a).map fun xs => .lst xs.reverse

/-! ### sets of tuples of ints -/
def intsD : List D → Option (List Int)
  | [] => some []
  | .int b :: r => (intsD r).map (b :: ·)
  | _ => none
abbrev Tq (k : List Int) : D := .tup (k.map D.int)
def tupInts : D → Option (List Int)
  | .tup xs => intsD xs
  | _ => none
def allInts : List D → Option (List (List Int))
  | [] => some []
  | d :: ds => match tupInts d, allInts ds with
    | some k, some ks => some (k :: ks)
    | _, _ => none
def srL (ls : List (List Int)) : List (List Int) := ls.mergeSort fun a b => !decide (b < a)
def uqL (ls : List (List Int)) : List (List Int) := ls.foldl (fun acc x => if acc = [] ∨ acc.getLastD [] ≠ x then acc ++ [x] else acc) []
/-- a set of tuples of ints, sorted -/
def setT (xs : List D) : Option (List D) := match allInts xs with
  | some ks => if decide (ks.length < 64) && (ks.all (fun k => !k.isEmpty) || decide ((uqL (srL ks)).length ≤ 1)) then some ((uqL (srL ks)).map Tq) else none
  | none => none
/-! ### the tongue: a number p at each node leads to what else stands in the text (names, places) -/
mutual
inductive E where
  | nev (p : Nat)
  | loc (i : Nat) (p : Nat)
  | glo (d : D) (p : Nat)
  | cint (i : Int) (p : Nat)
  | cstr (x : Str) (p : Nat)
  | cbl (b : Bool) (p : Nat)
  | cnon (p : Nat)
  | tyn (t : Ty) (p : Nat)
  | tup (es : EL) (p : Nat)
  | inl (f : FL)
  | cel (f : FL)
  | bin (o : Bop) (a b : E) (p : Nat)
  | neg (a : E) (p : Nat)
  | nott (a : E) (p : Nat)
  | bool (isAnd : Bool) (es : EL) (p : Nat)
  | cmp (o : Cop) (a b : E) (p : Nat)
  | chn (o o' : Cop) (a b c : E) (p : Nat)
  | ife (c a b : E) (p : Nat)
  | call (f : Nat) (es : EL) (p : Nat)
  | callk (f : Nat) (es : EL) (ks : KL) (p : Nat)
  | len (a : E) (p : Nat)
  | isi (a c : E) (p : Nat)
  | tupOf (a : E) (p : Nat)
  | intOf (a : E) (p : Nat)
  | absOf (a : E) (p : Nat)
  | allOf (a : E) (p : Nat)
  | anyOf (a : E) (p : Nat)
  | sumOf (a : E) (p : Nat)
  | max2 (a b : E) (p : Nat)
  | min2 (a b : E) (p : Nat)
  | rngV (a b : E) (p : Nat)
  | rngV1 (a : E) (p : Nat)
  | maxL (a : E) (p : Nat)
  | minL (a : E) (p : Nat)
  | idx (a i : E) (p : Nat)
  | slc (a : E) (lo hi : OE) (p : Nat)
  | rev (a : E) (p : Nat)
  | app (a e : E) (p : Nat)
  | idxOf (a e : E) (p : Nat)
  | ext (a e : E) (p : Nat)
  | pop (a : E) (p : Nat)
  | popAt (a i : E) (p : Nat)
  | frz (a : E)
  | dsp (ps : PL) (p : Nat)
  | celD (p : Nat)
inductive PL where
  | nil
  | cons (k v : E) (ps : PL)
inductive OE where
  | none
  | some (e : E)
inductive EL where
  | nil
  | cons (e : E) (es : EL)
inductive KL where
  | nil
  | cons (i : Nat) (e : E) (p : Nat) (ks : KL)
inductive FL where
  | disp (es : EL) (p : Nat)
  | lc (tg : G) (it : It) (ifs : EL) (elt : E) (p : Nat)
  | listOf (a : E) (p : Nat)
  | revL (a : E) (p : Nat)
  | srt (a : E) (p : Nat)
  | srtC (a : E) (p : Nat)
  | srtS (f : FL) (p : Nat)
  | add (a b : E) (p : Nat)
  | repL (a b : E) (p : Nat)
  | slc (a : E) (lo hi : OE) (p : Nat)
inductive It where
  | val (e : E)
  | rng1 (b : E) (p : Nat)
  | rng2 (a b : E) (p : Nat)
  | rng3 (a b c : E) (p : Nat)
  | enum (e : E) (p : Nat)
  | zip (a b : E) (p : Nat)
  | enumZip (a b : E) (p : Nat)
  | enum2 (e : E) (p : Nat)
inductive G where
  | name (i : Nat) (p : Nat)
  | tup (gs : GL) (p : Nat)
inductive GL where
  | nil
  | cons (g : G) (gs : GL)
end
mutual
inductive S where
  | nev (p : Nat)
  | asg (g : G) (e : E) (p : Nat)
  | par (i j : Nat) (a b : E) (p : Nat)
  | par3 (i j l : Nat) (a b c : E) (p : Nat)
  | sub (o i e : E) (p : Nat)
  | subD (o i e : E) (p : Nat)
  | aug (i : Nat) (o : Bop) (e : E) (p : Nat)
  | ex (e : E) (p : Nat)
  | iff (c : E) (a b : SL) (p : Nat)
  | for_ (g : G) (it : It) (b : SL) (p : Nat)
  | whl (c : E) (b : SL) (p : Nat)
  | ret (e : E) (p : Nat)
  | pass (p : Nat)
  | brk (p : Nat)
  | cont (p : Nat)
inductive SL where
  | nil
  | cons (s : S) (ss : SL)
end

/-! ### the evaluator -/
abbrev CallF := Nat → List D → Mem → Option (D × Mem)
abbrev Res (α : Type) := Option (α × Mem)
def wipe (env : Env) : List Nat → Env
  | [] => env
  | v :: vs => (wipe env vs).set v none
mutual
def G.own : G → List Nat
  | .name i _ => [i]
  | .tup gs _ => GL.own gs
def GL.own : GL → List Nat
  | .nil => []
  | .cons g gs => G.own g ++ GL.own gs
end
mutual
def put : G → D → Env → Option Env
  | .name i _, d, env => if i < env.length then some (env.set i (some d)) else none
  | .tup gs _, .tup ds, env => puts gs ds env
  | .tup gs _, .lst ds, env => puts gs ds env
  | .tup _ _, _, _ => none
def puts : GL → List D → Env → Option Env
  | .nil, [], env => some env
  | .cons g gs, d :: ds, env => match put g d env with
    | some env' => puts gs ds env'
    | none => none
  | _, _, _ => none
end
def allocC (c : C) (M : Mem) : D × Mem := (.cell M.S.length, { M with S := M.S ++ [c] })
/-- a list at a cell is changed -/
def setC (c : Nat) (o : C) (M : Mem) : Mem := { M with S := M.S.set c o }
def bools : List D → Option (List Bool)
  | [] => some []
  | .bl b :: r => (bools r).map (b :: ·)
  | _ => none
def rangeDn (i j : Int) : List D := (List.range (i - j).toNat).map fun k => .int (i + (k : Nat) * (-1))
def enumD (i : Nat) : List D → List D
  | [] => []
  | x :: xs => .tup [.int (i : Nat), x] :: enumD (i + 1) xs
def zipD : List D → List D → List D
  | x :: xs, y :: ys => .tup [x, y] :: zipD xs ys
  | _, _ => []
def keysOk : List D → Bool
  | [] => true
  | k :: ks => keyB k && !(ks.any (D.beq k)) && keysOk ks
mutual
/-- lists are frozen, within one another, too, so deep -/
def freezeD : Nat → D → Mem → Option (D × Mem)
  | 0, d, M => if d.pure then some (d, M) else none
  | n + 1, .cell c, M => match M.S[c]? with
    | some (.lst xs) => match freezeDs n xs (setC c .dead M) with
      | some (ys, M') => some (.lst ys, M')
      | none => none
    | _ => none
  | n + 1, .lst xs, M => match freezeDs n xs M with
    | some (ys, M') => some (.lst ys, M')
    | none => none
  | n + 1, .tup xs, M => match freezeDs n xs M with
    | some (ys, M') => some (.tup ys, M')
    | none => none
  | _ + 1, d, M => if d.pure then some (d, M) else none
  termination_by n d _ => (n, 0)
def freezeDs : Nat → List D → Mem → Option (List D × Mem)
  | _, [], M => some ([], M)
  | n, x :: xs, M => match freezeD n x M with
    | some (y, M1) => match freezeDs n xs M1 with
      | some (ys, M2) => some (y :: ys, M2)
      | none => none
    | none => none
  termination_by n xs _ => (n, xs.length + 1)
end
def freeze (d : D) (M : Mem) : Res D := match d with
  | .cell c => match M.S[c]? with
    | some (.lst xs) => if D.pures xs then some (.lst xs, setC c .dead M) else freezeD 4 (.cell c) M
    | _ => none
  | d => some (d, M)
/-- the cells that are walked, with what stands in them all the while -/
abbrev Grd := List (Nat × List D)
def gok (g : Grd) (M : Mem) : Bool := g.all fun p => match M.S[p.1]? with
  | some (.lst xs) => D.beqs xs p.2
  | _ => false
/-- one turn of a comprehension -/
def lcLoop (g : Grd) (turn : D → Mem → Res (Option D)) : List D → List D → Mem → Res (List D)
  | [], acc, M => if gok g M then some (acc, M) else none
  | d :: ds, acc, M => if gok g M then match turn d M with
      | some (some y, M') => if acc.length < Lim then lcLoop g turn ds (acc ++ [y]) M' else none
      | some (none, M') => lcLoop g turn ds acc M'
      | none => none
    else none
/-- what a statement leads to -/
inductive Out where
  | nx (env : Env) | rt (d : D) | bk (env : Env) | ct (env : Env)
def forLoop (g : Grd) (turn : D → Env → Mem → Res Out) : List D → Env → Mem → Res Out
  | [], env, M => if gok g M then some (.nx env, M) else none
  | d :: ds, env, M => if gok g M then match turn d env M with
      | some (.nx env', M') => forLoop g turn ds env' M'
      | some (.ct env', M') => forLoop g turn ds env' M'
      | some (.bk env', M') => some (.nx env', M')
      | some (.rt d, M') => some (.rt d, M')
      | none => none
    else none
def isTup : D → Bool
  | .tup _ => true
  | _ => false
/-- what a value is walked by: its items, and the cell that is to stay -/
def walkOf (M : Mem) : D → Option (List D × Grd)
  | .lst xs => some (xs, [])
  | .tup xs => some (xs, [])
  | .cell c => match M.S[c]? with
    | some (.lst xs) => some (xs, [(c, xs)])
    | _ => none
  | _ => none
def whileLoop (test : Env → Mem → Res Bool) (body : Env → Mem → Res Out) : Nat → Env → Mem → Res Out
  | 0, _, _ => none
  | n + 1, env, M => match test env M with
    | some (true, M') => match body env M' with
      | some (.nx env', M'') => whileLoop test body n env' M''
      | some (.ct env', M'') => whileLoop test body n env' M''
      | some (.bk env', M'') => some (.nx env', M'')
      | some (.rt d, M'') => some (.rt d, M'')
      | none => none
    | some (false, M') => some (.nx env, M')
    | none => none
def ofB (o : Option Bool) (M : Mem) : Res D := o.map fun b => (.bl b, M)
def ofD (o : Option D) (M : Mem) : Res D := o.map fun d => (d, M)
def tru (r : Res D) : Res Bool := match r with
  | some (d, M) => (truth M d).map fun b => (b, M)
  | none => none

section
variable (k : CallF) (n : Nat)
mutual
def ev : E → Env → Mem → Res D
  | .nev _, _, _ => none
  | .loc i _, env, M => match env[i]? with
    | some (some d) => some (d, M)
    | _ => none
  | .glo d _, _, M => some (d, M)
  | .cint i _, _, M => some (.int i, M)
  | .cstr x _, _, M => some (.str x, M)
  | .cbl b _, _, M => some (.bl b, M)
  | .cnon _, _, M => some (.non, M)
  | .tyn t _, _, M => some (.ty t, M)
  | .tup es _, env, M => match evs es env M with
    | some (ds, M') => if ds.length ≤ Lim then some (.tup ds, M') else none
    | none => none
  | .inl f, env, M => match evF f env M with
    | some (ds, M') => some (.lst ds, M')
    | none => none
  | .cel f, env, M => match evF f env M with
    | some (ds, M') => some (allocC (.lst ds) M')
    | none => none
  | .bin o a b _, env, M => match ev a env M with
    | some (x, M1) => match ev b env M1 with
      | some (y, M2) => ofD (opBin M2 o x y) M2
      | none => none
    | none => none
  | .neg a _, env, M => match ev a env M with
    | some (.int i, M1) => some (.int (-i), M1)
    | _ => none
  | .nott a _, env, M => match tru (ev a env M) with
    | some (b, M1) => some (.bl (!b), M1)
    | none => none
  | .bool w es _, env, M => evBool w es env M
  | .cmp o a b _, env, M => match ev a env M with
    | some (x, M1) => match ev b env M1 with
      | some (y, M2) => ofB (opCmp M2 o x y) M2
      | none => none
    | none => none
  | .chn o o' a b c _, env, M => match ev a env M with
    | some (x, M1) => match ev b env M1 with
      | some (y, M2) => match opCmp M2 o x y with
        | some true => match ev c env M2 with
          | some (z, M3) => ofB (opCmp M3 o' y z) M3
          | none => none
        | some false => some (.bl false, M2)
        | none => none
      | none => none
    | none => none
  | .ife c a b _, env, M => match tru (ev c env M) with
    | some (true, M1) => ev a env M1
    | some (false, M1) => ev b env M1
    | none => none
  | .call f es _, env, M => match evs es env M with
    | some (ds, M') => k f ds M'
    | none => none
  | .callk f es ks _, env, M => match evs es env M with
    | some (ds, M') => match evks ks env M' with
      | some (kd, M'') => match ((List.range kd.length).mapM fun i => kd.lookup (ds.length + i)) with
        | some more => k f (ds ++ more) M''
        | none => none
      | none => none
    | none => none
  | .len a _, env, M => match ev a env M with
    | some (d, M1) => ofD ((lenD M1 d).map fun (n : Nat) => D.int (n : Int)) M1
    | none => none
  | .isi a c _, env, M => match ev a env M with
    | some (x, M1) => match ev c env M1 with
      | some (y, M2) => ofB (isiD M2 x y) M2
      | none => none
    | none => none
  | .tupOf a _, env, M => match ev a env M with
    | some (d, M1) => ofD ((seqOf M1 d).map .tup) M1
    | none => none
  | .intOf a _, env, M => match ev a env M with
    | some (.int i, M1) => some (.int i, M1)
    | some (.bl b, M1) => some (.int (if b then 1 else 0), M1)
    | _ => none
  | .absOf a _, env, M => match ev a env M with
    | some (.int i, M1) => some (.int (if i < 0 then -i else i), M1)
    | _ => none
  | .allOf a _, env, M => match ev a env M with
    | some (d, M1) => match listOf M1 d with
      | some xs => ofB ((bools xs).map fun bs => bs.all id) M1
      | none => none
    | none => none
  | .anyOf a _, env, M => match ev a env M with
    | some (d, M1) => match listOf M1 d with
      | some xs => ofB ((bools xs).map fun bs => bs.any id) M1
      | none => none
    | none => none
  | .sumOf a _, env, M => match ev a env M with
    | some (d, M1) => match listOf M1 d with
      | some xs => ofD ((intsD xs).map fun is => .int is.sum) M1
      | none => none
    | none => none
  | .max2 a b _, env, M => match ev a env M with
    | some (.int i, M1) => match ev b env M1 with
      | some (.int j, M2) => some (.int (if j > i then j else i), M2)
      | _ => none
    | _ => none
  | .min2 a b _, env, M => match ev a env M with
    | some (.int i, M1) => match ev b env M1 with
      | some (.int j, M2) => some (.int (if j < i then j else i), M2)
      | _ => none
    | _ => none
  | .rngV a b _, env, M => match ev a env M with
    | some (.int i, M1) => match ev b env M1 with
      | some (.int j, M2) => if in62 i && in62 j then some (.rng i j, M2) else none
      | _ => none
    | _ => none
  | .rngV1 a _, env, M => match ev a env M with
    | some (.int j, M1) => if in62 j then some (.rng 0 j, M1) else none
    | _ => none
  | .maxL a _, env, M => match ev a env M with
    | some (d, M1) => ofD ((seqOf M1 d).bind greatD) M1
    | none => none
  | .minL a _, env, M => match ev a env M with
    | some (d, M1) => ofD ((seqOf M1 d).bind leastD) M1
    | none => none
  | .idx a i _, env, M => match ev a env M with
    | some (x, M1) => match ev i env M1 with
      | some (y, M2) => ofD (idxD M2 x y) M2
      | none => none
    | none => none
  | .slc a lo hi _, env, M => match ev a env M with
    | some (x, M1) => match evO lo env M1 with
      | some (l, M2) => match evO hi env M2 with
        | some (h, M3) => ofD (slcD M3 x l h) M3
        | none => none
      | none => none
    | none => none
  | .rev a _, env, M => match ev a env M with
    | some (d, M1) => ofD (revD M1 d) M1
    | none => none
  | .idxOf a e _, env, M => match ev a env M with
    | some (d, M1) => match listOf M1 d with
      | some _ => match ev e env M1 with
        | some (y, M2) => ofD (fdxD M2 y d) M2
        | none => none
      | none => none
    | none => none
  | .app a e _, env, M => match ev a env M with
    | some (.cell c, M1) => match M1.S[c]? with
      | some (.lst _) => match ev e env M1 with
        | some (y, M2) => match M2.S[c]? with
          | some (.lst xs) => if xs.length < Lim then some (.non, setC c (.lst (xs ++ [y])) M2) else none
          | _ => none
        | none => none
      | _ => none
    | _ => none
  | .ext a e _, env, M => match ev a env M with
    | some (.cell c, M1) => match M1.S[c]? with
      | some (.lst _) => match ev e env M1 with
        | some (y, M2) => match listOf M2 y with
          | some ys => match M2.S[c]? with
            | some (.lst xs) => if xs.length + ys.length ≤ Lim then some (.non, setC c (.lst (xs ++ ys)) M2) else none
            | _ => none
          | none => none
        | none => none
      | _ => none
    | _ => none
  | .pop a _, env, M => match ev a env M with
    | some (.cell c, M1) => match M1.S[c]? with
      | some (.lst xs) => match xs[xs.length - 1]? with
        | some y => some (y, setC c (.lst xs.dropLast) M1)
        | none => none
      | _ => none
    | _ => none
  | .popAt a i _, env, M => match ev a env M with
    | some (.cell c, M1) => match M1.S[c]? with
      | some (.lst _) => match ev i env M1 with
        | some (.int i, M2) => match M2.S[c]? with
          | some (.lst xs) => if 0 ≤ i ∧ i ≤ Lim then match xs[i.toNat]? with
              | some y => some (y, setC c (.lst (xs.eraseIdx i.toNat)) M2)
              | none => none
            else none
          | _ => none
        | _ => none
      | _ => none
    | _ => none
  | .frz a, env, M => match ev a env M with
    | some (d, M1) => freeze d M1
    | none => none
  | .dsp ps _, env, M => match evPs ps env M with
    | some (kv, M') => if keysOk (kv.map (·.1)) && decide (kv.length ≤ 15) then some (.dic (kv.map (·.1)) (kv.map (·.2)), M') else none
    | none => none
  | .celD _, _, M => some (allocC (.dic [] []) M)
def evPs : PL → Env → Mem → Res (List (D × D))
  | .nil, _, M => some ([], M)
  | .cons k v ps, env, M => match ev k env M with
    | some (x, M1) => match ev v env M1 with
      | some (y, M2) => match evPs ps env M2 with
        | some (kv, M3) => some ((x, y) :: kv, M3)
        | none => none
      | none => none
    | none => none
def evO : OE → Env → Mem → Res (Option Int)
  | .none, _, M => some (none, M)
  | .some e, env, M => match ev e env M with
    | some (.int i, M1) => some (some i, M1)
    | _ => none
def evs : EL → Env → Mem → Res (List D)
  | .nil, _, M => some ([], M)
  | .cons e es, env, M => match ev e env M with
    | some (d, M1) => match evs es env M1 with
      | some (ds, M2) => some (d :: ds, M2)
      | none => none
    | none => none
def evks : KL → Env → Mem → Res (List (Nat × D))
  | .nil, _, M => some ([], M)
  | .cons i e _ ks, env, M => match ev e env M with
    | some (d, M1) => match evks ks env M1 with
      | some (ds, M2) => some ((i, d) :: ds, M2)
      | none => none
    | none => none
def evBool (isAnd : Bool) : EL → Env → Mem → Res D
  | .nil, _, _ => none
  | .cons e .nil, env, M => ev e env M
  | .cons e (.cons e' es), env, M => match ev e env M with
    | some (d, M1) => match truth M1 d with
      | some b => if b == isAnd then evBool isAnd (.cons e' es) env M1 else some (d, M1)
      | none => none
    | none => none
/-- all tests hold, asked from the left -/
def evIfs : EL → Env → Mem → Res Bool
  | .nil, _, M => some (true, M)
  | .cons e es, env, M => match tru (ev e env M) with
    | some (true, M1) => evIfs es env M1
    | some (false, M1) => some (false, M1)
    | none => none
def evIt : It → Env → Mem → Res (List D × Grd)
  | .val e, env, M => match ev e env M with
    | some (d, M1) => match d with
      | .str x => if x.length ≤ Lim then some ((x.cps.toList.map fun c => .str ⟨#[c]⟩, []), M1) else none
      | .rng i j => if in62 i && in62 j then some ((rangeD i j, []), M1) else none
      | d => (walkOf M1 d).map fun w => (w, M1)
    | none => none
  | .rng1 b _, env, M => match ev b env M with
    | some (.int j, M1) => if in62 j then some ((rangeD 0 j, []), M1) else none
    | _ => none
  | .rng2 a b _, env, M => match ev a env M with
    | some (.int i, M1) => match ev b env M1 with
      | some (.int j, M2) => if in62 i && in62 j then some ((rangeD i j, []), M2) else none
      | _ => none
    | _ => none
  | .rng3 a b c _, env, M => match ev a env M with
    | some (.int i, M1) => match ev b env M1 with
      | some (.int j, M2) => match ev c env M2 with
        | some (.int s, M3) => if in62 i && in62 j && decide (s = -1) then some ((rangeDn i j, []), M3) else none
        | _ => none
      | _ => none
    | _ => none
  | .enum2 e _, env, M => match ev e env M with
    | some (d, M1) => match walkOf M1 d with
      | some (xs, g) => some ((enumD 0 xs, g), M1)
      | none => none
    | none => none
  | .enum e _, env, M => match ev e env M with
    | some (d, M1) => match walkOf M1 d with
      | some (xs, g) => if isTup d then none else some ((enumD 0 xs, g), M1)
      | none => none
    | none => none
  | .zip a b _, env, M => match ev a env M with
    | some (x, M1) => match ev b env M1 with
      | some (y, M2) => match walkOf M2 x, walkOf M2 y with
        | some (xs, g), some (ys, h) => if isTup x == isTup y then some ((zipD xs ys, g ++ h), M2) else none
        | _, _ => none
      | none => none
    | none => none
  | .enumZip a b _, env, M => match ev a env M with
    | some (x, M1) => match ev b env M1 with
      | some (y, M2) => match walkOf M2 x, walkOf M2 y with
        | some (xs, g), some (ys, h) => if isTup x && isTup y then some ((enumD 0 (zipD xs ys), g ++ h), M2) else none
        | _, _ => none
      | none => none
    | none => none
def evF : FL → Env → Mem → Res (List D)
  | .disp es _, env, M => match evs es env M with
    | some (ds, M') => if ds.length ≤ Lim then some (ds, M') else none
    | none => none
  | .lc tg it ifs elt _, env, M => match evIt it env M with
    | some ((ds, gr), M1) => lcLoop gr (fun d M => match put tg d (wipe env (G.own tg)) with
        | some env' => match evIfs ifs env' M with
          | some (true, M') => match ev elt env' M' with
            | some (y, M'') => some (some y, M'')
            | none => none
          | some (false, M') => some (none, M')
          | none => none
        | none => none) ds [] M1
    | none => none
  | .listOf a _, env, M => match ev a env M with
    | some (d, M1) => match lseq M1 d with
      | some xs => some (xs, M1)
      | none => none
    | none => none
  | .revL a _, env, M => match ev a env M with
    | some (d, M1) => match listOf M1 d with
      | some xs => some (xs.reverse, M1)
      | none => none
    | none => none
  | .srt a _, env, M => match ev a env M with
    | some (d, M1) => match (listOf M1 d).bind sortD with
      | some xs => some (xs, M1)
      | none => none
    | none => none
  | .srtC a _, env, M => match ev a env M with
    | some (d, M1) => match (listOf M1 d).bind (sortC M1) with
      | some xs => some (xs, M1)
      | none => none
    | none => none
  | .srtS f _, env, M => match evF f env M with
    | some (xs, M1) => match setT xs with
      | some ys => some (ys, M1)
      | none => none
    | none => none
  | .add a b _, env, M => match ev a env M with
    | some (x, M1) => match ev b env M1 with
      | some (y, M2) => match listOf M2 x, listOf M2 y with
        | some xs, some ys => if xs.length + ys.length ≤ Lim then some (xs ++ ys, M2) else none
        | _, _ => none
      | none => none
    | none => none
  | .repL a b _, env, M => match ev a env M with
    | some (x, M1) => match ev b env M1 with
      | some (.int n, M2) => match listOf M2 x with
        | some xs => if n < 2 ^ 63 ∧ -(2 ^ 63) ≤ n ∧ xs.length * n.toNat ≤ Lim then some (rep xs n.toNat, M2) else none
        | none => none
      | _ => none
    | none => none
  | .slc a lo hi _, env, M => match ev a env M with
    | some (x, M1) => match evO lo env M1 with
      | some (l, M2) => match evO hi env M2 with
        | some (h, M3) => match listOf M3 x with
          | some xs => some (cut xs l h, M3)
          | none => none
        | none => none
      | none => none
    | none => none
end

mutual
def exs : SL → Env → Mem → Res Out
  | .nil, env, M => some (.nx env, M)
  | .cons s ss, env, M => match ex s env M with
    | some (.nx env', M') => exs ss env' M'
    | r => r
def ex : S → Env → Mem → Res Out
  | .nev _, _, _ => none
  | .asg g e _, env, M => match ev k e env M with
    | some (d, M1) => match put g d env with
      | some env' => some (.nx env', M1)
      | none => none
    | none => none
  | .par i j a b _, env, M => match ev k a env M with
    | some (x, M1) => match ev k b env M1 with
      | some (y, M2) => if i < env.length ∧ j < env.length then some (.nx ((env.set i (some x)).set j (some y)), M2) else none
      | none => none
    | none => none
  | .par3 i j l a b c _, env, M => match ev k a env M with
    | some (x, M1) => match ev k b env M1 with
      | some (y, M2) => match ev k c env M2 with
        | some (z, M3) => if i < env.length ∧ j < env.length ∧ l < env.length then some (.nx (((env.set i (some x)).set j (some y)).set l (some z)), M3) else none
        | none => none
      | none => none
    | none => none
  | .sub o i e _, env, M => match ev k e env M with
    | some (d, M1) => match ev k o env M1 with
      | some (.cell c, M2) => match ev k i env M2 with
        | some (.int j, M3) => match M3.S[c]? with
          | some (.lst xs) => match ixOf xs.length j with
            | some m => some (.nx env, setC c (.lst (xs.set m d)) M3)
            | none => none
          | _ => none
        | _ => none
      | _ => none
    | none => none
  | .subD o i e _, env, M => match ev k e env M with
    | some (d, M1) => match ev k o env M1 with
      | some (.cell c, M2) => match ev k i env M2 with
        | some (y, M3) => match M3.S[c]? with
          | some (.dic ks vs) => if keyB y && decide (ks.length < Lim) then some (.nx env, setC c (.dic (putDk ks y) (putDw ks vs y d)) M3) else none
          | _ => none
        | none => none
      | _ => none
    | none => none
  | .aug i o e _, env, M => match env[i]? with
    | some (some (.int x)) => match ev k e env M with
      | some (.int y, M1) => match o with
        | .add => some (.nx (env.set i (some (.int (x + y)))), M1)
        | .sub => some (.nx (env.set i (some (.int (x - y)))), M1)
        | _ => none
      | _ => none
    | _ => none
  | .ex e _, env, M => match ev k e env M with
    | some (_, M1) => some (.nx env, M1)
    | none => none
  | .iff c a b _, env, M => match tru (ev k c env M) with
    | some (true, M1) => exs a env M1
    | some (false, M1) => exs b env M1
    | none => none
  | .for_ g it b _, env, M => match evIt k it env M with
    | some ((ds, gr), M1) => forLoop gr (fun d env M => match put g d env with
        | some env' => exs b env' M
        | none => none) ds env M1
    | none => none
  | .whl c b _, env, M => whileLoop (fun env M => tru (ev k c env M)) (fun env M => exs b env M) n env M
  | .ret e _, env, M => match ev k e env M with
    | some (d, M1) => some (.rt d, M1)
    | none => none
  | .pass _, env, M => some (.nx env, M)
  | .brk _, env, M => some (.bk env, M)
  | .cont _, env, M => some (.ct env, M)
end
end

/-! ### calls -/
structure Fn where
  np : Nat
  ns : Nat
  body : SL
inductive Ent where
  | code (f : Fn)
  | stream
  | draw

/-- what a draw below another number does: the script's cells are read up to the next great one -/
def drawCells : List Int → Int → Int → Int × Int × List Int
  | [], big, mix => (big, mix, [])
  | c :: r, big, mix => if big = 0 then
      (let cell := if c < 0 then -c else c
       drawCells r (if cell ≥ 10 ^ 18 then cell else 0) ((mix * 8191 + cell + 3) % 2147483647))
    else (big, mix, c :: r)
def drawF (s : Strm) (many : Int) : Int × Strm :=
  let cnt := s.cnt + 1
  let r := drawCells s.cells s.big s.mix
  if 0 < r.1 then (r.1 % many, ⟨r.2.2, r.1 / many, cnt, r.2.1⟩)
  else
    let mixed := (r.2.1 + 7919 * cnt + 104729) ^ 5 % 2147483629
    (((mixed * 48271 + 30011 * cnt + 29) ^ 3) % 1000000007 % many, ⟨r.2.2, r.1, cnt, r.2.1⟩)
def trim (S : List C) (d : D) (M : Mem) : D × Mem :=
  if M.S.length = S.length then (d, M)
  else if d.pure && beqC (M.S.take S.length) S then (d, { M with S := S }) else (d, M)
/-- a call, so deep -/
def callN (tbl : Nat → Option Ent) (n : Nat) : Nat → CallF
  | 0 => fun _ _ _ => none
  | k + 1 => fun f ds M => match tbl f with
    | some (.code fn) => if ds.length = fn.np then
        match exs (callN tbl n k) n fn.body (ds.map some ++ List.replicate (fn.ns - ds.length) none) M with
        | some (.rt d, M') => some (trim M.S d M')
        | some (.nx _, M') => some (trim M.S .non M')
        | _ => none
      else none
    | some .stream => match ds, M.st with
      | [.scr ns], none => if ns.length ≤ Lim then some (.strm, { M with st := some ⟨ns, 0, 0, 17⟩ }) else none
      | _, _ => none
    | some .draw => match ds, M.st with
      | [.strm, .int m], some s => if 0 < m ∧ m < 1073741824 ∧ s.fit = true then some (.int (drawF s m).1, { M with st := some (drawF s m).2 }) else none
      | _, _ => none
    | none => none
end Ev

set_option autoImplicit false
set_option linter.all false
/-! Ev: from the tongue back to the text's own trees. -/
namespace Ev
open PySem (Str Pos Scope)
structure Pay where
  a : Pos := ⟨0, 0, 0, 0⟩
  b : Pos := ⟨0, 0, 0, 0⟩
  c : Pos := ⟨0, 0, 0, 0⟩
  d : Pos := ⟨0, 0, 0, 0⟩
  x : Str := ⟨#[]⟩
  y : Str := ⟨#[]⟩
  sc : Scope := ⟨.function, [], false, false, []⟩
  e : PySem.Expr := .Constant .none 0 ⟨0, 0, 0, 0⟩
  st : PySem.Stmt := .Pass ⟨0, 0, 0, 0⟩
abbrev Tab := List Pay
def Tab.at (T : Tab) (p : Nat) : Pay := T.getD p {}
def Bop.op : Bop → PySem.Operator
  | .add => .Add
  | .sub => .Sub
  | .mul => .Mult
  | .fdiv => .FloorDiv
  | .mod => .Mod
  | .pow => .Pow
def Cop.op : Cop → PySem.CmpOp
  | .eq => .Eq
  | .ne => .NotEq
  | .lt => .Lt
  | .le => .LtE
  | .gt => .Gt
  | .ge => .GtE
  | .is => .Is
  | .isnot => .IsNot
  | .in_ => .In
  | .notin => .NotIn
def Ty.nm : Ty → Str
  | .int => "int"
  | .bool => "bool"
  | .str => "str"
  | .list => "list"
  | .tuple => "tuple"
  | .dict => "dict"
section
variable (T : Tab)
open PySem (Expr Stmt)
def bcall (f : Str) (as : List Expr) (p : Nat) : Expr := .Call (.Name f (T.at p).b) as [] (T.at p).a
mutual
def py : E → Expr
  | .nev p => (T.at p).e
  | .loc _ p => .Name (T.at p).x (T.at p).a
  | .glo _ p => .Name (T.at p).x (T.at p).a
  | .cint i p => .Constant (.int i) 0 (T.at p).a
  | .cstr x p => .Constant (.str x) 0 (T.at p).a
  | .cbl b p => .Constant (.bool b) 0 (T.at p).a
  | .cnon p => .Constant .none 0 (T.at p).a
  | .tyn t p => .Name t.nm (T.at p).a
  | .tup es p => .Tuple (pys es) 0 (T.at p).a
  | .inl f => pyF f
  | .cel f => pyF f
  | .bin o a b p => .BinOp (py a) o.op (py b) (T.at p).a
  | .neg a p => .UnaryOp .USub (py a) (T.at p).a
  | .nott a p => .UnaryOp .Not (py a) (T.at p).a
  | .bool w es p => .BoolOp (if w then .And else .Or) (pys es) (T.at p).a
  | .cmp o a b p => .Compare (py a) [o.op] [py b] (T.at p).a
  | .chn o o' a b c p => .Compare (py a) [o.op, o'.op] [py b, py c] (T.at p).a
  | .ife c a b p => .IfExp (py c) (py a) (py b) (T.at p).a
  | .call _ es p => .Call (.Name (T.at p).x (T.at p).b) (pys es) [] (T.at p).a
  | .callk _ es ks p => .Call (.Name (T.at p).x (T.at p).b) (pys es) (pyk ks) (T.at p).a
  | .len a p => bcall T "len" [py a] p
  | .isi a c p => bcall T "isinstance" [py a, py c] p
  | .tupOf a p => bcall T "tuple" [py a] p
  | .intOf a p => bcall T "int" [py a] p
  | .absOf a p => bcall T "abs" [py a] p
  | .allOf a p => bcall T "all" [py a] p
  | .anyOf a p => bcall T "any" [py a] p
  | .sumOf a p => bcall T "sum" [py a] p
  | .max2 a b p => bcall T "max" [py a, py b] p
  | .min2 a b p => bcall T "min" [py a, py b] p
  | .rngV a b p => bcall T "range" [py a, py b] p
  | .rngV1 a p => bcall T "range" [py a] p
  | .maxL a p => bcall T "max" [py a] p
  | .minL a p => bcall T "min" [py a] p
  | .idx a i p => .Subscript (py a) (py i) (T.at p).a
  | .slc a lo hi p => .Subscript (py a) (.Slice (pyO lo) (pyO hi) none (T.at p).b) (T.at p).a
  | .rev a p => .Subscript (py a) (.Slice none none (some (.UnaryOp .USub (.Constant (.int 1) 0 (T.at p).d) (T.at p).c)) (T.at p).b) (T.at p).a
  | .idxOf a e p => .Call (.Attribute (py a) "index" (T.at p).b) [py e] [] (T.at p).a
  | .app a e p => .Call (.Attribute (py a) "append" (T.at p).b) [py e] [] (T.at p).a
  | .ext a e p => .Call (.Attribute (py a) "extend" (T.at p).b) [py e] [] (T.at p).a
  | .pop a p => .Call (.Attribute (py a) "pop" (T.at p).b) [] [] (T.at p).a
  | .popAt a i p => .Call (.Attribute (py a) "pop" (T.at p).b) [py i] [] (T.at p).a
  | .frz a => py a
  | .dsp ps p => .Dict (pyKs ps) (pyVs ps) (T.at p).a
  | .celD p => .Dict [] [] (T.at p).a
def pyKs : PL → List (Option Expr)
  | .nil => []
  | .cons k _ ps => some (py k) :: pyKs ps
def pyVs : PL → List Expr
  | .nil => []
  | .cons _ v ps => py v :: pyVs ps
def pyO : OE → Option Expr
  | .none => none
  | .some e => some (py e)
def pys : EL → List Expr
  | .nil => []
  | .cons e es => py e :: pys es
def pyk : KL → List PySem.Keyword
  | .nil => []
  | .cons _ e p ks => ⟨some (T.at p).x, py e, (T.at p).a⟩ :: pyk ks
def pyF : FL → Expr
  | .disp es p => .List (pys es) (T.at p).a
  | .lc tg it ifs elt p => .ListComp (py elt) [⟨pyG tg, pyI it, pys ifs, 0⟩] (T.at p).sc (T.at p).a
  | .listOf a p => bcall T "list" [py a] p
  | .revL a p => .Subscript (py a) (.Slice none none (some (.UnaryOp .USub (.Constant (.int 1) 0 (T.at p).d) (T.at p).c)) (T.at p).b) (T.at p).a
  | .srt a p => bcall T "sorted" [py a] p
  | .srtC a p => bcall T "sorted" [py a] p
  | .srtS f p => bcall T "sorted" [pyCS f] p
  | .add a b p => .BinOp (py a) .Add (py b) (T.at p).a
  | .repL a b p => .BinOp (py a) .Mult (py b) (T.at p).a
  | .slc a lo hi p => .Subscript (py a) (.Slice (pyO lo) (pyO hi) none (T.at p).b) (T.at p).a
def pyCS : FL → Expr
  | .lc tg it ifs elt p => .SetComp (py elt) [⟨pyG tg, pyI it, pys ifs, 0⟩] (T.at p).sc (T.at p).a
  | _ => .Constant .none 0 (T.at 0).a
def pyI : It → Expr
  | .val e => py e
  | .rng1 b p => bcall T "range" [py b] p
  | .rng2 a b p => bcall T "range" [py a, py b] p
  | .rng3 a b c p => bcall T "range" [py a, py b, py c] p
  | .enum e p => bcall T "enumerate" [py e] p
  | .enum2 e p => bcall T "enumerate" [py e] p
  | .zip a b p => bcall T "zip" [py a, py b] p
  | .enumZip a b p => bcall T "enumerate" [bcall T "zip" [py a, py b] (p + 1)] p
def pyG : G → Expr
  | .name _ p => .Name (T.at p).x (T.at p).a
  | .tup gs p => .Tuple (pyGs gs) 0 (T.at p).a
def pyGs : GL → List Expr
  | .nil => []
  | .cons g gs => pyG g :: pyGs gs
end
mutual
def pyS : S → Stmt
  | .nev p => (T.at p).st
  | .asg g e p => .Assign [pyG T g] (py T e) (T.at p).a
  | .par _ _ a b p => .Assign [.Tuple [.Name (T.at p).x (T.at p).b, .Name (T.at p).y (T.at p).c] 0 (T.at p).d] (.Tuple [py T a, py T b] 0 (T.at (p + 1)).a) (T.at p).a
  | .par3 _ _ _ a b c p => .Assign [.Tuple [.Name (T.at p).x (T.at p).b, .Name (T.at p).y (T.at p).c, .Name (T.at (p + 1)).x (T.at (p + 1)).b] 0 (T.at p).d] (.Tuple [py T a, py T b, py T c] 0 (T.at (p + 1)).a) (T.at p).a
  | .sub o i e p => .Assign [.Subscript (py T o) (py T i) (T.at p).b] (py T e) (T.at p).a
  | .subD o i e p => .Assign [.Subscript (py T o) (py T i) (T.at p).b] (py T e) (T.at p).a
  | .aug _ o e p => .AugAssign (.Name (T.at p).x (T.at p).b) o.op (py T e) (T.at p).a
  | .ex e p => .Expr (py T e) (T.at p).a
  | .iff c a b p => .If (py T c) (pySs a) (pySs b) (T.at p).a
  | .for_ g it b p => .For (pyG T g) (pyI T it) (pySs b) [] (T.at p).a
  | .whl c b p => .While (py T c) (pySs b) [] (T.at p).a
  | .ret e p => .Return (some (py T e)) (T.at p).a
  | .pass p => .Pass (T.at p).a
  | .brk p => .Break (T.at p).a
  | .cont p => .Continue (T.at p).a
def pySs : SL → List Stmt
  | .nil => []
  | .cons s ss => pyS s :: pySs ss
end
end
end Ev

set_option autoImplicit false
set_option linter.all false
set_option maxRecDepth 100000
/-! Ev: what the evaluator's data mean in the layer's heap. -/
namespace Ev
open PySem PySem.Spec PyProof.Rows L2

/-- the written part, the program, the world -/
structure Fr where
  K : PySem.W.Frag
  P : Program
  wo : World
instance : Coe Fr PySem.W.Frag := ⟨Fr.K⟩
abbrev fr (X : Cx) : Fr := ⟨X.K, X.prog, X.w⟩
structure Wd where
  ν : List Addr
  s : Option (Addr × Addr)
  F : Hp
def Ty.n : Ty → String
  | .int => "int"
  | .bool => "bool"
  | .str => "str"
  | .list => "list"
  | .tuple => "tuple"
  | .dict => "dict"
section
variable (K : Fr)
mutual
inductive Den (w : Wd) : V → D → Prop
  | non : Den w .non .non
  | bl (b : Bool) : Den w (.bl b) (.bl b)
  | int (i : Int) : Den w (.int i) (.int i)
  | str (x : Str) : Den w (.str x) (.str x)
  | ty (t : Ty) : Den w (.ty t.n) (.ty t)
  | tup {a : Addr} {vs : List V} {ds : List D} : SqT K w.F a vs → Dens w vs ds → Den w (.ref a) (.tup ds)
  | lst {a : Addr} {vs : List V} {ds : List D} : w.F a = some (.lst vs) → Dens w vs ds → Den w (.ref a) (.lst ds)
  | dic {a : Addr} {kvs : List (Key × V)} {ks vs : List D} : w.F a = some (.dK kvs) → Dens w (kvs.map fun p => kV p.1) ks → Dens w (kvs.map fun p => p.2) vs → Den w (.ref a) (.dic ks vs)
  | cell {a : Addr} {c : Nat} : w.ν[c]? = some a → Den w (.ref a) (.cell c)
  | strm {p q : Addr} : w.s = some (p, q) → Den w (.ref p) .strm
  | scr {a : Addr} {ns : List Int} : SqL K w.F a (ns.map V.int) → Den w (.ref a) (.scr ns)
  | rng {a : Addr} {i j : Int} : w.F a = some (.rng i j) → Den w (.ref a) (.rng i j)
inductive Dens (w : Wd) : List V → List D → Prop
  | nil : Dens w [] []
  | cons {v : V} {vs : List V} {d : D} {ds : List D} : Den w v d → Dens w vs ds → Dens w (v :: vs) (d :: ds)
end
/-- what stands at a cell's place -/
def cellOk (w : Wd) (H : Hp) (a : Addr) : C → Prop
  | .dead => ∃ o, H a = some o
  | .lst ds => w.F a = none ∧ ∃ vs, H a = some (.lst vs) ∧ Dens K w vs ds
  | .dic ks vs => w.F a = none ∧ ∃ kvs : List (Key × V), H a = some (.dK kvs) ∧ Dens K w (kvs.map fun p => kV p.1) ks ∧ Dens K w (kvs.map fun p => p.2) vs
def stOk (w : Wd) (H : Hp) (p q : Addr) (t : Strm) : Prop :=
  H p = some (.lst [.ref q, .int t.big, .int t.cnt, .int t.mix]) ∧ H q = some (.lst (t.cells.map V.int)) ∧ w.F p = none ∧ w.F q = none ∧ p ≠ q ∧ p ∉ w.ν ∧ q ∉ w.ν
structure Rp (w : Wd) (M : Mem) (H : Hp) : Prop where
  same : Same w.F H
  len : w.ν.length = M.S.length
  nd : w.ν.Nodup
  cells : ∀ (c : Nat) (o : C) (a : Addr), M.S[c]? = some o → w.ν[c]? = some a → cellOk K w H a o
  st : match M.st with
    | none => w.s = none
    | some t => ∃ p q, w.s = some (p, q) ∧ stOk w H p q t
end
/-- what may come of a state -/
structure Fut (w : Wd) (H : Hp) (w' : Wd) (H' : Hp) : Prop where
  nu : ∃ l, w'.ν = w.ν ++ l ∧ ∀ a ∈ l, H a = none
  F : Same w.F w'.F
  new : ∀ b o, H b = some o → w.F b = none → b ∉ w.ν → w'.F b = none
  s : w'.s = w.s ∨ (w.s = none ∧ ∀ p q, w'.s = some (p, q) → H p = none ∧ H q = none)
  keep : ∀ b o, H b = some o → b ∉ w.ν → (∀ p q, w.s = some (p, q) → b ≠ p ∧ b ≠ q) → H' b = some o
  there : ∀ b o, H b = some o → ∃ o', H' b = some o'
theorem Fut.refl (w : Wd) (H : Hp) : Fut w H w H := ⟨⟨[], by simp, by simp⟩, fun _ _ h => h, fun _ _ _ h _ => h, .inl rfl, fun _ _ h _ _ => h, fun _ o h => ⟨o, h⟩⟩
theorem Fut.back {w : Wd} {H : Hp} {w' : Wd} {H' : Hp} (f : Fut w H w' H') {a : Addr} (h : H' a = none) : H a = none := by
  cases e : H a with
  | none => rfl
  | some o =>
    obtain ⟨o', e'⟩ := f.there a o e
    rw [h] at e'; cases e'
theorem Fut.trans {w : Wd} {H : Hp} {w1 : Wd} {H1 : Hp} {w2 : Wd} {H2 : Hp} (f : Fut w H w1 H1) (g : Fut w1 H1 w2 H2) : Fut w H w2 H2 := by
  obtain ⟨l, e1, n1⟩ := f.nu
  obtain ⟨l2, e2, n2⟩ := g.nu
  have notin : ∀ b o, H b = some o → b ∉ w.ν → b ∉ w1.ν := fun b o h hn hb => by
    rw [e1] at hb
    rcases List.mem_append.mp hb with z | z
    · exact hn z
    · rw [n1 b z] at h; cases h
  refine ⟨⟨l ++ l2, by rw [e2, e1, List.append_assoc], fun a ha => ?_⟩, fun b o h => g.F b o (f.F b o h), fun b o h hF hn => ?_, ?_, fun b o h hn hs => ?_, fun b o h => ?_⟩
  · rcases List.mem_append.mp ha with z | z
    · exact n1 a z
    · exact f.back (n2 a z)
  · obtain ⟨o', h'⟩ := f.there b o h
    exact g.new b o' h' (f.new b o h hF hn) (notin b o h hn)
  · rcases f.s with e | ⟨e, q⟩
    · rcases g.s with e' | ⟨e', q'⟩
      · exact .inl (e'.trans e)
      · exact .inr ⟨e ▸ e', fun p q h => ⟨f.back (q' p q h).1, f.back (q' p q h).2⟩⟩
    · rcases g.s with e' | ⟨e', q'⟩
      · exact .inr ⟨e, fun p r h => q p r (e' ▸ h)⟩
      · exact .inr ⟨e, fun p r h => ⟨f.back (q' p r h).1, f.back (q' p r h).2⟩⟩
  · refine g.keep b o (f.keep b o h hn hs) (notin b o h hn) fun p q e => ?_
    rcases f.s with z | ⟨z, y⟩
    · exact hs p q (z ▸ e)
    · obtain ⟨n1, n2⟩ := y p q e
      exact ⟨ne_of_none h n1, ne_of_none h n2⟩
  · obtain ⟨o', h'⟩ := f.there b o h
    exact g.there b o' h'
section
variable {K : Fr}
theorem Same.seqT {H H' : Hp} {a : Addr} {xs : List V} (e : Same H H') (h : SqT K H a xs) : SqT K H' a xs := by
  rcases h with (h | ⟨o, h⟩) | h
  · exact .inl (.inl (e _ _ h))
  · exact .inl (.inr ⟨o, e _ _ h⟩)
  · exact .inr h
theorem nu_get {w w' : Wd} {l : List Addr} (e : w'.ν = w.ν ++ l) {c : Nat} {a : Addr} (h : w.ν[c]? = some a) : w'.ν[c]? = some a := by
  rw [e, List.getElem?_append_left (List.getElem?_eq_some_iff.mp h).1]; exact h
mutual
theorem Den.mono {w w' : Wd} (hF : Same w.F w'.F) (hn : ∀ (c : Nat) (a : Addr), w.ν[c]? = some a → w'.ν[c]? = some a) (hs : ∀ p q, w.s = some (p, q) → w'.s = some (p, q)) : ∀ {v : V} {d : D}, Den K w v d → Den K w' v d
  | _, _, .non => .non
  | _, _, .bl b => .bl b
  | _, _, .int i => .int i
  | _, _, .str x => .str x
  | _, _, .ty t => .ty t
  | _, _, .tup h r => .tup (Same.seqT hF h) (Dens.mono hF hn hs r)
  | _, _, .lst h r => .lst (hF _ _ h) (Dens.mono hF hn hs r)
  | _, _, .dic h r1 r2 => .dic (hF _ _ h) (Dens.mono hF hn hs r1) (Dens.mono hF hn hs r2)
  | _, _, .cell h => .cell (hn _ _ h)
  | _, _, .strm h => .strm (hs _ _ h)
  | _, _, .scr h => .scr (Same.seq hF h)
  | _, _, .rng h => .rng (hF _ _ h)
theorem Dens.mono {w w' : Wd} (hF : Same w.F w'.F) (hn : ∀ (c : Nat) (a : Addr), w.ν[c]? = some a → w'.ν[c]? = some a) (hs : ∀ p q, w.s = some (p, q) → w'.s = some (p, q)) : ∀ {vs : List V} {ds : List D}, Dens K w vs ds → Dens K w' vs ds
  | _, _, .nil => .nil
  | _, _, .cons h r => .cons (Den.mono hF hn hs h) (Dens.mono hF hn hs r)
end
theorem Fut.nuget {w : Wd} {H : Hp} {w' : Wd} {H' : Hp} (f : Fut w H w' H') : ∀ (c : Nat) (a : Addr), w.ν[c]? = some a → w'.ν[c]? = some a := by
  obtain ⟨l, e, _⟩ := f.nu
  exact fun c a h => nu_get e h
theorem Fut.sget {w : Wd} {H : Hp} {w' : Wd} {H' : Hp} (f : Fut w H w' H') : ∀ p q, w.s = some (p, q) → w'.s = some (p, q) := fun p q e => by
  rcases f.s with z | ⟨z, _⟩
  · exact z.trans e
  · rw [z] at e; cases e
theorem Den.fut {w : Wd} {H : Hp} {w' : Wd} {H' : Hp} (f : Fut w H w' H') {v : V} {d : D} (h : Den K w v d) : Den K w' v d := h.mono f.F f.nuget f.sget
theorem Dens.fut {w : Wd} {H : Hp} {w' : Wd} {H' : Hp} (f : Fut w H w' H') {v : List V} {d : List D} (h : Dens K w v d) : Dens K w' v d := h.mono f.F f.nuget f.sget
theorem Dens.length : ∀ {w : Wd} {vs : List V} {ds : List D}, Dens K w vs ds → vs.length = ds.length
  | _, _, _, .nil => rfl
  | _, _, _, .cons _ r => by simp [Dens.length r]
theorem Dens.get {w : Wd} : ∀ {vs : List V} {ds : List D} {i : Nat} {d : D}, Dens K w vs ds → ds[i]? = some d → ∃ v, vs[i]? = some v ∧ Den K w v d
  | _, _, _, _, .nil, e => by simp at e
  | _, _, 0, _, .cons h _, e => by simp at e; subst e; exact ⟨_, by simp, h⟩
  | _, _, i + 1, d, .cons _ r, e => by
    obtain ⟨v, e', h⟩ := Dens.get (i := i) (d := d) r (by simpa using e)
    exact ⟨v, by simpa using e', h⟩
theorem Dens.get' {w : Wd} : ∀ {vs : List V} {ds : List D} {i : Nat} {v : V}, Dens K w vs ds → vs[i]? = some v → ∃ d, ds[i]? = some d ∧ Den K w v d
  | _, _, _, _, .nil, e => by simp at e
  | _, _, 0, _, .cons h _, e => by simp at e; subst e; exact ⟨_, by simp, h⟩
  | _, _, i + 1, d, .cons _ r, e => by
    obtain ⟨v, e', h⟩ := Dens.get' (i := i) (v := d) r (by simpa using e)
    exact ⟨v, by simpa using e', h⟩
theorem Dens.append {w : Wd} : ∀ {vs ws : List V} {ds es : List D}, Dens K w vs ds → Dens K w ws es → Dens K w (vs ++ ws) (ds ++ es)
  | _, _, _, _, .nil, r => r
  | _, _, _, _, .cons h r, s => .cons h (Dens.append r s)
theorem Dens.take {w : Wd} : ∀ (n : Nat) {vs : List V} {ds : List D}, Dens K w vs ds → Dens K w (vs.take n) (ds.take n)
  | 0, _, _, _ => .nil
  | n + 1, _, _, .nil => .nil
  | n + 1, _, _, .cons h r => .cons h (Dens.take n r)
theorem Dens.drop {w : Wd} : ∀ (n : Nat) {vs : List V} {ds : List D}, Dens K w vs ds → Dens K w (vs.drop n) (ds.drop n)
  | 0, _, _, h => h
  | n + 1, _, _, .nil => .nil
  | n + 1, _, _, .cons _ r => Dens.drop n r
theorem Dens.set {w : Wd} : ∀ (n : Nat) {v : V} {d : D} {vs : List V} {ds : List D}, Den K w v d → Dens K w vs ds → Dens K w (vs.set n v) (ds.set n d)
  | _, _, _, _, _, _, .nil => .nil
  | 0, _, _, _, _, q, .cons h r => .cons q r
  | n + 1, _, _, _, _, q, .cons h r => .cons h (Dens.set n q r)
theorem Dens.eraseIdx {w : Wd} : ∀ (n : Nat) {vs : List V} {ds : List D}, Dens K w vs ds → Dens K w (vs.eraseIdx n) (ds.eraseIdx n)
  | _, _, _, .nil => .nil
  | 0, _, _, .cons h r => r
  | n + 1, _, _, .cons h r => .cons h (Dens.eraseIdx n r)
theorem Dens.dropLast {w : Wd} {vs : List V} {ds : List D} (h : Dens K w vs ds) : Dens K w vs.dropLast ds.dropLast := by
  rw [List.dropLast_eq_take, List.dropLast_eq_take, h.length]; exact h.take _
theorem Dens.reverse {w : Wd} : ∀ {vs : List V} {ds : List D}, Dens K w vs ds → Dens K w vs.reverse ds.reverse
  | _, _, .nil => .nil
  | _, _, .cons h r => by simp only [List.reverse_cons]; exact (Dens.reverse r).append (.cons h .nil)
theorem Dens.rep {w : Wd} {vs : List V} {ds : List D} (h : Dens K w vs ds) : ∀ n, Dens K w (List.replicate n vs).flatten (Ev.rep ds n)
  | 0 => .nil
  | n + 1 => by
    unfold Ev.rep
    rw [List.replicate_succ, List.replicate_succ, List.flatten_cons, List.flatten_cons]
    exact h.append (Dens.rep h n)
theorem Dens.ints {w : Wd} : ∀ {vs : List V} {ds : List D} {is : List Int}, Dens K w vs ds → intsD ds = some is → vs = is.map V.int
  | _, _, is, .nil, e => by simp [intsD] at e; subst e; rfl
  | _, _, is, .cons h r, e => by
    cases h <;> simp only [intsD, reduceCtorEq] at e
    simp only [Option.map_eq_some_iff] at e
    obtain ⟨js, e1, e2⟩ := e
    subst e2
    rw [Dens.ints r e1]; rfl
theorem Dens.bools {w : Wd} : ∀ {vs : List V} {ds : List D} {is : List Bool}, Dens K w vs ds → Ev.bools ds = some is → vs = is.map V.bl
  | _, _, is, .nil, e => by simp [Ev.bools] at e; subst e; rfl
  | _, _, is, .cons h r, e => by
    cases h <;> simp only [Ev.bools, reduceCtorEq] at e
    simp only [Option.map_eq_some_iff] at e
    obtain ⟨js, e1, e2⟩ := e
    subst e2
    rw [Dens.bools r e1]; rfl
theorem Dens.nil_iff {w : Wd} {vs : List V} {ds : List D} (h : Dens K w vs ds) : ds.isEmpty = vs.isEmpty := by
  cases h <;> rfl

theorem Dens.monoF {w : Wd} {F' : Hp} (sm : Same w.F F') {vs : List V} {ds : List D} (r : Dens K w vs ds) : Dens K { w with F := F' } vs ds := Dens.mono (w' := { w with F := F' }) sm (fun _ _ h => h) (fun _ _ h => h) r
theorem Dens.monoN {w : Wd} {l : List Addr} {vs : List V} {ds : List D} (r : Dens K w vs ds) : Dens K { w with ν := w.ν ++ l } vs ds := by
  have hn : ∀ (c : Nat) (a : Addr), w.ν[c]? = some a → ({ w with ν := w.ν ++ l } : Wd).ν[c]? = some a := fun c a h => nu_get (w := w) (w' := { w with ν := w.ν ++ l }) rfl h
  exact Dens.mono (w := w) (w' := { w with ν := w.ν ++ l }) (fun _ _ h => h) hn (fun _ _ h => h) r
/-! ### new things -/
theorem same_upd {F : Hp} {p : Addr} {o : HO} (h : F p = none) : Same F (upd F p o) := fun b x e => by
  rw [upd_ne (ne_of_none e h)]; exact e
/-- a new object that is never changed again: it stands in the frozen part -/
theorem alloc_frozen {w : Wd} {M : Mem} {H : Hp} (R : Rp K w M H) {p : Addr} (hp : H p = none) (o : HO) :
    Fut w H { w with F := upd w.F p o } (upd H p o) ∧ Rp K { w with F := upd w.F p o } M (upd H p o) := by
  have hF : w.F p = none := R.same.free hp
  have sm : Same w.F (upd w.F p o) := same_upd hF
  have nin : p ∉ w.ν := fun hb => by
    obtain ⟨c, hc⟩ := List.mem_iff_getElem?.mp hb
    have hlt : c < M.S.length := by rw [← R.len]; exact (List.getElem?_eq_some_iff.mp hc).1
    have q := R.cells c _ p (List.getElem?_eq_getElem hlt) hc
    generalize M.S[c] = z at q
    cases z with
    | dead => obtain ⟨o, e⟩ := q; rw [hp] at e; cases e
    | lst ds => obtain ⟨_, vs, e, _⟩ := q; rw [hp] at e; cases e
    | dic _ _ => obtain ⟨_, vs, e, _⟩ := q; rw [hp] at e; cases e
  refine ⟨⟨⟨[], by simp, by simp⟩, sm, fun b x e hb _ => ?_, .inl rfl, fun b x e _ _ => ?_, fun b x e => ?_⟩, ⟨fun b x e => ?_, R.len, R.nd, fun c x a h1 h2 => ?_, ?_⟩⟩
  · show upd w.F p o b = none
    rw [upd_ne (ne_of_none e hp)]; exact hb
  · rw [upd_ne (ne_of_none e hp)]; exact e
  · exact ⟨x, by rw [upd_ne (ne_of_none e hp)]; exact e⟩
  · have e' : upd w.F p o b = some x := e
    by_cases hb : b = p
    · subst hb; rw [upd_same] at e' ⊢; exact e'
    · rw [upd_ne hb] at e' ⊢; exact R.same b x e'
  · have hap : a ≠ p := fun z => nin (z ▸ List.mem_of_getElem? h2)
    have q := R.cells c x a h1 h2
    cases x with
    | dead => obtain ⟨o', e⟩ := q; exact ⟨o', by rw [upd_ne hap]; exact e⟩
    | lst ds =>
      obtain ⟨f, vs, e, r⟩ := q
      exact ⟨by show upd w.F p o a = none; rw [upd_ne hap]; exact f, vs, by rw [upd_ne hap]; exact e, r.monoF sm⟩
    | dic _ _ =>
      obtain ⟨f, vs, e, r1, r2⟩ := q
      exact ⟨by show upd w.F p o a = none; rw [upd_ne hap]; exact f, vs, by rw [upd_ne hap]; exact e, r1.monoF sm, r2.monoF sm⟩
  · have q := R.st
    cases hm : M.st with
    | none => rw [hm] at q; exact q
    | some t =>
      rw [hm] at q
      obtain ⟨a, b, e, h1, h2, h3, h4, h5, h6, h7⟩ := q
      have na : a ≠ p := ne_of_none h1 hp
      have nb : b ≠ p := ne_of_none h2 hp
      exact ⟨a, b, e, by rw [upd_ne na]; exact h1, by rw [upd_ne nb]; exact h2, by show upd w.F p o a = none; rw [upd_ne na]; exact h3, by show upd w.F p o b = none; rw [upd_ne nb]; exact h4, h5, h6, h7⟩
theorem Rp.notin {w : Wd} {M : Mem} {H : Hp} (R : Rp K w M H) {p : Addr} (hp : H p = none) : p ∉ w.ν := fun hb => by
  obtain ⟨c, hc⟩ := List.mem_iff_getElem?.mp hb
  have hlt : c < M.S.length := by rw [← R.len]; exact (List.getElem?_eq_some_iff.mp hc).1
  have q := R.cells c _ p (List.getElem?_eq_getElem hlt) hc
  generalize M.S[c] = z at q
  cases z with
  | dead => obtain ⟨o, e⟩ := q; rw [hp] at e; cases e
  | lst ds => obtain ⟨_, vs, e, _⟩ := q; rw [hp] at e; cases e
  | dic _ _ => obtain ⟨_, vs, e, _⟩ := q; rw [hp] at e; cases e
/-- a new list at a cell of its own -/
theorem alloc_cell {w : Wd} {M : Mem} {H : Hp} (R : Rp K w M H) {p : Addr} (hp : H p = none) {vs : List V} {ds : List D} (hd : Dens K w vs ds) :
    Fut w H { w with ν := w.ν ++ [p] } (upd H p (.lst vs)) ∧ Rp K { w with ν := w.ν ++ [p] } (allocC (.lst ds) M).2 (upd H p (.lst vs)) ∧ Den K { w with ν := w.ν ++ [p] } (.ref p) (allocC (.lst ds) M).1 := by
  have nin := R.notin hp
  have hF : w.F p = none := R.same.free hp
  have mn : ∀ (c : Nat) (a : Addr), w.ν[c]? = some a → (w.ν ++ [p])[c]? = some a := fun c a h => nu_get (w := w) (w' := { w with ν := w.ν ++ [p] }) rfl h
  refine ⟨⟨⟨[p], rfl, by simp [hp]⟩, fun _ _ h => h, fun b x _ h _ => h, .inl rfl, fun b x e _ _ => ?_, fun b x e => ?_⟩, ⟨fun b x e => ?_, ?_, ?_, fun c x a h1 h2 => ?_, ?_⟩, ?_⟩
  · rw [upd_ne (ne_of_none e hp)]; exact e
  · exact ⟨x, by rw [upd_ne (ne_of_none e hp)]; exact e⟩
  · rw [upd_ne (ne_of_none e hF)]; exact R.same b x e
  · show (w.ν ++ [p]).length = (M.S ++ [C.lst ds]).length
    rw [List.length_append, List.length_append, R.len]; rfl
  · show (w.ν ++ [p]).Nodup
    rw [List.nodup_append]
    exact ⟨R.nd, by simp, fun a ha b hb => by rw [List.mem_singleton.mp hb]; rintro rfl; exact nin ha⟩
  · have h1' : (M.S ++ [C.lst ds])[c]? = some x := h1
    have h2' : (w.ν ++ [p])[c]? = some a := h2
    by_cases hc : c < M.S.length
    · rw [List.getElem?_append_left hc] at h1'
      rw [List.getElem?_append_left (by rw [R.len]; exact hc)] at h2'
      have hap : a ≠ p := fun z => nin (z ▸ List.mem_of_getElem? h2')
      have q := R.cells c x a h1' h2'
      cases x with
      | dead => obtain ⟨o', e⟩ := q; exact ⟨o', by rw [upd_ne hap]; exact e⟩
      | lst es =>
        obtain ⟨f, us, e, r⟩ := q
        exact ⟨f, us, by rw [upd_ne hap]; exact e, r.monoN⟩
      | dic _ _ =>
        obtain ⟨f, us, e, r1, r2⟩ := q
        exact ⟨f, us, by rw [upd_ne hap]; exact e, r1.monoN, r2.monoN⟩
    · have ec : c = M.S.length := by
        have := (List.getElem?_eq_some_iff.mp h1').1
        rw [List.length_append] at this
        simp at this; omega
      subst ec
      rw [List.getElem?_append_right (Nat.le_refl _)] at h1'
      rw [← R.len, List.getElem?_append_right (Nat.le_refl _)] at h2'
      simp at h1' h2'
      subst h1' h2'
      exact ⟨hF, vs, upd_same, hd.monoN⟩
  · have q := R.st
    show match M.st with
      | none => w.s = none
      | some t => _
    cases hm : M.st with
    | none => rw [hm] at q; exact q
    | some t =>
      rw [hm] at q
      obtain ⟨a, b, e, h1, h2, h3, h4, h5, h6, h7⟩ := q
      have na : a ≠ p := ne_of_none h1 hp
      have nb : b ≠ p := ne_of_none h2 hp
      refine ⟨a, b, e, by rw [upd_ne na]; exact h1, by rw [upd_ne nb]; exact h2, h3, h4, h5, ?_, ?_⟩
      · show a ∉ w.ν ++ [p]
        simp [h6, na]
      · show b ∉ w.ν ++ [p]
        simp [h7, nb]
  · refine .cell ?_
    show (w.ν ++ [p])[M.S.length]? = some p
    rw [← R.len, List.getElem?_append_right (Nat.le_refl _)]
    simp
/-- a new dict at a cell of its own -/
theorem alloc_dic {w : Wd} {M : Mem} {H : Hp} (R : Rp K w M H) {p : Addr} (hp : H p = none) :
    Fut w H { w with ν := w.ν ++ [p] } (upd H p (.dK [])) ∧ Rp K { w with ν := w.ν ++ [p] } (allocC (.dic [] []) M).2 (upd H p (.dK [])) ∧ Den K { w with ν := w.ν ++ [p] } (.ref p) (allocC (.dic [] []) M).1 := by
  have nin := R.notin hp
  have hF : w.F p = none := R.same.free hp
  have mn : ∀ (c : Nat) (a : Addr), w.ν[c]? = some a → (w.ν ++ [p])[c]? = some a := fun c a h => nu_get (w := w) (w' := { w with ν := w.ν ++ [p] }) rfl h
  refine ⟨⟨⟨[p], rfl, by simp [hp]⟩, fun _ _ h => h, fun b x _ h _ => h, .inl rfl, fun b x e _ _ => ?_, fun b x e => ?_⟩, ⟨fun b x e => ?_, ?_, ?_, fun c x a h1 h2 => ?_, ?_⟩, ?_⟩
  · rw [upd_ne (ne_of_none e hp)]; exact e
  · exact ⟨x, by rw [upd_ne (ne_of_none e hp)]; exact e⟩
  · rw [upd_ne (ne_of_none e hF)]; exact R.same b x e
  · show (w.ν ++ [p]).length = (M.S ++ [C.dic [] []]).length
    rw [List.length_append, List.length_append, R.len]; rfl
  · show (w.ν ++ [p]).Nodup
    rw [List.nodup_append]
    exact ⟨R.nd, by simp, fun a ha b hb => by rw [List.mem_singleton.mp hb]; rintro rfl; exact nin ha⟩
  · have h1' : (M.S ++ [C.dic [] []])[c]? = some x := h1
    have h2' : (w.ν ++ [p])[c]? = some a := h2
    by_cases hc : c < M.S.length
    · rw [List.getElem?_append_left hc] at h1'
      rw [List.getElem?_append_left (by rw [R.len]; exact hc)] at h2'
      have hap : a ≠ p := fun z => nin (z ▸ List.mem_of_getElem? h2')
      have q := R.cells c x a h1' h2'
      cases x with
      | dead => obtain ⟨o', e⟩ := q; exact ⟨o', by rw [upd_ne hap]; exact e⟩
      | lst es =>
        obtain ⟨f, us, e, r⟩ := q
        exact ⟨f, us, by rw [upd_ne hap]; exact e, r.monoN⟩
      | dic _ _ =>
        obtain ⟨f, us, e, r1, r2⟩ := q
        exact ⟨f, us, by rw [upd_ne hap]; exact e, r1.monoN, r2.monoN⟩
    · have ec : c = M.S.length := by
        have := (List.getElem?_eq_some_iff.mp h1').1
        rw [List.length_append] at this
        simp at this; omega
      subst ec
      rw [List.getElem?_append_right (Nat.le_refl _)] at h1'
      rw [← R.len, List.getElem?_append_right (Nat.le_refl _)] at h2'
      simp at h1' h2'
      subst h1' h2'
      exact ⟨hF, [], upd_same, .nil, .nil⟩
  · have q := R.st
    show match M.st with
      | none => w.s = none
      | some t => _
    cases hm : M.st with
    | none => rw [hm] at q; exact q
    | some t =>
      rw [hm] at q
      obtain ⟨a, b, e, h1, h2, h3, h4, h5, h6, h7⟩ := q
      have na : a ≠ p := ne_of_none h1 hp
      have nb : b ≠ p := ne_of_none h2 hp
      refine ⟨a, b, e, by rw [upd_ne na]; exact h1, by rw [upd_ne nb]; exact h2, h3, h4, h5, ?_, ?_⟩
      · show a ∉ w.ν ++ [p]
        simp [h6, na]
      · show b ∉ w.ν ++ [p]
        simp [h7, nb]
  · refine .cell ?_
    show (w.ν ++ [p])[M.S.length]? = some p
    rw [← R.len, List.getElem?_append_right (Nat.le_refl _)]
    simp
/-- the list at a live cell -/
theorem Rp.cell {w : Wd} {M : Mem} {H : Hp} (R : Rp K w M H) {c : Nat} {a : Addr} {ds : List D} (ha : w.ν[c]? = some a) (hc : M.S[c]? = some (.lst ds)) : w.F a = none ∧ ∃ vs, H a = some (.lst vs) ∧ Dens K w vs ds := R.cells c _ a hc ha
/-- the list at a live cell is changed -/
theorem Rp.setLst {w : Wd} {M : Mem} {H : Hp} (R : Rp K w M H) {c : Nat} {a : Addr} {ds : List D} (ha : w.ν[c]? = some a) (hc : M.S[c]? = some (.lst ds)) {us : List V} {es : List D} (hd : Dens K w us es) :
    Fut w H w (upd H a (.lst us)) ∧ Rp K w (setC c (.lst es) M) (upd H a (.lst us)) := by
  obtain ⟨f, vs, e, r⟩ := R.cell ha hc
  have hin : a ∈ w.ν := List.mem_of_getElem? ha
  refine ⟨⟨⟨[], by simp, by simp⟩, fun _ _ h => h, fun b x _ h _ => h, .inl rfl, fun b x h hn _ => ?_, fun b x h => ?_⟩, ⟨fun b x h => ?_, ?_, R.nd, fun c' x a' h1 h2 => ?_, ?_⟩⟩
  · rw [upd_ne (show b ≠ a from fun z => hn (by rw [z]; exact hin))]; exact h
  · by_cases hb : b = a
    · subst hb; exact ⟨_, upd_same⟩
    · exact ⟨x, by rw [upd_ne hb]; exact h⟩
  · rw [upd_ne (ne_of_none h f)]; exact R.same b x h
  · show w.ν.length = (M.S.set c (.lst es)).length
    rw [List.length_set]; exact R.len
  · have h1' : (M.S.set c (.lst es))[c']? = some x := h1
    by_cases hcc : c' = c
    · subst hcc
      rw [List.getElem?_set_self (List.getElem?_eq_some_iff.mp hc).1] at h1'
      rw [ha] at h2
      cases h1'; cases h2
      exact ⟨f, us, upd_same, hd⟩
    · rw [List.getElem?_set_ne (Ne.symm hcc)] at h1'
      have hap : a' ≠ a := fun z => by
        subst z
        have l1 := List.getElem?_eq_some_iff.mp ha
        have l2 := List.getElem?_eq_some_iff.mp h2
        obtain ⟨l1, e1⟩ := l1
        obtain ⟨l2, e2⟩ := l2
        exact hcc ((List.getElem_inj R.nd).mp (e2.trans e1.symm))
      have q := R.cells c' x a' h1' h2
      cases x with
      | dead => obtain ⟨o', e⟩ := q; exact ⟨o', by rw [upd_ne hap]; exact e⟩
      | lst es =>
        obtain ⟨f, us, e, r⟩ := q
        exact ⟨f, us, by rw [upd_ne hap]; exact e, r⟩
      | dic _ _ =>
        obtain ⟨f, us, e, r1, r2⟩ := q
        exact ⟨f, us, by rw [upd_ne hap]; exact e, r1, r2⟩
  · have q := R.st
    show match M.st with
      | none => w.s = none
      | some t => _
    cases hm : M.st with
    | none => rw [hm] at q; exact q
    | some t =>
      rw [hm] at q
      obtain ⟨p, b, e, h1, h2, h3, h4, h5, h6, h7⟩ := q
      have na : p ≠ a := fun z => h6 (z ▸ hin)
      have nb : b ≠ a := fun z => h7 (z ▸ hin)
      exact ⟨p, b, e, by rw [upd_ne na]; exact h1, by rw [upd_ne nb]; exact h2, h3, h4, h5, h6, h7⟩
/-- the dict at a live cell -/
theorem Rp.cellD {w : Wd} {M : Mem} {H : Hp} (R : Rp K w M H) {c : Nat} {a : Addr} {ks vs : List D} (ha : w.ν[c]? = some a) (hc : M.S[c]? = some (.dic ks vs)) : w.F a = none ∧ ∃ kvs : List (Key × V), H a = some (.dK kvs) ∧ Dens K w (kvs.map fun p => kV p.1) ks ∧ Dens K w (kvs.map fun p => p.2) vs := R.cells c _ a hc ha
/-- the dict at a live cell is changed -/
theorem Rp.setDic {w : Wd} {M : Mem} {H : Hp} (R : Rp K w M H) {c : Nat} {a : Addr} {ks vs : List D} (ha : w.ν[c]? = some a) (hc : M.S[c]? = some (.dic ks vs)) {kvs : List (Key × V)} {ks' vs' : List D} (hd : Dens K w (kvs.map fun p => kV p.1) ks') (hd2 : Dens K w (kvs.map fun p => p.2) vs') :
    Fut w H w (upd H a (.dK kvs)) ∧ Rp K w (setC c (.dic ks' vs') M) (upd H a (.dK kvs)) := by
  obtain ⟨f, _, e, _⟩ := R.cellD ha hc
  have hin : a ∈ w.ν := List.mem_of_getElem? ha
  refine ⟨⟨⟨[], by simp, by simp⟩, fun _ _ h => h, fun b x _ h _ => h, .inl rfl, fun b x h hn _ => ?_, fun b x h => ?_⟩, ⟨fun b x h => ?_, ?_, R.nd, fun c' x a' h1 h2 => ?_, ?_⟩⟩
  · rw [upd_ne (show b ≠ a from fun z => hn (by rw [z]; exact hin))]; exact h
  · by_cases hb : b = a
    · subst hb; exact ⟨_, upd_same⟩
    · exact ⟨x, by rw [upd_ne hb]; exact h⟩
  · rw [upd_ne (ne_of_none h f)]; exact R.same b x h
  · show w.ν.length = (M.S.set c (.dic ks' vs')).length
    rw [List.length_set]; exact R.len
  · have h1' : (M.S.set c (.dic ks' vs'))[c']? = some x := h1
    by_cases hcc : c' = c
    · subst hcc
      rw [List.getElem?_set_self (List.getElem?_eq_some_iff.mp hc).1] at h1'
      rw [ha] at h2
      cases h1'; cases h2
      exact ⟨f, kvs, upd_same, hd, hd2⟩
    · rw [List.getElem?_set_ne (Ne.symm hcc)] at h1'
      have hap : a' ≠ a := fun z => by
        subst z
        have l1 := List.getElem?_eq_some_iff.mp ha
        have l2 := List.getElem?_eq_some_iff.mp h2
        obtain ⟨l1, e1⟩ := l1
        obtain ⟨l2, e2⟩ := l2
        exact hcc ((List.getElem_inj R.nd).mp (e2.trans e1.symm))
      have q := R.cells c' x a' h1' h2
      cases x with
      | dead => obtain ⟨o', e⟩ := q; exact ⟨o', by rw [upd_ne hap]; exact e⟩
      | lst es =>
        obtain ⟨f, us, e, r⟩ := q
        exact ⟨f, us, by rw [upd_ne hap]; exact e, r⟩
      | dic _ _ =>
        obtain ⟨f, us, e, r1, r2⟩ := q
        exact ⟨f, us, by rw [upd_ne hap]; exact e, r1, r2⟩
  · have q := R.st
    show match M.st with
      | none => w.s = none
      | some t => _
    cases hm : M.st with
    | none => rw [hm] at q; exact q
    | some t =>
      rw [hm] at q
      obtain ⟨p, b, e, h1, h2, h3, h4, h5, h6, h7⟩ := q
      have na : p ≠ a := fun z => h6 (z ▸ hin)
      have nb : b ≠ a := fun z => h7 (z ▸ hin)
      exact ⟨p, b, e, by rw [upd_ne na]; exact h1, by rw [upd_ne nb]; exact h2, h3, h4, h5, h6, h7⟩
mutual
theorem Den.nocell {w w' : Wd} (hF : Same w.F w'.F) (hs : ∀ p q, w.s = some (p, q) → w'.s = some (p, q)) : ∀ {v : V} {d : D}, d.pure = true → Den K w v d → Den K w' v d
  | _, _, _, .non => .non
  | _, _, _, .bl b => .bl b
  | _, _, _, .int i => .int i
  | _, _, _, .str x => .str x
  | _, _, _, .ty t => .ty t
  | _, _, p, .tup h r => .tup (Same.seqT hF h) (Dens.nocell hF hs (by simpa [D.pure] using p) r)
  | _, _, p, .lst h r => .lst (hF _ _ h) (Dens.nocell hF hs (by simpa [D.pure] using p) r)
  | _, _, p, .dic h r1 r2 => .dic (hF _ _ h) (Dens.nocell hF hs (by simp [D.pure] at p; exact p.1) r1) (Dens.nocell hF hs (by simp [D.pure] at p; exact p.2) r2)
  | _, _, p, .cell h => by simp [D.pure] at p
  | _, _, _, .strm h => .strm (hs _ _ h)
  | _, _, _, .scr h => .scr (Same.seq hF h)
  | _, _, _, .rng h => .rng (hF _ _ h)
theorem Dens.nocell {w w' : Wd} (hF : Same w.F w'.F) (hs : ∀ p q, w.s = some (p, q) → w'.s = some (p, q)) : ∀ {vs : List V} {ds : List D}, D.pures ds = true → Dens K w vs ds → Dens K w' vs ds
  | _, _, _, .nil => .nil
  | _, _, p, .cons h r => .cons (Den.nocell hF hs (by simp [D.pures] at p; exact p.1) h) (Dens.nocell hF hs (by simp [D.pures] at p; exact p.2) r)
end
/-- a live list without cells in it is frozen -/
theorem Rp.freeze {w : Wd} {M : Mem} {H : Hp} (R : Rp K w M H) {c : Nat} {a : Addr} {ds : List D} (ha : w.ν[c]? = some a) (hc : M.S[c]? = some (.lst ds)) :
    ∃ w', Fut w H w' H ∧ Rp K w' (setC c .dead M) H ∧ Den K w' (.ref a) (.lst ds) := by
  obtain ⟨f, vs, e, r⟩ := R.cell ha hc
  have hin : a ∈ w.ν := List.mem_of_getElem? ha
  have sm : Same w.F (upd w.F a (.lst vs)) := same_upd f
  refine ⟨{ w with F := upd w.F a (.lst vs) }, ⟨⟨[], by simp, by simp⟩, sm, fun b x h hb hn => ?_, .inl rfl, fun b x h _ _ => h, fun b x h => ⟨x, h⟩⟩, ⟨fun b x h => ?_, ?_, R.nd, fun c' x a' h1 h2 => ?_, ?_⟩, .lst upd_same (r.monoF sm)⟩
  · show upd w.F a _ b = none
    rw [upd_ne (show b ≠ a from fun z => hn (by rw [z]; exact hin))]; exact hb
  · have h' : upd w.F a (.lst vs) b = some x := h
    by_cases hb : b = a
    · subst hb; rw [upd_same] at h'; rw [e]; exact h'
    · rw [upd_ne hb] at h'; exact R.same b x h'
  · show w.ν.length = (M.S.set c .dead).length
    rw [List.length_set]; exact R.len
  · have h1' : (M.S.set c .dead)[c']? = some x := h1
    by_cases hcc : c' = c
    · subst hcc
      rw [List.getElem?_set_self (List.getElem?_eq_some_iff.mp hc).1] at h1'
      have h2' : w.ν[c']? = some a' := h2
      rw [ha] at h2'
      cases h1'; cases h2'
      exact ⟨_, e⟩
    · rw [List.getElem?_set_ne (Ne.symm hcc)] at h1'
      have hap : a' ≠ a := fun z => by
        subst z
        obtain ⟨l1, e1⟩ := List.getElem?_eq_some_iff.mp ha
        obtain ⟨l2, e2⟩ := List.getElem?_eq_some_iff.mp (show w.ν[c']? = some a' from h2)
        exact hcc ((List.getElem_inj R.nd).mp (e2.trans e1.symm))
      have q := R.cells c' x a' h1' h2
      cases x with
      | dead => exact q
      | lst es =>
        obtain ⟨f, us, e, r⟩ := q
        exact ⟨by show upd w.F a _ a' = none; rw [upd_ne hap]; exact f, us, e, r.monoF sm⟩
      | dic _ _ =>
        obtain ⟨f, us, e, r1, r2⟩ := q
        exact ⟨by show upd w.F a _ a' = none; rw [upd_ne hap]; exact f, us, e, r1.monoF sm, r2.monoF sm⟩
  · have q := R.st
    show match M.st with
      | none => w.s = none
      | some t => _
    cases hm : M.st with
    | none => rw [hm] at q; exact q
    | some t =>
      rw [hm] at q
      obtain ⟨p, b, e, h1, h2, h3, h4, h5, h6, h7⟩ := q
      have na : p ≠ a := fun z => h6 (z ▸ hin)
      have nb : b ≠ a := fun z => h7 (z ▸ hin)
      exact ⟨p, b, e, h1, h2, by show upd w.F a _ p = none; rw [upd_ne na]; exact h3, by show upd w.F a _ b = none; rw [upd_ne nb]; exact h4, h5, h6, h7⟩
mutual
theorem Rp.freezeD : ∀ (n : Nat) (d : D) {w : Wd} {M M' : Mem} {H : Hp} {v : V} {d' : D}, Rp K w M H → Den K w v d → freezeD n d M = some (d', M') → ∃ w', Fut w H w' H ∧ Rp K w' M' H ∧ Den K w' v d'
  | 0, d, w, M, M', H, v, d', R, h, e => by
    rw [Ev.freezeD] at e
    split at e
    · cases e; exact ⟨w, Fut.refl w H, R, h⟩
    · cases e
  | n + 1, .cell c, w, M, M', H, v, d', R, h, e => by
    rw [Ev.freezeD] at e
    split at e
    · rename_i xs hc
      split at e
      · rename_i ys M1 h1
        cases e
        cases h with
        | cell ha =>
          obtain ⟨w1, f1, R1, d1⟩ := R.freeze ha hc
          cases d1 with
          | lst hF r =>
            obtain ⟨w2, f2, R2, r2⟩ := Rp.freezeDs n xs R1 r h1
            exact ⟨w2, f1.trans f2, R2, .lst (f2.F _ _ hF) r2⟩
      · cases e
    · cases e
  | n + 1, .lst xs, w, M, M', H, v, d', R, h, e => by
    rw [Ev.freezeD] at e
    split at e
    · rename_i ys M1 h1
      cases e
      cases h with
      | lst hF r =>
        obtain ⟨w2, f2, R2, r2⟩ := Rp.freezeDs n xs R r h1
        exact ⟨w2, f2, R2, .lst (f2.F _ _ hF) r2⟩
    · cases e
  | n + 1, .tup xs, w, M, M', H, v, d', R, h, e => by
    rw [Ev.freezeD] at e
    split at e
    · rename_i ys M1 h1
      cases e
      cases h with
      | tup hF r =>
        obtain ⟨w2, f2, R2, r2⟩ := Rp.freezeDs n xs R r h1
        exact ⟨w2, f2, R2, .tup (Same.seqT f2.F hF) r2⟩
    · cases e
  | n + 1, .non, w, M, M', H, v, d', R, h, e => by simp [Ev.freezeD, D.pure] at e; obtain ⟨rfl, rfl⟩ := e; exact ⟨w, Fut.refl w H, R, h⟩
  | n + 1, .bl _, w, M, M', H, v, d', R, h, e => by simp [Ev.freezeD, D.pure] at e; obtain ⟨rfl, rfl⟩ := e; exact ⟨w, Fut.refl w H, R, h⟩
  | n + 1, .int _, w, M, M', H, v, d', R, h, e => by simp [Ev.freezeD, D.pure] at e; obtain ⟨rfl, rfl⟩ := e; exact ⟨w, Fut.refl w H, R, h⟩
  | n + 1, .str _, w, M, M', H, v, d', R, h, e => by simp [Ev.freezeD, D.pure] at e; obtain ⟨rfl, rfl⟩ := e; exact ⟨w, Fut.refl w H, R, h⟩
  | n + 1, .ty _, w, M, M', H, v, d', R, h, e => by simp [Ev.freezeD, D.pure] at e; obtain ⟨rfl, rfl⟩ := e; exact ⟨w, Fut.refl w H, R, h⟩
  | n + 1, .dic ks vs, w, M, M', H, v, d', R, h, e => by simp [Ev.freezeD] at e; obtain ⟨_, rfl, rfl⟩ := e; exact ⟨w, Fut.refl w H, R, h⟩
  | n + 1, .strm, w, M, M', H, v, d', R, h, e => by simp [Ev.freezeD, D.pure] at e; obtain ⟨rfl, rfl⟩ := e; exact ⟨w, Fut.refl w H, R, h⟩
  | n + 1, .scr _, w, M, M', H, v, d', R, h, e => by simp [Ev.freezeD, D.pure] at e; obtain ⟨rfl, rfl⟩ := e; exact ⟨w, Fut.refl w H, R, h⟩
  | n + 1, .rng _ _, w, M, M', H, v, d', R, h, e => by simp [Ev.freezeD, D.pure] at e; obtain ⟨rfl, rfl⟩ := e; exact ⟨w, Fut.refl w H, R, h⟩
  termination_by n d => (n, 0)
theorem Rp.freezeDs : ∀ (n : Nat) (ds : List D) {w : Wd} {M M' : Mem} {H : Hp} {vs : List V} {ds' : List D}, Rp K w M H → Dens K w vs ds → freezeDs n ds M = some (ds', M') → ∃ w', Fut w H w' H ∧ Rp K w' M' H ∧ Dens K w' vs ds'
  | n, [], w, M, M', H, vs, ds', R, h, e => by
    rw [Ev.freezeDs] at e
    cases e; cases h; exact ⟨w, Fut.refl w H, R, .nil⟩
  | n, x :: xs, w, M, M', H, vs, ds', R, h, e => by
    rw [Ev.freezeDs] at e
    split at e
    · rename_i y M1 h1
      split at e
      · rename_i ys M2 h2
        cases e
        cases h with
        | cons hx hr =>
          obtain ⟨w1, f1, R1, d1⟩ := Rp.freezeD n x R hx h1
          obtain ⟨w2, f2, R2, r2⟩ := Rp.freezeDs n xs R1 (hr.fut f1) h2
          exact ⟨w2, f1.trans f2, R2, .cons (d1.fut f2) r2⟩
      · cases e
    · cases e
  termination_by n ds => (n, ds.length + 1)
end
end
end Ev

set_option autoImplicit false
set_option linter.all false
set_option maxRecDepth 100000
/-! Ev: operations on values. -/
namespace Ev
open PySem PySem.Spec PyProof.Rows L2
section
variable {K : Fr}
structure EnvOk (K : Fr) (w : Wd) (σ : L2.St) (env : Env) : Prop where
  len : σ.length = env.length
  get : ∀ (i : Nat) (d : D), env[i]? = some (some d) → ∃ v, σ[i]? = some (some v) ∧ Den K w v d
theorem EnvOk.fut {w : Wd} {H : Hp} {w' : Wd} {H' : Hp} {σ : L2.St} {env : Env} (f : Fut w H w' H') (e : EnvOk K w σ env) : EnvOk K w' σ env :=
  ⟨e.len, fun i d h => let ⟨v, h1, h2⟩ := e.get i d h; ⟨v, h1, h2.fut f⟩⟩
theorem EnvOk.set {w : Wd} {σ : L2.St} {env : Env} (e : EnvOk K w σ env) {v : V} {d : D} (i : Nat) (h : Den K w v d) : EnvOk K w (σ.set i (some v)) (env.set i (some d)) := by
  refine ⟨by rw [List.length_set, List.length_set]; exact e.len, fun j c q => ?_⟩
  by_cases hj : j = i
  · subst hj
    by_cases hl : j < env.length
    · rw [List.getElem?_set_self hl] at q
      cases q
      exact ⟨v, by rw [List.getElem?_set_self (by rw [e.len]; exact hl)], h⟩
    · rw [List.set_eq_of_length_le (by omega)] at q
      rw [List.getElem?_eq_none (by omega)] at q; cases q
  · rw [List.getElem?_set_ne (Ne.symm hj)] at q
    obtain ⟨u, h1, h2⟩ := e.get j c q
    exact ⟨u, by rw [List.getElem?_set_ne (Ne.symm hj)]; exact h1, h2⟩
theorem EnvOk.forget {w : Wd} {σ : L2.St} {env : Env} (e : EnvOk K w σ env) (i : Nat) : EnvOk K w (σ.set i none) (env.set i none) := by
  refine ⟨by rw [List.length_set, List.length_set]; exact e.len, fun j c q => ?_⟩
  by_cases hj : j = i
  · subst hj
    by_cases hl : j < env.length
    · rw [List.getElem?_set_self hl] at q; cases q
    · rw [List.set_eq_of_length_le (by omega)] at q
      rw [List.getElem?_eq_none (by omega)] at q; cases q
  · rw [List.getElem?_set_ne (Ne.symm hj)] at q
    obtain ⟨u, h1, h2⟩ := e.get j c q
    exact ⟨u, by rw [List.getElem?_set_ne (Ne.symm hj)]; exact h1, h2⟩
theorem EnvOk.wipe {w : Wd} {σ : L2.St} {env : Env} (e : EnvOk K w σ env) : ∀ vs : List Nat, EnvOk K w (L2.wipe σ vs) (Ev.wipe env vs)
  | [] => e
  | v :: vs => (e.wipe vs).forget v

/-! ### readings by a function of the evaluator -/
def tE (K : Fr) (f : Env → Mem → Res D) : TE := fun σ H Q => ∃ w env M d M', Rp K w M H ∧ EnvOk K w σ env ∧ f env M = some (d, M') ∧ ∀ w' H' v, Fut w H w' H' → Rp K w' M' H' → Den K w' v d → Q v H'
def tT (K : Fr) (f : Env → Mem → Res Bool) : TT := fun σ H Q => ∃ w env M b M', Rp K w M H ∧ EnvOk K w σ env ∧ f env M = some (b, M') ∧ ∀ w' H', Fut w H w' H' → Rp K w' M' H' → Q b H'
def tA (K : Fr) (f : Env → Mem → Res (List D)) : TA := fun σ H Q => ∃ w env M ds M', Rp K w M H ∧ EnvOk K w σ env ∧ f env M = some (ds, M') ∧ ∀ w' H' vs, Fut w H w' H' → Rp K w' M' H' → Dens K w' vs ds → Q vs H'
/-- a new list, that nothing else knows of -/
def tF (K : Fr) (f : Env → Mem → Res (List D)) : TE := fun σ H Q => ∃ w env M ds M', Rp K w M H ∧ EnvOk K w σ env ∧ f env M = some (ds, M') ∧
  ∀ w' H' p vs, Fut w H w' H' → Rp K w' M' H' → H' p = none → Dens K w' vs ds → Q (.ref p) (upd H' p (.lst vs))
theorem tE_eq {f g : Env → Mem → Res D} (h : ∀ env M, f env M = g env M) : tE K f = tE K g := by
  have e : f = g := by funext env M; exact h env M
  rw [e]
theorem tT_eq {f g : Env → Mem → Res Bool} (h : ∀ env M, f env M = g env M) : tT K f = tT K g := by
  have e : f = g := by funext env M; exact h env M
  rw [e]
theorem tA_eq {f g : Env → Mem → Res (List D)} (h : ∀ env M, f env M = g env M) : tA K f = tA K g := by
  have e : f = g := by funext env M; exact h env M
  rw [e]
end
theorem imp_e {X : Cx} {e : Expr} {t t' : TE} (h : PE X e t) (i : ∀ σ H Q, t' σ H Q → t σ H Q) : PE X e t' := ⟨fun pins s σ H Q I q => h.run pins s σ H Q I (i σ H Q q)⟩
theorem imp_t {X : Cx} {e : Expr} {t t' : TT} (h : PT X e t) (i : ∀ σ H Q, t' σ H Q → t σ H Q) : PT X e t' := ⟨fun pins s σ H Q I q => h.run pins s σ H Q I (i σ H Q q)⟩
theorem imp_w {X : Cx} {e : Expr} {t t' : TT} (h : PW X e t) (i : ∀ σ H Q, t' σ H Q → t σ H Q) : PW X e t' := ⟨fun wh pins s σ H Q I q => h.run wh pins s σ H Q I (i σ H Q q)⟩
theorem imp_a {X : Cx} {e : List Expr} {t t' : TA} (h : PA X e t) (i : ∀ σ H Q, t' σ H Q → t σ H Q) : PA X e t' := ⟨fun p pins s σ H Q I q => h.run p pins s σ H Q I (i σ H Q q)⟩
theorem imp_s {X : Cx} {e : Stmt} {t t' : TS} (h : PS X e t) (i : ∀ D σ H, t' D σ H → t D σ H) : PS X e t' := ⟨fun pins s σ H D I q => h.run pins s σ H D I (i D σ H q)⟩
theorem imp_ss {X : Cx} {e : List Stmt} {t t' : TS} (h : PSs X e t) (i : ∀ D σ H, t' D σ H → t D σ H) : PSs X e t' := ⟨fun pins s σ H D I q => h.run pins s σ H D I (i D σ H q)⟩

/-! ### what two values give -/
abbrev NxV (K : Fr) (w : Wd) (H : Hp) (M : Mem) (d : D) (Q : VK) : Prop := ∀ w' H' v, Fut w H w' H' → Rp K w' M H' → Den K w' v d → Q v H'
def OpS (K : Fr) (r : R2) (g : Mem → D → D → Option D) : Prop := ∀ w M H x y dx dy d Q, Rp K w M H → Den K w x dx → Den K w y dy → g M dx dy = some d → NxV K w H M d Q → r x y H Q
theorem OpR.or {X : Cx} {f : Value → Value → Sem Value} {r r' : R2} (h : OpR X f r) (h' : OpR X f r') : OpR X f (fun x y H Q => r x y H Q ∨ r' x y H Q) := by
  intro pins s σ H x y v u Q I rx ry q
  rcases q with q | q
  · exact h pins s σ H x y v u Q I rx ry q
  · exact h' pins s σ H x y v u Q I rx ry q
theorem CallR.or {X : Cx} {f : Value} {r r' : List V → Hp → VK → Prop} (h : CallR X f r) (h' : CallR X f r') : CallR X f (fun x H Q => r x H Q ∨ r' x H Q) := by
  intro pins s σ H x v Q I rx q
  rcases q with q | q
  · exact h pins s σ H x v Q I rx q
  · exact h' pins s σ H x v Q I rx q
section
variable {K : Fr} {w : Wd} {M : Mem} {H : Hp} {Q : VK}
theorem NxV.same {d : D} {v : V} (n : NxV K w H M d Q) (R : Rp K w M H) (h : Den K w v d) : Q v H := n w H v (Fut.refl w H) R h
/-- a new frozen list -/
theorem NxV.newL {ds : List D} {vs : List V} {p : Addr} (n : NxV K w H M (.lst ds) Q) (R : Rp K w M H) (h : Dens K w vs ds) (hp : H p = none) : Q (.ref p) (upd H p (.lst vs)) := by
  obtain ⟨f, R'⟩ := alloc_frozen R hp (.lst vs)
  exact n _ _ _ f R' (.lst upd_same (h.fut f))
theorem NxV.newT {ds : List D} {vs : List V} {p : Addr} (n : NxV K w H M (.tup ds) Q) (R : Rp K w M H) (h : Dens K w vs ds) (hp : H p = none) : Q (.ref p) (upd H p (.tup vs)) := by
  obtain ⟨f, R'⟩ := alloc_frozen R hp (.tup vs)
  exact n _ _ _ f R' (.tup (.inl (.inl upd_same)) (h.fut f))
theorem listOf_den {x : V} {d : D} {ds : List D} (R : Rp K w M H) (h : Den K w x d) (e : listOf M d = some ds) : ∃ a vs, x = .ref a ∧ H a = some (.lst vs) ∧ Dens K w vs ds := by
  cases h with
  | lst h r => simp [listOf] at e; subst e; exact ⟨_, _, rfl, R.same _ _ h, r⟩
  | @cell a c h =>
    simp only [listOf] at e
    split at e
    · rename_i xs hc
      cases e
      obtain ⟨_, vs, h1, h2⟩ := R.cell h hc
      exact ⟨a, vs, rfl, h1, h2⟩
    · cases e
  | _ => simp [listOf] at e
theorem seqOf_den {x : V} {d : D} {ds : List D} (R : Rp K w M H) (h : Den K w x d) (e : seqOf M d = some ds) : ∃ a vs, x = .ref a ∧ (H a = some (.lst vs) ∨ SqT K H a vs) ∧ Dens K w vs ds := by
  cases h with
  | tup h r => simp [seqOf] at e; subst e; exact ⟨_, _, rfl, .inr (Same.seqT R.same h), r⟩
  | lst h r =>
    obtain ⟨a, vs, e1, e2, e3⟩ := listOf_den R (.lst h r) (show listOf M _ = some ds from e)
    exact ⟨a, vs, e1, .inl e2, e3⟩
  | cell h =>
    obtain ⟨a, vs, e1, e2, e3⟩ := listOf_den R (.cell h) (show listOf M _ = some ds from e)
    exact ⟨a, vs, e1, .inl e2, e3⟩
  | _ => simp [seqOf, listOf] at e
theorem den_int {x : V} {i : Int} (h : Den K w x (.int i)) : x = .int i := by cases h; rfl
theorem den_bl {x : V} {i : Bool} (h : Den K w x (.bl i)) : x = .bl i := by cases h; rfl
theorem den_str {x : V} {i : Str} (h : Den K w x (.str i)) : x = .str i := by cases h; rfl
theorem den_tup {x : V} {ds : List D} (h : Den K w x (.tup ds)) : ∃ a vs, x = .ref a ∧ SqT K w.F a vs ∧ Dens K w vs ds := by cases h with | tup h r => exact ⟨_, _, rfl, h, r⟩

theorem add_inv {a b d : D} (h : opBin M .add a b = some d) : (∃ i j, a = .int i ∧ b = .int j ∧ d = .int (i + j)) ∨ (∃ i j, a = .str i ∧ b = .str j ∧ i.length + j.length ≤ Lim ∧ d = .str (i ++ j)) ∨
    (∃ xs ys, a = .tup xs ∧ b = .tup ys ∧ xs.length + ys.length ≤ Lim ∧ d = .tup (xs ++ ys)) ∨ ∃ xs ys, listOf M a = some xs ∧ listOf M b = some ys ∧ xs.length + ys.length ≤ Lim ∧ d = .lst (xs ++ ys) := by
  have fin : ∀ a b : D, (match Bop.add, listOf M a, listOf M b with | .add, some xs, some ys => if xs.length + ys.length ≤ Lim then some (D.lst (xs ++ ys)) else none | _, _, _ => none) = some d → ∃ xs ys, listOf M a = some xs ∧ listOf M b = some ys ∧ xs.length + ys.length ≤ Lim ∧ d = .lst (xs ++ ys) := fun a b q => by
    cases e1 : listOf M a with
    | none => rw [e1] at q; cases q
    | some xs =>
      cases e2 : listOf M b with
      | none => rw [e1, e2] at q; cases q
      | some ys =>
        rw [e1, e2] at q
        simp only at q
        split at q
        · rename_i hl; cases q; exact ⟨xs, ys, rfl, rfl, hl, rfl⟩
        · cases q
  unfold opBin at h
  split at h
  · simp [intBin] at h; exact .inl ⟨_, _, rfl, rfl, h.symm⟩
  · simp only at h; split at h
    · rename_i hl; cases h; exact .inr (.inl ⟨_, _, rfl, rfl, hl, rfl⟩)
    · cases h
  · simp only at h; split at h
    · rename_i hl; cases h; exact .inr (.inr (.inl ⟨_, _, rfl, rfl, hl, rfl⟩))
    · cases h
  · cases h
  · cases h
  · exact .inr (.inr (.inr (fin _ _ h)))
def rAdd (K : Fr) : R2 := fun x y H Q => (rI0 (fun i j => .int (i + j)) x y H Q ∨ (∃ i j, x = .str i ∧ y = .str j ∧ i.length + j.length ≤ sizeLine ∧ Q (.str (i ++ j)) H)) ∨ (rCatA K x y H Q ∨ rCat x y H Q)
theorem op_addAll {X : Cx} : OpR X (binaryOp .Add) (rAdd (fr X)) := (OpR.or op_add op_add_str).or (OpR.or op_catA op_cat)
theorem lim_line {n : Nat} (h : n ≤ Lim) : n ≤ sizeLine := by rw [sizeLine_eq]; exact h
theorem add_ok : OpS K (rAdd K) (fun M => opBin M .add) := by
  intro w M H x y dx dy d Q R hx hy h n
  rcases add_inv h with ⟨i, j, rfl, rfl, rfl⟩ | ⟨i, j, rfl, rfl, hl, rfl⟩ | ⟨xs, ys, rfl, rfl, hl, rfl⟩ | ⟨xs, ys, e1, e2, hl, rfl⟩
  · cases den_int hx; cases den_int hy
    exact .inl (.inl ⟨i, j, rfl, rfl, n.same R (.int _)⟩)
  · cases den_str hx; cases den_str hy
    exact .inl (.inr ⟨i, j, rfl, rfl, lim_line hl, n.same R (.str _)⟩)
  · obtain ⟨a, us, rfl, h1, r1⟩ := den_tup hx
    obtain ⟨b, vs, rfl, h2, r2⟩ := den_tup hy
    refine .inr (.inl ⟨a, b, us, vs, rfl, rfl, Same.seqT R.same h1, Same.seqT R.same h2, lim_line (by rw [r1.length, r2.length]; exact hl), fun e => ?_, fun e e' => ?_, fun e e' p hp => ?_⟩)
    · subst e; cases r1; exact n.same R (.tup h2 r2)
    · subst e'; cases r2; exact n.same R (.tup h1 (by rw [List.append_nil]; exact r1))
    · exact n.newT R (r1.append r2) hp
  · obtain ⟨a, us, rfl, h1, r1⟩ := listOf_den R hx e1
    obtain ⟨b, vs, rfl, h2, r2⟩ := listOf_den R hy e2
    exact .inr (.inr ⟨a, b, us, vs, rfl, rfl, h1, h2, lim_line (by rw [r1.length, r2.length]; exact hl), fun p hp => n.newL R (r1.append r2) hp⟩)
theorem int_inv {o : Bop} {a b d : D} (ho : o ≠ .add) (ho2 : o ≠ .mul) (h : opBin M o a b = some d) : ∃ i j k, a = .int i ∧ b = .int j ∧ intBin o i j = some k ∧ d = .int k := by
  unfold opBin at h
  split at h
  · rename_i i j
    simp only [Option.map_eq_some_iff] at h
    obtain ⟨k, e1, e2⟩ := h
    exact ⟨i, j, k, rfl, rfl, e1, e2.symm⟩
  · split at h
    · exact absurd rfl ho
    · cases h
  · split at h
    · exact absurd rfl ho
    · cases h
  · split at h
    · exact absurd rfl ho2
    · cases h
  · split at h
    · exact absurd rfl ho2
    · cases h
  · split at h
    · exact absurd rfl ho
    · cases h
theorem sub_ok : OpS K (rI0 fun i j => .int (i - j)) (fun M => opBin M .sub) := by
  intro w M H x y dx dy d Q R hx hy h n
  obtain ⟨i, j, k, rfl, rfl, e, rfl⟩ := int_inv (by simp) (by simp) h
  cases den_int hx; cases den_int hy
  simp [intBin] at e; subst e
  exact ⟨i, j, rfl, rfl, n.same R (.int _)⟩
theorem fdiv_ok : OpS K (rI CDiv fun i j => .int (i / j)) (fun M => opBin M .fdiv) := by
  intro w M H x y dx dy d Q R hx hy h n
  obtain ⟨i, j, k, rfl, rfl, e, rfl⟩ := int_inv (by simp) (by simp) h
  cases den_int hx; cases den_int hy
  simp only [intBin] at e; split at e
  · rename_i hc; cases e; exact ⟨i, j, rfl, rfl, hc, n.same R (.int _)⟩
  · cases e
theorem mod_ok : OpS K (rI (fun _ j => 0 < j) fun i j => .int (i % j)) (fun M => opBin M .mod) := by
  intro w M H x y dx dy d Q R hx hy h n
  obtain ⟨i, j, k, rfl, rfl, e, rfl⟩ := int_inv (by simp) (by simp) h
  cases den_int hx; cases den_int hy
  simp only [intBin] at e; split at e
  · rename_i hc; cases e; exact ⟨i, j, rfl, rfl, hc, n.same R (.int _)⟩
  · cases e
theorem pow_ok : OpS K (rI CPow fun i j => .int (i ^ j.toNat)) (fun M => opBin M .pow) := by
  intro w M H x y dx dy d Q R hx hy h n
  obtain ⟨i, j, k, rfl, rfl, e, rfl⟩ := int_inv (by simp) (by simp) h
  cases den_int hx; cases den_int hy
  simp only [intBin] at e; split at e
  · rename_i hc; cases e; exact ⟨i, j, rfl, rfl, hc, n.same R (.int _)⟩
  · cases e
theorem mul_inv {a b d : D} (h : opBin M .mul a b = some d) : (∃ i j, a = .int i ∧ b = .int j ∧ mulOk i j = true ∧ d = .int (i * j)) ∨
    (∃ xs n, a = .tup xs ∧ b = .int n ∧ n < 2 ^ 63 ∧ -(2 ^ 63) ≤ n ∧ xs.length * n.toNat ≤ Lim ∧ d = .tup (rep xs n.toNat)) ∨ ∃ xs n, listOf M a = some xs ∧ b = .int n ∧ n < 2 ^ 63 ∧ -(2 ^ 63) ≤ n ∧ xs.length * n.toNat ≤ Lim ∧ d = .lst (rep xs n.toNat) := by
  unfold opBin at h
  split at h
  · rename_i i j
    simp only [Option.map_eq_some_iff, intBin] at h
    obtain ⟨k, e1, e2⟩ := h
    split at e1
    · rename_i hm; cases e1; exact .inl ⟨i, j, rfl, rfl, hm, e2.symm⟩
    · cases e1
  · cases h
  · cases h
  · simp only at h; split at h
    · rename_i hl; cases h; exact .inr (.inl ⟨_, _, rfl, rfl, hl.1, hl.2.1, hl.2.2, rfl⟩)
    · cases h
  · split at h
    · rename_i xs e
      split at h
      · rename_i hl; cases h; exact .inr (.inr ⟨_, _, e, rfl, hl.1, hl.2.1, hl.2.2, rfl⟩)
      · cases h
    · cases h
  · split at h
    · simp_all
    · cases h
end
end Ev

set_option autoImplicit false
set_option linter.all false
set_option maxRecDepth 100000
set_option maxHeartbeats 4000000
namespace Ev
open PySem PySem.Spec PyProof.Rows L2
theorem tuple_mulSame (l : Addr) (items : Array Value) (n : Nat) (dd : Option Addr) (sl : Array (Option Value)) (x : Int) (u : Tok) (c0 : (decide (x < -(2 ^ 63)) || decide (x ≥ 2 ^ 63)) = false) (c1 : (items.isEmpty || x == 1) = true) :
    Meets (Builtin.«tuple.__mul__» ⟨[.ref l, .int x u], []⟩) (fun _ R s => s.heap.get? l = some { cls := .type "tuple", dict := dd, data := .seq items n, slots := sl } ∧
      R (.ok (.ret (Value.ref l))) s) :=
  .of_wp fun prog w A R s h => by
    obtain ⟨hp, g, d, tk, os⟩ := s
    obtain ⟨hl, h⟩ := h
    have f1 := AutoSeq1.idx_int
    wp_walk using wpAny_loadPart' hl
    refine wpAny_ite_false (decide_eq_false (by rw [c0]; exact Bool.false_ne_true)) ?_; wp_walk using wpAny_loadPart' hl
    exact ⟨_, rfl, h⟩
theorem tuple_mulNone (l : Addr) (items : Array Value) (n : Nat) (dd : Option Addr) (sl : Array (Option Value)) (x : Int) (u : Tok) (c0 : (decide (x < -(2 ^ 63)) || decide (x ≥ 2 ^ 63)) = false) (c1 : (items.isEmpty || x == 1) = false) (c2 : (decide (x ≤ 0) || items.isEmpty) = true) :
    Meets (Builtin.«tuple.__mul__» ⟨[.ref l, .int x u], []⟩) (fun _ R s => s.heap.get? l = some { cls := .type "tuple", dict := dd, data := .seq items n, slots := sl } ∧
      R (.ok (.ret (Value.ref s.heap.objs.size))) { s with heap := s.heap.push { cls := Value.type "tuple", data := Data.seq #[] }, toks := s.toks }) :=
  .of_wp fun prog w A R s h => by
    obtain ⟨hp, g, d, tk, os⟩ := s
    obtain ⟨hl, h⟩ := h
    have f1 := AutoSeq1.idx_int
    wp_walk using wpAny_loadPart' hl
    refine wpAny_ite_false (decide_eq_false (by rw [c0]; exact Bool.false_ne_true)) ?_; wp_walk using wpAny_loadPart' hl

    exact ⟨_, rfl, h⟩

def rRepA (K : PySem.W.Frag) : R2 := fun x y H Q => ∃ l k xs, x = .ref l ∧ y = .int k ∧ SqT K H l xs ∧ -(2 ^ 63) ≤ k ∧ k < 2 ^ 63 ∧ xs.length * k.toNat ≤ sizeLine ∧ (xs = [] ∨ k = 1 → Q (.ref l) H) ∧ (¬ (xs = [] ∨ k = 1) → ∀ p, H p = none → Q (.ref p) (upd H p (.tup (List.replicate k.toNat xs).flatten)))
theorem op_repA {X : Cx} : OpR X (binaryOp .Mult) (rRepA X.K) := by
  intro pins s σ H x y v u Q I rx ry h
  obtain ⟨l, k, xs, rfl, rfl, hT, h1, h2, hz, q1, q2⟩ := h
  cases rx
  obtain ⟨t, rfl⟩ := ry
  obtain ⟨its, r, ⟨⟨cls, dd, data, sl⟩, ho, hc, n, hd⟩, hs⟩ := I.tuple hT
  simp only at hc hd
  subst hc hd
  have hle : its.length = xs.length := r.length.symm
  have c0 : (decide (k < -(2 ^ 63)) || decide (k ≥ 2 ^ 63)) = false := by
    rw [decide_eq_false (by omega), decide_eq_false (by omega)] <;> rfl
  have hemp : its.toArray.isEmpty = xs.isEmpty := by
    cases its <;> cases xs <;> simp at hle ⊢
  have go : ∀ (E : Value → Shared → Prop) (Q' : Value → Shared → Prop), (∀ R : Result → Shared → Prop, True → True) → wpAny (model X.prog X.w) X.A (call (.builtin "tuple.__mul__") [.ref l, .int k t]) Q' E s → wpAny (model X.prog X.w) X.A (binaryOp .Mult (.ref l) (.int k t)) Q' E s := fun E Q' _ hcall =>
    wpAny_binaryOp_repeat_ref (T := "tuple") (U := "int") (by decide) ⟨_, ho, rfl⟩ (fun s' => typeIs_int s' k t) noFill_tuple_mul F.fills_int_mul F.slot_int_rmul repeat_tuple F.slot_int_index.lookup
      (call_meets F.slot_int_rmul (typeIs_int s k t) F.entry_int_rmul (F.args_int_rmul_2 _ _) (int_rmul_tuple k t l its.toArray n dd sl) ⟨ho, rfl, ⟨_, ho, rfl⟩, hcall⟩)
  refine go _ _ (fun _ _ => trivial) ?_
  by_cases hsame : xs = [] ∨ k = 1
  · have c1 : (its.toArray.isEmpty || k == 1) = true := by
      rw [hemp]
      rcases hsame with e | e
      · subst e; rfl
      · subst e; simp
    refine call_meets F.slot_tuple_mul ⟨_, ho, rfl⟩ F.entry_tuple_mul (F.args_tuple_mul_2 _ _) (tuple_mulSame l its.toArray n dd sl k t c0 c1) ⟨ho, ?_⟩
    exact ⟨.ref l, H, I, rfl, q1 hsame⟩
  · have hx : xs ≠ [] := fun e => hsame (.inl e)
    have hk : k ≠ 1 := fun e => hsame (.inr e)
    have c1 : (its.toArray.isEmpty || k == 1) = false := by
      rw [hemp]
      cases xs with
      | nil => exact absurd rfl hx
      | cons a b => simp [hk]
    have fin := q2 hsame
    have hfr : H s.heap.objs.size = none := I.hok.fresh (Nat.le_refl _)
    have flen : (List.replicate k.toNat its).flatten.length ≤ sizeLine := by
      rw [PyProof.Rows.lm_len_rep_flat, hle, Nat.mul_comm]; exact hz
    by_cases hk0 : k ≤ 0
    · have c2 : (decide (k ≤ 0) || its.toArray.isEmpty) = true := by simp [hk0]
      have e0 : k.toNat = 0 := by omega
      refine call_meets F.slot_tuple_mul ⟨_, ho, rfl⟩ F.entry_tuple_mul (F.args_tuple_mul_2 _ _) (tuple_mulNone l its.toArray n dd sl k t c0 c1 c2) ⟨ho, ?_⟩
      refine ⟨.ref s.heap.objs.size, _, I.laid (t' := s.toks) (o := .tup (List.replicate k.toNat xs).flatten) (fun b ob q => Heap.get?_push_of_some _ q) (Nat.le_refl _) ?_, rfl, fin _ hfr⟩
      rw [e0]
      exact ⟨by simp, [], .nil, IsTup.new _ _⟩
    · have c2 : (decide (k ≤ 0) || its.toArray.isEmpty) = false := by
        rw [hemp]
        cases xs with
        | nil => exact absurd rfl hx
        | cons a b => simp; omega
      have hsz0 : its.toArray.size = xs.length := by rw [List.size_toArray, hle]
      have hm : ((its.toArray.size : Nat) : Int) * k ≤ 16777216 := by
        rw [hsz0]
        rw [sizeLine_eq] at hz
        have e1 : ((xs.length * k.toNat : Nat) : Int) = (xs.length : Int) * k := by
          rw [Int.natCast_mul, Int.toNat_of_nonneg (by omega)]
        omega
      have c4 : Builtin.Tuple.tupleTooMany (((its.toArray.size : Nat) : Int) * k) = false := by
        unfold Builtin.Tuple.tupleTooMany
        rw [sizeLine_eq]
        exact decide_eq_false (by omega)
      refine call_meets F.slot_tuple_mul ⟨_, ho, rfl⟩ F.entry_tuple_mul (F.args_tuple_mul_2 _ _) (tuple_mulW l its.toArray n dd sl k t c0 c1 c2 (by omega) c4 (by rw [size_rep, List.size_toArray]; exact flen)) ⟨ho, ?_⟩
      rw [size_rep]
      refine ⟨.ref s.heap.objs.size, _, I.laid (t' := s.toks) (o := .tup (List.replicate k.toNat xs).flatten) (fun b ob q => Heap.get?_push_of_some _ q) (Nat.le_refl _) ?_, rfl, fin _ hfr⟩
      exact ⟨by rw [PyProof.Rows.lm_len_rep_flat, Nat.mul_comm]; exact hz, _, r.rep k.toNat, IsTup.new _ _⟩
end Ev

set_option autoImplicit false
set_option linter.all false
set_option maxRecDepth 100000
set_option maxHeartbeats 1000000
/-! Ev: comparisons, subscripts, truth. -/
namespace Ev
open PySem PySem.Spec PyProof.Rows L2
section
variable {K : Fr} {w : Wd} {M : Mem} {H : Hp} {Q : VK}
def rMul (K : Fr) : R2 := fun x y H Q => rI CMul (fun i j => .int (i * j)) x y H Q ∨ (rRepA K x y H Q ∨ rRep x y H Q)
theorem op_mulAll {X : Cx} : OpR X (binaryOp .Mult) (rMul (fr X)) := op_mul.or (op_repA.or op_rep)
theorem mul_ok : OpS K (rMul K) (fun M => opBin M .mul) := by
  intro w M H x y dx dy d Q R hx hy h n
  rcases mul_inv h with ⟨i, j, rfl, rfl, hm, rfl⟩ | ⟨xs, k, rfl, rfl, h1, h2, hl, rfl⟩ | ⟨xs, k, e, rfl, h1, h2, hl, rfl⟩
  · cases den_int hx; cases den_int hy
    refine .inl ⟨i, j, rfl, rfl, ?_, n.same R (.int _)⟩
    simp only [mulOk, Bool.or_eq_true, decide_eq_true_eq] at hm
    exact hm
  · obtain ⟨a, us, rfl, h3, r⟩ := den_tup hx
    cases den_int hy
    have hs : SqT K H a us := Same.seqT R.same h3
    refine .inr (.inl ⟨a, k, us, rfl, rfl, hs, h2, h1, lim_line (by rw [r.length]; exact hl), fun e => ?_, fun e p hp => n.newT R (r.rep _) hp⟩)
    rcases e with e | e
    · subst e; cases r
      refine n.same R (.tup h3 ?_)
      have e0 : rep [] k.toNat = [] := by unfold rep; simp
      rw [e0]; exact .nil
    · subst e
      refine n.same R (.tup h3 ?_)
      have e0 : rep xs (1 : Int).toNat = xs := by unfold rep; simp
      rw [e0]; exact r
  · obtain ⟨a, us, rfl, h3, r⟩ := listOf_den R hx e
    cases den_int hy
    exact .inr (.inr ⟨a, k, us, rfl, rfl, h3, h2, h1, lim_line (by rw [r.length]; exact hl), fun p hp => n.newL R (r.rep _) hp⟩)

/-! ### == -/
mutual
theorem den_dp (sm : Same w.F H) : ∀ {x : V} {d : D}, Den K w x d → PyData.canLay0 d.py = true → Dp K H x d.py
  | _, _, .non, _ => .non
  | _, _, .bl b, _ => .bl b
  | _, _, .int i, _ => .int i
  | _, _, .str x, _ => .str x
  | _, _, .ty t, c => by simp [D.py, PyData.canLay0] at c
  | _, _, .tup h r, c => .tup (Same.seqT sm h) (dens_dp sm r (by simpa [D.py, PyData.canLay0] using c))
  | _, _, .lst h r, c => .lst (.inl (.inl (sm _ _ h))) (dens_dp sm r (by simpa [D.py, PyData.canLay0] using c))
  | _, _, .dic h _ _, c => by simp [D.py, PyData.canLay0] at c
  | _, _, .cell h, c => by simp [D.py, PyData.canLay0] at c
  | _, _, .strm h, c => by simp [D.py, PyData.canLay0] at c
  | _, _, .scr h, c => by simp [D.py, PyData.canLay0] at c
  | _, _, .rng h, c => by simp [D.py, PyData.canLay0] at c
theorem dens_dp (sm : Same w.F H) : ∀ {xs : List V} {ds : List D}, Dens K w xs ds → PyData.canLayAll0 (D.pys ds) = true → DpAll K H xs (D.pys ds)
  | _, _, .nil, _ => .nil
  | _, _, .cons h r, c => by
    simp only [D.pys, PyData.canLayAll0, Bool.and_eq_true] at c
    exact .cons (den_dp sm h c.1) (dens_dp sm r c.2)
end
theorem derefs_of {n : Nat} (one : ∀ {x : V} {d d' : D}, Den K w x d → deref M n d = some d' → PyData.canLay0 d'.py = true → Dp K H x d'.py) : ∀ (ds : List D) {xs : List V} {ds' : List D}, Dens K w xs ds → derefs M n ds = some ds' → PyData.canLayAll0 (D.pys ds') = true → DpAll K H xs (D.pys ds')
  | [], _, _, h, e, _ => by
    cases h
    rw [derefs] at e; cases e; exact .nil
  | d :: ds, _, _, h, e, c => by
    cases h with
    | cons h r =>
      rw [derefs] at e
      split at e
      · rename_i y ys e1 e2
        cases e
        simp only [D.pys, PyData.canLayAll0, Bool.and_eq_true] at c
        exact .cons (one h e1 c.1) (derefs_of one ds r e2 c.2)
      · cases e
theorem deref_dp (R : Rp K w M H) : ∀ (n : Nat) {x : V} {d d' : D}, Den K w x d → deref M n d = some d' → PyData.canLay0 d'.py = true → Dp K H x d'.py := by
  intro n
  induction n with
  | zero => intro x d d' h e c; rw [deref] at e; cases e
  | succ n ih =>
    intro x d d' h e c
    cases h with
    | @cell a c' h =>
      rw [deref] at e
      split at e
      · rename_i xs hc
        simp only [Option.map_eq_some_iff] at e
        obtain ⟨ys, e1, e2⟩ := e
        subst e2
        obtain ⟨_, vs, h1, h2⟩ := R.cell h hc
        simp only [D.py, PyData.canLay0] at c
        exact .lst (.inl (.inl h1)) (derefs_of ih _ h2 e1 c)
      · cases e
    | tup h r =>
      rw [deref] at e
      simp only [Option.map_eq_some_iff] at e
      obtain ⟨ys, e1, e2⟩ := e
      subst e2
      simp only [D.py, PyData.canLay0] at c
      exact .tup (Same.seqT R.same h) (derefs_of ih _ r e1 c)
    | lst h r =>
      rw [deref] at e
      simp only [Option.map_eq_some_iff] at e
      obtain ⟨ys, e1, e2⟩ := e
      subst e2
      simp only [D.py, PyData.canLay0] at c
      exact .lst (.inl (.inl (R.same _ _ h))) (derefs_of ih _ r e1 c)
    | non => rw [deref] at e; cases e; exact .non
    | bl b => rw [deref] at e; cases e; exact .bl b
    | int i => rw [deref] at e; cases e; exact .int i
    | str i => rw [deref] at e; cases e; exact .str i
    | _ => simp [deref] at e
theorem view_dp (R : Rp K w M H) {x : V} {d d' : D} (h : Den K w x d) (e : view M d = some d') (c : PyData.canLay0 d'.py = true) : Dp K H x d'.py := by
  unfold view at e
  split at e
  · cases e; exact den_dp R.same h c
  · exact deref_dp R 64 h e c
theorem eq_inv {a b : D} {k : Bool} (h : eqD M a b = some k) : ∃ a' b', view M a = some a' ∧ view M b = some b' ∧ SeqAt.shaped a'.py = true ∧ SeqAt.shaped b'.py = true ∧ k = PyData.eqv a'.py b'.py := by
  unfold eqD at h
  split at h
  · rename_i a' b' e1 e2
    split at h
    · rename_i hs
      cases h
      simp only [Bool.and_eq_true] at hs
      exact ⟨a', b', e1, e2, hs.1, hs.2, rfl⟩
    · cases h
  · cases h
def OpB (K : Fr) (r : R2) (g : Mem → D → D → Option Bool) : Prop := ∀ w M H x y dx dy k Q, Rp K w M H → Den K w x dx → Den K w y dy → g M dx dy = some k → Q (.bl k) H → r x y H Q
theorem eq_ok : OpB K (rEqD K) (fun M => opCmp M .eq) := by
  intro w M H x y dx dy k Q R hx hy h q
  obtain ⟨a', b', e1, e2, s1, s2, rfl⟩ := eq_inv (show eqD M dx dy = some k from h)
  exact ⟨a'.py, b'.py, view_dp R hx e1 (SeqAt.canLay_of_shaped s1), view_dp R hy e2 (SeqAt.canLay_of_shaped s2), s1, s2, q⟩
theorem ne_ok : OpB K (rNeD K) (fun M => opCmp M .ne) := by
  intro w M H x y dx dy k Q R hx hy h q
  have h' : (eqD M dx dy).map (!·) = some k := h
  simp only [Option.map_eq_some_iff] at h'
  obtain ⟨j, e, rfl⟩ := h'
  obtain ⟨a', b', e1, e2, s1, s2, rfl⟩ := eq_inv e
  exact ⟨a'.py, b'.py, view_dp R hx e1 (SeqAt.canLay_of_shaped s1), view_dp R hy e2 (SeqAt.canLay_of_shaped s2), s1, s2, q⟩
/-- an order of data -/
def rOrd (K : Fr) (f : PyData → PyData → Bool) : R2 := fun x y H Q => ∃ d e, Dp K H x d ∧ Dp K H y e ∧ PySem.W.alike d e = true ∧ d ≠ .none ∧ d.depth ≤ 60 ∧ Q (.bl (f d e)) H
theorem ord_inv {f : D → D → Bool} {a b : D} {k : Bool} (h : ordD M f a b = some k) : ∃ a' b', view M a = some a' ∧ view M b = some b' ∧ okData a' = true ∧ okData b' = true ∧ alikeB a' b' = true ∧ a'.notNon = true ∧ k = f a' b' := by
  unfold ordD at h
  split at h
  · rename_i a' b' e1 e2
    split at h
    · rename_i hs
      cases h
      simp only [Bool.and_eq_true] at hs
      exact ⟨a', b', e1, e2, hs.1.1.1, hs.1.1.2, hs.1.2, hs.2, rfl⟩
    · cases h
  · cases h
theorem okData_inv {d : D} (h : okData d = true) : PyData.canLay0 d.py = true ∧ d.py.depth ≤ 50 := by
  unfold okData at h
  simp only [Bool.and_eq_true, decide_eq_true_eq] at h
  exact h
theorem notNon_py {d : D} (h : d.notNon = true) : d.py ≠ .none := by
  cases d <;> simp_all [D.notNon, D.py]
theorem ord_ok {f : D → D → Bool} {g : PyData → PyData → Bool} (hfg : ∀ a b : D, f a b = g a.py b.py) : OpB K (rOrd K g) (fun M => ordD M f) := by
  intro w M H x y dx dy k Q R hx hy h q
  obtain ⟨a', b', e1, e2, o1, o2, al, nn, rfl⟩ := ord_inv h
  rw [hfg] at q
  obtain ⟨c1, l1⟩ := okData_inv o1
  obtain ⟨c2, l2⟩ := okData_inv o2
  exact ⟨a'.py, b'.py, view_dp R hx e1 c1, view_dp R hy e2 c2, al, notNon_py nn, by omega, q⟩
abbrev rLtA (K : Fr) : R2 := fun x y H Q => (rI0 (fun i j => .bl (decide (i < j))) x y H Q ∨ (∃ i j, x = .str i ∧ y = .str j ∧ Q (.bl (decide (i.cps.toList < j.cps.toList))) H)) ∨ rOrd K PySem.W.dataLt x y H Q
theorem lt_ok : OpB K (rLtA K) (fun M => opCmp M .lt) := by
  intro w M H x y dx dy k Q R hx hy h q
  simp only [opCmp] at h
  split at h
  · cases h; cases den_int hx; cases den_int hy; exact .inl (.inl ⟨_, _, rfl, rfl, q⟩)
  · cases h; cases den_str hx; cases den_str hy; exact .inl (.inr ⟨_, _, rfl, rfl, q⟩)
  · exact .inr (ord_ok (f := dLt) (fun _ _ => rfl) w M H x y _ _ k Q R hx hy h q)
abbrev rOrA (K : Fr) (f : Int → Int → Bool) (g : PyData → PyData → Bool) : R2 := fun x y H Q => rI0 (fun i j => .bl (f i j)) x y H Q ∨ rOrd K g x y H Q
theorem le_ok : OpB K (rOrA K (fun i j => decide (i ≤ j)) fun d e => !PySem.W.dataLt e d) (fun M => opCmp M .le) := by
  intro w M H x y dx dy k Q R hx hy h q
  simp only [opCmp] at h
  split at h
  · cases h; cases den_int hx; cases den_int hy; exact .inl ⟨_, _, rfl, rfl, q⟩
  · exact .inr (ord_ok (f := fun a b => !dLt b a) (fun _ _ => rfl) w M H x y _ _ k Q R hx hy h q)
theorem gt_ok : OpB K (rOrA K (fun i j => decide (j < i)) fun d e => PySem.W.dataLt e d) (fun M => opCmp M .gt) := by
  intro w M H x y dx dy k Q R hx hy h q
  simp only [opCmp] at h
  split at h
  · cases h; cases den_int hx; cases den_int hy; exact .inl ⟨_, _, rfl, rfl, q⟩
  · exact .inr (ord_ok (f := fun a b => dLt b a) (fun _ _ => rfl) w M H x y _ _ k Q R hx hy h q)
theorem ge_ok : OpB K (rOrA K (fun i j => decide (j ≤ i)) fun d e => !PySem.W.dataLt d e) (fun M => opCmp M .ge) := by
  intro w M H x y dx dy k Q R hx hy h q
  simp only [opCmp] at h
  split at h
  · cases h; cases den_int hx; cases den_int hy; exact .inl ⟨_, _, rfl, rfl, q⟩
  · exact .inr (ord_ok (f := fun a b => !dLt a b) (fun _ _ => rfl) w M H x y _ _ k Q R hx hy h q)
end
end Ev

set_option autoImplicit false
set_option linter.all false
set_option maxRecDepth 100000
set_option maxHeartbeats 1000000
/-! Ev: calls on data that are alike: sorted, min, max; < <= > >= of data. -/
namespace Ev
open PySem PySem.Spec PyProof.Rows L2 PySem.W
section
variable {X : Cx}
theorem each_of_vals : ∀ {ps : List (V × D)} {us : List Value}, Vals (ps.map (·.1)) us → EachIs (fun u (p : V × D) => RelV p.1 u) us ps
  | [], _, r => by
    cases r
    exact .nil
  | p :: ps, _, r => by
    cases r with
    | cons h t => exact .cons h (each_of_vals t)
theorem vals_of_each : ∀ {ps : List (V × D)} {us : List Value}, EachIs (fun u (p : V × D) => RelV p.1 u) us ps → Vals (ps.map (·.1)) us
  | [], _, r => by
    cases r
    exact .nil
  | p :: ps, _, r => by
    cases r with
    | cons h t => exact .cons h (vals_of_each t)
theorem each_reads {pins : List (Addr × Obj)} {σ : L2.St} {H : Hp} {s : Shared} (I : Inv X pins σ H s) : ∀ {ps : List (V × D)} {us : List Value}, Vals (ps.map (·.1)) us → (∀ p ∈ ps, Dp X.K H p.1 p.2.py) → EachIs (fun u (p : V × D) => ∃ as, Reads s.heap u p.2.py as) us ps
  | [], _, r, h => by
    cases r
    exact .nil
  | p :: ps, _, r, h => by
    cases r with
    | cons h1 t => exact .cons (Dp.reads I p.2.py p.1 _ (h p (by simp)) h1) (each_reads I t fun q hq => h q (by simp [hq]))
theorem dpAll_of : ∀ {ps : List (V × D)} {H : Hp}, (∀ p ∈ ps, Dp X.K H p.1 p.2.py) → DpAll X.K H (ps.map (·.1)) (ps.map (·.2.py))
  | [], _, _ => .nil
  | p :: ps, _, h => .cons (h p (by simp)) (dpAll_of fun q hq => h q (by simp [hq]))
/-- sorted(xs) of data -/
def rSortD (K : PySem.W.Frag) : List V → Hp → VK → Prop := fun vs H Q => ∃ (a : Addr) (ps : List (V × D)), vs = [.ref a] ∧ SqL K H a (ps.map (·.1)) ∧ (∀ p ∈ ps, Dp K H p.1 p.2.py) ∧ (∀ p ∈ ps, p.2.py.depth ≤ 60) ∧ AllAlike (ps.map (·.2.py)) ∧ Sortable (ps.map (·.2.py)) ∧ ps.length ≤ sizeLine ∧
  ∀ p, H p = none → Q (.ref p) (upd H p (.lst ((ps.mergeSort (dataLe false (·.2.py))).map (·.1))))
theorem cr_sortD (hu : X.A.units + 65 < cLine) : CallR X (.builtin "sorted") (rSortD X.K) := by
  intro pins s σ H vs us Q I r h
  obtain ⟨a, ps, rfl, hs, hd, h60, hal, hso, hz, q⟩ := h
  obtain ⟨its, rv, hl, _⟩ := I.list hs
  rw [Vals.ref1 r]
  refine sorted_data (R := fun u (p : V × D) => RelV p.1 u) (enc := fun p : V × D => p.2.py) hl.isList (each_of_vals rv) (each_reads I rv hd) hal hso hz (fun b hb => by have := h60 b hb; omega) fun out h1 h2 => ?_
  obtain ⟨ep, he'⟩ := PyProof.Rows.sortedAll_at s.heap its out.toArray
  have hlen : ((ps.mergeSort (dataLe false (·.2.py))).map (·.1)).length ≤ sizeLine := by
    rw [List.length_map, List.length_mergeSort]; exact hz
  exact ⟨.ref _, upd H (s.heap.objs.size + 1) (.lst ((ps.mergeSort (dataLe false (·.2.py))).map (·.1))), I.laid (t' := s.toks) (fun _ _ => PyProof.Rows.sortedAll_old) (Nat.le_succ _) ⟨hlen, out, ep, vals_of_each h2, he'⟩, rfl, q _ (I.hok.fresh (Nat.le_succ _))⟩
/-- min(xs), max(xs) of data -/
def rBest (K : PySem.W.Frag) (m : PyData → List PyData → PyData) : List V → Hp → VK → Prop := fun vs H Q => ∃ (a : Addr) (p : V × D) (ps : List (V × D)), vs = [.ref a] ∧ (SqL K H a ((p :: ps).map (·.1)) ∨ SqT K H a ((p :: ps).map (·.1))) ∧ (∀ q ∈ p :: ps, Dp K H q.1 q.2.py) ∧ PyData.depthAll ((p :: ps).map (·.2.py)) ≤ 60 ∧ AlikeAll ((p :: ps).map (·.2.py)) ∧
  ∀ q ∈ p :: ps, q.2.py = m p.2.py (ps.map (·.2.py)) → Q q.1 H
theorem vals_at : ∀ {ps : List (V × D)} {us : List Value}, Vals (ps.map (·.1)) us → ∀ (i : Nat) (u : Value), us[i]? = some u → ∃ q, ps[i]? = some q ∧ RelV q.1 u
  | [], _, r, i, u, h => by cases r; simp at h
  | p :: ps, _, r, i, u, h => by
    cases r with
    | cons h1 t =>
      cases i with
      | zero => simp at h; subst h; exact ⟨p, rfl, h1⟩
      | succ i => simp at h; obtain ⟨q, e, hr⟩ := vals_at t i u h; exact ⟨q, by simpa using e, hr⟩
theorem best_fin {pins : List (Addr × Obj)} {σ : L2.St} {H : Hp} {s : Shared} {m : PyData → List PyData → PyData} {p : V × D} {ps : List (V × D)} {its : List Value} {Q : VK} (I : Inv X pins σ H s) (rv : Vals ((p :: ps).map (·.1)) its) (hd : ∀ q ∈ p :: ps, Dp X.K H q.1 q.2.py) (hal : AlikeAll ((p :: ps).map (·.2.py)))
    (hmem : m p.2.py (ps.map (·.2.py)) ∈ (p :: ps).map (·.2.py)) (q : ∀ q ∈ p :: ps, q.2.py = m p.2.py (ps.map (·.2.py)) → Q q.1 H) :
    ∀ (i : Nat) v h' tk bs, its.toArray[i]? = some v → Reads h' v (m p.2.py (ps.map (·.2.py))) bs → (∀ b o, s.heap.get? b = some o → h'.get? b = some o) → ∃ v' H', Inv X pins σ H' { s with heap := h', toks := tk } ∧ RelV v' v ∧ Q v' H' := by
  intro i v h' tk bs hi hr hk
  obtain ⟨t, ht, rv1⟩ := vals_at rv i v (by simpa using hi)
  have htm : t ∈ p :: ps := List.mem_of_getElem? ht
  have I' := I.kept (t' := tk) hk
  obtain ⟨as, r1⟩ := Dp.reads I' t.2.py t.1 v (hd t htm) rv1
  have e := alike_unique t.2.py _ v _ _ (hal.1 _ (List.mem_map.mpr ⟨t, htm, rfl⟩) _ hmem) r1 hr
  exact ⟨t.1, H, I', rv1, q t htm e⟩
theorem foldl_pick {α : Type} (f : α → α → Bool) : ∀ (l : List α) (x : α), l.foldl (fun a y => if f y a = true then y else a) x ∈ x :: l
  | [], x => by simp
  | y :: l, x => by
    rw [List.foldl_cons]
    have := foldl_pick f l (if f y x = true then y else x)
    rcases List.mem_cons.mp this with h | h
    · rw [h]
      by_cases c : f y x = true
      · rw [if_pos c]; simp
      · rw [if_neg c]; simp
    · simp [h]
theorem cr_minB (hc : X.calm = true) (hu : X.A.units + 65 < cLine) : CallR X (.builtin "min") (rBest X.K minD) := by
  intro pins s σ H vs us Q I r h
  obtain ⟨a, p, ps, rfl, hs, hd, h60, hal, q⟩ := h
  rw [Vals.ref1 r]
  have hmem : minD p.2.py (ps.map (·.2.py)) ∈ (p :: ps).map (·.2.py) := foldl_pick _ _ _
  rcases hs with hs | hs
  · obtain ⟨its, rv, hl, _⟩ := I.list hs
    obtain ⟨as, hr⟩ := Dp.readsAll I _ _ its (dpAll_of hd) rv
    refine min_list_data (vs := its.toArray) (I.ok.hd hc) hl.isList (by simpa using hr) hal (by simp only [List.map_cons] at h60 ⊢; omega) fun i v h' tk bs h1 h2 h3 => ?_
    obtain ⟨v', H', I', r', q'⟩ := best_fin I rv hd hal hmem q i v h' tk bs h1 h2 h3
    exact ⟨v', H', I', r', q'⟩
  · obtain ⟨its, rv, hl, _⟩ := I.tuple hs
    obtain ⟨as, hr⟩ := Dp.readsAll I _ _ its (dpAll_of hd) rv
    refine min_tuple_data (vs := its.toArray) (I.ok.hd hc) hl (by simpa using hr) hal (by simp only [List.map_cons] at h60 ⊢; omega) fun i v h' tk bs h1 h2 h3 => ?_
    obtain ⟨v', H', I', r', q'⟩ := best_fin I rv hd hal hmem q i v h' tk bs h1 h2 h3
    exact ⟨v', H', I', r', q'⟩
theorem cr_maxB (hc : X.calm = true) (hu : X.A.units + 65 < cLine) : CallR X (.builtin "max") (rBest X.K maxD) := by
  intro pins s σ H vs us Q I r h
  obtain ⟨a, p, ps, rfl, hs, hd, h60, hal, q⟩ := h
  rw [Vals.ref1 r]
  have hmem : maxD p.2.py (ps.map (·.2.py)) ∈ (p :: ps).map (·.2.py) := foldl_pick (fun y a => dataLt a y) _ _
  rcases hs with hs | hs
  · obtain ⟨its, rv, hl, _⟩ := I.list hs
    obtain ⟨as, hr⟩ := Dp.readsAll I _ _ its (dpAll_of hd) rv
    refine max_list_data (vs := its.toArray) (I.ok.hd hc) hl.isList (by simpa using hr) hal (by simp only [List.map_cons] at h60 ⊢; omega) fun i v h' tk bs h1 h2 h3 => ?_
    obtain ⟨v', H', I', r', q'⟩ := best_fin I rv hd hal hmem q i v h' tk bs h1 h2 h3
    exact ⟨v', H', I', r', q'⟩
  · obtain ⟨its, rv, hl, _⟩ := I.tuple hs
    obtain ⟨as, hr⟩ := Dp.readsAll I _ _ its (dpAll_of hd) rv
    refine max_tuple_data (vs := its.toArray) (I.ok.hd hc) hl (by simpa using hr) hal (by simp only [List.map_cons] at h60 ⊢; omega) fun i v h' tk bs h1 h2 h3 => ?_
    obtain ⟨v', H', I', r', q'⟩ := best_fin I rv hd hal hmem q i v h' tk bs h1 h2 h3
    exact ⟨v', H', I', r', q'⟩
theorem op_ltD (hu : X.A.units + 65 < cLine) : OpR X (compareOp .Lt) (rOrd (fr X) dataLt) := by
  intro pins s σ H x y v u Q I rx ry h
  obtain ⟨d, e, hd, he, ha, hn, hz, q⟩ := h
  obtain ⟨as, r1⟩ := Dp.reads I d x v hd rx
  obtain ⟨bs, r2⟩ := Dp.reads I e y u he ry
  exact rcLt_alike d e X.A s v u as bs r1 r2 ha hn (by have := Nat.min_le_left d.depth e.depth; omega) X.prog X.w _ _ ⟨.bl _, H, I, rfl, q⟩
theorem op_gtD (hu : X.A.units + 65 < cLine) : OpR X (compareOp .Gt) (rOrd (fr X) fun d e => dataLt e d) := by
  intro pins s σ H x y v u Q I rx ry h
  obtain ⟨d, e, hd, he, ha, hn, hz, q⟩ := h
  obtain ⟨as, r1⟩ := Dp.reads I d x v hd rx
  obtain ⟨bs, r2⟩ := Dp.reads I e y u he ry
  exact rcGt_alike d e X.A s v u as bs r1 r2 ha hn (by have := Nat.min_le_left d.depth e.depth; omega) X.prog X.w _ _ ⟨.bl _, H, I, rfl, q⟩
theorem op_leD (hu : X.A.units + 65 < cLine) : OpR X (compareOp .LtE) (rOrd (fr X) fun d e => !dataLt e d) := by
  intro pins s σ H x y v u Q I rx ry h
  obtain ⟨d, e, hd, he, ha, hn, hz, q⟩ := h
  obtain ⟨as, r1⟩ := Dp.reads I d x v hd rx
  obtain ⟨bs, r2⟩ := Dp.reads I e y u he ry
  exact rcLe_alike d e X.A s v u as bs r1 r2 ha hn (by have := Nat.min_le_left d.depth e.depth; omega) X.prog X.w _ _ ⟨.bl _, H, I, rfl, q⟩
theorem op_geD (hu : X.A.units + 65 < cLine) : OpR X (compareOp .GtE) (rOrd (fr X) fun d e => !dataLt d e) := by
  intro pins s σ H x y v u Q I rx ry h
  obtain ⟨d, e, hd, he, ha, hn, hz, q⟩ := h
  obtain ⟨as, r1⟩ := Dp.reads I d x v hd rx
  obtain ⟨bs, r2⟩ := Dp.reads I e y u he ry
  exact rcGe_alike d e X.A s v u as bs r1 r2 ha hn (by have := Nat.min_le_left d.depth e.depth; omega) X.prog X.w _ _ ⟨.bl _, H, I, rfl, q⟩
end
end Ev

set_option autoImplicit false
set_option linter.all false
set_option maxRecDepth 100000
set_option maxHeartbeats 1000000
/-! Ev: in, is, isinstance, truth, len, subscripts. -/
namespace Ev
open PySem PySem.Spec PyProof.Rows L2
section
variable {X : Cx}
def rInT (K : Fr) : R2 := fun x y H Q => ∃ d ds, Dp K H x d ∧ Dp K H y (.tuple ds) ∧ SeqAt.shaped d = true ∧ SeqAt.shaped (.list ds) = true ∧ Q (.bl (ds.any fun z => PyData.eqv z d)) H
def rNotInT (K : Fr) : R2 := fun x y H Q => ∃ d ds, Dp K H x d ∧ Dp K H y (.tuple ds) ∧ SeqAt.shaped d = true ∧ SeqAt.shaped (.list ds) = true ∧ Q (.bl (!ds.any fun z => PyData.eqv z d)) H
theorem room_sh {d : PyData} {n k : Nat} (sd : SeqAt.shaped d = true) (hu : k + 65 < cLine) : k + 1 + min n d.depth < cLine := by
  have h := SeqAt.depth_of_shaped sd
  have h2 : min n d.depth ≤ d.depth := Nat.min_le_right _ _
  omega
theorem op_inT (hu : X.A.units + 65 < cLine) : OpR X (compareOp .In) (rInT (fr X)) := by
  intro pins s σ H x y v u Q I rx ry h
  obtain ⟨d, ds, hd, he, sd, se, q⟩ := h
  obtain ⟨as, r1⟩ := Dp.reads I d x v hd rx
  obtain ⟨bs, r2⟩ := Dp.reads I (.tuple ds) y u he ry
  have hl : PyData.canLayAll0 ds = true := SeqAt.canLay_of_shaped se
  exact SeqAt.in_tuple_reads r2 r1 hl (SeqAt.canLay_of_shaped sd) (room_sh sd hu) ⟨.bl _, H, I, rfl, q⟩
theorem op_notInT (hu : X.A.units + 65 < cLine) : OpR X (compareOp .NotIn) (rNotInT (fr X)) := by
  intro pins s σ H x y v u Q I rx ry h
  obtain ⟨d, ds, hd, he, sd, se, q⟩ := h
  obtain ⟨as, r1⟩ := Dp.reads I d x v hd rx
  obtain ⟨bs, r2⟩ := Dp.reads I (.tuple ds) y u he ry
  have hl : PyData.canLayAll0 ds = true := SeqAt.canLay_of_shaped se
  exact SeqAt.notIn_tuple_reads r2 r1 hl (SeqAt.canLay_of_shaped sd) (room_sh sd hu) ⟨.bl _, H, I, rfl, q⟩
abbrev rSgn (neg : Bool) : R2 := fun x y H Q => ∃ (c : Nat) (z : Str), x = .str ⟨#[c]⟩ ∧ y = .str z ∧ Q (.bl (if neg then !decide (c ∈ z.cps.toList) else decide (c ∈ z.cps.toList))) H
theorem op_sgn : OpR X (compareOp .In) (rSgn false) := by
  intro pins s σ H x y v u Q I rx ry h
  obtain ⟨c, z, e1, e2, q⟩ := h
  exact op_in_sign pins s σ H x y v u Q I rx ry ⟨c, z, e1, e2, q⟩
theorem op_nsgn : OpR X (compareOp .NotIn) (rSgn true) := by
  intro pins s σ H x y v u Q I rx ry h
  obtain ⟨c, z, e1, e2, q⟩ := h
  exact op_notIn_sign pins s σ H x y v u Q I rx ry ⟨c, z, e1, e2, q⟩
def rInDk (neg : Bool) : R2 := fun x y H Q => ∃ a o, y = .ref a ∧ DGet H a x o ∧ Q (.bl (if neg then !o.isSome else o.isSome)) H
theorem op_inDk (hu : X.A.units + 65 < cLine) : OpR X (compareOp .In) (rInDk false) := by
  intro pins s σ H x y v u Q I rx ry h
  obtain ⟨a, o, rfl, g, q⟩ := h
  cases (show u = Value.ref a from ry)
  exact d_in (by omega) I g rx fun s' I' => ⟨.bl _, H, I', rfl, q⟩
theorem op_notInDk (hu : X.A.units + 65 < cLine) : OpR X (compareOp .NotIn) (rInDk true) := by
  intro pins s σ H x y v u Q I rx ry h
  obtain ⟨a, o, rfl, g, q⟩ := h
  cases (show u = Value.ref a from ry)
  exact d_notIn (by omega) I g rx fun s' I' => ⟨.bl _, H, I', rfl, q⟩
def rInA (K : Fr) : R2 := fun x y H Q => rSgn false x y H Q ∨ ((rInD K x y H Q ∨ rInT K x y H Q) ∨ rInDk false x y H Q)
def rNotInA (K : Fr) : R2 := fun x y H Q => rSgn true x y H Q ∨ ((rNotInD K x y H Q ∨ rNotInT K x y H Q) ∨ rInDk true x y H Q)
theorem op_inAll (hu : X.A.units + 65 < cLine) : OpR X (compareOp .In) (rInA (fr X)) := op_sgn.or (((op_inD hu).or (op_inT hu)).or (op_inDk hu))
theorem op_notInAll (hu : X.A.units + 65 < cLine) : OpR X (compareOp .NotIn) (rNotInA (fr X)) := op_nsgn.or (((op_notInD hu).or (op_notInT hu)).or (op_notInDk hu))
end
section
variable {K : Fr} {w : Wd} {M : Mem} {H : Hp} {Q : VK}
theorem views_dp (R : Rp K w M H) {vs : List V} {xs ys : List D} (h : Dens K w vs xs) (e : view M (.lst xs) = some (.lst ys)) (c : PyData.canLayAll0 (D.pys ys) = true) : DpAll K H vs (D.pys ys) := by
  unfold view at e
  split at e
  · cases e; exact dens_dp R.same h c
  · rw [deref] at e
    simp only [Option.map_eq_some_iff] at e
    obtain ⟨zs, e1, e2⟩ := e
    cases e2
    exact derefs_of (fun {x d d'} a b c => deref_dp R 63 a b c) _ h e1 c
theorem inD_inv {a : D} {xs : List D} {k : Bool} (h : inD M a xs = some k) : ∃ a' ys, view M a = some a' ∧ view M (.lst xs) = some (.lst ys) ∧ SeqAt.shaped a'.py = true ∧ SeqAt.shaped (.list (D.pys ys)) = true ∧ k = (D.pys ys).any fun z => PyData.eqv z a'.py := by
  unfold inD at h
  split at h
  · rename_i a' ys e1 e2
    split at h
    · rename_i hs
      cases h
      simp only [Bool.and_eq_true] at hs
      refine ⟨a', ys, e1, e2, hs.1, hs.2, ?_⟩
      clear e1 e2 hs
      induction ys with
      | nil => rfl
      | cons y ys ih => simp only [List.any_cons, D.pys, ih]
    · cases h
  · cases h
theorem in_seq {neg : Bool} (R : Rp K w M H) {x y : V} {dx dy : D} {xs : List D} {k : Bool} (hx : Den K w x dx) (hy : Den K w y dy) (e : seqOf M dy = some xs) (h : inD M dx xs = some k) :
    ∃ d ds, Dp K H x d ∧ (Dp K H y (.list ds) ∨ Dp K H y (.tuple ds)) ∧ SeqAt.shaped d = true ∧ SeqAt.shaped (.list ds) = true ∧ k = ds.any fun z => PyData.eqv z d := by
  obtain ⟨a', ys, e1, e2, s1, s2, rfl⟩ := inD_inv h
  obtain ⟨a, vs, rfl, hs, r⟩ := seqOf_den R hy e
  have c2 : PyData.canLayAll0 (D.pys ys) = true := SeqAt.canLay_of_shaped s2
  have dp := views_dp R r e2 c2
  refine ⟨a'.py, D.pys ys, view_dp R hx e1 (SeqAt.canLay_of_shaped s1), ?_, s1, s2, rfl⟩
  rcases hs with hs | hs
  · exact .inl (.lst (.inl (.inl hs)) dp)
  · exact .inr (.tup hs dp)
theorem signIn_eq {i j : Str} (h : i.length = 1) : ∃ c, i = ⟨#[c]⟩ ∧ signIn i j = decide (c ∈ j.cps.toList) := by
  obtain ⟨⟨l⟩⟩ := i
  have hl : l.length = 1 := h
  match l, hl with
  | [c], _ => exact ⟨c, rfl, by simp [signIn]⟩
theorem dic_int : ∀ {kvs : List (Key × V)} {ks vs : List D} {w : Wd} {i : Int} {d : D}, Dens K w (kvs.map fun p => kV p.1) ks → Dens K w (kvs.map fun p => p.2) vs → dicAt ks vs (.int i) = some d → ∃ v, valV kvs (.inl i) = some v ∧ Den K w v d
  | [], _, _, _, _, _, .nil, .nil, h => by simp [dicAt] at h
  | (k, v0) :: kvs, _, _, w, i, d, .cons h1 r1, .cons h2 r2, h => by
    cases k with
    | inl n =>
      cases h1
      simp only [dicAt] at h
      split at h
      · rename_i e
        cases h; subst e
        exact ⟨v0, valV_pos rfl, h2⟩
      · rename_i e
        obtain ⟨v, e1, e2⟩ := dic_int r1 r2 h
        exact ⟨v, (valV_neg (fun z => e (Sum.inl.inj z))).trans e1, e2⟩
    | inr n =>
      cases h1
      simp only [dicAt] at h
      obtain ⟨v, e1, e2⟩ := dic_int r1 r2 h
      exact ⟨v, (valV_neg (p := (Sum.inr n, v0)) (k := Sum.inl i) (fun z => by cases z)).trans e1, e2⟩
theorem dic_str : ∀ {kvs : List (Key × V)} {ks vs : List D} {w : Wd} {i : Str} {d : D}, Dens K w (kvs.map fun p => kV p.1) ks → Dens K w (kvs.map fun p => p.2) vs → dicAt ks vs (.str i) = some d → ∃ v, valV kvs (.inr i) = some v ∧ Den K w v d
  | [], _, _, _, _, _, .nil, .nil, h => by simp [dicAt] at h
  | (k, v0) :: kvs, _, _, w, i, d, .cons h1 r1, .cons h2 r2, h => by
    cases k with
    | inr n =>
      cases h1
      simp only [dicAt] at h
      split at h
      · rename_i e
        cases h; subst e
        exact ⟨v0, valV_pos rfl, h2⟩
      · rename_i e
        obtain ⟨v, e1, e2⟩ := dic_str r1 r2 h
        exact ⟨v, (valV_neg (fun z => e (Sum.inr.inj z))).trans e1, e2⟩
    | inl n =>
      cases h1
      simp only [dicAt] at h
      obtain ⟨v, e1, e2⟩ := dic_str r1 r2 h
      exact ⟨v, (valV_neg (p := (Sum.inl n, v0)) (k := Sum.inr i) (fun z => by cases z)).trans e1, e2⟩
theorem dicn_int : ∀ {kvs : List (Key × V)} {ks vs : List D} {w : Wd} {i : Int}, Dens K w (kvs.map fun p => kV p.1) ks → Dens K w (kvs.map fun p => p.2) vs → dicAt ks vs (.int i) = none → valV kvs (.inl i) = none
  | [], _, _, _, _, .nil, .nil, _ => rfl
  | (k, v0) :: kvs, _, _, w, i, .cons h1 r1, .cons h2 r2, h => by
    cases k with
    | inl n =>
      cases h1
      simp only [dicAt] at h
      split at h
      · cases h
      · rename_i e
        exact (valV_neg (fun z => e (Sum.inl.inj z))).trans (dicn_int r1 r2 h)
    | inr n =>
      cases h1
      simp only [dicAt] at h
      exact (valV_neg (p := (Sum.inr n, v0)) (k := Sum.inl i) (fun z => by cases z)).trans (dicn_int r1 r2 h)
theorem dicn_str : ∀ {kvs : List (Key × V)} {ks vs : List D} {w : Wd} {i : Str}, Dens K w (kvs.map fun p => kV p.1) ks → Dens K w (kvs.map fun p => p.2) vs → dicAt ks vs (.str i) = none → valV kvs (.inr i) = none
  | [], _, _, _, _, .nil, .nil, _ => rfl
  | (k, v0) :: kvs, _, _, w, i, .cons h1 r1, .cons h2 r2, h => by
    cases k with
    | inr n =>
      cases h1
      simp only [dicAt] at h
      split at h
      · cases h
      · rename_i e
        exact (valV_neg (fun z => e (Sum.inr.inj z))).trans (dicn_str r1 r2 h)
    | inl n =>
      cases h1
      simp only [dicAt] at h
      exact (valV_neg (p := (Sum.inl n, v0)) (k := Sum.inr i) (fun z => by cases z)).trans (dicn_str r1 r2 h)
/-- a dict, wherever it lies -/
theorem dicOf_den (R : Rp K w M H) {x : V} {d : D} {ks vs : List D} (h : Den K w x d) (e : dicOf M d = some (ks, vs)) : ∃ (a : Addr) (kvs : List (Key × V)), x = .ref a ∧ H a = some (.dK kvs) ∧ Dens K w (kvs.map fun p => kV p.1) ks ∧ Dens K w (kvs.map fun p => p.2) vs := by
  cases h with
  | dic h r1 r2 =>
    simp only [dicOf] at e
    cases e
    exact ⟨_, _, rfl, R.same _ _ h, r1, r2⟩
  | @cell a c h =>
    simp only [dicOf] at e
    split at e
    · rename_i hc
      cases e
      obtain ⟨_, kvs, e1, r1, r2⟩ := R.cellD h hc
      exact ⟨_, _, rfl, e1, r1, r2⟩
    · cases e
  | _ => simp [dicOf] at e
/-- a key's value and what is stored there -/
theorem dicAt_den {kvs : List (Key × V)} {ks vs : List D} {x : V} {y : D} (hx : Den K w x y) (hy : keyB y = true) (r1 : Dens K w (kvs.map fun p => kV p.1) ks) (r2 : Dens K w (kvs.map fun p => p.2) vs) :
    ∃ k, x = kV k ∧ (dicAt ks vs y = none → valV kvs k = none) ∧ (∀ d, dicAt ks vs y = some d → ∃ v, valV kvs k = some v ∧ Den K w v d) := by
  cases hx with
  | int i => exact ⟨.inl i, rfl, dicn_int r1 r2, fun _ h => dic_int r1 r2 h⟩
  | str i => exact ⟨.inr i, rfl, dicn_str r1 r2, fun _ h => dic_str r1 r2 h⟩
  | _ => simp [keyB] at hy
theorem dicIn_den {a : Addr} {kvs : List (Key × V)} {ks vs : List D} {x : V} {y : D} {b : Bool} (e : H a = some (.dK kvs)) (hx : Den K w x y) (h : dicIn ks vs y = some b) (r1 : Dens K w (kvs.map fun p => kV p.1) ks) (r2 : Dens K w (kvs.map fun p => p.2) vs) :
    ∃ o, DGet H a x o ∧ b = o.isSome := by
  unfold dicIn at h
  split at h
  · rename_i hy
    cases h
    obtain ⟨k, rfl, h1, h2⟩ := dicAt_den hx hy r1 r2
    refine ⟨_, DGet.k e, ?_⟩
    cases hd : dicAt ks vs y with
    | none => rw [h1 hd]; rfl
    | some d => obtain ⟨v, e1, _⟩ := h2 d hd; rw [e1]; rfl
  · cases h
theorem in_ok : OpB K (rInA K) (fun M => opCmp M .in_) := by
  intro w M H x y dx dy k Q R hx hy h q
  simp only [opCmp] at h
  split at h
  · split at h
    · rename_i hl
      cases h; cases den_str hx; cases den_str hy
      obtain ⟨c, e, e2⟩ := signIn_eq (j := _) hl
      subst e
      exact .inl ⟨c, _, rfl, rfl, by rw [e2] at q; exact q⟩
    · cases h
  · split at h
    · rename_i xs e
      obtain ⟨d, ds, h1, h2, h3, h4, rfl⟩ := in_seq (neg := false) R hx hy e h
      rcases h2 with h2 | h2
      · exact .inr (.inl (.inl ⟨d, ds, h1, h2, h3, h4, q⟩))
      · exact .inr (.inl (.inr ⟨d, ds, h1, h2, h3, h4, q⟩))
    · split at h
      · rename_i e
        obtain ⟨a, kvs, rfl, e1, r1, r2⟩ := dicOf_den R hy e
        obtain ⟨o, g, rfl⟩ := dicIn_den e1 hx h r1 r2
        exact .inr (.inr ⟨a, o, rfl, g, q⟩)
      · cases h
theorem notin_ok : OpB K (rNotInA K) (fun M => opCmp M .notin) := by
  intro w M H x y dx dy k Q R hx hy h q
  simp only [opCmp] at h
  split at h
  · split at h
    · rename_i hl
      cases h; cases den_str hx; cases den_str hy
      obtain ⟨c, e, e2⟩ := signIn_eq (j := _) hl
      subst e
      exact .inl ⟨c, _, rfl, rfl, by rw [e2] at q; exact q⟩
    · cases h
  · split at h
    · rename_i xs e
      simp only [Option.map_eq_some_iff] at h
      obtain ⟨j, h, rfl⟩ := h
      obtain ⟨d, ds, h1, h2, h3, h4, rfl⟩ := in_seq (neg := false) R hx hy e h
      rcases h2 with h2 | h2
      · exact .inr (.inl (.inl ⟨d, ds, h1, h2, h3, h4, q⟩))
      · exact .inr (.inl (.inr ⟨d, ds, h1, h2, h3, h4, q⟩))
    · split at h
      · rename_i e
        simp only [Option.map_eq_some_iff] at h
        obtain ⟨j, h, rfl⟩ := h
        obtain ⟨a, kvs, rfl, e1, r1, r2⟩ := dicOf_den R hy e
        obtain ⟨o, g, rfl⟩ := dicIn_den e1 hx h r1 r2
        exact .inr (.inr ⟨a, o, rfl, g, q⟩)
      · cases h
/-! ### is -/
abbrev rIsA : R2 := fun x y H Q => (y = .non ∧ Q (.bl (decide (x = .non))) H) ∨ (∃ a b, x = .bl a ∧ y = .bl b ∧ Q (.bl (decide (a = b))) H)
abbrev rIsNotA : R2 := fun x y H Q => (y = .non ∧ Q (.bl (!decide (x = .non))) H) ∨ (∃ a b, x = .bl a ∧ y = .bl b ∧ Q (.bl (!decide (a = b))) H)
theorem op_isAll {X : Cx} : OpR X (compareOp .Is) rIsA := op_isN.or op_is_bl
theorem op_isnotAll {X : Cx} : OpR X (compareOp .IsNot) rIsNotA := op_notN.or op_isnot_bl
theorem is_ok : OpB K rIsA (fun M => opCmp M .is) := by
  intro w M H x y dx dy k Q R hx hy h q
  simp only [opCmp] at h
  split at h
  · cases hy
    cases h
    refine .inl ⟨rfl, ?_⟩
    cases hx <;> exact q
  · split at h
    · cases h; cases den_bl hx; cases den_bl hy; exact .inr ⟨_, _, rfl, rfl, q⟩
    · cases h
  · cases h
theorem isnot_ok : OpB K rIsNotA (fun M => opCmp M .isnot) := by
  intro w M H x y dx dy k Q R hx hy h q
  simp only [opCmp] at h
  split at h
  · cases hy
    cases h
    refine .inl ⟨rfl, ?_⟩
    cases hx <;> exact q
  · split at h
    · cases h; cases den_bl hx; cases den_bl hy; exact .inr ⟨_, _, rfl, rfl, q⟩
    · cases h
  · cases h
/-! ### truth, len -/
theorem truth_ok (R : Rp K w M H) {x : V} {d : D} {b : Bool} (h : Den K w x d) (e : truth M d = some b) : TruV K x H b := by
  cases h with
  | non => cases e; exact rfl
  | bl c => cases e; exact rfl
  | int i => simp only [truth, Option.some.injEq] at e; exact e.symm
  | str y =>
    simp only [truth] at e
    split at e
    · rename_i hl; cases e; exact ⟨lim_line hl, rfl⟩
    · cases e
  | tup h r =>
    simp only [truth, Option.some.injEq] at e
    exact .inr (.inl ⟨_, Same.seqT R.same h, by rw [← e, r.nil_iff]⟩)
  | lst h r =>
    simp only [truth, Option.some.injEq] at e
    exact .inl ⟨_, .inl (.inl (R.same _ _ h)), by rw [← e, r.nil_iff]⟩
  | @dic a kvs ks vs h r1 r2 =>
    simp only [truth, Option.some.injEq] at e
    refine .inr (.inr ⟨_, R.same _ _ h, ?_⟩)
    rw [← e, r1.nil_iff]
    cases kvs <;> rfl
  | @cell a c h =>
    simp only [truth] at e
    split at e
    · rename_i xs hc
      cases e
      obtain ⟨_, vs, h1, h2⟩ := R.cell h hc
      exact .inl ⟨_, .inl (.inl h1), by rw [h2.nil_iff]⟩
    · rename_i ks vs hc
      cases e
      obtain ⟨_, kvs, h1, r1, _⟩ := R.cellD h hc
      refine .inr (.inr ⟨_, h1, ?_⟩)
      rw [r1.nil_iff]
      cases kvs <;> rfl
    · cases e
  | _ => simp [truth] at e
abbrev rLenA (K : Fr) : List V → Hp → VK → Prop := fun xs H Q => (∃ x n, xs = [x] ∧ LenV K x H n ∧ Q (.int n) H) ∨ (∃ a kvs, xs = [V.ref a] ∧ H a = some (.dK kvs) ∧ Q (.int kvs.length) H)
theorem call_lenAll {X : Cx} : CallR X (.builtin "len") (rLenA (fr X)) := CallR.or call_len call_lenD
theorem len_ok (R : Rp K w M H) {x : V} {d : D} {n : Nat} (h : Den K w x d) (e : lenD M d = some n) (q : Q (.int n) H) : rLenA K [x] H Q := by
  cases h with
  | str y =>
    simp only [lenD] at e
    split at e
    · rename_i hl; cases e; exact .inl ⟨_, _, rfl, ⟨lim_line hl, rfl⟩, q⟩
    · cases e
  | tup h r =>
    simp only [lenD, seqOf, Option.map_some, Option.some.injEq] at e
    subst e
    exact .inl ⟨_, _, rfl, .inr ⟨_, Same.seqT R.same h, r.length.symm⟩, q⟩
  | lst h r =>
    simp only [lenD, seqOf, listOf, Option.map_some, Option.some.injEq] at e
    subst e
    exact .inl ⟨_, _, rfl, .inl ⟨_, .inl (.inl (R.same _ _ h)), r.length.symm⟩, q⟩
  | @dic a kvs ks vs h r1 r2 =>
    simp only [lenD, Option.some.injEq] at e
    subst e
    refine .inr ⟨_, _, rfl, R.same _ _ h, ?_⟩
    have := r1.length
    rw [List.length_map] at this
    rw [this]; exact q
  | @cell a c h =>
    simp only [lenD] at e
    split at e
    · rename_i xs hc
      cases e
      obtain ⟨_, vs, h1, h2⟩ := R.cell h hc
      exact .inl ⟨_, _, rfl, .inl ⟨_, .inl (.inl h1), h2.length.symm⟩, q⟩
    · rename_i ks vs hc
      cases e
      obtain ⟨_, kvs, h1, r1, _⟩ := R.cellD h hc
      refine .inr ⟨_, _, rfl, h1, ?_⟩
      have := r1.length
      rw [List.length_map] at this
      rw [this]; exact q
    · cases e
  | _ => simp [lenD, seqOf, listOf] at e

/-! ### isinstance -/
theorem tyOf_ok (R : Rp K w M H) {x : V} {d : D} {t : Ty} (h : Den K w x d) (e : tyOf M d = some t) : TyX K H x (.type t.n) := by
  cases h with
  | bl b => cases e; exact .base (.bl b)
  | int i => cases e; exact .base (.int i)
  | str y => cases e; exact .base (.str y)
  | tup h r =>
    cases e
    rcases h with (h | ⟨o, h⟩) | ⟨o, its, n, hk, hc, _⟩
    · exact .base (.tup (R.same _ _ h))
    · exact .fTuple (R.same _ _ h)
    · exact .kTuple hk hc
  | lst h r => cases e; exact .base (.lst (R.same _ _ h))
  | dic h _ _ => cases e; exact .base (.dK (R.same _ _ h))
  | @cell a c h =>
    simp only [tyOf] at e
    split at e
    · rename_i xs hc
      cases e
      obtain ⟨_, vs, h1, h2⟩ := R.cell h hc
      exact .base (.lst h1)
    · rename_i ks vs hc
      cases e
      obtain ⟨_, kvs, h1, _⟩ := R.cellD h hc
      exact .base (.dK h1)
    · cases e
  | _ => simp [tyOf] at e
theorem kit_ty2 (t u : Ty) : kitB t.n u.n = some (isTy t u) := by
  cases t <;> cases u <;> decide +kernel
theorem kit_non (u : Ty) : kitB "NoneType" u.n = some false := by
  cases u <;> decide +kernel
theorem tys_den : ∀ {cs : List V} {ds : List D} {us : List Ty}, Dens K w cs ds → tysOf ds = some us → Paired ClsV cs (us.map fun u => Value.type u.n)
  | _, _, us, .nil, e => by cases e; exact .nil
  | _, _, us, .cons h r, e => by
    cases h <;> simp only [tysOf, reduceCtorEq] at e
    simp only [Option.map_eq_some_iff] at e
    obtain ⟨js, e1, rfl⟩ := e
    exact .cons (.ty _) (tys_den r e1)
theorem kitAny_tys {t : String} {f : Ty → Bool} (hf : ∀ u, kitB t u.n = some (f u)) : ∀ us : List Ty, PySem.W.kitAny K (.type t) (us.map fun u => Value.type u.n) = some (us.any f)
  | [] => rfl
  | u :: us => by
    rw [List.map_cons, List.any_cons]
    refine kitAny_cons (kit_ty (hf u)) (fun e => ?_) fun e => by rw [e]; rfl
    rw [e, Bool.false_or]
    exact kitAny_tys hf us
abbrev rIsiA (K : Fr) : List V → Hp → VK → Prop := fun xs H Q => rIsi K xs H Q ∨ rIsiT K xs H Q
theorem call_isiAll {X : Cx} : CallR X (.builtin "isinstance") (rIsiA (fr X)) := CallR.or call_isi call_isiT
/-- the classes' tuple has to be a tracked one -/
theorem isi_ok (R : Rp K w M H) {x c : V} {d dc : D} {b : Bool} (h : Den K w x d) (hc : Den K w c dc) (ht : ∀ a cs, dc = .tup cs → c = .ref a → ∃ vs, H a = some (.tup vs) ∧ Dens K w vs cs) (e : isiD M d dc = some b) (q : Q (.bl b) H) : rIsiA K [x, c] H Q := by
  have ty : ∀ {t : Ty}, tyOf M d = some t → TyX K H x (.type t.n) := fun e => tyOf_ok R h e
  unfold isiD at e
  split at e
  · rename_i u
    cases hc
    refine .inl ?_
    unfold isiOne at e
    split at e
    · cases e; cases h
      exact ⟨_, _, _, _, _, rfl, .ty _, .base .non, kit_ty (kit_non u), q⟩
    · simp only [Option.map_eq_some_iff] at e
      obtain ⟨t, e1, rfl⟩ := e
      exact ⟨_, _, _, _, _, rfl, .ty _, ty e1, kit_ty (kit_ty2 t u), q⟩
  · rename_i cs
    obtain ⟨a, vs0, rfl, _, _⟩ := den_tup hc
    obtain ⟨vs, hv, r⟩ := ht a cs rfl rfl
    refine .inr ?_
    split at e
    · rename_i us eu
      have p := tys_den r eu
      split at e
      · cases e; cases h
        refine ⟨_, _, _, _, _, _, rfl, hv, p, .base .non, ?_, q⟩
        have z := kitAny_tys (K := K) (t := "NoneType") (f := fun _ => false) kit_non us
        rw [z]
        have z2 : (us.any fun _ => false) = false := by induction us <;> simp_all
        rw [z2]
      · simp only [Option.map_eq_some_iff] at e
        obtain ⟨t, e1, rfl⟩ := e
        exact ⟨_, _, _, _, _, _, rfl, hv, p, ty e1, kitAny_tys (f := fun u => isTy t u) (kit_ty2 t) us, q⟩
    · cases e
  · cases e
/-! ### subscripts -/
theorem ixOf_eq (n : Nat) (i : Int) : ixOf n i = ixN n i := by
  unfold ixOf ixN
  split
  · rfl
  · by_cases h : 0 ≤ i + (n : Int)
    · rw [if_pos h, if_pos (by omega)]
    · rw [if_neg h, if_neg (by omega)]
theorem atD_eq {α : Type} (xs : List α) (i : Int) : atD xs i = atI xs i := by
  unfold atD atI
  rw [ixOf_eq]
  cases ixN xs.length i <;> rfl
theorem atD_den {vs : List V} {ds : List D} {i : Int} {d : D} (r : Dens K w vs ds) (e : atD ds i = some d) : ∃ v, atI vs i = some v ∧ Den K w v d := by
  rw [atD_eq] at e
  unfold atI at e ⊢
  rw [r.length]
  cases h : ixN ds.length i with
  | none => rw [h] at e; cases e
  | some j =>
    rw [h] at e
    exact r.get e
/-- d[k], there -/
def rIxDk : R2 := fun x y H Q => ∃ (a : Addr) (kvs : List (Key × V)) (k : Key) (v : V), x = .ref a ∧ H a = some (.dK kvs) ∧ y = kV k ∧ valV kvs k = some v ∧ Q v H
theorem ix_dk {X : Cx} : IxR X rIxDk := by
  intro value slice pins s σ H x y v u Q I rx ry h hs
  obtain ⟨a, kvs, k, z, rfl, ha, rfl, l, q⟩ := h
  cases rx
  obtain ⟨_, hd, vs, rel, dd⟩ := dk_rd I.hok (.inl ha)
  obtain ⟨w', hw, rw'⟩ := RelO.some_of (v := z) (o := valueAt vs k) (by rw [← l]; exact rel.val k)
  exact tail_any dd.typeIs slot_dict_getitem.lookup (wpAny_getItem_of (kV_is ry) dd.mapOf hw ⟨z, H, I.tok _, rw', q⟩) hs
def rIxA (K : Fr) : R2 := fun x y H Q => rIx K x y H Q ∨ rIxDk x y H Q
theorem ix_all {X : Cx} : IxR X (rIxA (fr X)) := ix_seq.or ix_dk
theorem idx_ok : OpS K (rIxA K) idxD := by
  intro w M H x y dx dy d Q R hx hy h n
  unfold idxD at h
  split at h
  · rename_i i
    cases den_str hy
    split at h
    · rename_i ks vs
      cases hx with
      | dic h1 r1 r2 =>
        obtain ⟨v, e, dv⟩ := dic_str r1 r2 h
        exact .inr ⟨_, _, .inr i, v, rfl, R.same _ _ h1, rfl, e, n.same R dv⟩
    · split at h
      · rename_i e
        obtain ⟨a, kvs, rfl, e1, r1, r2⟩ := dicOf_den R hx e
        obtain ⟨v, e, dv⟩ := dic_str r1 r2 h
        exact .inr ⟨_, _, .inr i, v, rfl, e1, rfl, e, n.same R dv⟩
      · cases h
  · rename_i i
    cases den_int hy
    split at h
    · rename_i ks vs
      cases hx with
      | dic h1 r1 r2 =>
        obtain ⟨v, e, dv⟩ := dic_int r1 r2 h
        exact .inr ⟨_, _, .inl i, v, rfl, R.same _ _ h1, rfl, e, n.same R dv⟩
    · rename_i z
      cases den_str hx
      split at h
      · rename_i hl
        simp only [Option.map_eq_some_iff] at h
        obtain ⟨c, e, rfl⟩ := h
        exact .inl (.inr (.inr ⟨z, i, c, rfl, rfl, lim_line hl, by rw [← atD_eq]; exact e, n.same R (.str _)⟩))
      · cases h
    · split at h
      · rename_i xs e
        obtain ⟨a, vs, rfl, hs, r⟩ := seqOf_den R hx e
        obtain ⟨v, e2, hv⟩ := atD_den r h
        rcases hs with hs | hs
        · exact .inl (.inl ⟨a, vs, i, v, rfl, rfl, .inl (.inl hs), e2, n.same R hv⟩)
        · exact .inl (.inr (.inl ⟨a, vs, i, v, rfl, rfl, hs, e2, n.same R hv⟩))
      · split at h
        · rename_i e
          obtain ⟨a, kvs, rfl, e1, r1, r2⟩ := dicOf_den R hx e
          obtain ⟨v, e, dv⟩ := dic_int r1 r2 h
          exact .inr ⟨_, _, .inl i, v, rfl, e1, rfl, e, n.same R dv⟩
        · cases h
  · cases h
theorem sIx_eq (n d : Nat) (o : Option Int) : sliceIx n d o = HT.sIx n d o := by
  cases o <;> rfl
theorem cut_den {vs : List V} {ds : List D} (r : Dens K w vs ds) (lo hi : Option Int) : Dens K w (cutV vs lo hi) (cut ds lo hi) := by
  unfold cutV cut
  rw [sIx_eq, sIx_eq, ← r.length]
  exact (r.drop _).take _
abbrev rSlAll (K : Fr) : V → Option Int → Option Int → Hp → VK → Prop := fun x lo hi H Q => rSlA K x lo hi H Q ∨ (rSlL K x lo hi H Q ∨ rSlS x lo hi H Q)
theorem sl_all {X : Cx} : SlR X (rSlAll (fr X)) := sl_tupA.or (sl_list.or sl_str)
theorem slc_ok (R : Rp K w M H) {x : V} {d d' : D} {lo hi : Option Int} (h : Den K w x d) (e : slcD M d lo hi = some d') (n : NxV K w H M d' Q) : rSlAll K x lo hi H Q := by
  unfold slcD at e
  split at e
  · rename_i xs
    cases e
    obtain ⟨a, vs, rfl, hs, r⟩ := den_tup h
    refine .inl ⟨a, vs, rfl, Same.seqT R.same hs, fun hw => ?_, fun hw p hp => n.newT R (cut_den r lo hi) hp⟩
    have e0 : cut xs lo hi = xs := by
      unfold cut
      rw [sIx_eq, sIx_eq, ← r.length, hw.1, hw.2, List.drop_zero, Nat.sub_zero, r.length]
      exact List.take_length
    rw [e0] at n
    exact n.same R h
  · rename_i z
    split at e
    · rename_i hl
      cases e; cases den_str h
      refine .inr (.inr ⟨z, rfl, lim_line hl, ?_⟩)
      have e0 : cutS z lo hi = ⟨(cut z.cps.toList lo hi).toArray⟩ := by
        unfold cutS cut
        rw [sIx_eq, sIx_eq]
        simp only [Str.length, Array.length_toList]
      rw [e0]
      exact n.same R (.str _)
    · cases e
  · simp only [Option.map_eq_some_iff] at e
    obtain ⟨xs, e1, rfl⟩ := e
    obtain ⟨a, vs, rfl, hs, r⟩ := listOf_den R h e1
    exact .inr (.inl ⟨a, vs, rfl, .inl (.inl hs), fun p hp => n.newL R (cut_den r lo hi) hp⟩)
end
end Ev

set_option autoImplicit false
set_option linter.all false
set_option maxRecDepth 100000
set_option maxHeartbeats 1000000
/-! Ev: each form of an expression. -/
namespace Ev
open PySem PySem.Spec PyProof.Rows L2
/-! ### what is to be seen of a tree -/
def isStar : Expr → Bool
  | .Starred .. => true
  | _ => false
def isSet : Expr → Bool
  | .Set .. => true
  | _ => false
def isSlice : Expr → Bool
  | .Slice .. => true
  | _ => false
/-- its test is its value's truth -/
def plainTest : Expr → Bool
  | .BoolOp .. => false
  | .UnaryOp .. => false
  | .Compare .. => false
  | .IfExp .. => false
  | .NamedExpr .. => false
  | .Constant .. => false
  | _ => true
def plainBase : Expr → Bool
  | .Call .. => false
  | _ => true
theorem star_cons {X : Cx} {e : Expr} {es : List Expr} (h : isStar e = false) : starEach (e :: es) X.env = (false, eval e X.env) :: starEach es X.env := by
  cases e <;> first | rfl | cases h
theorem noset {e : Expr} {op : CmpOp} (h : isSet e = false) : behindInMarks op e = false := by
  cases e <;> first | rfl | cases h
theorem nofold {e : Expr} {env : PySem.Env} (h : isSet e = false) : ∀ x, foldedSetIterable e env x = pure x := by
  intro x
  cases e <;> first | rfl | cases h
theorem noslice {e : Expr} (h : isSlice e = false) : PlainIx e := by
  intro o i
  cases e <;> first | rfl | cases h
theorem pltest {e : Expr} {env : PySem.Env} (h : plainTest e = true) : ∀ whole, isTrue e env whole = (do let v ← whole; standAt e.pos; holding [v] (truthy v)) := by
  intro whole
  cases e <;> first | rfl | cases h
theorem plbase {e : Expr} {env : PySem.Env} {name : Str} (h : plainBase e = true) : attributeBase e name env (eval e env) = eval e env := by
  cases e <;> first | rfl | cases h
section
variable {X : Cx} {a b c : Expr} {fa fb fc : Env → Mem → Res D} {pos : Pos}
theorem e_nev {e : Expr} : PE X e (tE (fr X) fun _ _ => none) := ⟨fun _ _ _ _ _ _ ⟨_, _, _, _, _, _, _, h, _⟩ => by cases h⟩
theorem e_var {i : Nat} {x : Str} (hN : X.N[i]? = some x) (hv : Vis X.env.scope x) (hd : (x == ("__debug__" : Str)) = false) (hcd : (x == ("__classdict__" : Str)) = false) : PE X (.Name x pos) (tE (fr X) fun env M => match env[i]? with
    | some (some d) => some (d, M)
    | _ => none) := by
  refine imp_e (pe_var hN hv hd hcd) ?_
  rintro σ H Q ⟨w, env, M, d, M', R, E, e, q⟩
  simp only at e
  split at e
  · rename_i d' h
    cases e
    obtain ⟨v, h1, h2⟩ := E.get i d h
    exact ⟨v, h1, q w H v (Fut.refl w H) R h2⟩
  · cases e
theorem e_const {e : Expr} {v : V} {d : D} (h : PE X e (tC v)) (hd : ∀ w, Den (fr X) w v d) : PE X e (tE (fr X) fun _ M => some (d, M)) := by
  refine imp_e h ?_
  rintro σ H Q ⟨w, env, M, d', M', R, E, e, q⟩
  cases e
  exact q w H v (Fut.refl w H) R (hd w)
theorem e_tup {es : List Expr} {f : Env → Mem → Res (List D)} (h : PA X es (tA (fr X) f)) : PE X (.Tuple es 0 pos) (tE (fr X) fun env M => match f env M with
    | some (ds, M') => if ds.length ≤ Lim then some (.tup ds, M') else none
    | none => none) := by
  refine imp_e (pe_tup h) ?_
  rintro σ H Q ⟨w, env, M, d, M', R, E, e, q⟩
  simp only at e
  split at e
  · rename_i ds M1 h1
    split at e
    · rename_i hl
      cases e
      refine ⟨w, env, M, ds, _, R, E, h1, fun w1 H1 vs f1 R1 r => ⟨lim_line (by rw [r.length]; exact hl), fun p hp => ?_⟩⟩
      obtain ⟨f2, R2⟩ := alloc_frozen R1 hp (.tup vs)
      exact q _ _ _ (f1.trans f2) R2 (.tup (.inl (.inl upd_same)) (r.fut f2))
    · cases e
  · cases e
theorem inl_imp {f : Env → Mem → Res (List D)} : ∀ σ H Q, tE (fr X) (fun env M => match f env M with
    | some (ds, M') => some (.lst ds, M')
    | none => none) σ H Q → tF (fr X) f σ H Q := by
  rintro σ H Q ⟨w, env, M, d, M', R, E, e, q⟩
  simp only at e
  split at e
  · rename_i ds M1 h1
    cases e
    refine ⟨w, env, M, ds, _, R, E, h1, fun w1 H1 p vs f1 R1 hp r => ?_⟩
    obtain ⟨f2, R2⟩ := alloc_frozen R1 hp (.lst vs)
    exact q _ _ _ (f1.trans f2) R2 (.lst upd_same (r.fut f2))
  · cases e
theorem e_inl {e : Expr} {f : Env → Mem → Res (List D)} (h : PE X e (tF (fr X) f)) : PE X e (tE (fr X) fun env M => match f env M with
    | some (ds, M') => some (.lst ds, M')
    | none => none) := imp_e h inl_imp
theorem cel_imp {f : Env → Mem → Res (List D)} : ∀ σ H Q, tE (fr X) (fun env M => match f env M with
    | some (ds, M') => some (allocC (.lst ds) M')
    | none => none) σ H Q → tF (fr X) f σ H Q := by
  rintro σ H Q ⟨w, env, M, d, M', R, E, e, q⟩
  simp only at e
  split at e
  · rename_i ds M1 h1
    refine ⟨w, env, M, ds, M1, R, E, h1, fun w1 H1 p vs f1 R1 hp r => ?_⟩
    obtain ⟨f2, R2, d2⟩ := alloc_cell R1 hp r
    have e' := Option.some.inj e
    rw [e'] at R2 d2
    exact q _ _ _ (f1.trans f2) R2 d2
  · cases e
theorem e_cel {e : Expr} {f : Env → Mem → Res (List D)} (h : PE X e (tF (fr X) f)) : PE X e (tE (fr X) fun env M => match f env M with
    | some (ds, M') => some (allocC (.lst ds) M')
    | none => none) := imp_e h cel_imp
/-- two values, an operation of them that leaves the cells -/
theorem two_imp {r : R2} {g : Mem → D → D → Option D} (hs : OpS (fr X) r g) {σ : L2.St} {H : Hp} {Q : VK} (h : tE (fr X) (fun env M => match fa env M with
    | some (x, M1) => match fb env M1 with
      | some (y, M2) => ofD (g M2 x y) M2
      | none => none
    | none => none) σ H Q) : tOp r (tE (fr X) fa) (tE (fr X) fb) σ H Q := by
  obtain ⟨w, env, M, d, M', R, E, e, q⟩ := h
  simp only at e
  split at e
  · rename_i dx M1 h1
    split at e
    · rename_i dy M2 h2
      simp only [ofD, Option.map_eq_some_iff] at e
      obtain ⟨d', h3, e⟩ := e
      cases e
      refine ⟨w, env, M, dx, M1, R, E, h1, fun w1 H1 x f1 R1 d1 => ⟨w1, env, M1, dy, _, R1, E.fut f1, h2, fun w2 H2 y f2 R2 d2 => ?_⟩⟩
      exact hs w2 _ H2 x y dx dy d Q R2 (d1.fut f2) d2 h3 fun w3 H3 v f3 R3 d3 => q w3 H3 v ((f1.trans f2).trans f3) R3 d3
    · cases e
  · cases e
theorem e_bin {op : Operator} {r : R2} {g : Mem → D → D → Option D} (ho : OpR X (binaryOp op) r) (hs : OpS (fr X) r g) (ha : PE X a (tE (fr X) fa)) (hb : PE X b (tE (fr X) fb)) : PE X (.BinOp a op b pos) (tE (fr X) fun env M => match fa env M with
    | some (x, M1) => match fb env M1 with
      | some (y, M2) => ofD (g M2 x y) M2
      | none => none
    | none => none) := imp_e (pe_op ho ha hb) fun σ H Q h => two_imp hs h
theorem e_idx {r : R2} {g : Mem → D → D → Option D} (ho : IxR X r) (hs : OpS (fr X) r g) (ha : PE X a (tE (fr X) fa)) (hb : PE X b (tE (fr X) fb)) (hp : PlainIx b) : PE X (.Subscript a b pos) (tE (fr X) fun env M => match fa env M with
    | some (x, M1) => match fb env M1 with
      | some (y, M2) => ofD (g M2 x y) M2
      | none => none
    | none => none) := imp_e (pe_ix ho ha hb hp) fun σ H Q h => two_imp hs h
abbrev fCmp (g : Mem → D → D → Option Bool) (fa fb : Env → Mem → Res D) : Env → Mem → Res D := fun env M => match fa env M with
    | some (x, M1) => match fb env M1 with
      | some (y, M2) => ofB (g M2 x y) M2
      | none => none
    | none => none
theorem two_impB {r : R2} {g : Mem → D → D → Option Bool} (hs : OpB (fr X) r g) {σ : L2.St} {H : Hp} {Q : VK} (h : tE (fr X) (fCmp g fa fb) σ H Q) : tOp r (tE (fr X) fa) (tE (fr X) fb) σ H Q := by
  obtain ⟨w, env, M, d, M', R, E, e, q⟩ := h
  simp only [fCmp] at e
  split at e
  · rename_i dx M1 h1
    split at e
    · rename_i dy M2 h2
      simp only [ofB, Option.map_eq_some_iff] at e
      obtain ⟨k, h3, e⟩ := e
      cases e
      refine ⟨w, env, M, dx, M1, R, E, h1, fun w1 H1 x f1 R1 d1 => ⟨w1, env, M1, dy, _, R1, E.fut f1, h2, fun w2 H2 y f2 R2 d2 => ?_⟩⟩
      exact hs w2 _ H2 x y dx dy k Q R2 (d1.fut f2) d2 h3 (q w2 H2 _ (f1.trans f2) R2 (.bl k))
    · cases e
  · cases e
theorem e_cmp {op : CmpOp} {r : R2} {g : Mem → D → D → Option Bool} (ho : OpR X (compareOp op) r) (hs : OpB (fr X) r g) (ha : PE X a (tE (fr X) fa)) (hb : PE X b (tE (fr X) fb)) (hm : behindInMarks op b = false) : PE X (.Compare a [op] [b] pos) (tE (fr X) (fCmp g fa fb)) :=
  imp_e (pe_cmpR ho ha hb hm) fun σ H Q h => two_impB hs h
/-- a test by a value that is a bool -/
theorem tB_of {f : Env → Mem → Res D} {g : Env → Mem → Res Bool} (hg : ∀ env M b M', g env M = some (b, M') → f env M = some (.bl b, M')) {σ : L2.St} {H : Hp} {Q : Bool → Hp → Prop} (h : tT (fr X) g σ H Q) : tE (fr X) f σ H (fun x H' => ∃ k, x = .bl k ∧ Q k H') := by
  obtain ⟨w, env, M, b, M', R, E, e, q⟩ := h
  exact ⟨w, env, M, .bl b, M', R, E, hg _ _ _ _ e, fun w1 H1 v f1 R1 d1 => ⟨b, den_bl d1, q w1 H1 f1 R1⟩⟩
theorem tru_bool {f : Env → Mem → Res D} (hf : ∀ env M d M', f env M = some (d, M') → ∃ b, d = .bl b) {env : Env} {M M' : Mem} {b : Bool} (h : tru (f env M) = some (b, M')) : f env M = some (.bl b, M') := by
  unfold tru at h
  split at h
  · rename_i d M1 e
    obtain ⟨b', rfl⟩ := hf _ _ _ _ e
    simp [truth] at h
    obtain ⟨rfl, rfl⟩ := h
    exact e
  · cases h
theorem fCmp_bl {g : Mem → D → D → Option Bool} {env : Env} {M M' : Mem} {d : D} (h : fCmp g fa fb env M = some (d, M')) : ∃ b, d = .bl b := by
  simp only [fCmp] at h
  split at h
  · split at h
    · simp only [ofB, Option.map_eq_some_iff] at h
      obtain ⟨k, _, e⟩ := h
      cases e; exact ⟨k, rfl⟩
    · cases h
  · cases h
theorem t_cmp {op : CmpOp} {r : R2} {g : Mem → D → D → Option Bool} (ho : OpR X (compareOp op) r) (hs : OpB (fr X) r g) (ha : PE X a (tE (fr X) fa)) (hb : PE X b (tE (fr X) fb)) (hm : behindInMarks op b = false) : PT X (.Compare a [op] [b] pos) (tT (fr X) fun env M => tru (fCmp g fa fb env M)) := by
  refine imp_t (pt_cmpR ho ha hb hm) fun σ H Q h => ?_
  have h2 : tE (fr X) (fCmp g fa fb) σ H (fun x H' => ∃ k, x = .bl k ∧ Q k H') := tB_of (fun env M b M' e => tru_bool (f := fCmp g fa fb) (fun _ _ _ _ e => fCmp_bl e) e) h
  exact two_impB hs h2
/-- a test by the truth of a value -/
theorem t_truth (ha : PE X a (tE (fr X) fa)) (hp : plainTest a = true) : PT X a (tT (fr X) fun env M => tru (fa env M)) := by
  refine imp_t (pt_truth ha (pltest hp)) ?_
  rintro σ H Q ⟨w, env, M, b, M', R, E, e, q⟩
  simp only [tru] at e
  split at e
  · rename_i d M1 h1
    simp only [Option.map_eq_some_iff] at e
    obtain ⟨k, h2, e⟩ := e
    cases e
    exact ⟨w, env, M, d, _, R, E, h1, fun w1 H1 v f1 R1 d1 => ⟨b, truth_ok R1 d1 h2, q w1 H1 f1 R1⟩⟩
  · cases e
theorem t_not {f : Env → Mem → Res Bool} (ha : PT X a (tT (fr X) f)) : PT X (.UnaryOp .Not a pos) (tT (fr X) fun env M => match f env M with
    | some (b, M1) => some (!b, M1)
    | none => none) := by
  refine imp_t (pt_not ha) ?_
  rintro σ H Q ⟨w, env, M, b, M', R, E, e, q⟩
  simp only at e
  split at e
  · rename_i d M1 h1
    cases e
    exact ⟨w, env, M, d, _, R, E, h1, fun w1 H1 f1 R1 => q w1 H1 f1 R1⟩
  · cases e
theorem e_not (ha : PE X a (tE (fr X) fa)) : PE X (.UnaryOp .Not a pos) (tE (fr X) fun env M => match tru (fa env M) with
    | some (b, M1) => some (.bl (!b), M1)
    | none => none) := by
  refine imp_e (pe_notT ha) ?_
  rintro σ H Q ⟨w, env, M, d, M', R, E, e, q⟩
  simp only [tru] at e
  split at e
  · rename_i b M1 h1
    split at h1
    · rename_i d' M2 h2
      simp only [Option.map_eq_some_iff] at h1
      obtain ⟨k, h3, e'⟩ := h1
      cases e'; cases e
      exact ⟨w, env, M, d', _, R, E, h2, fun w1 H1 v f1 R1 d1 => ⟨b, truth_ok R1 d1 h3, q w1 H1 _ f1 R1 (.bl _)⟩⟩
    · cases h1
  · cases e
theorem e_neg (ha : PE X a (tE (fr X) fa)) : PE X (.UnaryOp .USub a pos) (tE (fr X) fun env M => match fa env M with
    | some (.int i, M1) => some (.int (-i), M1)
    | _ => none) := by
  refine imp_e (pe_un un_neg ha) ?_
  rintro σ H Q ⟨w, env, M, d, M', R, E, e, q⟩
  simp only at e
  split at e
  · rename_i i M1 h1
    cases e
    exact ⟨w, env, M, .int i, _, R, E, h1, fun w1 H1 v f1 R1 d1 => ⟨i, den_int d1, q w1 H1 _ f1 R1 (.int _)⟩⟩
  · cases e
theorem e_ife {f : Env → Mem → Res Bool} (hc : PT X c (tT (fr X) f)) (ha : PE X a (tE (fr X) fa)) (hb : PE X b (tE (fr X) fb)) : PE X (.IfExp c a b pos) (tE (fr X) fun env M => match f env M with
    | some (true, M1) => fa env M1
    | some (false, M1) => fb env M1
    | none => none) := by
  refine imp_e (pe_ifExp hc ha hb) ?_
  rintro σ H Q ⟨w, env, M, d, M', R, E, e, q⟩
  simp only at e
  split at e
  · rename_i M1 h1
    refine ⟨w, env, M, true, M1, R, E, h1, fun w1 H1 f1 R1 => ?_⟩
    show tE (fr X) fa σ H1 Q
    exact ⟨w1, env, M1, d, M', R1, E.fut f1, e, fun w2 H2 v f2 R2 d2 => q w2 H2 v (f1.trans f2) R2 d2⟩
  · rename_i M1 h1
    refine ⟨w, env, M, false, M1, R, E, h1, fun w1 H1 f1 R1 => ?_⟩
    show tE (fr X) fb σ H1 Q
    exact ⟨w1, env, M1, d, M', R1, E.fut f1, e, fun w2 H2 v f2 R2 d2 => q w2 H2 v (f1.trans f2) R2 d2⟩
  · cases e
/-- a built-in of one value -/
theorem e_b1 {id x : String} {r : List V → Hp → VK → Prop} {g : Mem → D → Option D} {p : Pos} (hc : CallR X (.builtin id) r) (hg : Gl X x) (hm : X.mg x = none) (hv : bootBuiltins (x : Str) = some (.builtin id)) (hn : (x : Str) ≠ "__name__") (hdb : ((x : Str) == ("__debug__" : Str)) = false)
    (hs : ∀ w M H v d d' Q, Rp (fr X) w M H → Den (fr X) w v d → g M d = some d' → NxV (fr X) w H M d' Q → r [v] H Q) (ha : PE X a (tE (fr X) fa)) (hst : isStar a = false) : PE X (.Call (.Name x p) [a] [] pos) (tE (fr X) fun env M => match fa env M with
    | some (d, M1) => ofD (g M1 d) M1
    | none => none) := by
  refine imp_e (pe_callB (t := tCons (tE (fr X) fa) tNil) hc hg hm hv (pa_cons ha pa_nil (star_cons hst)) hn hdb (star_cons hst) rfl) ?_
  rintro σ H Q ⟨w, env, M, d, M', R, E, e, q⟩
  simp only at e
  split at e
  · rename_i dx M1 h1
    simp only [ofD, Option.map_eq_some_iff] at e
    obtain ⟨d', h3, e⟩ := e
    cases e
    exact ⟨w, env, M, dx, _, R, E, h1, fun w1 H1 x f1 R1 d1 => hs w1 _ H1 x dx d Q R1 d1 h3 fun w2 H2 v f2 R2 d2 => q w2 H2 v (f1.trans f2) R2 d2⟩
  · cases e
theorem e_t1 {T x : String} {r : List V → Hp → VK → Prop} {g : Mem → D → Option D} {p : Pos} (hc : CallR X (.type T) r) (hg : Gl X x) (hm : X.mg x = none) (hv : bootBuiltins (x : Str) = some (.type T)) (hn : (x : Str) ≠ "__name__") (hdb : ((x : Str) == ("__debug__" : Str)) = false)
    (hs : ∀ w M H v d d' Q, Rp (fr X) w M H → Den (fr X) w v d → g M d = some d' → NxV (fr X) w H M d' Q → r [v] H Q) (ha : PE X a (tE (fr X) fa)) (hst : isStar a = false) : PE X (.Call (.Name x p) [a] [] pos) (tE (fr X) fun env M => match fa env M with
    | some (d, M1) => ofD (g M1 d) M1
    | none => none) := by
  refine imp_e (pe_callTy (t := tCons (tE (fr X) fa) tNil) hc hg hm hv (pa_cons ha pa_nil (star_cons hst)) hn hdb (star_cons hst) rfl) ?_
  rintro σ H Q ⟨w, env, M, d, M', R, E, e, q⟩
  simp only at e
  split at e
  · rename_i dx M1 h1
    simp only [ofD, Option.map_eq_some_iff] at e
    obtain ⟨d', h3, e⟩ := e
    cases e
    exact ⟨w, env, M, dx, _, R, E, h1, fun w1 H1 x f1 R1 d1 => hs w1 _ H1 x dx d Q R1 d1 h3 fun w2 H2 v f2 R2 d2 => q w2 H2 v (f1.trans f2) R2 d2⟩
  · cases e
/-- a built-in of two values -/
theorem e_b2 {id x : String} {r : List V → Hp → VK → Prop} {g : Mem → D → D → Option D} {p : Pos} (hc : CallR X (.builtin id) r) (hg : Gl X x) (hm : X.mg x = none) (hv : bootBuiltins (x : Str) = some (.builtin id)) (hn : (x : Str) ≠ "__name__") (hdb : ((x : Str) == ("__debug__" : Str)) = false)
    (hs : ∀ w M H u v d d1 d' Q, Rp (fr X) w M H → Den (fr X) w u d → Den (fr X) w v d1 → g M d d1 = some d' → NxV (fr X) w H M d' Q → r [u, v] H Q) (ha : PE X a (tE (fr X) fa)) (hb : PE X b (tE (fr X) fb)) (hst : isStar a = false) (hst2 : isStar b = false) : PE X (.Call (.Name x p) [a, b] [] pos) (tE (fr X) fun env M => match fa env M with
    | some (x, M1) => match fb env M1 with
      | some (y, M2) => ofD (g M2 x y) M2
      | none => none
    | none => none) := by
  refine imp_e (pe_callB (t := tCons (tE (fr X) fa) (tCons (tE (fr X) fb) tNil)) hc hg hm hv (pa_cons ha (pa_cons hb pa_nil (star_cons hst2)) (star_cons hst)) hn hdb (star_cons hst) (by rw [star_cons hst2]; rfl)) ?_
  rintro σ H Q ⟨w, env, M, d, M', R, E, e, q⟩
  simp only at e
  split at e
  · rename_i dx M1 h1
    split at e
    · rename_i dy M2 h2
      simp only [ofD, Option.map_eq_some_iff] at e
      obtain ⟨d', h3, e⟩ := e
      cases e
      refine ⟨w, env, M, dx, M1, R, E, h1, fun w1 H1 x f1 R1 d1 => ⟨w1, env, M1, dy, _, R1, E.fut f1, h2, fun w2 H2 y f2 R2 d2 => ?_⟩⟩
      exact hs w2 _ H2 x y dx dy d Q R2 (d1.fut f2) d2 h3 fun w3 H3 v f3 R3 d3 => q w3 H3 v ((f1.trans f2).trans f3) R3 d3
    · cases e
  · cases e
theorem a_nil : PA X [] (tA (fr X) fun _ M => some ([], M)) := by
  refine imp_a pa_nil ?_
  rintro σ H Q ⟨w, env, M, d, M', R, E, e, q⟩
  cases e
  exact q w H [] (Fut.refl w H) R .nil
theorem a_cons {es : List Expr} {f : Env → Mem → Res (List D)} (ha : PE X a (tE (fr X) fa)) (h : PA X es (tA (fr X) f)) (hst : isStar a = false) : PA X (a :: es) (tA (fr X) fun env M => match fa env M with
    | some (d, M1) => match f env M1 with
      | some (ds, M2) => some (d :: ds, M2)
      | none => none
    | none => none) := by
  refine imp_a (pa_cons ha h (star_cons hst)) ?_
  rintro σ H Q ⟨w, env, M, d, M', R, E, e, q⟩
  simp only at e
  split at e
  · rename_i dx M1 h1
    split at e
    · rename_i ds M2 h2
      cases e
      exact ⟨w, env, M, dx, M1, R, E, h1, fun w1 H1 x f1 R1 d1 => ⟨w1, env, M1, ds, _, R1, E.fut f1, h2, fun w2 H2 ys f2 R2 d2 => q w2 H2 (x :: ys) (f1.trans f2) R2 (.cons (d1.fut f2) d2)⟩⟩
    · cases e
  · cases e
theorem e_frz (ha : PE X a (tE (fr X) fa)) : PE X a (tE (fr X) fun env M => match fa env M with
    | some (d, M1) => freeze d M1
    | none => none) := by
  refine imp_e ha ?_
  rintro σ H Q ⟨w, env, M, d, M', R, E, e, q⟩
  simp only at e
  split at e
  · rename_i dx M1 h1
    refine ⟨w, env, M, dx, M1, R, E, h1, fun w1 H1 x f1 R1 d1 => ?_⟩
    unfold freeze at e
    split at e
    · rename_i c
      split at e
      · rename_i xs hc
        split at e
        · cases e
          cases d1 with
          | cell ha =>
            obtain ⟨w2, f2, R2, d2⟩ := R1.freeze ha hc
            exact q w2 H1 _ (f1.trans f2) R2 d2
        · obtain ⟨w2, f2, R2, d2⟩ := R1.freezeD 4 (.cell c) d1 e
          exact q w2 H1 _ (f1.trans f2) R2 d2
      · cases e
    · cases e
      exact q w1 H1 x f1 R1 d1
  · cases e
end
end Ev

set_option autoImplicit false
set_option linter.all false
set_option maxRecDepth 100000
set_option maxHeartbeats 1000000
/-! t[::-1] of a tuple. -/
namespace Ev
open PySem PySem.Spec PyProof.Rows L2 HT
section
variable {prog : Program} {w : World} {A : Around} {E : Value → Shared → Prop} {s : Shared}
theorem sliceApplied_rev {sl : Addr} {vl vu vs : Value} {n : Nat} {Q : Int × Int × Nat → Shared → Prop} (hs : s.heap.IsSliceOf sl vl vu vs) (pl : IsPart vl none) (pu : IsPart vu none) (ps : IsPart vs (some (-1)))
    (h : Q ((n : Int) - 1, -1, n) s) : wpAny (model prog w) A (Builtin.Slice.sliceApplied (.ref sl) (pure (n : Int))) Q E s := by
  obtain ⟨os, hos, hcs, hds⟩ := id hs
  unfold Builtin.Slice.sliceApplied Builtin.Slice.sliceFields
  refine wpAny_bind (wpAny_bind (wpAny_field hos hds (x := vl) rfl (wpAny_bind (wpAny_field hos hds (x := vu) rfl (wpAny_bind (wpAny_field hos hds (x := vs) rfl (wpAny_pure ?_)))))))
  refine wpAny_bind (slicePart_ ps ?_)
  show wpAny _ _ (if ((-1 : Int) == 0) = true then _ else _) _ _ s
  rw [if_neg (by decide)]
  refine wpAny_bind (slicePart_ pl (wpAny_bind (slicePart_ pu (wpAny_bind (wpAny_pure ?_)))))
  show wpAny _ _ (pure ((n : Int) - 1, (-1 : Int), Builtin.Slice.slicePlaces ((n : Int) - 1) (-1) (-1))) _ _ s
  have e : Builtin.Slice.slicePlaces ((n : Int) - 1) (-1) (-1) = n := by
    unfold Builtin.Slice.slicePlaces
    rw [if_neg (by decide)]
    by_cases c : (n : Int) - 1 > -1
    · rw [if_pos c, show (- -1 : Int) = 1 by decide, Int.ediv_one]; omega
    · rw [if_neg c]; omega
  rw [e]
  exact wpAny_pure h
theorem pick_rev (xs : Array Value) : ((List.range xs.size).filterMap fun (m : Nat) => xs[((xs.size : Int) - 1 + (m : Int) * (-1)).toNat]?).toArray = xs.toList.reverse.toArray := by
  congr 1
  apply List.ext_getElem?
  intro i
  have e : (List.range xs.size).filterMap (fun (m : Nat) => xs[((xs.size : Int) - 1 + (m : Int) * (-1)).toNat]?) = (List.range xs.size).map fun m => xs[xs.size - 1 - m]?.getD .none := by
    have : ∀ l : List Nat, (∀ m ∈ l, m < xs.size) → l.filterMap (fun (m : Nat) => xs[((xs.size : Int) - 1 + (m : Int) * (-1)).toNat]?) = l.map fun m => xs[xs.size - 1 - m]?.getD .none := by
      intro l
      induction l with
      | nil => intro _; rfl
      | cons m l ih =>
        intro h
        have hm := h m (by simp)
        have e1 : ((xs.size : Int) - 1 + (m : Int) * (-1)).toNat = xs.size - 1 - m := by omega
        have e2 : xs[xs.size - 1 - m]? = some xs[xs.size - 1 - m] := by simp
        rw [List.filterMap_cons_some (b := xs[xs.size - 1 - m]) (by rw [e1, e2]), ih fun m h' => h m (by simp [h']), List.map_cons, e2]
        rfl
    exact this _ fun m h => List.mem_range.mp h
  rw [e]
  by_cases h : i < xs.size
  · rw [List.getElem?_map, List.getElem?_range h, List.getElem?_reverse (by simpa using h)]
    simp [show xs.size - 1 - i < xs.size by omega]
  · rw [List.getElem?_eq_none (by simp; omega), List.getElem?_eq_none (by simp; omega)]
theorem getItem_tuple_rev {t sl : Addr} {items : Array Value} {vl vu vs : Value} {Q : Value → Shared → Prop} (ht : IsTup s.heap t items) (hs : s.heap.IsSliceOf sl vl vu vs) (pl : IsPart vl none) (pu : IsPart vu none) (ps : IsPart vs (some (-1)))
    (h : Q (.ref s.heap.objs.size) { s with heap := s.heap.push { cls := .type "tuple", data := .seq items.toList.reverse.toArray } })
    (hsz : items.size ≤ sizeLine) : wpAny (model prog w) A (getItem (.ref t) (.ref sl)) Q E s := by
  have htake : sizeOk (.seq items.toList.reverse.toArray) := by
    show items.toList.reverse.toArray.size ≤ sizeLine
    rw [List.size_toArray, List.length_reverse, Array.length_toList]
    omega
  obtain ⟨os, hos, hcs, hds⟩ := id hs
  have hTs : s.TypeIs (.ref sl) "slice" := ⟨os, hos, hcs⟩
  unfold getItem
  try with_reducible refine wpAny_holding ?_
  first | refine wpAny_bind (wpAny_pure ?_) | skip
  refine wpAny_bind (wpAny_sequenceKey ht.typeIs (by decide) ?_)
  refine wpAny_bind (wpAny_callSpecial?_slot (name := Str.ofString "__getitem__") ht.typeIs PyProof.Rows.slot_tuple_getitem
    (wpAny_call_entry PyProof.Rows.slot_tuple_getitem ht.typeIs entry_tuple_getitem ?_ (args_tuple_getitem _ _)))
  show wpAny _ _ (Builtin.Tuple.tupleItemsOf (.ref t) >>= _) _ _ s
  refine wpAny_bind (tupleItemsOf_ ht ?_)
  refine wpAny_bind (wpAny_typeOf hTs ?_)
  rw [if_pos (by decide)]
  refine wpAny_bind (sliceApplied_rev hs pl pu ps ?_)
  have hno : ¬ ((((items.size : Int) - 1) == 0 && (-1 : Int) == 1 && items.size == items.size) = true) := by
    intro q
    rw [Bool.and_eq_true, Bool.and_eq_true] at q
    have := eq_of_beq q.1.2
    omega
  show wpAny _ _ (if (((items.size : Int) - 1) == 0 && (-1 : Int) == 1 && items.size == items.size) = true then _ else _) _ _ s
  rw [if_neg hno, pick_rev]
  first
    | exact wpAny_bind (m := Builtin.Tuple.tupleExact _) (wpAny_newObj_type (wpAny_pure ⟨_, rfl, wpAny_pure h⟩) htake)
    | exact wpAny_bind (m := Builtin.Tuple.tupleExact _) (wpAny_newObj_type (wpAny_bind (wpAny_pure (wpAny_pure ⟨_, rfl, wpAny_pure h⟩))) htake)
    | exact wpAny_bind (wpAny_bind (m := Builtin.Tuple.tupleExact _) (wpAny_newObj_type (wpAny_pure (wpAny_pure ⟨_, rfl, wpAny_pure h⟩)) htake))
    | exact wpAny_bind (wpAny_bind (m := Builtin.Tuple.tupleExact _) (wpAny_newObj_type (wpAny_pure ⟨_, rfl, wpAny_pure h⟩) htake))
end
section
variable {X : Cx}
def tRevA (K : PySem.W.Frag) (te : TE) : TE := fun σ H Q => te σ H fun x H1 => (∃ a xs, x = .ref a ∧ SqL K H1 a xs ∧ ∀ p, H1 p = none → Q (.ref p) (upd H1 p (.lst xs.reverse))) ∨ (∃ a xs, x = .ref a ∧ SqT K H1 a xs ∧ ∀ p, H1 p = none → Q (.ref p) (upd H1 p (.tup xs.reverse)))
theorem pe_revA {e : Expr} {te : TE} {k : Nat} {p1 p2 p3 pos : Pos} (he : PE X e te) : PE X (.Subscript e (.Slice none none (some (.UnaryOp .USub (.Constant (.int 1) k p1) p2)) p3) pos) (tRevA X.K te) := by
  refine ⟨fun pins s σ H Q I h => ?_⟩
  refine Subscript_ (thn (he.run pins s σ H _ I h) fun v s1 ⟨x, H1, I1, r1, q1⟩ => ?_)
  have hst : PO X (some (.UnaryOp .USub (.Constant (.int 1) k p1) p2)) (tPart (tUn (rU fun i => .int (-i)) (tC (.int 1)))) := po_some (pe_un un_neg pe_int)
  refine wpAny_Slice (thn (po_none.run pins s1 σ H1 (fun o H2 => o = none ∧ H2 = H1) I1 ⟨rfl, rfl⟩) fun vl s2 ⟨l, H2, I2, pl, el, e2⟩ => ?_)
  subst el e2
  refine thn (po_none.run pins s2 σ H2 (fun o H3 => o = none ∧ H3 = H2) I2 ⟨rfl, rfl⟩) fun vu s3 ⟨u, H3, I3, pu, eu, e3⟩ => ?_
  subst eu e3
  refine thn (hst.run pins s3 σ H3 (fun o H4 => o = some (-1) ∧ H4 = H3) I3 ⟨1, rfl, -1, rfl, rfl, rfl⟩) fun vs s4 ⟨o, H4, I4, ps, eo, e4⟩ => ?_
  subst eo e4
  have I5 : Inv X pins σ H4 { s4 with heap := s4.heap.push { cls := .type "slice", data := .fields #[vl, vu, vs] } } := I4.kept (t' := s4.toks) fun b ob q => Heap.get?_push_of_some _ q
  rcases q1 with ⟨a, xs, ex, hx, q⟩ | ⟨a, xs, ex, hx, q⟩
  · subst ex
    cases r1
    obtain ⟨its, r, ht, hz⟩ := I5.list hx
    have hlen := r.length
    show wpAny (model X.prog X.w) X.A (subscriptTail e (.Slice none none (some (.UnaryOp .USub (.Constant (.int 1) k p1) p2)) p3) (.ref a) (.ref s4.heap.objs.size)) (EP X pins σ Q) X.xe { s4 with heap := s4.heap.push { cls := .type "slice", data := .fields #[vl, vu, vs] } }
    refine tail_any (ops := [.ref a, .ref s4.heap.objs.size]) ht.isList.typeIs (PySem.slot_list_getitem.lookup) ?_ (by with_unfolding_all rfl)
    refine wpAny_getItem_list_slice ht.isList (Heap.IsSliceOf.new _ vl vu vs) pl pu ps (by decide) ?_ (by rw [List.size_toArray]; omega)
    rw [PySem.W.krv_pick]
    refine ⟨.ref _, _, I5.laid (t' := s4.toks) (o := .lst xs.reverse) (fun b ob q => Heap.get?_push_of_some _ q) (Nat.le_refl _) ?_, rfl, q _ (I5.hok.fresh (Nat.le_refl _))⟩
    exact ⟨by rw [List.length_reverse]; exact hz, _, 0, r.reverse, Heap.get?_push_size _ rfl⟩
  · subst ex
    cases r1
    obtain ⟨its, r, ht, hz⟩ := I5.tuple hx
    have hlen : its.toArray.size = xs.length := by rw [List.size_toArray]; exact r.length.symm
    show wpAny (model X.prog X.w) X.A (subscriptTail e (.Slice none none (some (.UnaryOp .USub (.Constant (.int 1) k p1) p2)) p3) (.ref a) (.ref s4.heap.objs.size)) (EP X pins σ Q) X.xe { s4 with heap := s4.heap.push { cls := .type "slice", data := .fields #[vl, vu, vs] } }
    refine tail_any (ops := [.ref a, .ref s4.heap.objs.size]) ht.typeIs (PyProof.Rows.slot_tuple_getitem.lookup) ?_ (by with_unfolding_all rfl)
    refine getItem_tuple_rev ht (Heap.IsSliceOf.new _ vl vu vs) pl pu ps ?_ (by rw [hlen]; exact hz)
    refine ⟨.ref _, _, I5.laid (t' := s4.toks) (o := .tup xs.reverse) (fun b ob q => Heap.get?_push_of_some _ q) (Nat.le_refl _) ?_, rfl, q _ (I5.hok.fresh (Nat.le_refl _))⟩
    exact ⟨by rw [List.length_reverse]; exact hz, _, r.reverse, IsTup.new _ _⟩
end
end Ev

set_option Elab.async false
set_option linter.all false
set_option maxRecDepth 100000
set_option maxHeartbeats 1000000
/-! Ev: zip of two tuples whose owned tuple may be out, at the library's level. -/
namespace RZ
open PySem
open PySem.Sem (wp)
abbrev IsZ (h : Heap) (z TI TO : Addr) (f : Value) (b : Bool) : Prop :=
  h.get? z = some { cls := .type "zip", dict := none, data := .fields #[f, .bool b, .bool false, .ref TI, .ref TO], slots := #[] }
def ZOk (f : Value) : Prop := f = .none ∨ ∃ a : Nat, f = rawInt (a : Int)
section
variable {prog : Program} {w : World} {A : Around} {E : Value → Shared → Prop} {s : Shared}
theorem wpAny_alive {a : Addr} {Q : Option Obj → Shared → Prop} (h : Q (s.heap.get? a) s) : wpAny (model prog w) A (loadIfAlive a) Q E s := by
  unfold loadIfAlive
  intro Γ p hΓ
  rw [Sem.wp_loadIfAlive]
  exact wpAny_pure h Γ p hΓ
theorem zfree {z TI TO : Addr} {f : Value} {b : Bool} {Q : Bool → Shared → Prop} (hf : ZOk f) (hz : IsZ s.heap z TI TO f b) (h1 : Q true s) (h2 : ∀ h' b', IsZ h' z TI TO f b' → Heap.SameBut z s.heap h' → Q false { s with heap := h' }) :
    wpAny (model prog w) A (Builtin.SmallTypes.ownedTupleIsFree (.ref z)) Q E s := by
  unfold Builtin.SmallTypes.ownedTupleIsFree
  refine wpAny_bind (wpAny_field hz rfl (x := f) rfl ?_)
  rcases hf with rfl | ⟨a, rfl⟩
  · exact wpAny_pure h1
  · show wpAny _ _ (loadIfAlive _ >>= _) _ _ _
    refine wpAny_bind (wpAny_alive ?_)
    cases hg : s.heap.get? (Int.toNat (a : Int)) with
    | none => exact wpAny_pure h1
    | some o =>
      simp only [Option.isNone_some, Bool.false_eq_true, if_false]
      refine wpAny_bind (wpAny_field hz rfl (x := .bool b) rfl ?_)
      cases b with
      | true =>
        exact wpAny_pure (h2 s.heap true hz ⟨rfl, fun _ _ => rfl⟩)
      | false =>
        refine wpAny_bind (wpAny_setField_rec hz (by simp) fun h₁ hz₁ hs₁ => ?_)
        exact wpAny_pure (h2 h₁ true hz₁ hs₁)
/-- what a turn leaves at another place -/
abbrev Keeps (z TO i1 i2 : Addr) (h h' : Heap) : Prop := ∀ c o, c ≠ z → c ≠ TO → c ≠ i1 → c ≠ i2 → h.get? c = some o → h'.get? c = some o
theorem zipZ_next_item {z TI TO i1 i2 l1 l2 : Addr} {k1 k2 : Nat} {xs ys : Array Value} {x y a b f : Value} {g : Bool} {Q : Value → Shared → Prop} (D : ZipApart z TI TO i1 i2 l1 l2) (hf : ZOk f)
    (hz : IsZ s.heap z TI TO f g) (hTI : IsPair s.heap TI (.ref i1) (.ref i2)) (hTO : IsPair s.heap TO a b)
    (h1 : s.heap.IsTupleIter i1 l1 k1) (h2 : s.heap.IsTupleIter i2 l2 k2) (hl1 : s.heap.IsTuple l1 xs) (hl2 : s.heap.IsTuple l2 ys) (hx : xs[k1]? = some x) (hy : ys[k2]? = some y)
    (hQ : ∀ h' f' g', ZOk f' → IsZ h' z TI TO f' g' → (∃ a' b', IsPair h' TO a' b') → h'.IsTupleIter i1 l1 (k1 + 1) → h'.IsTupleIter i2 l2 (k2 + 1) → IsPair h' s.heap.objs.size x y → h'.objs.size = s.heap.objs.size + 1 →
      Keeps z TO i1 i2 s.heap h' → Q (.ref s.heap.objs.size) { s with heap := h' }) :
    wpAny (model prog w) A (Builtin.«zip.__next__» ⟨[.ref z], []⟩) (fun fin s' => ∃ v, fin = .done (.ret v) ∧ Q v s') E s := by
  show wpAny _ _ (field (.ref z) 2 >>= _) _ _ _
  refine wpAny_bind (wpAny_field hz rfl (x := .bool false) rfl ?_)
  show wpAny _ _ (field (.ref z) 3 >>= _) _ _ _
  refine wpAny_bind (wpAny_field hz rfl (x := .ref TI) rfl ?_)
  refine wpAny_bind (wpAny_seqItems hTI rfl ?_)
  show wpAny _ _ (Builtin.SmallTypes.ownedTupleIsFree (.ref z) >>= _) _ _ _
  refine wpAny_bind (zfree hf hz ?_ fun h₁ g₁ hz₁ hs₁ => ?_)
  · simp only [if_true]
    refine wpAny_bind (wpAny_rule ?_)
    refine wpAny_bind (wpAny_field hz rfl (x := .ref TO) rfl ?_)
    refine wpAny_bind (wpAny_setField_rec hz (by simp) fun h₁ hz₁ hs₁ => ?_)
    replace hz₁ : IsZ h₁ z TI TO .ellipsis g := hz₁
    refine wpAny_bind ?_
    simp only [List.zipIdx_cons, List.zipIdx_nil, List.forIn_cons, List.forIn_nil]
    refine wpAny_bind (wpAny_bind (wpAny_onRaise ?_))
    show wpAny _ _ (Builtin.SmallTypes.nextOf (.ref i1) >>= _) _ _ _
    refine wpAny_bind (nextOf_tuple_item (h1.extBut hs₁.extBut D.i1z) (hl1.extBut hs₁.extBut D.l1z) hx fun h₂ h1₂ hs₂ => wpAny_pure ?_)
    have hTO₂ : IsPair h₂ TO a b := hs₂.extBut _ _ D.TOi1 (hs₁.extBut _ _ D.TOz hTO)
    refine wpAny_bind (wpAny_seqItems hTO₂ rfl ?_)
    refine wpAny_bind (wpAny_updateSeq_pair hTO₂ fun h₃ hTO₃ hs₃ => ?_)
    replace hTO₃ : IsPair h₃ TO x b := hTO₃
    refine wpAny_bind (wpAny_letGo (wpAny_pure ?_))
    refine wpAny_bind (wpAny_bind (wpAny_onRaise ?_))
    show wpAny _ _ (Builtin.SmallTypes.nextOf (.ref i2) >>= _) _ _ _
    refine wpAny_bind (nextOf_tuple_item (((h2.extBut hs₁.extBut D.i2z).extBut hs₂.extBut D.i12.symm).extBut hs₃.extBut D.TOi2.symm)
      (((hl2.extBut hs₁.extBut D.l2z).extBut hs₂.extBut D.l2i1).extBut hs₃.extBut D.l2TO) hy fun h₄ h2₄ hs₄ => wpAny_pure ?_)
    have hTO₄ : IsPair h₄ TO x b := hs₄.extBut _ _ D.TOi2 hTO₃
    refine wpAny_bind (wpAny_seqItems hTO₄ rfl ?_)
    refine wpAny_bind (wpAny_updateSeq_pair hTO₄ fun h₅ hTO₅ hs₅ => ?_)
    replace hTO₅ : IsPair h₅ TO x y := hTO₅
    refine wpAny_bind (wpAny_letGo (wpAny_pure (wpAny_pure ?_)))
    refine wpAny_bind (wpAny_seqItems hTO₅ rfl ?_)
    refine wpAny_bind (wpAny_newTuple ?_)
    have hsz : h₅.objs.size = s.heap.objs.size := by rw [hs₅.1, hs₄.1, hs₃.1, hs₂.1, hs₁.1]
    have hz₅ : IsZ h₅ z TI TO .ellipsis g := hs₅.extBut _ _ D.TOz.symm (hs₄.extBut _ _ D.i2z.symm (hs₃.extBut _ _ D.TOz.symm (hs₂.extBut _ _ D.i1z.symm hz₁)))
    have hk₅ : Keeps z TO i1 i2 s.heap h₅ := fun c o c1 c2 c3 c4 e => hs₅.extBut _ _ c2 (hs₄.extBut _ _ c4 (hs₃.extBut _ _ c2 (hs₂.extBut _ _ c3 (hs₁.extBut _ _ c1 e))))
    have h1₅ : h₅.IsTupleIter i1 l1 (k1 + 1) := ((h1₂.extBut hs₃.extBut D.TOi1.symm).extBut hs₄.extBut D.i12).extBut hs₅.extBut D.TOi1.symm
    have h2₅ : h₅.IsTupleIter i2 l2 (k2 + 1) := h2₄.extBut hs₅.extBut D.TOi2.symm
    have hzlt : z < h₅.objs.size := Heap.lt_size hz₅
    show wpAny _ _ (Builtin.SmallTypes.ownedTupleHandOut (.ref z) (.ref h₅.objs.size) >>= _) _ _ _
    refine wpAny_bind ?_
    unfold Builtin.SmallTypes.ownedTupleHandOut
    have hz₆ : IsZ (h₅.push { cls := .type "tuple", data := .seq #[x, y] }) z TI TO .ellipsis g := Heap.get?_push_of_some _ hz₅
    refine wpAny_bind (wpAny_setField_rec hz₆ (by simp) fun h₇ hz₇ hs₇ => ?_)
    replace hz₇ : IsZ h₇ z TI TO (rawInt h₅.objs.size) g := hz₇
    refine wpAny_setField_rec hz₇ (by simp) fun h₈ hz₈ hs₈ => ?_
    replace hz₈ : IsZ h₈ z TI TO (rawInt h₅.objs.size) false := hz₈
    have up : ∀ c o, c ≠ z → h₅.get? c = some o → h₈.get? c = some o := fun c o c1 e => hs₈.extBut _ _ c1 (hs₇.extBut _ _ c1 (Heap.get?_push_of_some _ e))
    have hT₈ : IsPair h₈ h₅.objs.size x y := hs₈.extBut _ _ (Nat.ne_of_gt hzlt) (hs₇.extBut _ _ (Nat.ne_of_gt hzlt) (Heap.get?_push_size _ rfl))
    have hz8 : h₈.objs.size = h₅.objs.size + 1 := by rw [hs₈.1, hs₇.1, Heap.size_push]
    rw [hsz] at hz₈ hT₈ hz8
    refine wpAny_pure ⟨_, rfl, ?_⟩
    show Q (.ref h₅.objs.size) _
    rw [hsz]
    exact hQ h₈ _ _ (.inr ⟨_, rfl⟩) hz₈ ⟨_, _, up _ _ D.TOz hTO₅⟩ (h1₅.at fun o e => up _ o D.i1z e) (h2₅.at fun o e => up _ o D.i2z e) hT₈ hz8 fun c o c1 c2 c3 c4 e => up c o c1 (hk₅ c o c1 c2 c3 c4 e)
  · simp only [Bool.false_eq_true, if_false]
    rw [← Array.forIn_toList]
    simp only [List.forIn_cons, List.forIn_nil]
    refine wpAny_bind ?_
    refine wpAny_bind (wpAny_bind (wpAny_holding ?_))
    show wpAny _ _ (Builtin.SmallTypes.nextOf (.ref i1) >>= _) _ _ _
    refine wpAny_bind (nextOf_tuple_item (h1.extBut hs₁.extBut D.i1z) (hl1.extBut hs₁.extBut D.l1z) hx fun h₂ h1₂ hs₂ => wpAny_pure ?_)
    refine wpAny_pure ?_
    refine wpAny_bind (wpAny_bind (wpAny_holding ?_))
    show wpAny _ _ (Builtin.SmallTypes.nextOf (.ref i2) >>= _) _ _ _
    refine wpAny_bind (nextOf_tuple_item ((h2.extBut hs₁.extBut D.i2z).extBut hs₂.extBut D.i12.symm) ((hl2.extBut hs₁.extBut D.l2z).extBut hs₂.extBut D.l2i1) hy fun h₃ h2₃ hs₃ => wpAny_pure ?_)
    refine wpAny_pure (wpAny_pure ?_)
    show wpAny _ _ (newTuple [x, y] >>= _) _ _ _
    refine wpAny_bind (wpAny_newTuple ?_)
    have hsz : h₃.objs.size = s.heap.objs.size := by rw [hs₃.1, hs₂.1, hs₁.1]
    have up : ∀ c o, h₃.get? c = some o → (h₃.push { cls := .type "tuple", data := .seq #[x, y] }).get? c = some o := fun c o e => Heap.get?_push_of_some _ e
    have hz₃ : IsZ h₃ z TI TO f g₁ := hs₃.extBut _ _ D.i2z.symm (hs₂.extBut _ _ D.i1z.symm hz₁)
    have hTO₃ : IsPair h₃ TO a b := hs₃.extBut _ _ D.TOi2 (hs₂.extBut _ _ D.TOi1 (hs₁.extBut _ _ D.TOz hTO))
    have h1₃ : h₃.IsTupleIter i1 l1 (k1 + 1) := h1₂.extBut hs₃.extBut D.i12
    refine wpAny_pure ⟨_, rfl, ?_⟩
    show Q (.ref h₃.objs.size) _
    rw [hsz]
    exact hQ (h₃.push { cls := .type "tuple", data := .seq #[x, y] }) f g₁ hf (up _ _ hz₃) ⟨_, _, up _ _ hTO₃⟩ (h1₃.at fun o e => up _ o e) (h2₃.at fun o e => up _ o e) (by rw [← hsz]; exact Heap.get?_push_size _ rfl) (by rw [Heap.size_push, hsz]) fun c o c1 c2 c3 c4 e => up c o (hs₃.extBut _ _ c4 (hs₂.extBut _ _ c3 (hs₁.extBut _ _ c1 e)))
theorem zipZ_next_end {z TI TO i1 i2 l1 l2 : Addr} {k1 k2 : Nat} {xs ys : Array Value} {a b f : Value} {g : Bool} {Q : Fin → Shared → Prop} (hh : A.handled = none) (D : ZipApart z TI TO i1 i2 l1 l2) (hf : ZOk f)
    (hz : IsZ s.heap z TI TO f g) (hTI : IsPair s.heap TI (.ref i1) (.ref i2)) (hTO : IsPair s.heap TO a b)
    (h1 : s.heap.IsTupleIter i1 l1 k1) (h2 : s.heap.IsTupleIter i2 l2 k2) (hl1 : s.heap.IsTuple l1 xs) (hl2 : s.heap.IsTuple l2 ys) (hend : xs[k1]? = none ∨ ys[k2]? = none)
    (hE : ∀ h' e, Keeps z TO i1 i2 s.heap h' → (∃ o, h'.get? e = some o ∧ o.cls = .type "StopIteration") → E (.ref e) { s with heap := h' }) :
    wpAny (model prog w) A (Builtin.«zip.__next__» ⟨[.ref z], []⟩) Q E s := by
  show wpAny _ _ (field (.ref z) 2 >>= _) _ _ _
  refine wpAny_bind (wpAny_field hz rfl (x := .bool false) rfl ?_)
  show wpAny _ _ (field (.ref z) 3 >>= _) _ _ _
  refine wpAny_bind (wpAny_field hz rfl (x := .ref TI) rfl ?_)
  refine wpAny_bind (wpAny_seqItems hTI rfl ?_)
  show wpAny _ _ (Builtin.SmallTypes.ownedTupleIsFree (.ref z) >>= _) _ _ _
  refine wpAny_bind (zfree hf hz ?_ fun h₁ g₁ hz₁ hs₁ => ?_)
  · simp only [if_true]
    refine wpAny_bind (wpAny_rule ?_)
    refine wpAny_bind (wpAny_field hz rfl (x := .ref TO) rfl ?_)
    refine wpAny_bind (wpAny_setField_rec hz (by simp) fun h₁ hz₁ hs₁ => ?_)
    replace hz₁ : IsZ h₁ z TI TO .ellipsis g := hz₁
    refine wpAny_bind ?_
    simp only [List.zipIdx_cons, List.zipIdx_nil, List.forIn_cons, List.forIn_nil]
    refine wpAny_bind (wpAny_bind (wpAny_onRaise ?_))
    show wpAny _ _ (Builtin.SmallTypes.nextOf (.ref i1) >>= _) _ _ _
    cases hx : xs[k1]? with
    | none =>
      refine wpAny_bind (nextOf_tuple_end hh (h1.extBut hs₁.extBut D.i1z) (hl1.extBut hs₁.extBut D.l1z) hx fun h₂ e hs₂ he => ?_)
      obtain ⟨oe, hoe, hce⟩ := he
      have hz₂ : IsZ h₂ z TI TO .ellipsis g := hs₂ _ _ D.i1z.symm hz₁
      have hez : e ≠ z := fun x => by subst x; rw [hz₂] at hoe; cases hoe; simp at hce
      refine wpAny_setField_rec hz₂ (by simp) fun h₃ _ hs₃ => hE h₃ e (fun c o c1 _ c3 _ x => hs₃.extBut _ _ c1 (hs₂ _ _ c3 (hs₁.extBut _ _ c1 x))) ⟨oe, hs₃.extBut _ _ hez hoe, hce⟩
    | some x =>
      have hy : ys[k2]? = none := by rcases hend with h | h; rw [hx] at h; cases h; exact h
      refine wpAny_bind (nextOf_tuple_item (h1.extBut hs₁.extBut D.i1z) (hl1.extBut hs₁.extBut D.l1z) hx fun h₂ h1₂ hs₂ => wpAny_pure ?_)
      have hTO₂ : IsPair h₂ TO a b := hs₂.extBut _ _ D.TOi1 (hs₁.extBut _ _ D.TOz hTO)
      refine wpAny_bind (wpAny_seqItems hTO₂ rfl ?_)
      refine wpAny_bind (wpAny_updateSeq_pair hTO₂ fun h₃ hTO₃ hs₃ => ?_)
      refine wpAny_bind (wpAny_letGo (wpAny_pure ?_))
      refine wpAny_bind (wpAny_bind (wpAny_onRaise ?_))
      show wpAny _ _ (Builtin.SmallTypes.nextOf (.ref i2) >>= _) _ _ _
      refine wpAny_bind (nextOf_tuple_end hh (((h2.extBut hs₁.extBut D.i2z).extBut hs₂.extBut D.i12.symm).extBut hs₃.extBut D.TOi2.symm)
        (((hl2.extBut hs₁.extBut D.l2z).extBut hs₂.extBut D.l2i1).extBut hs₃.extBut D.l2TO) hy fun h₄ e hs₄ he => ?_)
      obtain ⟨oe, hoe, hce⟩ := he
      have hz₄ : IsZ h₄ z TI TO .ellipsis g := hs₄ _ _ D.i2z.symm (hs₃.extBut _ _ D.TOz.symm (hs₂.extBut _ _ D.i1z.symm hz₁))
      have hez : e ≠ z := fun x => by subst x; rw [hz₄] at hoe; cases hoe; simp at hce
      refine wpAny_setField_rec hz₄ (by simp) fun h₅ _ hs₅ => hE h₅ e (fun c o c1 c2 c3 c4 x => hs₅.extBut _ _ c1 (hs₄ _ _ c4 (hs₃.extBut _ _ c2 (hs₂.extBut _ _ c3 (hs₁.extBut _ _ c1 x))))) ⟨oe, hs₅.extBut _ _ hez hoe, hce⟩
  · simp only [Bool.false_eq_true, if_false]
    rw [← Array.forIn_toList]
    simp only [List.forIn_cons, List.forIn_nil]
    refine wpAny_bind ?_
    refine wpAny_bind (wpAny_bind (wpAny_holding ?_))
    show wpAny _ _ (Builtin.SmallTypes.nextOf (.ref i1) >>= _) _ _ _
    cases hx : xs[k1]? with
    | none =>
      exact wpAny_bind (nextOf_tuple_end hh (h1.extBut hs₁.extBut D.i1z) (hl1.extBut hs₁.extBut D.l1z) hx fun h₂ e hs₂ he => hE h₂ e (fun c o c1 _ c3 _ x => hs₂ _ _ c3 (hs₁.extBut _ _ c1 x)) he)
    | some x =>
      have hy : ys[k2]? = none := by rcases hend with h | h; rw [hx] at h; cases h; exact h
      refine wpAny_bind (nextOf_tuple_item (h1.extBut hs₁.extBut D.i1z) (hl1.extBut hs₁.extBut D.l1z) hx fun h₂ h1₂ hs₂ => wpAny_pure ?_)
      refine wpAny_pure ?_
      refine wpAny_bind (wpAny_bind (wpAny_holding ?_))
      show wpAny _ _ (Builtin.SmallTypes.nextOf (.ref i2) >>= _) _ _ _
      exact wpAny_bind (nextOf_tuple_end hh ((h2.extBut hs₁.extBut D.i2z).extBut hs₂.extBut D.i12.symm) ((hl2.extBut hs₁.extBut D.l2z).extBut hs₂.extBut D.l2i1) hy fun h₃ e hs₃ he => hE h₃ e (fun c o c1 _ c3 c4 x => hs₃ _ _ c4 (hs₂.extBut _ _ c3 (hs₁.extBut _ _ c1 x))) he)
theorem nextOf_zipZ_item {z TI TO i1 i2 l1 l2 : Addr} {k1 k2 : Nat} {xs ys : Array Value} {x y a b f : Value} {g : Bool} {Q : Value → Shared → Prop} (D : ZipApart z TI TO i1 i2 l1 l2) (hf : ZOk f)
    (hz : IsZ s.heap z TI TO f g) (hTI : IsPair s.heap TI (.ref i1) (.ref i2)) (hTO : IsPair s.heap TO a b)
    (h1 : s.heap.IsTupleIter i1 l1 k1) (h2 : s.heap.IsTupleIter i2 l2 k2) (hl1 : s.heap.IsTuple l1 xs) (hl2 : s.heap.IsTuple l2 ys) (hx : xs[k1]? = some x) (hy : ys[k2]? = some y)
    (hQ : ∀ h' f' g', ZOk f' → IsZ h' z TI TO f' g' → (∃ a' b', IsPair h' TO a' b') → h'.IsTupleIter i1 l1 (k1 + 1) → h'.IsTupleIter i2 l2 (k2 + 1) → IsPair h' s.heap.objs.size x y → h'.objs.size = s.heap.objs.size + 1 →
      Keeps z TO i1 i2 s.heap h' → Q (.ref s.heap.objs.size) { s with heap := h' }) :
    wpAny (model prog w) A (Builtin.SmallTypes.nextOf (.ref z)) Q E s := by
  have hT : s.TypeIs (.ref z) "zip" := ⟨_, hz, rfl⟩
  unfold Builtin.SmallTypes.nextOf
  refine wpAny_bind (wpAny_callSpecial?_slot (name := Str.ofString "__next__") hT F.slot_zip_next
    (wpAny_call_entry F.slot_zip_next hT F.entry_zip_next
      (zipZ_next_item D hf hz hTI hTO h1 h2 hl1 hl2 hx hy fun h' f' g' a1 a2 a3 a4 a5 a6 a7 a8 => wpAny_pure (hQ h' f' g' a1 a2 a3 a4 a5 a6 a7 a8)) (F.args_zip_next_1 _)))
theorem nextOf_zipZ_end {z TI TO i1 i2 l1 l2 : Addr} {k1 k2 : Nat} {xs ys : Array Value} {a b f : Value} {g : Bool} {Q : Value → Shared → Prop} (hh : A.handled = none) (D : ZipApart z TI TO i1 i2 l1 l2) (hf : ZOk f)
    (hz : IsZ s.heap z TI TO f g) (hTI : IsPair s.heap TI (.ref i1) (.ref i2)) (hTO : IsPair s.heap TO a b)
    (h1 : s.heap.IsTupleIter i1 l1 k1) (h2 : s.heap.IsTupleIter i2 l2 k2) (hl1 : s.heap.IsTuple l1 xs) (hl2 : s.heap.IsTuple l2 ys) (hend : xs[k1]? = none ∨ ys[k2]? = none)
    (hE : ∀ h' e, Keeps z TO i1 i2 s.heap h' → (∃ o, h'.get? e = some o ∧ o.cls = .type "StopIteration") → E (.ref e) { s with heap := h' }) :
    wpAny (model prog w) A (Builtin.SmallTypes.nextOf (.ref z)) Q E s := by
  have hT : s.TypeIs (.ref z) "zip" := ⟨_, hz, rfl⟩
  unfold Builtin.SmallTypes.nextOf
  exact wpAny_bind (wpAny_callSpecial?_slot (name := Str.ofString "__next__") hT F.slot_zip_next
    (wpAny_call_entry F.slot_zip_next hT F.entry_zip_next (zipZ_next_end hh D hf hz hTI hTO h1 h2 hl1 hl2 hend hE) (F.args_zip_next_1 _)))
end
end RZ

set_option Elab.async false
set_option linter.all false
set_option maxRecDepth 100000
set_option maxHeartbeats 1000000
/-! Ev: enumerate over what draws anything, at the library's level. -/
namespace RZ
open PySem
open PySem.Sem (wp)
open L2
section
variable {prog : Program} {w : World} {A : Around} {E : Value → Shared → Prop} {s : Shared}
theorem enum_next_gen {e it : Addr} {i : Int} {old : Value} {Q : Value → Shared → Prop} (he : IsEnum s.heap e it i old)
    (hN : wpAny (model prog w) A (Builtin.SmallTypes.nextOf (.ref it)) (fun x s₁ => IsEnum s₁.heap e it i old ∧ ∀ h', IsEnumOut h' e it (i + 1) x s₁.heap.objs.size → h'.get? s₁.heap.objs.size = some { cls := .type "tuple", data := .seq #[.int i s₁.toks, x] } → h'.objs.size = s₁.heap.objs.size + 1 →
      (∀ b o, b ≠ e → s₁.heap.get? b = some o → h'.get? b = some o) → Q (.ref s₁.heap.objs.size) { s₁ with heap := h', toks := s₁.toks + 1 }) E s) :
    wpAny (model prog w) A (Builtin.«enumerate.__next__» ⟨[.ref e], []⟩) (fun fin s' => ∃ v, fin = .done (.ret v) ∧ Q v s') E s := by
  show wpAny _ _ (field (.ref e) 2 >>= _) _ _ _
  refine wpAny_bind (wpAny_field he rfl (x := .ref it) rfl ?_)
  refine wpAny_bind (thn hN fun x s₁ hq => ?_)
  obtain ⟨he₁, hQ⟩ := hq
  obtain ⟨h₁, g, d, tk, os⟩ := s₁
  replace he₁ : IsEnum h₁ e it i old := he₁
  show wpAny _ _ (field (.ref e) 3 >>= _) _ _ ⟨h₁, g, d, tk, os⟩
  refine wpAny_bind (wpAny_field he₁ rfl (x := rawInt i) rfl ?_)
  show wpAny _ _ (field (.ref e) 4 >>= _) _ _ ⟨h₁, g, d, tk, os⟩
  refine wpAny_bind (wpAny_field he₁ rfl (x := .none) rfl ?_)
  show wpAny _ _ (mkInt i >>= _) _ _ ⟨h₁, g, d, tk, os⟩
  refine wpAny_bind (wpAny_mkInt ?_)
  show wpAny _ _ (setField (.ref e) 3 (rawInt (i + 1)) >>= _) _ _ ⟨h₁, g, d, tk + 1, os⟩
  refine wpAny_bind (wpAny_setField_rec he₁ (by simp) fun h₂ he₂ hs₂ => ?_)
  replace hs₂ : Heap.SameBut e h₁ h₂ := hs₂
  replace he₂ : IsEnum h₂ e it (i + 1) old := he₂
  show wpAny _ _ (setField (.ref e) 4 .none >>= _) _ _ ⟨h₂, g, d, tk + 1, os⟩
  refine wpAny_bind (wpAny_setField_rec he₂ (by simp) fun h₃ he₃ hs₃ => ?_)
  replace hs₃ : Heap.SameBut e h₂ h₃ := hs₃
  replace he₃ : IsEnum h₃ e it (i + 1) old := he₃
  show wpAny _ _ (newTuple [.int i tk, x] >>= _) _ _ ⟨h₃, g, d, tk + 1, os⟩
  refine wpAny_bind (wpAny_newTuple ?_)
  have he₄ : IsEnum (h₃.push { cls := .type "tuple", data := .seq #[.int i tk, x] }) e it (i + 1) old := Heap.get?_push_of_some _ he₃
  generalize hh₄ : h₃.push { cls := .type "tuple", data := .seq #[.int i tk, x] } = h₄ at he₄
  have hsz : h₃.objs.size = h₁.objs.size := by rw [hs₃.1, hs₂.1]
  have hel : e < h₁.objs.size := Heap.lt_size he₁
  have ht₄ : h₄.get? h₁.objs.size = some { cls := .type "tuple", data := .seq #[.int i tk, x] } := by rw [← hh₄, ← hsz]; exact Heap.get?_push_size _ rfl
  have hz₄ : h₄.objs.size = h₁.objs.size + 1 := by rw [← hh₄, Heap.size_push, hsz]
  have hk₄ : ∀ b o, b ≠ e → h₁.get? b = some o → h₄.get? b = some o := fun b o hbe hb => by
    rw [← hh₄]; exact Heap.get?_push_of_some _ (hs₃.extBut b o hbe (hs₂.extBut b o hbe hb))
  show wpAny _ _ (Builtin.SmallTypes.ownedTupleIsFree (.ref e) >>= _) _ _ ⟨h₄, g, d, tk + 1, os⟩
  rw [hsz]
  clear hh₄ he₃ hs₃ he₂ hs₂ hsz h₃ h₂
  refine wpAny_bind ?_
  unfold Builtin.SmallTypes.ownedTupleIsFree
  refine wpAny_bind (wpAny_field he₄ rfl (x := .none) rfl (wpAny_pure ?_))
  simp only [if_true]
  refine wpAny_bind (wpAny_rule ?_)
  refine wpAny_bind (wpAny_field he₄ rfl (x := old) rfl ?_)
  refine wpAny_bind (wpAny_setField_rec he₄ (by simp) fun h₅ he₅ hs₅ => ?_)
  replace hs₅ : Heap.SameBut e h₄ h₅ := hs₅
  replace he₅ : IsEnum h₅ e it (i + 1) x := he₅
  show wpAny _ _ (Builtin.SmallTypes.ownedTupleHandOut (.ref e) (.ref h₁.objs.size) >>= _) _ _ ⟨h₅, g, d, tk + 1, os⟩
  refine wpAny_bind ?_
  unfold Builtin.SmallTypes.ownedTupleHandOut
  refine wpAny_bind (wpAny_setField_rec he₅ (by simp) fun h₆ he₆ hs₆ => ?_)
  replace hs₆ : Heap.SameBut e h₅ h₆ := hs₆
  replace he₆ : IsEnumOut h₆ e it (i + 1) x h₁.objs.size := he₆
  refine wpAny_setField_rec he₆ (by simp) fun h₇ he₇ hs₇ => ?_
  replace hs₇ : Heap.SameBut e h₆ h₇ := hs₇
  replace he₇ : IsEnumOut h₇ e it (i + 1) x h₁.objs.size := he₇
  refine wpAny_bind (wpAny_letGo (wpAny_pure ⟨_, rfl, hQ h₇ he₇ ?_ ?_ ?_⟩))
  · exact hs₇.extBut _ _ (Nat.ne_of_gt hel) (hs₆.extBut _ _ (Nat.ne_of_gt hel) (hs₅.extBut _ _ (Nat.ne_of_gt hel) ht₄))
  · rw [hs₇.1, hs₆.1, hs₅.1, hz₄]
  · exact fun b o hbe hb => hs₇.extBut b o hbe (hs₆.extBut b o hbe (hs₅.extBut b o hbe (hk₄ b o hbe hb)))
theorem pyNext_enum_gen {e it : Addr} {i : Int} {old : Value} {Q : Option Value → Shared → Prop} (he : IsEnum s.heap e it i old)
    (hN : ∀ E', wpAny (model prog w) A.in1 (Builtin.SmallTypes.nextOf (.ref it)) (fun x s₁ => IsEnum s₁.heap e it i old ∧ ∀ h', IsEnumOut h' e it (i + 1) x s₁.heap.objs.size → h'.get? s₁.heap.objs.size = some { cls := .type "tuple", data := .seq #[.int i s₁.toks, x] } → h'.objs.size = s₁.heap.objs.size + 1 →
      (∀ b o, b ≠ e → s₁.heap.get? b = some o → h'.get? b = some o) → Q (some (.ref s₁.heap.objs.size)) { s₁ with heap := h', toks := s₁.toks + 1 }) E' s) :
    wpAny (model prog w) A (pyNext (.ref e)) Q E s := by
  have hT : s.TypeIs (.ref e) "enumerate" := ⟨_, he, rfl⟩
  unfold pyNext
  exact wpAny_bind (wpAny_attempt (wpAny_callSpecial?_slot (name := Str.ofString "__next__") hT F.slot_enumerate_next
    (wpAny_call_entry F.slot_enumerate_next hT F.entry_enumerate_next
      (enum_next_gen he (thn (hN _) fun x s₁ h => ⟨h.1, fun h' a b c d => wpAny_pure (h.2 h' a b c d)⟩)) (F.args_enumerate_next_1 _))))
theorem pyNext_enum_end_gen {e it : Addr} {i : Int} {old : Value} {Q : Option Value → Shared → Prop} (he : IsEnum s.heap e it i old)
    (hN : ∀ {Q' : Value → Shared → Prop} {E' : Value → Shared → Prop}, (∀ h' x, (∃ o, h'.get? x = some o ∧ o.cls = .type "StopIteration") → Q none { s with heap := h' } → E' (.ref x) { s with heap := h' }) → wpAny (model prog w) A.in1 (Builtin.SmallTypes.nextOf (.ref it)) Q' E' s) :
    wpAny (model prog w) A (pyNext (.ref e)) Q E s := by
  have hT : s.TypeIs (.ref e) "enumerate" := ⟨_, he, rfl⟩
  unfold pyNext
  refine wpAny_bind (wpAny_attempt (wpAny_callSpecial?_slot (name := Str.ofString "__next__") hT F.slot_enumerate_next
    (wpAny_call_entry F.slot_enumerate_next hT F.entry_enumerate_next ?_ (F.args_enumerate_next_1 _))))
  show wpAny _ _ (field (.ref e) 2 >>= _) _ _ _
  refine wpAny_bind (wpAny_field he rfl (x := .ref it) rfl ?_)
  refine wpAny_bind (hN fun h' x hx hq => ?_)
  obtain ⟨o, ho, hc⟩ := hx
  refine wpAny_bind (wpAny_isInstance (T := "StopIteration") (b := true) ⟨o, ho, hc⟩ isSubtype_stop ?_)
  exact wpAny_pure hq
end
end RZ

set_option Elab.async false
set_option linter.all false
set_option maxRecDepth 100000
set_option maxHeartbeats 1000000
/-! Ev: enumerate(a zip), made. -/
namespace RZ
open PySem
open PySem.Sem (wp)
open AutoSeq1 (wpAny_loadPart')
open L2
abbrev enumObj (z : Addr) : Obj := { cls := .type "enumerate", data := .fields #[.none, .bool false, .ref z, rawInt 0, .none, .none] }
theorem meets_enumerate_newZ (z TI TO : Addr) :
    Meets (Builtin.«enumerate.__new__» ⟨[.type "enumerate", .ref z], []⟩) (fun _ R s => IsZip s.heap z TI TO .none ∧
      R (.ok (.ret (.ref s.heap.objs.size))) { s with heap := s.heap.push (enumObj z) }) :=
  .of_wp fun prog w A R s h => by
    obtain ⟨hp, g, d, tk, os⟩ := s; obtain ⟨hl, h⟩ := h
    have hsub := sub_enumerate
    have hz : IsZip (Shared.heap ⟨hp, g, d, tk, os⟩) z TI TO .none := hl
    wp_walk using wpAny_loadPart' hl
    refine wpAny_stack_any fun st => wpAny_pure ?_
    split
    · rename_i c _ _ _ _ _
      cases (c == Value.type "enumerate")
      · wp_walk using wpAny_loadPart' hl, wpAny_pyIter_zip hz
        exact ⟨_, rfl, h⟩
      · wp_walk using wpAny_loadPart' hl, wpAny_pyIter_zip hz
        exact ⟨_, rfl, h⟩
    · wp_walk using wpAny_loadPart' hl, wpAny_pyIter_zip hz
      exact ⟨_, rfl, h⟩
section
variable {prog : Program} {w : World} {A : Around} {E : Value → Shared → Prop} {s : Shared}
theorem call_enumerate_zip {z TI TO : Addr} {Q : Value → Shared → Prop} (hz : IsZip s.heap z TI TO .none)
    (h : ∀ h', IsEnum h' s.heap.objs.size z 0 .none → h'.objs.size = s.heap.objs.size + 1 → (∀ b o, s.heap.get? b = some o → h'.get? b = some o) → Q (.ref s.heap.objs.size) { s with heap := h' }) :
    wpAny (model prog w) A (call (.type "enumerate") [.ref z]) Q E s := by
  refine callType_new F.called_enumerate (by decide) (F.typeCall_enumerate_1 _) (F.newCall_enumerate_1 _) (fun obj => F.args_object_init_2 obj _) F.entry_enumerate_new
    (meets_enumerate_newZ z TI TO) ⟨hz, ?_⟩
  have he : IsEnum (s.heap.push (enumObj z)) s.heap.objs.size z 0 .none := Heap.get?_push_size _ rfl
  exact ⟨⟨_, he, rfl⟩, h _ he (Heap.size_push ..) fun b o x => Heap.get?_push_of_some _ x⟩
end
end RZ

set_option Elab.async false
set_option linter.all false
set_option maxRecDepth 100000
set_option maxHeartbeats 1000000
/-! Ev: enumerate(zip(..)) of two tuples, as an iterator. -/
namespace RZ
open PySem PySem.Spec PyProof.Rows L2
/-- the tuples at a and b as they stand at each turn, the items in new pairs, in new pairs with the index -/
def ItEZ (K : PySem.W.Frag) (a b : Addr) : It :=
  ⟨fun i H => ∃ (xs ys : List V) (x y : V), SqT K H a xs ∧ SqT K H b ys ∧ xs[i]? = some x ∧ ys[i]? = some y,
    fun i H v H' => ∃ T1 T2 x y, v = .ref T2 ∧ H T1 = none ∧ upd H T1 (.tup [x, y]) T2 = none ∧ H' = upd (upd H T1 (.tup [x, y])) T2 (.tup [.int (i : Nat), .ref T1]) ∧ (∀ xs, SqT K H a xs → xs[i]? = some x) ∧ ∀ ys, SqT K H b ys → ys[i]? = some y,
    fun i H => ∃ xs ys : List V, SqT K H a xs ∧ SqT K H b ys ∧ (xs.length ≤ i ∨ ys.length ≤ i)⟩
structure EzSt (a b e z TI TO i1 i2 : Addr) (i : Nat) (h : Heap) : Prop where
  en : ∃ old, IsEnum h e z ((i : Nat) : Int) old
  zp : ∃ f g, ZOk f ∧ IsZ h z TI TO f g
  ti : IsPair h TI (.ref i1) (.ref i2)
  to : ∃ x y, IsPair h TO x y
  it1 : h.IsTupleIter i1 a i
  it2 : h.IsTupleIter i2 b i
theorem turn_ez {P : Program} {w : World} {K : PySem.W.Frag} {elts : List Expr} {kk : Nat} {tpos : Pos} {a b e z TI TO i1 i2 : Addr} (D : ZipApart z TI TO i1 i2 a b) (hne : e ≠ z ∧ e ≠ TI ∧ e ≠ TO ∧ e ≠ i1 ∧ e ≠ i2) :
    Turn P w K (.Tuple elts kk tpos) (ItEZ K a b) [e, z, TI, TO, i1, i2] e (EzSt a b e z TI TO i1 i2) where
  mem := by simp
  obj := fun i h st c hc => by
    obtain ⟨⟨old, he⟩, ⟨f, g, hf, hz⟩, hTI, ⟨x, y, hTO⟩, ⟨o1, e1, _, d1⟩, ⟨o2, e2, _, d2⟩⟩ := st
    have e' : c = e ∨ c = z ∨ c = TI ∨ c = TO ∨ c = i1 ∨ c = i2 := by simpa using hc
    rcases e' with q | q | q | q | q | q
    · rw [q]; exact ⟨_, he, fun v q => nomatch q⟩
    · rw [q]; exact ⟨_, hz, fun v q => nomatch q⟩
    · rw [q]; exact ⟨_, hTI, fun v q => nomatch q⟩
    · rw [q]; exact ⟨_, hTO, fun v q => nomatch q⟩
    · rw [q]; exact ⟨o1, e1, fun v q => by rw [d1] at q; cases q⟩
    · rw [q]; exact ⟨o2, e2, fun v q => by rw [d2] at q; cases q⟩
  keep := fun i h h' st k => by
    obtain ⟨⟨old, he⟩, ⟨f, g, hf, hz⟩, hTI, ⟨x, y, hTO⟩, h1, h2⟩ := st
    exact ⟨⟨old, k e (by simp) _ he⟩, ⟨f, g, hf, k z (by simp) _ hz⟩, k TI (by simp) _ hTI, ⟨x, y, k TO (by simp) _ hTO⟩, h1.at fun o q => k i1 (by simp) o q, h2.at fun o q => k i2 (by simp) o q⟩
  item := by
    intro X hP hw hK hc i pins s σ H E I hf st hg
    subst hP hw hK
    obtain ⟨⟨old, he⟩, ⟨f, g, hzo, hz⟩, hTI, ⟨x0, y0, hTO⟩, h1, h2⟩ := st
    obtain ⟨n1, n2, n3, n4, n5⟩ := hne
    obtain ⟨xs, ys, x, y, hqx, hqy, hx, hy⟩ := hg
    obtain ⟨its, rv, p, _⟩ := I.tuple hqx
    obtain ⟨its2, rv2, p2, _⟩ := I.tuple hqy
    obtain ⟨u, hu, ru⟩ := rv.get hx
    obtain ⟨u2, hu2, ru2⟩ := rv2.get hy
    have hel : e < s.heap.objs.size := Heap.lt_size he
    have lts : ∀ c ∈ [e, z, TI, TO, i1, i2], c < s.heap.objs.size := fun c hcm => by
      have e' : c = e ∨ c = z ∨ c = TI ∨ c = TO ∨ c = i1 ∨ c = i2 := by simpa using hcm
      rcases e' with q | q | q | q | q | q
      · rw [q]; exact hel
      · rw [q]; exact Heap.lt_size hz
      · rw [q]; exact Heap.lt_size hTI
      · rw [q]; exact Heap.lt_size hTO
      · rw [q]; obtain ⟨_, e1, _⟩ := h1; exact Heap.lt_size e1
      · rw [q]; obtain ⟨_, e2, _⟩ := h2; exact Heap.lt_size e2
    refine pyNext_enum_gen he fun E' => ?_
    refine nextOf_zipZ_item D hzo hz hTI hTO h1 h2 p p2 (x := u) (y := u2) (by simpa using hu) (by simpa using hu2) fun h₁ f' g' zo z₁ TO₁ h1₁ h2₁ hT₁ hsz₁ hk₁ => ⟨hk₁ _ _ n1 n3 n4 n5 he, fun h' ho hT hsz hk => ?_⟩
    replace hsz₁ : h₁.objs.size = s.heap.objs.size + 1 := hsz₁
    have hel' : ∀ c ∈ [e, z, TI, TO, i1, i2], c < h₁.objs.size := fun c hcm => Nat.lt_of_lt_of_le (lts c hcm) (by rw [hsz₁]; exact Nat.le_succ _)
    replace ho : IsEnumOut h' e z ((i : Int) + 1) (.ref s.heap.objs.size) h₁.objs.size := ho
    replace hk : ∀ b o, b ≠ e → h₁.get? b = some o → h'.get? b = some o := hk
    replace hT : h'.get? h₁.objs.size = some { cls := .type "tuple", data := .seq #[.int (i : Int) s.toks, .ref s.heap.objs.size] } := hT
    refine ⟨_, rfl, wpAny_letOwnedTupleGo_enum (s := { s with heap := h', toks := s.toks + 1 }) ho fun h'' he' sb => ?_⟩
    replace sb : Heap.SameBut e h' h'' := sb
    have he1 : e < h₁.objs.size := hel' e (by simp)
    have up : ∀ b o, b ≠ e → h₁.get? b = some o → h''.get? b = some o := fun b o hb q => (sb.2 b hb).trans (hk b o hb q)
    have new1 : ObjOk X.prog X.w (upd H s.heap.objs.size (.tup [x, y])) h₁ s.heap.objs.size (.tup [x, y]) :=
      ⟨by show 2 ≤ sizeLine; decide, [u, u2], .cons ru (.cons ru2 .nil), ⟨_, hT₁, rfl, _, rfl⟩⟩
    have I1 : Inv X pins σ (upd H s.heap.objs.size (.tup [x, y])) { s with heap := h₁, toks := s.toks } :=
      I.turnedNew (t' := s.toks) (ch := [e, z, TI, TO, i1, i2]) (fun c o hb q => hk₁ c o (fun q' => hb (by simp [q'])) (fun q' => hb (by simp [q'])) (fun q' => hb (by simp [q'])) (fun q' => hb (by simp [q'])) q) hf (Nat.le_refl _) new1
    have hn1 : ∀ c ∈ [e, z, TI, TO, i1, i2], upd H s.heap.objs.size (.tup [x, y]) c = none := fun c hcm => by
      rw [upd_ne (Nat.ne_of_lt (lts c hcm))]; exact (hf c hcm).1
    have hf1 : ∀ c ∈ [e], FpOk X pins (upd H s.heap.objs.size (.tup [x, y])) c := fun c hcm => by
      have hce : c = e := by simpa using hcm
      subst hce
      exact ⟨hn1 c (by simp), (hf c (by simp)).2⟩
    have hT2 : h''.get? h₁.objs.size = some { cls := .type "tuple", data := .seq #[.int (i : Int) s.toks, .ref s.heap.objs.size] } := (sb.2 _ (Nat.ne_of_gt he1)).trans hT
    have new2 : ObjOk X.prog X.w (upd (upd H s.heap.objs.size (.tup [x, y])) h₁.objs.size (.tup [.int (i : Nat), .ref s.heap.objs.size])) h'' h₁.objs.size (.tup [.int (i : Nat), .ref s.heap.objs.size]) :=
      ⟨by show 2 ≤ sizeLine; decide, [.int (i : Int) s.toks, .ref s.heap.objs.size], .cons ⟨_, rfl⟩ (.cons rfl .nil), ⟨_, hT2, rfl, _, rfl⟩⟩
    have I2 : Inv X pins σ (upd (upd H s.heap.objs.size (.tup [x, y])) h₁.objs.size (.tup [.int (i : Nat), .ref s.heap.objs.size])) { s with heap := h'', toks := s.toks + 1 } :=
      I1.turnedNew (ch := [e]) (fun c o hb q => up c o (fun q' => hb (by simp [q'])) q) hf1 (Nat.le_refl _) new2
    refine ⟨.ref h₁.objs.size, _, I2, rfl, ⟨_, _, x, y, rfl, I.hok.fresh (Nat.le_refl _), I1.hok.fresh (Nat.le_refl _), rfl, fun l hl => by rw [I.tuple_inj hl hqx]; exact hx, fun l hl => by rw [I.tuple_inj hl hqy]; exact hy⟩, ⟨⟨.ref s.heap.objs.size, ?_⟩, ⟨f', g', zo, up _ _ n1.symm z₁⟩, ?_, ?_, h1₁.at fun o q => up _ o n4.symm q, h2₁.at fun o q => up _ o n5.symm q⟩, fun c hcm => ?_⟩
    · have e1 : ((i + 1 : Nat) : Int) = (i : Int) + 1 := by omega
      rw [e1]; exact he'
    · exact up _ _ n2.symm (hk₁ _ _ D.TIz D.TITO D.TIi1 D.TIi2 hTI)
    · obtain ⟨a', b', q⟩ := TO₁; exact ⟨a', b', up _ _ n3.symm q⟩
    · rw [upd_ne (Nat.ne_of_lt (hel' c hcm))]
      exact hn1 c hcm
  done := by
    intro X hP hw hK hc i pins s σ H E I hf st hg
    subst hP hw hK
    obtain ⟨⟨old, he⟩, ⟨f, g, hzo, hz⟩, hTI, ⟨x0, y0, hTO⟩, h1, h2⟩ := st
    obtain ⟨xs, ys, hqx, hqy, hend⟩ := hg
    obtain ⟨its, rv, p, _⟩ := I.tuple hqx
    obtain ⟨its2, rv2, p2, _⟩ := I.tuple hqy
    have l1 := rv.length
    have l2 := rv2.length
    have hend' : its.toArray[i]? = none ∨ its2.toArray[i]? = none := by
      rcases hend with q | q
      · exact .inl (by simp; omega)
      · exact .inr (by simp; omega)
    refine pyNext_enum_end_gen he fun {Q' E'} hE => ?_
    refine nextOf_zipZ_end (I.ok.hd hc) D hzo hz hTI hTO h1 h2 p p2 hend' fun h' x hk hx => hE h' x hx ⟨rfl, ?_⟩
    exact I.turnedL (t' := s.toks) (ch := [e, z, TI, TO, i1, i2]) (fun c o hb q => hk c o (fun q' => hb (by simp [q'])) (fun q' => hb (by simp [q'])) (fun q' => hb (by simp [q'])) (fun q' => hb (by simp [q'])) q) hf
  self := fun A i s Q E st h => let ⟨_, he⟩ := st.en; wpAny_pyIter_enum he h
end RZ

set_option Elab.async false
set_option linter.all false
set_option maxRecDepth 100000
set_option maxHeartbeats 1000000
/-! Ev: for i, (x, y) in enumerate(zip(a, b)), a and b tuples. -/
namespace RZ
open PySem PySem.Spec PyProof.Rows L2
def iEZ (K : PySem.W.Frag) (ta : TA) : TI := fun σ H R => ta σ H fun vs H1 => ∃ a b xs ys, vs = [.ref a, .ref b] ∧ SqT K H1 a xs ∧ SqT K H1 b ys ∧ R (ItEZ K a b) H1
theorem pi_ez {X : Cx} {e e2 : Expr} {ta : TA} {p p2 pos pos2 tpos : Pos} {elts : List Expr} {kk : Nat} (hg : Gl X "enumerate") (hm : X.mg "enumerate" = none) (hg2 : Gl X "zip") (hm2 : X.mg "zip" = none) (ha : PA X [e, e2] ta)
    (hs : starEach [e, e2] X.env = (false, eval e X.env) :: starEach [e2] X.env := by rfl) (hpl : (backTo pos2 (starEach [e2] X.env)).any (·.1) = false := by rfl) :
    PI X (.Tuple elts kk tpos) (.Call (.Name "enumerate" p) [.Call (.Name "zip" p2) [e, e2] [] pos2] [] pos) (iEZ X.K ta) := by
  refine ⟨fun pins s σ H R I h => ?_⟩
  refine Call_ (ld_blt I hg hm boot_enumerate (PyProof.Rows.callWith_type1 ?_ rfl rfl))
  refine Calls.spliced_cons ?_
  refine Call_ (ld_blt I hg2 hm2 PyProof.Rows.boot_zip (PyProof.Rows.callWith_type1 (thn (ha.run pos2 pins s σ H _ I h) fun us s1 ⟨vs, H1, I1, r1, q1⟩ => ?_) hs hpl))
  obtain ⟨a, b, xs, ys, ex, hqx, hqy, q⟩ := q1
  subst ex
  cases r1 with
  | cons r rr =>
    cases rr with
    | cons r' rr =>
      cases rr
      cases r
      cases r'
      obtain ⟨its, rv, p1, _⟩ := I1.tuple hqx
      obtain ⟨its2, rv2, p2, _⟩ := I1.tuple hqy
      obtain ⟨o1, ho1, _⟩ := id p1
      obtain ⟨o2, ho2, _⟩ := id p2
      refine call_zipT (show s1.heap.IsTuple a its.toArray from p1) (show s1.heap.IsTuple b its2.toArray from p2) fun h' hz hTI hTO h1 h2 hsz hk => Calls.spliced_nil ?_
      refine call_enumerate_zip (s := { s1 with heap := h' }) hz fun h'' he hsz2 hk2 => wpAny_pyIter_enum he ?_
      replace he : IsEnum h'' h'.objs.size (s1.heap.objs.size + 4) 0 .none := he
      replace hk2 : ∀ b o, h'.get? b = some o → h''.get? b = some o := hk2
      have I2 : Inv X pins σ H1 { s1 with heap := h'' } := I1.kept (t' := s1.toks) fun b o x => hk2 b o (hk b o x)
      have hle : ∀ c ∈ [h'.objs.size, s1.heap.objs.size + 4, s1.heap.objs.size + 2, s1.heap.objs.size + 3, s1.heap.objs.size, s1.heap.objs.size + 1], s1.heap.objs.size ≤ c := fun c hcm => by
        have e' : c = h'.objs.size ∨ c = s1.heap.objs.size + 4 ∨ c = s1.heap.objs.size + 2 ∨ c = s1.heap.objs.size + 3 ∨ c = s1.heap.objs.size ∨ c = s1.heap.objs.size + 1 := by simpa using hcm
        rcases e' with z | z | z | z | z | z
        · rw [z, hsz]; exact Nat.le_add_right _ _
        · rw [z]; exact Nat.le_add_right _ _
        · rw [z]; exact Nat.le_add_right _ _
        · rw [z]; exact Nat.le_add_right _ _
        · rw [z]; exact Nat.le_refl _
        · rw [z]; exact Nat.le_add_right _ _
      have big : ∀ m, m < 5 → h'.objs.size ≠ s1.heap.objs.size + m := fun m hm => by rw [hsz]; exact Nat.ne_of_gt (Nat.add_lt_add_left hm _)
      refine ⟨h'.objs.size, [h'.objs.size, s1.heap.objs.size + 4, s1.heap.objs.size + 2, s1.heap.objs.size + 3, s1.heap.objs.size, s1.heap.objs.size + 1], _, _, H1, rfl, I2, turn_ez (PySem.W.ktu_apart s1.heap.objs.size a b (Heap.lt_size ho1) (Heap.lt_size ho2)) ⟨big 4 (by decide), big 2 (by decide), big 3 (by decide), big 0 (by decide), big 1 (by decide)⟩,
        ⟨⟨_, he⟩, ⟨_, _, .inl rfl, hk2 _ _ hz⟩, hk2 _ _ hTI, ⟨_, _, hk2 _ _ hTO⟩, h1.at fun o x => hk2 _ o x, h2.at fun o x => hk2 _ o x⟩, fun c hcm => I1.fpOk (hle c hcm) (I1.hok.fresh (hle c hcm)), q⟩
end RZ

set_option Elab.async false
set_option linter.all false
set_option maxRecDepth 100000
set_option maxHeartbeats 1000000
/-! Ev: enumerate(a tuple). -/
namespace RZ
open PySem
open PySem.Sem (wp)
open AutoSeq1 (wpAny_loadPart')
open L2
theorem meets_enumerate_newT (l : Addr) (items : Array Value) (n : Nat) (dct : Option Addr) (sl : Array (Option Value)) :
    Meets (Builtin.«enumerate.__new__» ⟨[.type "enumerate", .ref l], []⟩) (fun _ R s => s.heap.get? l = some { cls := .type "tuple", dict := dct, data := .seq items n, slots := sl } ∧
      R (.ok (.ret (.ref (s.heap.push { cls := .type "tuple_iterator", data := .fields #[.ref l, .int 0 0] }).objs.size)))
        { s with heap := (s.heap.push { cls := .type "tuple_iterator", data := .fields #[.ref l, .int 0 0] }).push (enumObj s.heap.objs.size) }) :=
  .of_wp fun prog w A R s h => by
    obtain ⟨hp, g, d, tk, os⟩ := s; obtain ⟨hl, h⟩ := h
    have hsub := sub_enumerate
    have hL : Heap.IsTuple (Shared.heap ⟨hp, g, d, tk, os⟩) l items := ⟨_, hl, rfl, n, rfl⟩
    wp_walk using wpAny_loadPart' hl
    refine wpAny_stack_any fun st => wpAny_pure ?_
    split
    · rename_i c _ _ _ _ _
      cases (c == Value.type "enumerate")
      · wp_walk using wpAny_loadPart' hl, wpAny_pyIter_tuple hL
        exact ⟨_, rfl, h⟩
      · wp_walk using wpAny_loadPart' hl, wpAny_pyIter_tuple hL
        exact ⟨_, rfl, h⟩
    · wp_walk using wpAny_loadPart' hl, wpAny_pyIter_tuple hL
      exact ⟨_, rfl, h⟩
section
variable {prog : Program} {w : World} {A : Around} {E : Value → Shared → Prop} {s : Shared}
theorem call_enumerate_tuple {l : Addr} {items : Array Value} {Q : Value → Shared → Prop} (hL : s.heap.IsTuple l items)
    (h : ∀ h', IsEnum h' (s.heap.objs.size + 1) s.heap.objs.size 0 .none → h'.IsTupleIter s.heap.objs.size l 0 → h'.objs.size = s.heap.objs.size + 2 →
      (∀ b o, s.heap.get? b = some o → h'.get? b = some o) → Q (.ref (s.heap.objs.size + 1)) { s with heap := h' }) :
    wpAny (model prog w) A (call (.type "enumerate") [.ref l]) Q E s := by
  obtain ⟨⟨c, dct, dt, sl⟩, hl, hc, n, hd⟩ := hL
  replace hc : c = .type "tuple" := hc
  replace hd : dt = .seq items n := hd
  subst hc hd
  refine callType_new F.called_enumerate (by decide) (F.typeCall_enumerate_1 _) (F.newCall_enumerate_1 _) (fun obj => F.args_object_init_2 obj _) F.entry_enumerate_new
    (meets_enumerate_newT l items n dct sl) ⟨hl, ?_⟩
  have hz : (s.heap.push { cls := .type "tuple_iterator", data := .fields #[.ref l, .int 0 0] }).objs.size = s.heap.objs.size + 1 := Heap.size_push ..
  show _ ∧ _
  rw [hz]
  have he : IsEnum ((s.heap.push { cls := .type "tuple_iterator", data := .fields #[.ref l, .int 0 0] }).push (enumObj s.heap.objs.size)) (s.heap.objs.size + 1) s.heap.objs.size 0 .none := by
    have := Heap.get?_push_size (s.heap.push { cls := .type "tuple_iterator", data := .fields #[.ref l, .int 0 0] }) (o := enumObj s.heap.objs.size) rfl
    rw [hz] at this; exact this
  exact ⟨⟨_, he, rfl⟩, h _ he ⟨_, Heap.get?_push_of_some _ (Heap.get?_push_size _ rfl), rfl, rfl⟩ (by rw [Heap.size_push, hz]) fun b o x => Heap.get?_push_of_some _ (Heap.get?_push_of_some _ x)⟩
end
end RZ
namespace RZ
open PySem PySem.Spec PyProof.Rows L2
/-- the tuple at a, each item in a new pair -/
def IteT (K : PySem.W.Frag) (a : Addr) : It :=
  ⟨fun i H => ∃ (xs : List V) (x : V), SqT K H a xs ∧ xs[i]? = some x, fun i H v H' => ∃ T x, v = .ref T ∧ H T = none ∧ H' = upd H T (.tup [.int (i : Nat), x]) ∧ ∀ xs, SqT K H a xs → xs[i]? = some x, fun i H => ∃ xs : List V, SqT K H a xs ∧ xs.length ≤ i⟩
theorem turn_enumT {P : Program} {w : World} {K : PySem.W.Frag} {elts : List Expr} {kk : Nat} {tpos : Pos} (a e it : Addr) :
    Turn P w K (.Tuple elts kk tpos) (IteT K a) [e, it] e (fun i h => (∃ old, IsEnum h e it ((i : Nat) : Int) old) ∧ h.IsTupleIter it a i ∧ e ≠ it) where
  mem := by simp
  obj := fun i h st b hb => by
    obtain ⟨⟨old, he⟩, ⟨o, ho, hc, hd⟩, _⟩ := st
    have e' : b = e ∨ b = it := by simpa using hb
    rcases e' with z | z
    · rw [z]; exact ⟨_, he, fun v q => nomatch q⟩
    · rw [z]; exact ⟨o, ho, fun v q => by rw [hd] at q; cases q⟩
  keep := fun i h h' st k => let ⟨⟨old, he⟩, hi, hne⟩ := st; ⟨⟨old, k e (by simp) _ he⟩, hi.at fun o q => k it (by simp) o q, hne⟩
  item := by
    intro X hP hw hK hc i pins s σ H E I hf st hg
    subst hP hw hK
    obtain ⟨⟨old, he⟩, hit, hne⟩ := st
    obtain ⟨xs, x, hq, hx⟩ := hg
    obtain ⟨its, rv, p, hz⟩ := I.tuple hq
    obtain ⟨u, hu, ru⟩ := rv.get hx
    have hel : e < s.heap.objs.size := Heap.lt_size he
    have hil : it < s.heap.objs.size := by obtain ⟨_, q, _⟩ := hit; exact Heap.lt_size q
    refine pyNext_enum_gen he fun E' => ?_
    refine nextOf_tuple_item hit p (x := u) (by simpa using hu) fun h₁ hit₁ hs₁ => ⟨(hs₁.2 e hne).trans he, fun h' ho hT hsz hk => ?_⟩
    replace hs₁ : Heap.SameBut it s.heap h₁ := hs₁
    have hz1 : h₁.objs.size = s.heap.objs.size := hs₁.1
    replace ho : IsEnumOut h' e it ((i : Int) + 1) u h₁.objs.size := ho
    replace hk : ∀ b o, b ≠ e → h₁.get? b = some o → h'.get? b = some o := hk
    replace hT : h'.get? h₁.objs.size = some { cls := .type "tuple", data := .seq #[.int (i : Int) s.toks, u] } := hT
    rw [hz1] at ho hT
    show ∃ u_1, some (Value.ref h₁.objs.size) = some u_1 ∧ _
    rw [hz1]
    refine ⟨_, rfl, wpAny_letOwnedTupleGo_enum (s := { s with heap := h', toks := s.toks + 1 }) ho fun h'' he' sb => ?_⟩
    replace sb : Heap.SameBut e h' h'' := sb
    have up : ∀ b o, b ≠ e → h₁.get? b = some o → h''.get? b = some o := fun b o hb q => (sb.2 b hb).trans (hk b o hb q)
    have hT2 : h''.get? s.heap.objs.size = some { cls := .type "tuple", data := .seq #[.int (i : Int) s.toks, u] } := (sb.2 _ (Nat.ne_of_gt hel)).trans hT
    have new : ObjOk X.prog X.w (upd H s.heap.objs.size (.tup [.int (i : Nat), x])) h'' s.heap.objs.size (.tup [.int (i : Nat), x]) :=
      ⟨by show 2 ≤ sizeLine; decide, [.int (i : Int) s.toks, u], .cons ⟨_, rfl⟩ (.cons ru .nil), ⟨_, hT2, rfl, _, rfl⟩⟩
    have I1 : Inv X pins σ (upd H s.heap.objs.size (.tup [.int (i : Nat), x])) { s with heap := h'', toks := s.toks + 1 } :=
      I.turnedNew (ch := [e, it]) (fun b o hb q => up b o (fun z => hb (by simp [z])) ((hs₁.2 b (fun z => hb (by simp [z]))).trans q)) hf (Nat.le_refl _) new
    refine ⟨.ref s.heap.objs.size, _, I1, rfl, ⟨_, x, rfl, I.hok.fresh (Nat.le_refl _), rfl, fun ys hy => by rw [I.tuple_inj hy hq]; exact hx⟩, ⟨⟨u, ?_⟩, hit₁.at fun o q => up it o (Ne.symm hne) q, hne⟩, fun b hb => ?_⟩
    · have e1 : ((i + 1 : Nat) : Int) = (i : Int) + 1 := by omega
      rw [e1]; exact he'
    · have hb' : b < s.heap.objs.size := by
        have e' : b = e ∨ b = it := by simpa using hb
        rcases e' with z | z
        · rw [z]; exact hel
        · rw [z]; exact hil
      rw [upd_ne (Nat.ne_of_lt hb')]
      exact (hf b hb).1
  done := by
    intro X hP hw hK hc i pins s σ H E I hf st hg
    subst hP hw hK
    obtain ⟨⟨old, he⟩, hit, hne⟩ := st
    obtain ⟨xs, hq, hx⟩ := hg
    obtain ⟨its, rv, p, hz⟩ := I.tuple hq
    have hl := rv.length
    refine pyNext_enum_end_gen he fun {Q' E'} hE => ?_
    refine nextOf_tuple_end (I.ok.hd hc) hit p (by simp; omega) fun h' x hk hx => hE h' x hx ⟨rfl, ?_⟩
    exact I.turnedL (t' := s.toks) (ch := [e, it]) (fun c o hb q => hk c o (fun q' => hb (by simp [q'])) q) hf
  self := fun A i s Q E st h => let ⟨⟨_, he⟩, _⟩ := st; wpAny_pyIter_enum he h
def iEnumT (K : PySem.W.Frag) (ta : TA) : TI := fun σ H R => ta σ H fun vs H1 => ∃ a xs, vs = [.ref a] ∧ SqT K H1 a xs ∧ R (IteT K a) H1
/-- of a list, of a tuple -/
def iEnum2 (K : PySem.W.Frag) (ta : TA) : TI := fun σ H R => ta σ H fun vs H1 => ∃ a xs, vs = [.ref a] ∧ ((SqL K H1 a xs ∧ R (Ite K a) H1) ∨ (SqT K H1 a xs ∧ R (IteT K a) H1))
theorem pi_enum2 {X : Cx} {e : Expr} {ta : TA} {p pos tpos : Pos} {elts : List Expr} {kk : Nat} (hg : Gl X "enumerate") (hm : X.mg "enumerate" = none) (ha : PA X [e] ta) (hs : starEach [e] X.env = [(false, eval e X.env)] := by rfl) :
    PI X (.Tuple elts kk tpos) (.Call (.Name "enumerate" p) [e] [] pos) (iEnum2 X.K ta) := by
  refine ⟨fun pins s σ H R I h => ?_⟩
  refine Call_ (ld_blt I hg hm boot_enumerate (PyProof.Rows.callWith_type1 (thn (ha.run pos pins s σ H _ I h) fun us s1 ⟨vs, H1, I1, r1, q1⟩ => ?_) hs rfl))
  obtain ⟨a, xs, ex, q⟩ := q1
  subst ex
  cases r1 with
  | cons r rr =>
    cases rr
    cases r
    have hfp : ∀ b ∈ [s1.heap.objs.size + 1, s1.heap.objs.size], FpOk X pins H1 b := fun b hb => by
      have e' : b = s1.heap.objs.size + 1 ∨ b = s1.heap.objs.size := by simpa using hb
      have hle : s1.heap.objs.size ≤ b := by
        rcases e' with z | z
        · rw [z]; exact Nat.le_add_right _ _
        · rw [z]; exact Nat.le_refl _
      exact I1.fpOk hle (I1.hok.fresh hle)
    rcases q with ⟨hq, q⟩ | ⟨hq, q⟩
    · obtain ⟨its, rv, p', hz⟩ := I1.list hq
      refine call_enumerate_list p'.isList fun h' he hit hsz hk => wpAny_pyIter_enum he ?_
      have I2 : Inv X pins σ H1 { s1 with heap := h' } := I1.kept (t' := s1.toks) hk
      exact ⟨s1.heap.objs.size + 1, [s1.heap.objs.size + 1, s1.heap.objs.size], _, _, H1, rfl, I2, turn_enum a (s1.heap.objs.size + 1) s1.heap.objs.size, ⟨⟨.none, he⟩, hit, Nat.succ_ne_self _⟩, hfp, q⟩
    · obtain ⟨its, rv, p', hz⟩ := I1.tuple hq
      refine call_enumerate_tuple (show s1.heap.IsTuple a its.toArray from p') fun h' he hit hsz hk => wpAny_pyIter_enum he ?_
      have I2 : Inv X pins σ H1 { s1 with heap := h' } := I1.kept (t' := s1.toks) hk
      exact ⟨s1.heap.objs.size + 1, [s1.heap.objs.size + 1, s1.heap.objs.size], _, _, H1, rfl, I2, turn_enumT a (s1.heap.objs.size + 1) s1.heap.objs.size, ⟨⟨.none, he⟩, hit, Nat.succ_ne_self _⟩, hfp, q⟩
end RZ

set_option autoImplicit false
set_option linter.all false
set_option maxRecDepth 100000
set_option maxHeartbeats 1000000
/-! Ev: and, or, slices, methods, walks, comprehensions. -/
namespace Ev
open PySem PySem.Spec PyProof.Rows L2
section
variable {X : Cx} {a b c : Expr} {fa fb fc : Env → Mem → Res D} {pos : Pos} {rest : List Expr}
abbrev opB (w : Bool) : PySem.BoolOp := if w then .And else .Or
abbrev fBool (w : Bool) (fa fb : Env → Mem → Res D) : Env → Mem → Res D := fun env M => match fa env M with
  | some (d, M1) => match truth M1 d with
    | some t => if t == w then fb env M1 else some (d, M1)
    | none => none
  | none => none
theorem e_bool {w : Bool} (ha : PE X a (tE (fr X) fa)) (hb : PE X (.BoolOp (opB w) (b :: rest) pos) (tE (fr X) fb)) : PE X (.BoolOp (opB w) (a :: b :: rest) pos) (tE (fr X) (fBool w fa fb)) := by
  have key : ∀ σ H Q, tE (fr X) (fBool w fa fb) σ H Q → tE (fr X) fa σ H fun x H1 => ∃ k, TruV (fr X) x H1 k ∧ if k = w then tE (fr X) fb σ H1 Q else Q x H1 := by
    rintro σ H Q ⟨w0, env, M, d, M', R, E, e, q⟩
    simp only [fBool] at e
    split at e
    · rename_i dx M1 h1
      split at e
      · rename_i t h2
        refine ⟨w0, env, M, dx, M1, R, E, h1, fun w1 H1 x f1 R1 d1 => ⟨t, truth_ok R1 d1 h2, ?_⟩⟩
        by_cases ht : t = w
        · rw [if_pos ht]
          rw [if_pos (by simp [ht])] at e
          exact ⟨w1, env, M1, d, M', R1, E.fut f1, e, fun w2 H2 v f2 R2 d2 => q w2 H2 v (f1.trans f2) R2 d2⟩
        · rw [if_neg ht]
          rw [if_neg (by simp [ht])] at e
          cases e
          exact q w1 H1 x f1 R1 d1
      · cases e
    · cases e
  cases w with
  | true => exact imp_e (pe_andT ha hb) fun σ H Q h => key σ H Q h
  | false =>
    refine imp_e (pe_orT ha hb) fun σ H Q h => ?_
    obtain ⟨w0, env, M, d, M', R, E, e, q⟩ := key σ H Q h
    refine ⟨w0, env, M, d, M', R, E, e, fun w1 H1 v f1 R1 d1 => ?_⟩
    obtain ⟨k, h1, h2⟩ := q w1 H1 v f1 R1 d1
    refine ⟨k, h1, ?_⟩
    cases k with
    | true => exact h2
    | false => exact h2
theorem e_bool1 {w : Bool} (ha : PE X a (tE (fr X) fa)) : PE X (.BoolOp (opB w) [a] pos) (tE (fr X) fa) := pe_one ha
abbrev fBoolT (w : Bool) (fa fb : Env → Mem → Res Bool) : Env → Mem → Res Bool := fun env M => match fa env M with
  | some (t, M1) => if t == w then fb env M1 else some (t, M1)
  | none => none
theorem w_bool {w : Bool} {fa fb : Env → Mem → Res Bool} (ha : PT X a (tT (fr X) fa)) (hb : PW X (.BoolOp (opB w) (b :: rest) pos) (tT (fr X) fb)) : PW X (.BoolOp (opB w) (a :: b :: rest) pos) (tT (fr X) (fBoolT w fa fb)) := by
  have key : ∀ σ H Q, tT (fr X) (fBoolT w fa fb) σ H Q → tT (fr X) fa σ H fun c H1 => if c = w then tT (fr X) fb σ H1 Q else Q c H1 := by
    rintro σ H Q ⟨w0, env, M, d, M', R, E, e, q⟩
    simp only [fBoolT] at e
    split at e
    · rename_i t M1 h1
      refine ⟨w0, env, M, t, M1, R, E, h1, fun w1 H1 f1 R1 => ?_⟩
      by_cases ht : t = w
      · show (if t = w then _ else _)
        rw [if_pos ht]
        rw [if_pos (by simp [ht])] at e
        exact ⟨w1, env, M1, d, M', R1, E.fut f1, e, fun w2 H2 f2 R2 => q w2 H2 (f1.trans f2) R2⟩
      · show (if t = w then _ else _)
        rw [if_neg ht]
        rw [if_neg (by simp [ht])] at e
        cases e
        exact q w1 H1 f1 R1
    · cases e
  cases w with
  | true =>
    refine imp_w (pw_and ha hb) fun σ H Q h => ?_
    obtain ⟨w0, env, M, d, M', R, E, e, q⟩ := key σ H Q h
    refine ⟨w0, env, M, d, M', R, E, e, fun w1 H1 f1 R1 => ?_⟩
    have h2 := q w1 H1 f1 R1
    cases d with
    | true => exact h2
    | false => exact h2
  | false =>
    refine imp_w (pw_or ha hb) fun σ H Q h => ?_
    obtain ⟨w0, env, M, d, M', R, E, e, q⟩ := key σ H Q h
    refine ⟨w0, env, M, d, M', R, E, e, fun w1 H1 f1 R1 => ?_⟩
    have h2 := q w1 H1 f1 R1
    cases d with
    | true => exact h2
    | false => exact h2
theorem w_bool1 {w : Bool} {fa : Env → Mem → Res Bool} (ha : PT X a (tT (fr X) fa)) : PW X (.BoolOp (opB w) [a] pos) (tT (fr X) fa) := by
  cases w with
  | true => exact pw_and1 ha
  | false => exact pw_or1 ha

/-! ### slices -/
def tOe (K : Fr) (f : Env → Mem → Res (Option Int)) : TO := fun σ H Q => ∃ w env M o M', Rp K w M H ∧ EnvOk K w σ env ∧ f env M = some (o, M') ∧ ∀ w' H', Fut w H w' H' → Rp K w' M' H' → Q o H'
theorem o_none : PO X none (tOe (fr X) fun _ M => some (none, M)) := by
  refine ⟨fun pins s σ H Q I h => ?_⟩
  obtain ⟨w, env, M, o, M', R, E, e, q⟩ := h
  cases e
  exact po_none.run pins s σ H Q I (q w H (Fut.refl w H) R)
theorem o_some (ha : PE X a (tE (fr X) fa)) : PO X (some a) (tOe (fr X) fun env M => match fa env M with
    | some (.int i, M1) => some (some i, M1)
    | _ => none) := by
  refine ⟨fun pins s σ H Q I h => ?_⟩
  obtain ⟨w, env, M, o, M', R, E, e, q⟩ := h
  refine (po_some ha).run pins s σ H Q I ?_
  simp only at e
  split at e
  · rename_i i M1 h1
    cases e
    exact ⟨w, env, M, .int i, _, R, E, h1, fun w1 H1 v f1 R1 d1 => ⟨i, den_int d1, q w1 H1 f1 R1⟩⟩
  · cases e
theorem e_slc {lo hi : Option Expr} {fl fh : Env → Mem → Res (Option Int)} {p2 : Pos} (ha : PE X a (tE (fr X) fa)) (hl : PO X lo (tOe (fr X) fl)) (hh : PO X hi (tOe (fr X) fh)) : PE X (.Subscript a (.Slice lo hi none p2) pos) (tE (fr X) fun env M => match fa env M with
    | some (x, M1) => match fl env M1 with
      | some (l, M2) => match fh env M2 with
        | some (h, M3) => ofD (slcD M3 x l h) M3
        | none => none
      | none => none
    | none => none) := by
  refine imp_e (pe_slice sl_all ha hl hh) ?_
  rintro σ H Q ⟨w, env, M, d, M', R, E, e, q⟩
  simp only at e
  split at e
  · rename_i dx M1 h1
    split at e
    · rename_i l M2 h2
      split at e
      · rename_i h M3 h3
        simp only [ofD, Option.map_eq_some_iff] at e
        obtain ⟨d', h4, e⟩ := e
        cases e
        refine ⟨w, env, M, dx, M1, R, E, h1, fun w1 H1 x f1 R1 d1 => ⟨w1, env, M1, l, M2, R1, E.fut f1, h2, fun w2 H2 f2 R2 => ⟨w2, env, M2, h, _, R2, (E.fut f1).fut f2, h3, fun w3 H3 f3 R3 => ?_⟩⟩⟩
        exact slc_ok R3 ((d1.fut f2).fut f3) h4 fun w4 H4 v f4 R4 d4 => q w4 H4 v (((f1.trans f2).trans f3).trans f4) R4 d4
      · cases e
    · cases e
  · cases e
theorem e_revL {k : Nat} {p1 p2 p3 : Pos} (ha : PE X a (tE (fr X) fa)) : PE X (.Subscript a (.Slice none none (some (.UnaryOp .USub (.Constant (.int 1) k p1) p2)) p3) pos) (tE (fr X) fun env M => match fa env M with
    | some (d, M1) => ofD (revD M1 d) M1
    | none => none) := by
  refine imp_e (pe_revA ha) ?_
  rintro σ H Q ⟨w, env, M, d, M', R, E, e, q⟩
  simp only at e
  split at e
  · rename_i dx M1 h1
    simp only [ofD, Option.map_eq_some_iff] at e
    obtain ⟨d', h4, e⟩ := e
    cases e
    refine ⟨w, env, M, dx, _, R, E, h1, fun w1 H1 x f1 R1 d1 => ?_⟩
    unfold revD at h4
    split at h4
    · cases h4
      obtain ⟨a, vs, rfl, hs, r⟩ := den_tup d1
      exact .inr ⟨a, vs, rfl, Same.seqT R1.same hs, fun p hp => NxV.newT (fun w2 H2 v f2 R2 d2 => q w2 H2 v (f1.trans f2) R2 d2) R1 r.reverse hp⟩
    · obtain ⟨xs, h5, rfl⟩ := Option.map_eq_some_iff.mp h4
      obtain ⟨a, vs, rfl, h2, r⟩ := listOf_den R1 d1 h5
      refine .inl ⟨a, vs, rfl, .inl (.inl h2), fun p hp => ?_⟩
      obtain ⟨f2, R2⟩ := alloc_frozen R1 hp (.lst vs.reverse)
      exact q _ _ _ (f1.trans f2) R2 (.lst upd_same (r.reverse.fut f2))
  · cases e

/-! ### methods of lists -/
theorem f_revL {k : Nat} {p1 p2 p3 : Pos} (ha : PE X a (tE (fr X) fa)) : PE X (.Subscript a (.Slice none none (some (.UnaryOp .USub (.Constant (.int 1) k p1) p2)) p3) pos) (tF (fr X) fun env M => match fa env M with
    | some (d, M1) => match listOf M1 d with
      | some xs => some (xs.reverse, M1)
      | none => none
    | none => none) := by
  refine imp_e (pe_revL ha) ?_
  rintro σ H Q ⟨w, env, M, d, M', R, E, e, q⟩
  simp only at e
  split at e
  · rename_i dx M1 h1
    split at e
    · rename_i xs h2
      cases e
      refine ⟨w, env, M, dx, _, R, E, h1, fun w1 H1 x f1 R1 d1 => ?_⟩
      obtain ⟨a, vs, rfl, h2, r⟩ := listOf_den R1 d1 h2
      exact ⟨a, vs, rfl, .inl (.inl h2), fun p hp => q w1 H1 p vs.reverse f1 R1 hp r.reverse⟩
    · cases e
  · cases e
theorem f_add (ha : PE X a (tE (fr X) fa)) (hb : PE X b (tE (fr X) fb)) : PE X (.BinOp a .Add b pos) (tF (fr X) fun env M => match fa env M with
    | some (x, M1) => match fb env M1 with
      | some (y, M2) => match listOf M2 x, listOf M2 y with
        | some xs, some ys => if xs.length + ys.length ≤ Lim then some (xs ++ ys, M2) else none
        | _, _ => none
      | none => none
    | none => none) := by
  refine imp_e (pe_op op_addAll ha hb) ?_
  rintro σ H Q ⟨w, env, M, ds, M', R, E, e, q⟩
  simp only at e
  split at e
  · rename_i dx M1 h1
    split at e
    · rename_i dy M2 h2
      split at e
      · rename_i xs ys e1 e2
        split at e
        · rename_i hl
          cases e
          refine ⟨w, env, M, dx, M1, R, E, h1, fun w1 H1 x f1 R1 d1 => ⟨w1, env, M1, dy, _, R1, E.fut f1, h2, fun w2 H2 y f2 R2 d2 => ?_⟩⟩
          obtain ⟨a, us, rfl, h1, r1⟩ := listOf_den R2 (d1.fut f2) e1
          obtain ⟨b, vs, rfl, h2, r2⟩ := listOf_den R2 d2 e2
          exact .inr (.inr ⟨a, b, us, vs, rfl, rfl, h1, h2, lim_line (by rw [r1.length, r2.length]; exact hl), fun p hp => q w2 H2 p (us ++ vs) (f1.trans f2) R2 hp (r1.append r2)⟩)
        · cases e
      · cases e
    · cases e
  · cases e
theorem f_repL (ha : PE X a (tE (fr X) fa)) (hb : PE X b (tE (fr X) fb)) : PE X (.BinOp a .Mult b pos) (tF (fr X) fun env M => match fa env M with
    | some (x, M1) => match fb env M1 with
      | some (.int n, M2) => match listOf M2 x with
        | some xs => if n < 2 ^ 63 ∧ -(2 ^ 63) ≤ n ∧ xs.length * n.toNat ≤ Lim then some (rep xs n.toNat, M2) else none
        | none => none
      | _ => none
    | none => none) := by
  refine imp_e (pe_op op_mulAll ha hb) ?_
  rintro σ H Q ⟨w, env, M, ds, M', R, E, e, q⟩
  simp only at e
  split at e
  · rename_i dx M1 h1
    split at e
    · rename_i n M2 h2
      split at e
      · rename_i xs e1
        split at e
        · rename_i hl
          cases e
          refine ⟨w, env, M, dx, M1, R, E, h1, fun w1 H1 x f1 R1 d1 => ⟨w1, env, M1, .int n, _, R1, E.fut f1, h2, fun w2 H2 y f2 R2 d2 => ?_⟩⟩
          obtain ⟨a, us, rfl, h3, r⟩ := listOf_den R2 (d1.fut f2) e1
          cases den_int d2
          exact .inr (.inr ⟨a, n, us, rfl, rfl, h3, hl.2.1, hl.1, lim_line (by rw [r.length]; exact hl.2.2), fun p hp => q w2 H2 p _ (f1.trans f2) R2 hp (r.rep _)⟩)
        · cases e
      · cases e
    · cases e
  · cases e
theorem f_slc {lo hi : Option Expr} {fl fh : Env → Mem → Res (Option Int)} {p2 : Pos} (ha : PE X a (tE (fr X) fa)) (hl : PO X lo (tOe (fr X) fl)) (hh : PO X hi (tOe (fr X) fh)) : PE X (.Subscript a (.Slice lo hi none p2) pos) (tF (fr X) fun env M => match fa env M with
    | some (x, M1) => match fl env M1 with
      | some (l, M2) => match fh env M2 with
        | some (h, M3) => match listOf M3 x with
          | some xs => some (cut xs l h, M3)
          | none => none
        | none => none
      | none => none
    | none => none) := by
  refine imp_e (pe_slice sl_all ha hl hh) ?_
  rintro σ H Q ⟨w, env, M, d, M', R, E, e, q⟩
  simp only at e
  split at e
  · rename_i dx M1 h1
    split at e
    · rename_i l M2 h2
      split at e
      · rename_i h M3 h3
        split at e
        · rename_i xs h4
          cases e
          refine ⟨w, env, M, dx, M1, R, E, h1, fun w1 H1 x f1 R1 d1 => ⟨w1, env, M1, l, M2, R1, E.fut f1, h2, fun w2 H2 f2 R2 => ⟨w2, env, M2, h, _, R2, (E.fut f1).fut f2, h3, fun w3 H3 f3 R3 => ?_⟩⟩⟩
          obtain ⟨a, vs, rfl, hs, r⟩ := listOf_den R3 ((d1.fut f2).fut f3) h4
          exact .inr (.inl ⟨a, vs, rfl, .inl (.inl hs), fun p hp => q w3 H3 p _ ((f1.trans f2).trans f3) R3 hp (cut_den r _ _)⟩)
        · cases e
      · cases e
    · cases e
  · cases e
theorem tyV_cell {w : Wd} {M : Mem} {H : Hp} {cc : Nat} {p : Addr} {xs : List D} (R : Rp (fr X) w M H) (ha : w.ν[cc]? = some p) (hc : M.S[cc]? = some (.lst xs)) : tyV (fr X) "list" (.ref p) H := by
  obtain ⟨_, vs, h1, _⟩ := R.cell ha hc
  exact .inl ⟨rfl, vs, .inl (.inl h1)⟩
theorem e_app {p2 : Pos} (ha : PE X a (tE (fr X) fa)) (hb : PE X b (tE (fr X) fb)) (hst : isStar b = false) (hbs : plainBase a = true) (hl : (p2.endLine == pos.line) = true) : PE X (.Call (.Attribute a "append" p2) [b] [] pos) (tE (fr X) fun env M => match fa env M with
    | some (.cell c, M1) => match M1.S[c]? with
      | some (.lst _) => match fb env M1 with
        | some (y, M2) => match M2.S[c]? with
          | some (.lst xs) => if xs.length < Lim then some (.non, setC c (.lst (xs ++ [y])) M2) else none
          | _ => none
        | none => none
      | _ => none
    | _ => none) := by
  refine imp_e (pe_bm (t := tCons (tE (fr X) fb) tNil) PySem.F.plainAttrs_list PySem.F.slot_list_append PySem.F.type_list_append mt_append ha (pa_cons hb pa_nil (star_cons hst)) (plbase hbs) (by rw [star_cons hst]; rfl) hl (star_cons hst) rfl) ?_
  rintro σ H Q ⟨w, env, M, d, M', R, E, e, q⟩
  simp only at e
  split at e
  · rename_i c M1 h1
    split at e
    · rename_i xs0 hc0
      split at e
      · rename_i y M2 h2
        split at e
        · rename_i xs hc
          split at e
          · rename_i hl
            cases e
            refine ⟨w, env, M, .cell c, M1, R, E, h1, fun w1 H1 x f1 R1 d1 => ?_⟩
            cases d1 with
            | @cell p _ hp =>
              refine ⟨tyV_cell R1 hp hc0, w1, env, M1, y, M2, R1, E.fut f1, h2, fun w2 H2 v f2 R2 d2 => ?_⟩
              have hp2 := f2.nuget _ _ hp
              obtain ⟨_, vs, e1, r⟩ := R2.cell hp2 hc
              refine ⟨p, vs, v, rfl, rfl, e1, by rw [r.length, sizeLine_eq]; exact hl, ?_⟩
              obtain ⟨f3, R3⟩ := R2.setLst hp2 hc (r.append (.cons d2 .nil))
              exact q _ _ _ ((f1.trans f2).trans f3) R3 .non
          · cases e
        · cases e
      · cases e
    · cases e
  · cases e
end
end Ev

set_option autoImplicit false
set_option linter.all false
set_option maxRecDepth 100000
set_option maxHeartbeats 1000000
/-! Ev: more methods, walks, comprehensions. -/
namespace Ev
open PySem PySem.Spec PyProof.Rows L2
section
variable {X : Cx} {a b c : Expr} {fa fb fc : Env → Mem → Res D} {pos : Pos}
theorem e_ext {p2 : Pos} (ha : PE X a (tE (fr X) fa)) (hb : PE X b (tE (fr X) fb)) (hst : isStar b = false) (hbs : plainBase a = true) (hl : (p2.endLine == pos.line) = true) : PE X (.Call (.Attribute a "extend" p2) [b] [] pos) (tE (fr X) fun env M => match fa env M with
    | some (.cell c, M1) => match M1.S[c]? with
      | some (.lst _) => match fb env M1 with
        | some (y, M2) => match listOf M2 y with
          | some ys => match M2.S[c]? with
            | some (.lst xs) => if xs.length + ys.length ≤ Lim then some (.non, setC c (.lst (xs ++ ys)) M2) else none
            | _ => none
          | none => none
        | none => none
      | _ => none
    | _ => none) := by
  refine imp_e (pe_bm (t := tCons (tE (fr X) fb) tNil) PySem.F.plainAttrs_list PySem.F.slot_list_extend PySem.F.type_list_extend mt_extend ha (pa_cons hb pa_nil (star_cons hst)) (plbase hbs) (by rw [star_cons hst]; rfl) hl (star_cons hst) rfl) ?_
  rintro σ H Q ⟨w, env, M, d, M', R, E, e, q⟩
  simp only at e
  split at e
  · rename_i c M1 h1
    split at e
    · rename_i xs0 hc0
      split at e
      · rename_i y M2 h2
        split at e
        · rename_i ys hy
          split at e
          · rename_i xs hc
            split at e
            · rename_i hl
              cases e
              refine ⟨w, env, M, .cell c, M1, R, E, h1, fun w1 H1 x f1 R1 d1 => ?_⟩
              cases d1 with
              | @cell p _ hp =>
                refine ⟨tyV_cell R1 hp hc0, w1, env, M1, y, M2, R1, E.fut f1, h2, fun w2 H2 v f2 R2 d2 => ?_⟩
                have hp2 := f2.nuget _ _ hp
                obtain ⟨_, vs, e1, r⟩ := R2.cell hp2 hc
                obtain ⟨b', us, rfl, e2, r2⟩ := listOf_den R2 d2 hy
                refine ⟨p, b', vs, us, rfl, rfl, e1, e2, by rw [r.length, r2.length, sizeLine_eq]; exact hl, ?_⟩
                obtain ⟨f3, R3⟩ := R2.setLst hp2 hc (r.append r2)
                exact q _ _ _ ((f1.trans f2).trans f3) R3 .non
            · cases e
          · cases e
        · cases e
      · cases e
    · cases e
  · cases e
theorem e_pop {p2 : Pos} (ha : PE X a (tE (fr X) fa)) (hbs : plainBase a = true) (hl : (p2.endLine == pos.line) = true) : PE X (.Call (.Attribute a "pop" p2) [] [] pos) (tE (fr X) fun env M => match fa env M with
    | some (.cell c, M1) => match M1.S[c]? with
      | some (.lst xs) => match xs[xs.length - 1]? with
        | some y => some (y, setC c (.lst xs.dropLast) M1)
        | none => none
      | _ => none
    | _ => none) := by
  refine imp_e (pe_bm0 PySem.F.plainAttrs_list PySem.F.slot_list_pop PySem.F.type_list_pop mt_pop ha (plbase hbs) hl) ?_
  rintro σ H Q ⟨w, env, M, d, M', R, E, e, q⟩
  simp only at e
  split at e
  · rename_i c M1 h1
    split at e
    · rename_i xs hc
      split at e
      · rename_i y hy
        cases e
        refine ⟨w, env, M, .cell c, _, R, E, h1, fun w1 H1 x f1 R1 d1 => ?_⟩
        cases d1 with
        | @cell p _ hp =>
          obtain ⟨_, vs, e1, r⟩ := R1.cell hp hc
          obtain ⟨v, hv, dv⟩ := r.get hy
          refine ⟨tyV_cell R1 hp hc, p, vs, v, rfl, rfl, e1, by rw [r.length]; exact hv, ?_⟩
          obtain ⟨f3, R3⟩ := R1.setLst hp hc r.dropLast
          exact q _ _ _ (f1.trans f3) R3 dv
      · cases e
    · cases e
  · cases e
theorem e_popAt {p2 : Pos} (ha : PE X a (tE (fr X) fa)) (hb : PE X b (tE (fr X) fb)) (hst : isStar b = false) (hbs : plainBase a = true) (hl : (p2.endLine == pos.line) = true) : PE X (.Call (.Attribute a "pop" p2) [b] [] pos) (tE (fr X) fun env M => match fa env M with
    | some (.cell c, M1) => match M1.S[c]? with
      | some (.lst _) => match fb env M1 with
        | some (.int i, M2) => match M2.S[c]? with
          | some (.lst xs) => if 0 ≤ i ∧ i ≤ Lim then match xs[i.toNat]? with
              | some y => some (y, setC c (.lst (xs.eraseIdx i.toNat)) M2)
              | none => none
            else none
          | _ => none
        | _ => none
      | _ => none
    | _ => none) := by
  refine imp_e (pe_bm (t := tCons (tE (fr X) fb) tNil) PySem.F.plainAttrs_list PySem.F.slot_list_pop PySem.F.type_list_pop mt_popAt ha (pa_cons hb pa_nil (star_cons hst)) (plbase hbs) (by rw [star_cons hst]; rfl) hl (star_cons hst) rfl) ?_
  rintro σ H Q ⟨w, env, M, d, M', R, E, e, q⟩
  simp only at e
  split at e
  · rename_i c M1 h1
    split at e
    · rename_i xs0 hc0
      split at e
      · rename_i i M2 h2
        split at e
        · rename_i xs hc
          split at e
          · rename_i hi
            split at e
            · rename_i y hy
              cases e
              refine ⟨w, env, M, .cell c, M1, R, E, h1, fun w1 H1 x f1 R1 d1 => ?_⟩
              cases d1 with
              | @cell p _ hp =>
                refine ⟨tyV_cell R1 hp hc0, w1, env, M1, .int i, _, R1, E.fut f1, h2, fun w2 H2 v f2 R2 d2 => ?_⟩
                have hp2 := f2.nuget _ _ hp
                cases den_int d2
                obtain ⟨_, vs, e1, r⟩ := R2.cell hp2 hc
                obtain ⟨v, hv, dv⟩ := r.get hy
                have hlt : i.toNat < vs.length := (List.getElem?_eq_some_iff.mp hv).1
                have hi2 : i ≤ 16777216 := hi.2
                refine ⟨p, vs, i, i.toNat, v, rfl, rfl, e1, by omega, by omega, seqIndex_of hi.1 (by omega), hv, ?_⟩
                · obtain ⟨f3, R3⟩ := R2.setLst hp2 hc (r.eraseIdx i.toNat)
                  exact q _ _ _ ((f1.trans f2).trans f3) R3 dv
            · cases e
          · cases e
        · cases e
      · cases e
    · cases e
  · cases e
/-! ### new lists -/
theorem f_disp {es : List Expr} {f : Env → Mem → Res (List D)} (h : PA X es (tA (fr X) f)) : PE X (.List es pos) (tF (fr X) fun env M => match f env M with
    | some (ds, M') => if ds.length ≤ Lim then some (ds, M') else none
    | none => none) := by
  refine imp_e (pe_lst h) ?_
  rintro σ H Q ⟨w, env, M, d, M', R, E, e, q⟩
  simp only at e
  split at e
  · rename_i ds M1 h1
    split at e
    · rename_i hl
      cases e
      exact ⟨w, env, M, _, _, R, E, h1, fun w1 H1 vs f1 R1 r => ⟨lim_line (by rw [r.length]; exact hl), fun p hp => q w1 H1 p vs f1 R1 hp r⟩⟩
    · cases e
  · cases e
theorem cr_listRng (hc : X.calm = true) : CallR X (.type "list") (fun vs H Q => ∃ (a : Addr) (i j : Int), vs = [.ref a] ∧ H a = some (.rng i j) ∧ RgOk i j ∧ ∀ q, H q = none → Q (.ref q) (upd H q (.lst (rgV i j)))) := by
  intro pins s σ H vs us Q I r h
  obtain ⟨a, i, j, rfl, ha, ⟨b1, b2, b3, b4, b5⟩, q⟩ := h
  rw [Vals.ref1 r]
  obtain ⟨t, u, v, ho⟩ := I.hok a _ ha
  refine call_list_range (n := (j - i).toNat) (I.ok.hd hc) (show IsRange s.heap a i j 1 t u v from ho) (small_one b1 b2 b3 b4) (rangeSize_nat i j) b5 fun h' tk acc c' hk e' hi => ?_
  refine ⟨.ref s.heap.objs.size, upd H s.heap.objs.size (.lst (rgV i j)), I.laid hk (Nat.le_refl _) (show ObjOk X.prog X.w _ _ _ (.lst (rgV i j)) from ⟨?_, acc.toList, c', vals_rg hi, ?_⟩), rfl, q _ (I.hok.fresh (Nat.le_refl _))⟩
  · rw [rgV_length, sizeLine_eq]; omega
  · rw [Array.toArray_toList]; exact e'
theorem dens_rg {K : Fr} {w : Wd} (i j : Int) : Dens K w (rgV i j) (rangeD i j) := by
  have key : ∀ l : List Nat, Dens K w (l.map fun (k : Nat) => V.int (i + (k : Nat))) (l.map fun (k : Nat) => D.int (i + (k : Nat))) := fun l => by
    induction l with
    | nil => exact .nil
    | cons a l ih => exact .cons (.int _) ih
  exact key _
theorem lseq_den {K : Fr} {w : Wd} {M : Mem} {H : Hp} {x : V} {d : D} {ds : List D} (R : Rp K w M H) (h : Den K w x d) (e : lseq M d = some ds) : (∃ a vs, x = .ref a ∧ (SqL K H a vs ∨ SqT K H a vs) ∧ Dens K w vs ds) ∨ ∃ a i j, x = .ref a ∧ H a = some (.rng i j) ∧ RgOk i j ∧ ds = rangeD i j := by
  have old : seqOf M d = some ds → ∃ a vs, x = .ref a ∧ (SqL K H a vs ∨ SqT K H a vs) ∧ Dens K w vs ds := fun e => by
    obtain ⟨a, vs, rfl, hs, r⟩ := seqOf_den R h e
    exact ⟨a, vs, rfl, hs.elim (fun z => .inl (.inl (.inl z))) .inr, r⟩
  cases d with
  | scr ns =>
    simp only [lseq, Option.some.injEq] at e
    subst e
    cases h with
    | scr h =>
      refine .inl ⟨_, _, rfl, .inl (Same.seq R.same h), ?_⟩
      have : ∀ l : List Int, Dens K w (l.map V.int) (l.map D.int) := fun l => by
        induction l with
        | nil => exact .nil
        | cons a l ih => exact .cons (.int a) ih
      exact this ns
  | rng i j =>
    simp only [lseq] at e
    split at e
    · rename_i hb
      cases e
      simp only [in62, Bool.and_eq_true, decide_eq_true_eq] at hb
      cases h with
      | rng h => exact .inr ⟨_, i, j, rfl, R.same _ _ h, ⟨hb.1.1.1, hb.1.1.2, hb.1.2.1, hb.1.2.2, hb.2⟩, rfl⟩
    · cases e
  | _ => exact .inl (old e)
theorem f_listOf {p : Pos} (hcalm : X.calm = true) (hg : Gl X "list") (hm : X.mg "list" = none) (ha : PE X a (tE (fr X) fa)) (hst : isStar a = false) : PE X (.Call (.Name "list" p) [a] [] pos) (tF (fr X) fun env M => match fa env M with
    | some (d, M1) => match lseq M1 d with
      | some xs => some (xs, M1)
      | none => none
    | none => none) := by
  refine imp_e (pe_callTy (t := tCons (tE (fr X) fa) tNil) (CallR.or call_list_of (cr_listRng hcalm)) hg hm boot_list (pa_cons ha pa_nil (star_cons hst)) (by decide +kernel) (by decide +kernel) (star_cons hst) rfl) ?_
  rintro σ H Q ⟨w, env, M, d, M', R, E, e, q⟩
  simp only at e
  split at e
  · rename_i dx M1 h1
    split at e
    · rename_i xs h2
      cases e
      refine ⟨w, env, M, dx, _, R, E, h1, fun w1 H1 x f1 R1 d1 => ?_⟩
      rcases lseq_den R1 d1 h2 with ⟨a, vs, rfl, hs, r⟩ | ⟨a, i, j, rfl, ha, hr, rfl⟩
      · exact .inl ⟨a, vs, rfl, hs, fun l hl => q w1 H1 l vs f1 R1 hl r⟩
      · exact .inr ⟨a, i, j, rfl, ha, hr, fun l hl => q w1 H1 l _ f1 R1 hl (dens_rg i j)⟩
    · cases e
  · cases e

/-! ### walks -/
structure Ext (K : Fr) (w w' : Wd) : Prop where
  F : Same w.F w'.F
  n : ∀ (c : Nat) (a : Addr), w.ν[c]? = some a → w'.ν[c]? = some a
  s : ∀ p q, w.s = some (p, q) → w'.s = some (p, q)
theorem Ext.refl (w : Wd) : Ext (fr X) w w := ⟨fun _ _ h => h, fun _ _ h => h, fun _ _ h => h⟩
theorem Ext.of {w : Wd} {H : Hp} {w' : Wd} {H' : Hp} (f : Fut w H w' H') : Ext (fr X) w w' := ⟨f.F, f.nuget, f.sget⟩
theorem Ext.trans {w w1 w2 : Wd} (a : Ext (fr X) w w1) (b : Ext (fr X) w1 w2) : Ext (fr X) w w2 := ⟨a.F.trans b.F, fun c x h => b.n c x (a.n c x h), fun p q h => b.s p q (a.s p q h)⟩
theorem Dens.ext {K : Fr} {w w' : Wd} (f : Ext K w w') {v : List V} {d : List D} (h : Dens K w v d) : Dens K w' v d := h.mono f.F f.n f.s
theorem Den.ext {K : Fr} {w w' : Wd} (f : Ext K w w') {v : V} {d : D} (h : Den K w v d) : Den K w' v d := h.mono f.F f.n f.s
/-- J walks over ds as long as the cells of g stay -/
structure ItOk (K : Fr) (w : Wd) (J : L2.It) (ds : List D) (g : Grd) : Prop where
  go : ∀ i w1 M1 H1 d, Ext K w w1 → Rp K w1 M1 H1 → gok g M1 = true → ds[i]? = some d → J.go i H1 ∧ ∀ x H2, J.yld i H1 x H2 → ∃ w2, Fut w1 H1 w2 H2 ∧ Rp K w2 M1 H2 ∧ Den K w2 x d
  stop : ∀ i w1 M1 H1, Ext K w w1 → Rp K w1 M1 H1 → gok g M1 = true → ds.length = i → J.stop i H1
def tI (K : Fr) (f : Env → Mem → Res (List D × Grd)) : TI := fun σ H R => ∃ w env M ds g M', Rp K w M H ∧ EnvOk K w σ env ∧ f env M = some ((ds, g), M') ∧ ∀ w' H' J, Fut w H w' H' → Rp K w' M' H' → ItOk K w' J ds g → R J H'
theorem imp_i {tg iter : Expr} {t t' : TI} (h : PI X tg iter t) (i : ∀ σ H R, t' σ H R → t σ H R) : PI X tg iter t' := ⟨fun pins s σ H R I q => h.run pins s σ H R I (i σ H R q)⟩
theorem pi_or {tg iter : Expr} {t t' : TI} (h : PI X tg iter t) (h' : PI X tg iter t') : PI X tg iter (fun σ H R => t σ H R ∨ t' σ H R) := ⟨fun pins s σ H R I q => q.elim (h.run pins s σ H R I) (h'.run pins s σ H R I)⟩
theorem gok_append {g h : Grd} {M : Mem} : gok (g ++ h) M = (gok g M && gok h M) := by simp [gok, List.all_append]
/-- what is walked by its places: a frozen list, a live cell, a tuple -/
inductive Src (K : Fr) (w : Wd) : Addr → List D → Grd → Bool → Prop
  | fl {a : Addr} {vs : List V} {ds : List D} : w.F a = some (.lst vs) → Dens K w vs ds → Src K w a ds [] true
  | ce {a : Addr} {c : Nat} {ds : List D} : w.ν[c]? = some a → Src K w a ds [(c, ds)] true
  | tu {a : Addr} {vs : List V} {ds : List D} : SqT K w.F a vs → Dens K w vs ds → Src K w a ds [] false
mutual
theorem beq_eq : ∀ {x y : D}, D.beq x y = true → x = y
  | .non, y, h => by cases y <;> simp_all [D.beq]
  | .bl _, y, h => by cases y <;> simp_all [D.beq]
  | .int _, y, h => by cases y <;> simp_all [D.beq]
  | .str _, y, h => by cases y <;> simp_all [D.beq]
  | .ty _, y, h => by cases y <;> simp_all [D.beq]
  | .tup xs, y, h => by
    cases y <;> simp only [D.beq, reduceCtorEq, Bool.false_eq_true] at h
    rw [beqs_eq h]
  | .lst xs, y, h => by
    cases y <;> simp only [D.beq, reduceCtorEq, Bool.false_eq_true] at h
    rw [beqs_eq h]
  | .dic ks vs, y, h => by
    cases y <;> simp only [D.beq, reduceCtorEq, Bool.false_eq_true, Bool.and_eq_true] at h
    rw [beqs_eq h.1, beqs_eq h.2]
  | .cell _, y, h => by cases y <;> simp_all [D.beq]
  | .strm, y, h => by cases y <;> simp_all [D.beq]
  | .scr _, y, h => by cases y <;> simp_all [D.beq]
  | .rng _ _, y, h => by cases y <;> simp_all [D.beq]
theorem beqs_eq : ∀ {xs ys : List D}, D.beqs xs ys = true → xs = ys
  | [], [], _ => rfl
  | [], _ :: _, h => by simp [D.beqs] at h
  | _ :: _, [], h => by simp [D.beqs] at h
  | x :: xs, y :: ys, h => by
    simp only [D.beqs, Bool.and_eq_true] at h
    rw [beq_eq h.1, beqs_eq h.2]
end
mutual
theorem beq_refl : ∀ (x : D), D.beq x x = true
  | .non => rfl
  | .bl _ => by simp [D.beq]
  | .int _ => by simp [D.beq]
  | .str _ => by simp [D.beq]
  | .ty _ => by simp [D.beq]
  | .tup xs => by simp only [D.beq]; exact beqs_refl xs
  | .lst xs => by simp only [D.beq]; exact beqs_refl xs
  | .dic ks vs => by simp only [D.beq, beqs_refl ks, beqs_refl vs, Bool.and_self]
  | .cell _ => by simp [D.beq]
  | .strm => rfl
  | .scr _ => by simp [D.beq]
  | .rng _ _ => by simp [D.beq]
theorem beqs_refl : ∀ (xs : List D), D.beqs xs xs = true
  | [] => rfl
  | x :: xs => by simp only [D.beqs, beq_refl x, beqs_refl xs, Bool.and_self]
end
theorem gok_cell {c : Nat} {ds : List D} {M : Mem} (h : gok [(c, ds)] M = true) : M.S[c]? = some (.lst ds) := by
  simp only [gok, List.all_cons, List.all_nil, Bool.and_true] at h
  split at h
  · rename_i xs e
    rw [e, beqs_eq h]
  · cases h
theorem Src.list {K : Fr} {w w1 : Wd} {a : Addr} {ds : List D} {g : Grd} {M : Mem} {H : Hp} (s : Src K w a ds g true) (x : Ext K w w1) (R : Rp K w1 M H) (hg : gok g M = true) : ∃ vs, H a = some (.lst vs) ∧ Dens K w1 vs ds := by
  cases s with
  | fl h r => exact ⟨_, R.same _ _ (x.F _ _ h), r.ext x⟩
  | ce h => obtain ⟨_, vs, e, r⟩ := R.cell (x.n _ _ h) (gok_cell hg); exact ⟨vs, e, r⟩
theorem Src.tup {K : Fr} {w w1 : Wd} {a : Addr} {ds : List D} {g : Grd} {M : Mem} {H : Hp} (s : Src K w a ds g false) (x : Ext K w w1) (R : Rp K w1 M H) : ∃ vs, SqT K H a vs ∧ Dens K w1 vs ds := by
  cases s with
  | tu h r => exact ⟨_, Same.seqT R.same (Same.seqT x.F h), r.ext x⟩
theorem walk_src {K : Fr} {w : Wd} {M : Mem} {H : Hp} {x : V} {d : D} {ds : List D} {g : Grd} (R : Rp K w M H) (h : Den K w x d) (e : walkOf M d = some (ds, g)) : ∃ a k, x = .ref a ∧ Src K w a ds g k ∧ gok g M = true := by
  cases h with
  | lst h r => simp only [walkOf, Option.some.injEq, Prod.mk.injEq] at e; obtain ⟨rfl, rfl⟩ := e; exact ⟨_, true, rfl, .fl h r, rfl⟩
  | tup h r => simp only [walkOf, Option.some.injEq, Prod.mk.injEq] at e; obtain ⟨rfl, rfl⟩ := e; exact ⟨_, false, rfl, .tu h r, rfl⟩
  | @cell a c h =>
    simp only [walkOf] at e
    split at e
    · rename_i xs hc
      simp only [Option.some.injEq, Prod.mk.injEq] at e
      obtain ⟨rfl, rfl⟩ := e
      refine ⟨a, true, rfl, .ce h, ?_⟩
      simp only [gok, List.all_cons, List.all_nil, Bool.and_true, hc]
      exact beqs_refl _
    · cases e
  | _ => simp [walkOf] at e
end
end Ev

set_option autoImplicit false
set_option linter.all false
set_option maxRecDepth 100000
set_option maxHeartbeats 1000000
/-! Ev: what is walked; comprehensions; loops. -/
namespace Ev
open PySem PySem.Spec PyProof.Rows L2
section
variable {X : Cx} {a b c : Expr} {fa fb fc : Env → Mem → Res D} {pos : Pos} {tg : Expr}
theorem itl_ok {w : Wd} {p : Addr} {ds : List D} {g : Grd} (s : Src (fr X) w p ds g true) : ItOk (fr X) w (Itl (fr X) p) ds g where
  go := fun i w1 M1 H1 d x R hg hd => by
    obtain ⟨vs, e, r⟩ := s.list x R hg
    obtain ⟨v, hv, dv⟩ := r.get hd
    refine ⟨⟨vs, v, .inl (.inl e), hv⟩, fun y H2 h => ?_⟩
    obtain ⟨rfl, hy⟩ := h
    have := hy vs (.inl (.inl e))
    rw [hv] at this; cases this
    exact ⟨w1, Fut.refl _ _, R, dv⟩
  stop := fun i w1 M1 H1 x R hg hd => by
    obtain ⟨vs, e, r⟩ := s.list x R hg
    exact ⟨vs, .inl (.inl e), by rw [r.length]; omega⟩
theorem itt_ok {w : Wd} {p : Addr} {ds : List D} {g : Grd} (s : Src (fr X) w p ds g false) : ItOk (fr X) w (Itt (fr X) p) ds g where
  go := fun i w1 M1 H1 d x R hg hd => by
    obtain ⟨vs, e, r⟩ := s.tup x R
    obtain ⟨v, hv, dv⟩ := r.get hd
    refine ⟨⟨vs, v, e, hv⟩, fun y H2 h => ?_⟩
    obtain ⟨rfl, hy⟩ := h
    have := hy vs e
    rw [hv] at this; cases this
    exact ⟨w1, Fut.refl _ _, R, dv⟩
  stop := fun i w1 M1 H1 x R hg hd => by
    obtain ⟨vs, e, r⟩ := s.tup x R
    exact ⟨vs, e, by rw [r.length]; omega⟩
theorem its_ok {w : Wd} {z : Str} : ItOk (fr X) w (Its z) (z.cps.toList.map fun c => .str ⟨#[c]⟩) [] where
  go := fun i w1 M1 H1 d x R hg hd => by
    rw [List.getElem?_map, Option.map_eq_some_iff] at hd
    obtain ⟨c, hc, rfl⟩ := hd
    have hl : i < z.cps.size := by
      have := (List.getElem?_eq_some_iff.mp hc).1
      simpa using this
    refine ⟨hl, fun y H2 h => ?_⟩
    obtain ⟨rfl, c', h1, rfl⟩ := h
    have h2 : z.cps[i]? = some c := by rw [← hc]; simp
    rw [h2] at h1; cases h1
    exact ⟨w1, Fut.refl _ _, R, .str _⟩
  stop := fun i w1 M1 H1 x R hg hd => by
    show z.cps.size ≤ i
    rw [List.length_map] at hd
    simp at hd; omega
theorem in62_iff {i : Int} (h : in62 i = true) : -(2 ^ 62) ≤ i ∧ i < 2 ^ 62 := by
  simp only [in62, Bool.and_eq_true, decide_eq_true_eq] at h; exact h
theorem itr_ok {w : Wd} {i j : Int} : ItOk (fr X) w (Itr i (j - i).toNat) (rangeD i j) [] where
  go := fun k w1 M1 H1 d x R hg hd => by
    unfold rangeD at hd
    rw [List.getElem?_map, Option.map_eq_some_iff] at hd
    obtain ⟨m, hm, rfl⟩ := hd
    rw [List.getElem?_eq_some_iff] at hm
    obtain ⟨h1, h2⟩ := hm
    rw [List.getElem_range] at h2
    subst h2
    rw [List.length_range] at h1
    refine ⟨h1, fun y H2 h => ?_⟩
    obtain ⟨rfl, rfl⟩ := h
    exact ⟨w1, Fut.refl _ _, R, .int _⟩
  stop := fun k w1 M1 H1 x R hg hd => by
    show (j - i).toNat ≤ k
    unfold rangeD at hd
    rw [List.length_map, List.length_range] at hd
    omega
def iRngV (tl : TE) : TI := fun σ H R => tl σ H fun x H1 => ∃ (a : Addr) (i j : Int), x = .ref a ∧ H1 a = some (.rng i j) ∧ (-(2 ^ 62) ≤ i ∧ i < 2 ^ 62 ∧ -(2 ^ 62) ≤ j ∧ j < 2 ^ 62) ∧ R (Itr i (j - i).toNat) H1
/-- a range object, walked -/
theorem pi_rngV {l : Expr} {tl : TE} (hl : PE X l tl) : PI X tg l (iRngV tl) := by
  refine ⟨fun pins s σ H R I h => ?_⟩
  refine thn (hl.run pins s σ H _ I h) fun v s1 ⟨x, H1, I1, r1, q1⟩ => ?_
  obtain ⟨a, lo, hi, e, ha, ⟨h1, h2, h3, h4⟩, q⟩ := q1
  subst e
  cases r1
  obtain ⟨t, u, w', ho⟩ : ∃ t u v, s1.heap.get? a = some { cls := .type "range", data := .fields #[.int lo t, .int hi u, .int 1 v] } := I1.hok a _ ha
  refine wpAny_pyIter_range ho (small_one h1 h2 h3 h4) ?_
  refine ⟨s1.heap.objs.size, [s1.heap.objs.size], _, _, H1, rfl, I1.kept (t' := s1.toks) fun b o e => Heap.get?_push_of_some _ e, turn_range _ lo (hi - lo).toNat, ?_, fun b hb => ?_, q⟩
  · have e1 : lo + ((0 : Nat) : Int) * 1 = lo := by simp
    have e2 : (((hi - lo).toNat : Nat) : Int) - ((0 : Nat) : Int) = Builtin.Range.rangeSize lo hi 1 := by rw [rangeSize_one]; split <;> omega
    show IsRangeIter _ _ (lo + ((0 : Nat) : Int) * 1) ((((hi - lo).toNat : Nat) : Int) - ((0 : Nat) : Int)) 1
    rw [e1, e2]
    exact Heap.get?_push_size _ rfl
  · have e : b = s1.heap.objs.size := by simpa using hb
    subst e
    exact I1.fpOk (Nat.le_refl _) (I1.hok.fresh (Nat.le_refl _))
theorem i_val (ha : PE X a (tE (fr X) fa)) : PI X tg a (tI (fr X) fun env M => match fa env M with
    | some (d, M1) => match d with
      | .str x => if x.length ≤ Lim then some ((x.cps.toList.map fun c => .str ⟨#[c]⟩, []), M1) else none
      | .rng i j => if in62 i && in62 j then some ((rangeD i j, []), M1) else none
      | d => (walkOf M1 d).map fun w => (w, M1)
    | none => none) := by
  refine imp_i (pi_or (pi_list ha) (pi_or (pi_tup ha) (pi_or (pi_str ha) (pi_rngV ha)))) ?_
  rintro σ H R ⟨w, env, M, ds, g, M', Rr, E, e, q⟩
  simp only at e
  split at e
  · rename_i d M1 h1
    split at e
    · rename_i z
      split at e
      · cases e
        refine .inr (.inr (.inl ⟨w, env, M, .str z, _, Rr, E, h1, fun w1 H1 x f1 R1 d1 => ⟨z, den_str d1, q w1 H1 _ f1 R1 its_ok⟩⟩))
      · cases e
    · rename_i i j
      split at e
      · rename_i hj
        cases e
        rw [Bool.and_eq_true] at hj
        obtain ⟨b1, b2⟩ := in62_iff hj.1
        obtain ⟨b3, b4⟩ := in62_iff hj.2
        refine .inr (.inr (.inr ⟨w, env, M, .rng i j, _, Rr, E, h1, fun w1 H1 x f1 R1 d1 => ?_⟩))
        cases d1 with
        | rng h => exact ⟨_, i, j, rfl, R1.same _ _ h, ⟨b1, b2, b3, b4⟩, q w1 H1 _ f1 R1 itr_ok⟩
      · cases e
    · simp only [Option.map_eq_some_iff] at e
      obtain ⟨⟨ds', g'⟩, h2, e⟩ := e
      cases e
      have key : ∀ (k : Bool), (∀ w1 H1 x, Fut w H w1 H1 → Rp (fr X) w1 M' H1 → Den (fr X) w1 x d → ∃ p, x = .ref p ∧ Src (fr X) w1 p ds g k ∧ gok g M' = true) → (k = true → tE (fr X) fa σ H (fun x H1 => ∃ p, x = .ref p ∧ (∃ xs, SqL (fr X) H1 p xs) ∧ R (Itl (fr X) p) H1)) ∧ (k = false → tE (fr X) fa σ H (fun x H1 => ∃ p, x = .ref p ∧ (∃ xs, SqT (fr X) H1 p xs) ∧ R (Itt (fr X) p) H1)) := fun k hk => by
        refine ⟨fun ek => ⟨w, env, M, d, M', Rr, E, h1, fun w1 H1 x f1 R1 d1 => ?_⟩, fun ek => ⟨w, env, M, d, M', Rr, E, h1, fun w1 H1 x f1 R1 d1 => ?_⟩⟩
        · subst ek
          obtain ⟨p, rfl, s, hg⟩ := hk w1 H1 x f1 R1 d1
          obtain ⟨vs, e1, r⟩ := s.list (Ext.refl (X := X) w1) R1 hg
          exact ⟨p, rfl, ⟨vs, .inl (.inl e1)⟩, q w1 H1 _ f1 R1 (itl_ok s)⟩
        · subst ek
          obtain ⟨p, rfl, s, hg⟩ := hk w1 H1 x f1 R1 d1
          obtain ⟨vs, e1, r⟩ := s.tup (Ext.refl (X := X) w1) R1
          exact ⟨p, rfl, ⟨vs, e1⟩, q w1 H1 _ f1 R1 (itt_ok s)⟩
      -- which kind it is, is seen of d
      have kd : (∃ k, ∀ w1 H1 x, Fut w H w1 H1 → Rp (fr X) w1 M' H1 → Den (fr X) w1 x d → ∃ p, x = .ref p ∧ Src (fr X) w1 p ds g k ∧ gok g M' = true) := by
        cases d with
        | tup xs => exact ⟨false, fun w1 H1 x f1 R1 d1 => by
            obtain ⟨p, k, e1, s, hg⟩ := walk_src R1 d1 h2
            simp only [walkOf, Option.some.injEq, Prod.mk.injEq] at h2
            obtain ⟨rfl, rfl⟩ := h2
            cases d1 with
            | tup h r => cases e1; exact ⟨_, rfl, .tu h r, rfl⟩⟩
        | lst xs => exact ⟨true, fun w1 H1 x f1 R1 d1 => by
            simp only [walkOf, Option.some.injEq, Prod.mk.injEq] at h2
            obtain ⟨rfl, rfl⟩ := h2
            cases d1 with
            | lst h r => exact ⟨_, rfl, .fl h r, rfl⟩⟩
        | cell c => exact ⟨true, fun w1 H1 x f1 R1 d1 => by
            obtain ⟨p, k, e1, s, hg⟩ := walk_src R1 d1 h2
            simp only [walkOf] at h2
            split at h2
            · simp only [Option.some.injEq, Prod.mk.injEq] at h2
              obtain ⟨rfl, rfl⟩ := h2
              cases d1 with
              | cell h => exact ⟨_, rfl, .ce h, hg⟩
            · cases h2⟩
        | _ => simp [walkOf] at h2
      obtain ⟨k, hk⟩ := kd
      cases k with
      | true => exact .inl ((key true hk).1 rfl)
      | false => exact .inr (.inl ((key false hk).2 rfl))
  · cases e
theorem itc_ok {w : Wd} {i j : Int} : ItOk (fr X) w (Itc i (-1) (i - j).toNat) (rangeDn i j) [] where
  go := fun k w1 M1 H1 d x R hg hd => by
    unfold rangeDn at hd
    rw [List.getElem?_map, Option.map_eq_some_iff] at hd
    obtain ⟨m, hm, rfl⟩ := hd
    rw [List.getElem?_eq_some_iff] at hm
    obtain ⟨h1, h2⟩ := hm
    rw [List.getElem_range] at h2
    subst h2
    rw [List.length_range] at h1
    refine ⟨h1, fun y H2 h => ?_⟩
    obtain ⟨rfl, rfl⟩ := h
    exact ⟨w1, Fut.refl _ _, R, .int _⟩
  stop := fun k w1 M1 H1 x R hg hd => by
    show (i - j).toNat ≤ k
    unfold rangeDn at hd
    rw [List.length_map, List.length_range] at hd
    omega
theorem i_rng1 {p : Pos} (hg : Gl X "range") (hm : X.mg "range" = none) (ha : PE X a (tE (fr X) fa)) (hst : isStar a = false) : PI X tg (.Call (.Name "range" p) [a] [] pos) (tI (fr X) fun env M => match fa env M with
    | some (.int j, M1) => if in62 j then some ((rangeD 0 j, []), M1) else none
    | _ => none) := by
  refine imp_i (pi_range1 (ta := tCons (tE (fr X) fa) tNil) hg hm (pa_cons ha pa_nil (star_cons hst)) (star_cons hst)) ?_
  rintro σ H R ⟨w, env, M, ds, g, M', Rr, E, e, q⟩
  simp only at e
  split at e
  · rename_i j M1 h1
    split at e
    · rename_i hj
      cases e
      obtain ⟨b1, b2⟩ := in62_iff hj
      refine ⟨w, env, M, .int j, _, Rr, E, h1, fun w1 H1 x f1 R1 d1 => ⟨j, by rw [den_int d1], b1, b2, ?_⟩⟩
      have := itr_ok (X := X) (w := w1) (i := 0) (j := j)
      rw [Int.sub_zero] at this
      exact q w1 H1 _ f1 R1 this
    · cases e
  · cases e
theorem i_rng2 {p : Pos} (hg : Gl X "range") (hm : X.mg "range" = none) (ha : PE X a (tE (fr X) fa)) (hb : PE X b (tE (fr X) fb)) (hst : isStar a = false) (hst2 : isStar b = false) : PI X tg (.Call (.Name "range" p) [a, b] [] pos) (tI (fr X) fun env M => match fa env M with
    | some (.int i, M1) => match fb env M1 with
      | some (.int j, M2) => if in62 i && in62 j then some ((rangeD i j, []), M2) else none
      | _ => none
    | _ => none) := by
  refine imp_i (pi_range2 (ta := tCons (tE (fr X) fa) (tCons (tE (fr X) fb) tNil)) hg hm (pa_cons ha (pa_cons hb pa_nil (star_cons hst2)) (star_cons hst)) (by rw [star_cons hst, star_cons hst2]; rfl) (by rw [star_cons hst2]; rfl)) ?_
  rintro σ H R ⟨w, env, M, ds, g, M', Rr, E, e, q⟩
  simp only at e
  split at e
  · rename_i i M1 h1
    split at e
    · rename_i j M2 h2
      split at e
      · rename_i hj
        cases e
        rw [Bool.and_eq_true] at hj
        obtain ⟨b1, b2⟩ := in62_iff hj.1
        obtain ⟨b3, b4⟩ := in62_iff hj.2
        exact ⟨w, env, M, .int i, M1, Rr, E, h1, fun w1 H1 x f1 R1 d1 => ⟨w1, env, M1, .int j, _, R1, E.fut f1, h2, fun w2 H2 y f2 R2 d2 => ⟨i, j, by rw [den_int d1, den_int d2], ⟨b1, b2, b3, b4⟩, q w2 H2 _ (f1.trans f2) R2 itr_ok⟩⟩⟩
      · cases e
    · cases e
  · cases e
theorem i_rng3 {p : Pos} (hg : Gl X "range") (hm : X.mg "range" = none) (ha : PE X a (tE (fr X) fa)) (hb : PE X b (tE (fr X) fb)) (hc : PE X c (tE (fr X) fc)) (hst : isStar a = false) (hst2 : isStar b = false) (hst3 : isStar c = false) : PI X tg (.Call (.Name "range" p) [a, b, c] [] pos) (tI (fr X) fun env M => match fa env M with
    | some (.int i, M1) => match fb env M1 with
      | some (.int j, M2) => match fc env M2 with
        | some (.int s, M3) => if in62 i && in62 j && decide (s = -1) then some ((rangeDn i j, []), M3) else none
        | _ => none
      | _ => none
    | _ => none) := by
  refine imp_i (pi_range3 (ta := tCons (tE (fr X) fa) (tCons (tE (fr X) fb) (tCons (tE (fr X) fc) tNil))) hg hm (pa_cons ha (pa_cons hb (pa_cons hc pa_nil (star_cons hst3)) (star_cons hst2)) (star_cons hst)) (star_cons hst) (by rw [star_cons hst2, star_cons hst3]; rfl)) ?_
  rintro σ H R ⟨w, env, M, ds, g, M', Rr, E, e, q⟩
  simp only at e
  split at e
  · rename_i i M1 h1
    split at e
    · rename_i j M2 h2
      split at e
      · rename_i s M3 h3
        split at e
        · rename_i hj
          cases e
          rw [Bool.and_eq_true, Bool.and_eq_true, decide_eq_true_eq] at hj
          obtain ⟨⟨hi, hj⟩, rfl⟩ := hj
          obtain ⟨b1, b2⟩ := in62_iff hi
          obtain ⟨b3, b4⟩ := in62_iff hj
          exact ⟨w, env, M, .int i, M1, Rr, E, h1, fun w1 H1 x f1 R1 d1 => ⟨w1, env, M1, .int j, M2, R1, E.fut f1, h2, fun w2 H2 y f2 R2 d2 => ⟨w2, env, M2, .int (-1), _, R2, (E.fut f1).fut f2, h3, fun w3 H3 z f3 R3 d3 =>
            ⟨i, j, -1, (i - j).toNat, by rw [den_int d1, den_int d2, den_int d3], RgC.neg b1 b2 b3 b4, q w3 H3 _ ((f1.trans f2).trans f3) R3 itc_ok⟩⟩⟩⟩
        · cases e
      · cases e
    · cases e
  · cases e
end
end Ev

set_option autoImplicit false
set_option linter.all false
set_option maxRecDepth 100000
set_option maxHeartbeats 1000000
/-! Ev: targets, comprehensions. -/
namespace Ev
open PySem PySem.Spec PyProof.Rows L2
section
variable {K : Fr} {w w' : Wd} {M : Mem} {H H' : Hp}
/-- an address that the data know nothing of -/
structure Outw (w : Wd) (p : Addr) : Prop where
  F : w.F p = none
  n : p ∉ w.ν
  s : ∀ a b, w.s = some (a, b) → p ≠ a ∧ p ≠ b
theorem Outw.fut {p : Addr} {o : HO} (f : Fut w H w' H') (h : H p = some o) (x : Outw w p) : Outw w' p := by
  refine ⟨f.new p o h x.F x.n, fun hp => ?_, fun a b e => ?_⟩
  · obtain ⟨l, e, n⟩ := f.nu
    rw [e] at hp
    rcases List.mem_append.mp hp with z | z
    · exact x.n z
    · rw [n p z] at h; cases h
  · rcases f.s with z | ⟨z, y⟩
    · exact x.s a b (z ▸ e)
    · obtain ⟨n1, n2⟩ := y a b e
      exact ⟨ne_of_none h n1, ne_of_none h n2⟩
theorem Rp.newOut {p : Addr} (R : Rp K w M H) (hp : H p = none) : Outw w p := by
  refine ⟨R.same.free hp, R.notin hp, fun a b e => ?_⟩
  have q := R.st
  cases hm : M.st with
  | none => rw [hm] at q; rw [q] at e; cases e
  | some t =>
    rw [hm] at q
    obtain ⟨a', b', e', h1, h2, _⟩ := q
    rw [e] at e'; cases e'
    exact ⟨(ne_of_none h1 hp).symm, (ne_of_none h2 hp).symm⟩
/-- what lies outside may be written, made, taken away -/
theorem Rp.other {p : Addr} (R : Rp K w M H) (x : Outw w p) (h : ∀ b, b ≠ p → H' b = H b) : Rp K w M H' := by
  refine ⟨fun b o e => ?_, R.len, R.nd, fun c o a h1 h2 => ?_, ?_⟩
  · rw [h b (ne_of_none e x.F)]; exact R.same b o e
  · have hap : a ≠ p := fun z => x.n (z ▸ List.mem_of_getElem? h2)
    have q := R.cells c o a h1 h2
    cases o with
    | dead => obtain ⟨o, e⟩ := q; exact ⟨o, by rw [h a hap]; exact e⟩
    | lst ds => obtain ⟨f, vs, e, r⟩ := q; exact ⟨f, vs, by rw [h a hap]; exact e, r⟩
    | dic _ _ => obtain ⟨f, vs, e, r⟩ := q; exact ⟨f, vs, by rw [h a hap]; exact e, r⟩
  · have q := R.st
    cases hm : M.st with
    | none => rw [hm] at q; exact q
    | some t =>
      rw [hm] at q
      obtain ⟨a, b, e, h1, h2, h3⟩ := q
      obtain ⟨n1, n2⟩ := x.s a b e
      exact ⟨a, b, e, by rw [h a n1.symm]; exact h1, by rw [h b n2.symm]; exact h2, h3⟩
theorem Rp.upd {p : Addr} {o : HO} (R : Rp K w M H) (x : Outw w p) : Rp K w M (L2.upd H p o) := R.other x fun _ hb => upd_ne hb
def era (H : Hp) (p : Addr) : Hp := fun b => if b = p then none else H b
theorem era_ne {p b : Addr} (h : b ≠ p) : era H p b = H b := by unfold era; rw [if_neg h]
theorem era_same {p : Addr} : era H p p = none := by unfold era; rw [if_pos rfl]
theorem upd_era {p : Addr} {o : HO} (h : H p = some o) : L2.upd (era H p) p o = H := by
  funext b
  by_cases hb : b = p
  · subst hb; rw [upd_same, h]
  · rw [upd_ne hb, era_ne hb]
theorem Rp.era {p : Addr} (R : Rp K w M H) (x : Outw w p) : Rp K w M (Ev.era H p) := R.other x fun _ hb => era_ne hb
theorem Fut.era {p : Addr} {o : HO} (f : Fut w (L2.upd H p o) w' H') (hp : H p = none) : Fut w H w' (Ev.era H' p) := by
  have at_ : ∀ b x, H b = some x → b ≠ p ∧ L2.upd H p o b = some x := fun b x e => ⟨ne_of_none e hp, by rw [upd_ne (ne_of_none e hp)]; exact e⟩
  have fr : ∀ a, L2.upd H p o a = none → H a = none := fun a e => by
    by_cases ha : a = p
    · subst ha; exact hp
    · rw [upd_ne ha] at e; exact e
  refine ⟨?_, f.F, fun b x e hb hn => f.new b x (at_ b x e).2 hb hn, ?_, fun b x e hn hs => ?_, fun b x e => ?_⟩
  · obtain ⟨l, e, n⟩ := f.nu
    exact ⟨l, e, fun a ha => fr a (n a ha)⟩
  · rcases f.s with z | ⟨z, y⟩
    · exact .inl z
    · exact .inr ⟨z, fun a b e => ⟨fr a (y a b e).1, fr b (y a b e).2⟩⟩
  · obtain ⟨hb, e'⟩ := at_ b x e
    rw [era_ne hb]; exact f.keep b x e' hn hs
  · obtain ⟨hb, e'⟩ := at_ b x e
    obtain ⟨o', h'⟩ := f.there b x e'
    exact ⟨o', by rw [era_ne hb]; exact h'⟩
theorem Fut.updOut {p : Addr} {o : HO} (hp : H p = none) : Fut w H w (L2.upd H p o) := ⟨⟨[], by simp, by simp⟩, fun _ _ h => h, fun _ _ _ h _ => h, .inl rfl, fun b x e _ _ => by rw [upd_ne (ne_of_none e hp)]; exact e, fun b x e => ⟨x, by rw [upd_ne (ne_of_none e hp)]; exact e⟩⟩
end

/-! ### targets -/
def Only (own : List Nat) (σ σ' : L2.St) : Prop := σ'.length = σ.length ∧ ∀ i, i ∉ own → σ'[i]? = σ[i]?
theorem Only.refl (own : List Nat) (σ : L2.St) : Only own σ σ := ⟨rfl, fun _ _ => rfl⟩
theorem Only.trans {o1 o2 : List Nat} {σ σ1 σ2 : L2.St} (a : Only o1 σ σ1) (b : Only o2 σ1 σ2) : Only (o1 ++ o2) σ σ2 :=
  ⟨b.1.trans a.1, fun i h => by rw [List.mem_append, not_or] at h; exact (b.2 i h.2).trans (a.2 i h.1)⟩
theorem wipe_get (σ : L2.St) : ∀ (vs : List Nat) (i : Nat), (L2.wipe σ vs)[i]? = if i ∈ vs ∧ i < σ.length then some none else σ[i]?
  | [], i => by simp [L2.wipe]
  | v :: vs, i => by
    show ((L2.wipe σ vs).set v none)[i]? = _
    by_cases hi : i = v
    · subst hi
      by_cases hl : i < σ.length
      · rw [List.getElem?_set_self (by rw [L2.wipe_length]; exact hl), if_pos ⟨by simp, hl⟩]
      · rw [List.getElem?_eq_none (by rw [List.length_set, L2.wipe_length]; omega), if_neg (by simp [hl]), List.getElem?_eq_none (by omega)]
    · rw [List.getElem?_set_ne (Ne.symm hi), wipe_get σ vs i]
      simp [hi]
theorem wipe_only {vs : List Nat} {σ σ2 : L2.St} (h : Only vs (L2.wipe σ vs) σ2) : L2.wipe σ2 vs = L2.wipe σ vs := by
  have hl : σ2.length = σ.length := by rw [h.1, L2.wipe_length]
  apply List.ext_getElem?
  intro i
  rw [wipe_get, wipe_get, hl]
  by_cases hi : i ∈ vs ∧ i < σ.length
  · rw [if_pos hi, if_pos hi]
  · rw [if_neg hi, if_neg hi]
    by_cases h2 : i ∈ vs
    · have h3 : σ.length ≤ i := Nat.le_of_not_lt fun z => hi ⟨h2, z⟩
      rw [List.getElem?_eq_none (by omega), List.getElem?_eq_none h3]
    · rw [h.2 i h2, wipe_get, if_neg (fun z => h2 z.1)]
def tG (K : Fr) (own : List Nat) (f : D → Env → Option Env) : TG := fun v σ H Q => ∃ w env M d env', Rp K w M H ∧ EnvOk K w σ env ∧ Den K w v d ∧ f d env = some env' ∧ ∀ σ', Only own σ σ' → EnvOk K w σ' env' → Q σ' H
def tGs (K : Fr) (own : List Nat) (f : List D → Env → Option Env) : TGs := fun vs σ H Q => ∃ w env M ds env', Rp K w M H ∧ EnvOk K w σ env ∧ Dens K w vs ds ∧ f ds env = some env' ∧ ∀ σ', Only own σ σ' → EnvOk K w σ' env' → Q σ' H
theorem imp_g {X : Cx} {e : Expr} {t t' : TG} (h : PG X e t) (i : ∀ v σ H Q, t' v σ H Q → t v σ H Q) : PG X e t' := ⟨fun pins s σ H v u Q I r q => h.run pins s σ H v u Q I r (i v σ H Q q)⟩
theorem imp_gs {X : Cx} {e : List Expr} {t t' : TGs} (h : PGs X e t) (i : ∀ v σ H Q, t' v σ H Q → t v σ H Q) : PGs X e t' := ⟨fun pins s σ H v u Q I r q => h.run pins s σ H v u Q I r (i v σ H Q q)⟩
section
variable {X : Cx} {pos : Pos}
theorem g_name {i : Nat} {x : Str} (hN : X.N.Nodup) (hi : X.N[i]? = some x) (hx : Loc X.env.scope x) (hf : X.fn x = true ∨ X.env.scope.names.lookup x = some .local) : PG X (.Name x pos) (tG (fr X) [i] fun d env => if i < env.length then some (env.set i (some d)) else none) := by
  refine imp_g (pg_name hN hi hx hf) ?_
  rintro v σ H Q ⟨w, env, M, d, env', R, E, dv, e, q⟩
  dsimp only at e
  split at e
  · cases e
    refine q _ ⟨by rw [List.length_set], fun j hj => ?_⟩ (E.set i dv)
    rw [List.getElem?_set_ne (fun z => hj (by simp [z]))]
  · cases e
theorem gs_nil : PGs X [] (tGs (fr X) [] fun ds env => match ds with
    | [] => some env
    | _ => none) := by
  refine imp_gs pgs_nil ?_
  rintro v σ H Q ⟨w, env, M, d, env', R, E, dv, e, q⟩
  dsimp only at e
  split at e
  · cases e; cases dv; exact ⟨rfl, q σ (Only.refl _ _) E⟩
  · cases e
theorem gs_cons {e : Expr} {es : List Expr} {o1 o2 : List Nat} {f : D → Env → Option Env} {g : List D → Env → Option Env} (h1 : PG X e (tG (fr X) o1 f)) (h2 : PGs X es (tGs (fr X) o2 g)) (hst : isStar e = false) : PGs X (e :: es) (tGs (fr X) (o1 ++ o2) fun ds env => match ds with
    | d :: ds => match f d env with
      | some env' => g ds env'
      | none => none
    | [] => none) := by
  have hs : (assignEach (e :: es) X.env).map (·.2) = assign e X.env :: (assignEach es X.env).map (·.2) := by
    cases e <;> first | rfl | cases hst
  refine imp_gs (pgs_cons h1 h2 hs) ?_
  rintro v σ H Q ⟨w, env, M, d, env', R, E, dv, e, q⟩
  cases dv with
  | nil => cases e
  | cons dv dr =>
    simp only at e
    split at e
    · rename_i env1 he
      exact ⟨_, _, rfl, w, env, M, _, env1, R, E, dv, he, fun σ1 o1 E1 => ⟨w, env1, M, _, env', R, E1, dr, e, fun σ2 o2 E2 => q σ2 (o1.trans o2) E2⟩⟩
    · cases e
theorem each_len {es : List Expr} (env : PySem.Env) : (assignEach es env).length = es.length := by
  induction es with
  | nil => rfl
  | cons e es ih => cases e <;> simp [assignEach, ih]
theorem each_nostar {es : List Expr} (env : PySem.Env) (h : ∀ e ∈ es, isStar e = false) : (assignEach es env).findIdx? (·.1) = none := by
  rw [List.findIdx?_eq_none_iff]
  induction es with
  | nil => intro x hx; cases hx
  | cons e es ih =>
    have h1 := h e (by simp)
    intro x hx
    have hx' : x = (false, assign e env) ∨ x ∈ assignEach es env := by
      cases e <;> first | (simpa [assignEach] using hx) | cases h1
    rcases hx' with rfl | hx'
    · rfl
    · exact ih (fun e he => h e (by simp [he])) x hx'
theorem pg_or {target : Expr} {t1 t2 t : TG} (h1 : PG X target t1) (h2 : PG X target t2) (h : ∀ v σ H Q, t v σ H Q → t1 v σ H Q ∨ t2 v σ H Q) : PG X target t :=
  ⟨fun pins s σ H v u Q I r q => (h v σ H Q q).elim (fun z => h1.run pins s σ H v u Q I r z) fun z => h2.run pins s σ H v u Q I r z⟩
theorem g_tup {es : List Expr} {own : List Nat} {f : List D → Env → Option Env} (hc : X.calm = true) (h : PGs X es (tGs (fr X) own f)) (hst : ∀ e ∈ es, isStar e = false) (hf : ∀ ds env env', f ds env = some env' → ds.length = es.length) : PG X (.Tuple es 0 pos) (tG (fr X) own fun d env => match d with
    | .tup ds => f ds env
    | .lst ds => f ds env
    | _ => none) := by
  refine pg_or (pg_tup hc h (n := es.length) (each_len _) (each_nostar _ hst)) (pg_unl hc h (n := es.length) (each_len _) (each_nostar _ hst)) ?_
  rintro v σ H Q ⟨w, env, M, d, env', R, E, dv, e, q⟩
  dsimp only at e
  split at e
  · rename_i ds
    obtain ⟨a, vs, rfl, hs, r⟩ := den_tup dv
    exact .inl ⟨a, vs, rfl, Same.seqT R.same hs, by rw [r.length]; exact hf _ _ _ e, w, env, M, ds, env', R, E, r, e, q⟩
  · rename_i ds
    cases dv with
    | lst hs r => exact .inr ⟨_, _, rfl, .inl (.inl (R.same _ _ hs)), by rw [r.length]; exact hf _ _ _ e, w, env, M, ds, env', R, E, r, e, q⟩
  · cases e
end

/-! ### a list comprehension -/
abbrev lcTurn (vs : List Nat) (pt : D → Env → Option Env) (ft : Env → Mem → Res Bool) (fe : Env → Mem → Res D) (env : Env) : D → Mem → Res (Option D) := fun d M => match pt d (Ev.wipe env vs) with
  | some env' => match ft env' M with
    | some (true, M') => match fe env' M' with
      | some (y, M'') => some (some y, M'')
      | none => none
    | some (false, M') => some (none, M')
    | none => none
  | none => none
abbrev fLc (fi : Env → Mem → Res (List D × Grd)) (vs : List Nat) (pt : D → Env → Option Env) (ft : Env → Mem → Res Bool) (fe : Env → Mem → Res D) : Env → Mem → Res (List D) := fun env M => match fi env M with
      | some ((ds, gr), M1) => lcLoop gr (lcTurn vs pt ft fe env) ds [] M1
      | none => none
theorem lc_imp {X : Cx} {own : List (Str × Nat)} {fi : Env → Mem → Res (List D × Grd)} {pt : D → Env → Option Env} {ft : Env → Mem → Res Bool} {fe : Env → Mem → Res D} :
    ∀ σ H Q, tF (fr X) (fLc fi (own.map (·.2)) pt ft fe) σ H Q → tLc (tI (fr X) fi) (tG (fr X) (own.map (·.2)) pt) (tT (fr X) ft) (tE (fr X) fe) (own.map (·.2)) σ H Q := by
  rintro σ H Q ⟨w0, env, M0, res, M', R0, E0, e, q⟩
  simp only [fLc] at e
  split at e
  · rename_i ds gr M1 h1
    refine ⟨w0, env, M0, ds, gr, M1, R0, E0, h1, fun w1 H1 J f1 R1 ito => fun p hp => ?_⟩
    refine ⟨fun i m H => m = ds.length - i ∧ i ≤ ds.length ∧ ∃ w2 M2 H2 av ad, H = upd H2 p (.lst av) ∧ H2 p = none ∧ Fut w1 H1 w2 H2 ∧ Rp (fr X) w2 M2 H2 ∧ Dens (fr X) w2 av ad ∧ lcLoop gr (lcTurn (own.map (·.2)) pt ft fe env) (ds.drop i) ad M2 = some (res, M'),
      ⟨ds.length, by simp, Nat.zero_le _, w1, M1, H1, [], [], rfl, hp, Fut.refl _ _, R1, .nil, by rw [List.drop_zero]; exact e⟩, ?_⟩
    rintro i m H ⟨rfl, hil, w2, M2, H2, av, ad, rfl, hp2, f2, R2, rd, hl⟩
    have out2 := R2.newOut hp2
    have R2' : Rp (fr X) w2 M2 (upd H2 p (.lst av)) := R2.upd out2
    by_cases hlt : i < ds.length
    · right
      have hd : ds[i]? = some ds[i] := List.getElem?_eq_getElem hlt
      rw [List.drop_eq_getElem_cons hlt] at hl
      simp only [lcLoop] at hl
      split at hl
      · rename_i hgk
        obtain ⟨go, yl⟩ := ito.go i w2 M2 _ ds[i] (Ext.of f2) R2' hgk hd
        refine ⟨go, fun H' => ds.length - (i + 1) = ds.length - (i + 1) ∧ i + 1 ≤ ds.length ∧ ∃ w2 M2 H2 av ad, H' = upd H2 p (.lst av) ∧ H2 p = none ∧ Fut w1 H1 w2 H2 ∧ Rp (fr X) w2 M2 H2 ∧ Dens (fr X) w2 av ad ∧ lcLoop gr (lcTurn (own.map (·.2)) pt ft fe env) (ds.drop (i + 1)) ad M2 = some (res, M'), fun H' nx => ⟨ds.length - (i + 1), by omega, rfl, nx.2.1, nx.2.2⟩, fun x H3 hy => ?_⟩
        obtain ⟨w3, f3, R3, d3⟩ := yl x H3 hy
        -- the turn
        have E3 : EnvOk (fr X) w3 (L2.wipe σ (own.map (·.2))) (Ev.wipe env (own.map (·.2))) := ((E0.fut f1).fut (f2.trans (Fut.updOut (o := .lst av) hp2)) |>.fut f3).wipe _
        have o2 : upd H2 p (.lst av) p = some (.lst av) := upd_same
        -- what is left of the loop behind a state
        have back : ∀ {w4 : Wd} {H4 : Hp} {M4 : Mem} {y : List V} {yd : List D}, Fut w3 H3 w4 H4 → Rp (fr X) w4 M4 H4 → Dens (fr X) w4 y yd → lcLoop gr (lcTurn (own.map (·.2)) pt ft fe env) (ds.drop (i + 1)) (ad ++ yd) M4 = some (res, M') →
            ∃ w2 M2 H2 av' ad, upd H4 p (.lst (av ++ y)) = upd H2 p (.lst av') ∧ H2 p = none ∧ Fut w1 H1 w2 H2 ∧ Rp (fr X) w2 M2 H2 ∧ Dens (fr X) w2 av' ad ∧ lcLoop gr (lcTurn (own.map (·.2)) pt ft fe env) (ds.drop (i + 1)) ad M2 = some (res, M') := fun {w4 H4 M4 y yd} f4 R4 ry hl4 => by
          have f24 : Fut w2 (upd H2 p (.lst av)) w4 H4 := f3.trans f4
          have out4 : Outw w4 p := out2.fut f24 o2
          refine ⟨w4, M4, Ev.era H4 p, av ++ y, ad ++ yd, ?_, era_same, f2.trans (f24.era hp2), R4.era out4, (rd.fut f24).append ry, hl4⟩
          funext b
          by_cases hb : b = p
          · subst hb; rw [upd_same, upd_same]
          · rw [upd_ne hb, upd_ne hb, era_ne hb]
        split at hl
        · -- an item is made
          rename_i y M4 ht4
          split at hl
          · rename_i hlen
            simp only [lcTurn] at ht4
            split at ht4
            · rename_i env3 hput
              refine ⟨w3, _, M2, ds[i], env3, R3, E3, d3, hput, fun σ3 on E4 => ⟨wipe_only on, ?_⟩⟩
              split at ht4
              · rename_i M3 ht3
                split at ht4
                · rename_i y' M5 he5
                  cases ht4
                  refine ⟨w3, env3, M2, true, M3, R3, E4, ht3, fun w4 H4 f4 R4 => ?_⟩
                  show tE (fr X) fe σ3 H4 _
                  refine ⟨w4, env3, M3, y, _, R4, E4.fut f4, he5, fun w5 H5 v f5 R5 d5 => ?_⟩
                  have f25 : Fut w2 (upd H2 p (.lst av)) w5 H5 := (f3.trans f4).trans f5
                  have hk : H5 p = some (.lst av) := f25.keep p _ o2 out2.n out2.s
                  refine ⟨av, hk, by rw [rd.length, sizeLine_eq]; exact hlen, rfl, by omega, ?_⟩
                  exact back (f4.trans f5) R5 (.cons d5 .nil) hl
                · cases ht4
              · cases ht4
              · cases ht4
            · cases ht4
          · cases hl
        · -- none is made
          rename_i M4 ht4
          simp only [lcTurn] at ht4
          split at ht4
          · rename_i env3 hput
            refine ⟨w3, _, M2, ds[i], env3, R3, E3, d3, hput, fun σ3 on E4 => ⟨wipe_only on, ?_⟩⟩
            split at ht4
            · split at ht4
              · cases ht4
              · cases ht4
            · rename_i M3 ht3
              cases ht4
              refine ⟨w3, env3, M2, false, _, R3, E4, ht3, fun w4 H4 f4 R4 => ?_⟩
              have f24 : Fut w2 (upd H2 p (.lst av)) w4 H4 := f3.trans f4
              have hk : H4 p = some (.lst av) := f24.keep p _ o2 out2.n out2.s
              refine ⟨rfl, by omega, ?_⟩
              have z := back (y := []) (yd := []) f4 R4 .nil (by rw [List.append_nil]; exact hl)
              rw [List.append_nil] at z
              rwa [show upd H4 p (.lst av) = H4 by rw [← upd_era hk, upd_upd, upd_era hk]] at z
            · cases ht4
          · cases ht4
        · cases hl
      · cases hl
    · left
      have ei : i = ds.length := by omega
      subst ei
      rw [List.drop_length] at hl
      simp only [lcLoop] at hl
      split at hl
      · rename_i hgk
        cases hl
        exact ⟨ito.stop _ w2 _ _ (Ext.of f2) R2' hgk rfl, q w2 H2 p av (f1.trans f2) R2 hp2 rd⟩
      · cases hl
  · cases e
theorem f_lc {X : Cx} {tg iter elt : Expr} {ifs : List Expr} {scope : Scope} {own : List (Str × Nat)} {pos : Pos} {fi : Env → Mem → Res (List D × Grd)} {pt : D → Env → Option Env} {ft : Env → Mem → Res Bool} {fe : Env → Mem → Res D}
    (hc : X.calm = true) (hN : X.N.Nodup) (hi : PI X tg iter (tI (fr X) fi)) (ok : BlkOk X.N X.env.scope scope own)
    (hg : ∀ (s : Shared) (H : Hp) (C : Addr) (cl : List (Str × Addr)) (fp : List Addr), PG (X.blk s H scope (compEnvC scope cl C X.env) fp) tg (tG (fr X) (own.map (·.2)) pt)) (ht : ∀ (s : Shared) (H : Hp) (C : Addr) (cl : List (Str × Addr)) (fp : List Addr), PTs (X.blk s H scope (compEnvC scope cl C X.env) fp) ifs (tT (fr X) ft))
    (he : ∀ (s : Shared) (H : Hp) (C : Addr) (cl : List (Str × Addr)) (fp : List Addr), PE (X.blk s H scope (compEnvC scope cl C X.env) fp) elt (tE (fr X) fe)) (hs : ∀ x, foldedSetIterable iter X.env x = pure x) :
    PE X (.ListComp elt [⟨tg, iter, ifs, 0⟩] scope pos) (tF (fr X) (fLc fi (own.map (·.2)) pt ft fe)) := imp_e (pe_lc hc hN hi ok hg ht he hs) lc_imp
end Ev

set_option autoImplicit false
set_option linter.all false
set_option maxRecDepth 100000
set_option maxHeartbeats 1000000
/-! Ev: xs.index(y). -/
namespace Ev
open PySem PySem.Spec PyProof.Rows L2
theorem pys_get : ∀ {ys : List D} {j : Nat} {z : D}, ys[j]? = some z → (D.pys ys)[j]? = some z.py
  | [], _, _, h => by simp at h
  | y :: ys, 0, z, h => by simp at h; subst h; rfl
  | y :: ys, j + 1, z, h => by
    rw [List.getElem?_cons_succ] at h
    exact pys_get (ys := ys) h
theorem pys_of : ∀ {ys : List D} {j : Nat} {z : PyData}, (D.pys ys)[j]? = some z → ∃ y, ys[j]? = some y ∧ z = y.py
  | [], _, _, h => by simp [D.pys] at h
  | y :: ys, 0, z, h => by
    simp only [D.pys, List.getElem?_cons_zero, Option.some.injEq] at h
    exact ⟨y, rfl, h.symm⟩
  | y :: ys, j + 1, z, h => by
    simp only [D.pys, List.getElem?_cons_succ] at h
    obtain ⟨y', h1, h2⟩ := pys_of h
    exact ⟨y', by rw [List.getElem?_cons_succ]; exact h1, h2⟩
section
variable {X : Cx} {a b : Expr} {fa fb : Env → Mem → Res D} {pos : Pos}
theorem tyV_list {w : Wd} {M : Mem} {H : Hp} {d : D} {v : V} {xs : List D} (R : Rp (fr X) w M H) (h : Den (fr X) w v d) (e : listOf M d = some xs) : tyV (fr X) "list" v H := by
  cases d with
  | lst ys =>
    cases h with
    | lst h1 h2 => exact .inl ⟨rfl, _, .inl (.inl (R.same _ _ h1))⟩
  | cell c =>
    cases h with
    | @cell p _ hp =>
      simp only [listOf] at e
      split at e
      · rename_i ys hc
        exact tyV_cell R hp hc
      · cases e
  | _ => simp [listOf] at e
theorem e_idxOf {p2 : Pos} (hu : X.A.units + 65 < cLine) (ha : PE X a (tE (fr X) fa)) (hb : PE X b (tE (fr X) fb)) (hst : isStar b = false) (hbs : plainBase a = true) (hl : (p2.endLine == pos.line) = true) : PE X (.Call (.Attribute a "index" p2) [b] [] pos) (tE (fr X) fun env M => match fa env M with
    | some (d, M1) => match listOf M1 d with
      | some _ => match fb env M1 with
        | some (y, M2) => ofD (fdxD M2 y d) M2
        | none => none
      | none => none
    | none => none) := by
  refine imp_e (pe_bm (t := tCons (tE (fr X) fb) tNil) PySem.F.plainAttrs_list PySem.F.slot_list_index PySem.F.type_list_index (mt_indexD hu) ha (pa_cons hb pa_nil (star_cons hst)) (plbase hbs) (by rw [star_cons hst]; rfl) hl (star_cons hst) rfl) ?_
  rintro σ H Q ⟨w, env, M, d, M', R, E, e, q⟩
  simp only at e
  split at e
  · rename_i d1 M1 h1
    split at e
    · rename_i xs hx
      split at e
      · rename_i y M2 h2
        obtain ⟨e0, rfl⟩ : fdxD M2 y d1 = some d ∧ M2 = M' := by
          cases z : fdxD M2 y d1 with
          | none => rw [z] at e; cases e
          | some k => rw [z] at e; cases e; exact ⟨rfl, rfl⟩
        unfold fdxD at e0
        split at e0
        · rename_i y' ys ey ex
          split at e0
          · rename_i hs
            simp only [Bool.and_eq_true] at hs
            simp only [Option.map_eq_some_iff] at e0
            obtain ⟨j, ej, rfl⟩ := e0
            obtain ⟨hj, hz, hno⟩ := List.findIdx?_eq_some_iff_getElem.mp ej
            refine ⟨w, env, M, d1, M1, R, E, h1, fun w1 H1 x f1 R1 dx => ?_⟩
            refine ⟨tyV_list R1 dx hx, w1, env, M1, y, M2, R1, E.fut f1, h2, fun w2 H2 v f2 R2 dv => ?_⟩
            have dx2 := view_dp R2 (dx.fut f2) ex (SeqAt.canLay_of_shaped hs.2)
            have dv2 := view_dp R2 dv ey (SeqAt.canLay_of_shaped hs.1)
            have ref : ∃ p, x = V.ref p := by cases dx2 with
              | lst _ _ => exact ⟨_, rfl⟩
            obtain ⟨p, rfl⟩ := ref
            refine ⟨p, v, y'.py, D.pys ys, j, ys[j].py, rfl, rfl, dx2, dv2, hs.2, hs.1, pys_get (List.getElem?_eq_getElem hj), hz, fun m z' hm hm' => ?_, q _ _ _ (f1.trans f2) R2 (.int _)⟩
            obtain ⟨yy, g1, rfl⟩ := pys_of hm'
            obtain ⟨hml, rfl⟩ := List.getElem?_eq_some_iff.mp g1
            simpa using hno m hm
          · cases e0
        · cases e0
      · cases e
    · cases e
  · cases e
end
end Ev

set_option autoImplicit false
set_option linter.all false
set_option maxRecDepth 100000
set_option maxHeartbeats 1000000
/-! Ev: comprehensions that gather into an object of any kind. -/
namespace Ev
open PySem PySem.Spec PyProof.Rows L2
section
variable {X : Cx}
abbrev CM (X : Cx) : PySem.Model := model X.prog X.w
/-- what a turn's end leads to, an error noted -/
abbrev Ern (X : Cx) (ce : PySem.Env) (R : Result → Shared → Prop) : Value → Shared → Prop := notedBy (CM X) X.A ce fun e s' => R (.error e) s'
abbrev askAll (ifs : List Expr) (ce : PySem.Env) : Sem Bool := forIn ifs true fun c r => if r = true then do let ok ← isTrue c ce (eval c ce); pure (ForInStep.yield ok) else pure (ForInStep.yield r)
/-- one turn, by what the last step does -/
def OneTurn (X : Cx) (tg : Expr) (ifs : List Expr) (it : Value) (ce : PySem.Env) (R : Result → Shared → Prop) (tail : (Shared → Prop) → Shared → Prop) (nxt : Shared → Prop) (s : Shared) : Prop :=
  wpAny (CM X) X.A (pyNext it) (fun r s1 => match r with
    | none => R (.ok .next) s1
    | some v => wpAny (CM X) X.A (letOwnedTupleGo tg it v) (fun _ s2 => wpAny (CM X) X.A (assign tg ce v) (fun _ s3 => wpAny (CM X) X.A (askAll ifs ce) (fun ok s4 => if ok = true then tail nxt s4 else nxt s4) (Ern X ce R) s3) (Ern X ce R) s2) (Ern X ce R) s1) (Ern X ce R) s
abbrev Tail := Addr → PySem.Env → (Result → Shared → Prop) → (Shared → Prop) → Shared → Prop
/-- a kind of comprehension: how its object is made, how its loop runs -/
structure CompKind (X : Cx) (c tg iter : Expr) (ifs : List Expr) (mk : Sem Value) (h0 : Addr → HO) (tail : Tail) : Prop where
  clauses : clausesOf c = [⟨tg, iter, ifs, 0⟩]
  make : ∀ {pins : List (Addr × Obj)} {σ : L2.St} {H : Hp} {s : Shared} {Q : Value → Shared → Prop}, Inv X pins σ H s → (∀ s', Inv X pins σ (upd H s.heap.objs.size (h0 s.heap.objs.size)) s' → (∀ b o, s.heap.get? b = some o → s'.heap.get? b = some o) → Q (.ref s.heap.objs.size) s') → wpAny (CM X) X.A mk Q X.xe s
  loop : ∀ {it : Value} {D : Addr} {ce : PySem.Env} {R : Result → Shared → Prop} (I : Nat → Shared → Prop), (∀ n s, I n s → OneTurn X tg ifs it ce R (tail D ce R) (fun s' => ∃ m, m < n ∧ I m s') s) → ∀ n s, I n s → codeAny (CM X) X.A (.compLoop c 0 it (.ref D) ce) R s
  start : ∀ {it acc : Value} {ce : PySem.Env} {R : Result → Shared → Prop} {s : Shared}, codeAny (CM X) X.A (.compLoop c 0 it acc ce) R s → wpAny (CM X) X.A (pyIter it) (fun it' s' => codeAny (CM X) X.A (.compLoop c 0 it' acc ce) R s') (notedBy (CM X) X.A ce fun x s' => R (.error x) s') s → codeAny (CM X) X.A (.compStart c 0 it acc ce) R s
/-- the reading of such a comprehension: tl tells what a turn's last step asks -/
def tGath (h0 : Addr → HO) (wi : TI) (g : TG) (tt : TT) (tl : Addr → L2.St → Hp → (Hp → Prop) → Prop) (vs : List Nat) : TE := fun σ H Q => wi σ H fun J H1 => ∀ D, H1 D = none → ∃ W : Nat → Nat → Hp → Prop, (∃ m, W 0 m (upd H1 D (h0 D))) ∧ ∀ i m H', W i m H' →
  (J.stop i H' ∧ Q (.ref D) H') ∨ (J.go i H' ∧ ∃ Nx : Hp → Prop, (∀ H2, Nx H2 → ∃ m', m' < m ∧ W (i + 1) m' H2) ∧ ∀ x H2, J.yld i H' x H2 → g x (L2.wipe σ vs) H2 fun σ3 H3 => L2.wipe σ3 vs = L2.wipe σ vs ∧ tt σ3 H3 fun b H4 => if b = true then tl D σ3 H4 Nx else Nx H4)
theorem gath_core {pins : List (Addr × Obj)} {s : Shared} {σ : L2.St} {H : Hp} {Q : VK} {c tg iter : Expr} {ifs : List Expr} {mk : Sem Value} {h0 : Addr → HO} {tail : Tail} {scope : Scope} {own : List (Str × Nat)} {pos' : Pos} {wi : TI} {g : TG} {tt : TT} {tl : Addr → L2.St → Hp → (Hp → Prop) → Prop} {use : Option (Value → Sem Unit)} {Qf : Value → Shared → Prop}
    (CK : CompKind X c tg iter ifs mk h0 tail) (hc : X.calm = true) (hN : X.N.Nodup) (I : Inv X pins σ H s) (hi : PI X tg iter wi) (ok : BlkOk X.N X.env.scope scope own)
    (hg : ∀ (s : Shared) (H : Hp) (C : Addr) (cl : List (Str × Addr)) (fp : List Addr), PG (X.blk s H scope (compEnvC scope cl C X.env) fp) tg g)
    (ht : ∀ (s : Shared) (H : Hp) (C : Addr) (cl : List (Str × Addr)) (fp : List Addr), PTs (X.blk s H scope (compEnvC scope cl C X.env) fp) ifs tt)
    (hl : ∀ (s0 : Shared) (H0 : Hp) (C : Addr) (cl : List (Str × Addr)) (fp : List Addr) (D : Addr) (pins : List (Addr × Obj)) (s : Shared) (σ : L2.St) (H : Hp) (Nx : Hp → Prop) (R : Result → Shared → Prop) (nxt : Shared → Prop), Inv (X.blk s0 H0 scope (compEnvC scope cl C X.env) fp) pins σ H s → tl D σ H Nx →
      (∀ s' H', Inv (X.blk s0 H0 scope (compEnvC scope cl C X.env) fp) pins σ H' s' → Nx H' → nxt s') → tail D (compEnvC scope cl C X.env) R nxt s)
    (hs : ∀ x, foldedSetIterable iter X.env x = pure x) (h : tGath h0 wi g tt tl (own.map (·.2)) σ H Q)
    (hRR : ∀ D C s' m H', Inv X pins σ H' s' → Q (.ref D) H' → s'.heap.Ns C m → FpOk X pins H' C → compPost (CM X) X.A X.xe use Qf (.ref D) C (.ok .next) s') :
    wpAny (CM X) X.A (comprehension c scope X.env pos' mk false (eval iter X.env) use) Qf X.xe s := by
  have cap : ∀ y ∈ scope.names, y.2 = .free → ∃ z, X.env.cells.lookup y.1 = some z := fun y hy e => (ok.free y hy e).elim (fun k => I.ok.has _ (.inl k)) (fun k => I.ok.has _ (.inr k))
  refine wpAny_comprehension_free (use := use) CK.clauses hs (closure_ok cap) ok.kind (fun y hy e => by rw [ok.uniq y hy, e]) (thn (hi.run pins s σ H _ I h) fun xv s1 hx => thn hx fun itv s2 ⟨it, fp, tn, J, H2, e, I2, T, st2, f2, q⟩ => ?_)
  subst e
  refine CK.make I2 fun s3 I3 k3 => newEnv_comp ?_
  generalize hD : s2.heap.objs.size = D at I3 ⊢
  obtain ⟨W, ⟨m0, w0⟩, turn⟩ := q D (I2.hok.fresh (Nat.le_of_eq hD))
  have below : ∀ b ∈ fp, b < s2.heap.objs.size := fun b hb => by
    obtain ⟨o, e, _⟩ := T.obj _ _ st2 b hb; exact Heap.lt_size e
  have f3 : ∀ b ∈ fp, FpOk X pins (upd H2 D (h0 D)) b ∧ b < s3.heap.objs.size := fun b hb => by
    obtain ⟨o, e, _⟩ := T.obj _ _ st2 b hb
    have hlt := below b hb
    exact ⟨⟨by rw [upd_ne (by rw [← hD]; exact Nat.ne_of_lt hlt)]; exact (f2 b hb).1, (f2 b hb).2⟩, Heap.lt_size (k3 b o e)⟩
  have st3 : tn 0 s3.heap := T.keep _ _ _ st2 fun b _ o e => k3 b o e
  have I4 := block_start I3 ok hN f3
  have pg := hg s3 (upd H2 D (h0 D)) s3.heap.objs.size (cellsFrom (s3.heap.objs.size + 1) scope.names (cloFrom X.env.cells scope.names [])) fp
  have pt := ht s3 (upd H2 D (h0 D)) s3.heap.objs.size (cellsFrom (s3.heap.objs.size + 1) scope.names (cloFrom X.env.cells scope.names [])) fp
  have pl := hl s3 (upd H2 D (h0 D)) s3.heap.objs.size (cellsFrom (s3.heap.objs.size + 1) scope.names (cloFrom X.env.cells scope.names [])) fp
  show codeAny _ _ (.compStart c 0 (.ref it) (.ref D) (compEnvC scope (cellsFrom (s3.heap.objs.size + 1) scope.names (cloFrom X.env.cells scope.names [])) s3.heap.objs.size X.env)) (compPost (CM X) X.A X.xe use Qf (.ref D) s3.heap.objs.size) { s3 with heap := pushCells (s3.heap.push { cls := .type "dict", data := .dict #[] }) scope.names }
  have free3 : ∀ b ∈ fp, (upd H2 D (h0 D)) b = none := fun b hb => (f3 b hb).1.1
  generalize hce : compEnvC scope (cellsFrom (s3.heap.objs.size + 1) scope.names (cloFrom X.env.cells scope.names [])) s3.heap.objs.size X.env = ce at I4 pg pt pl ⊢
  have cL : ce.locals = s3.heap.objs.size := by subst hce; rfl
  generalize hH3 : upd H2 D (h0 D) = H3 at I3 I4 pg pt pl w0 free3 f3
  generalize hs4 : ({ s3 with heap := pushCells (s3.heap.push { cls := .type "dict", data := .dict #[] }) scope.names } : Shared) = s4 at I4 ⊢
  have st4 : tn 0 s4.heap := T.keep _ _ _ st3 fun b _ o e => by rw [← hs4]; exact pushCells_keeps _ _ _ _ (Heap.get?_push_of_some _ e)
  have stat : ∀ {σ' : L2.St} {H' : Hp} {s' : Shared}, Inv (X.blk s3 H3 scope ce fp) [] σ' H' s' → (∀ b ∈ fp, H' b = none) → ∀ b ∈ fp, FpOk (X.blk s3 H3 scope ce fp) [] H' b := fun {σ' H' s'} I' hn b hb =>
    ⟨hn b hb, (I'.ok.exf b hb).1, I'.ok.exfs b hb, .inl hb, fun x c e => (I'.ok.exf b hb).2 x c e, fun p hp => by cases (show p ∈ ([] : List (Addr × Obj)) from hp)⟩
  have run : codeAny (CM X) X.A (.compLoop c 0 (.ref it) (.ref D) ce) (compPost (CM X) X.A X.xe use Qf (.ref D) s3.heap.objs.size) s4 := by
    refine CK.loop (fun n s' => ∃ i H', Inv (X.blk s3 H3 scope ce fp) [] (L2.wipe σ (own.map (·.2))) H' s' ∧ tn i s'.heap ∧ (∀ b ∈ fp, H' b = none) ∧ W i n H') ?_ m0 s4 ⟨0, H3, I4, st4, free3, w0⟩
    rintro n s5 ⟨i, H5, I5, st5, n5, w5⟩
    rcases turn i n H5 w5 with ⟨stop, qq⟩ | ⟨go, Nx, hNx, step⟩
    · refine thnF (T.done (X.blk s3 H3 scope ce fp) rfl rfl rfl hc i [] s5 _ H5 (fun _ _ => False) I5 (stat I5 n5) st5 stop) fun r s6 ⟨hr, I6⟩ => ?_
      subst hr
      have I7 : Inv X pins σ H5 s6 := I3.call' (ch := fp) I6.os I6.base I6.hok I6.bare fun b hb => let z := (f3 b hb).1.2; ⟨z.2.2.1, z.1, z.2.2.2.1, z.2.2.2.2⟩
      have nC : H5 s3.heap.objs.size = none := by rw [← cL]; exact I6.free
      obtain ⟨m, hn, _⟩ := I6.loc
      have hn : s6.heap.Ns s3.heap.objs.size m := by rw [← cL]; exact hn
      exact hRR D s3.heap.objs.size s6 m H5 I7 qq hn (I3.fpOk (Nat.le_refl _) nC)
    · refine thnF (T.item (X.blk s3 H3 scope ce fp) rfl rfl rfl hc i [] s5 _ H5 (fun _ _ => False) I5 (stat I5 n5) st5 go) fun r s6 ⟨u, hr, h6⟩ => ?_
      subst hr
      refine thnF h6 fun _ s7 ⟨x, H7, I7, r7, y7, st7, n7⟩ => ?_
      have I7' := I7.pinned (stat I7 n7) (T.obj _ _ st7)
      refine thnF (pg.run _ s7 _ H7 x u _ I7' r7 (step x H7 y7)) fun _ s8 ⟨σ8, H8, I8, hw8, q8⟩ => ?_
      have len8 : (L2.wipe σ (own.map (·.2))).length = σ8.length := by rw [← hw8, wipe_length]
      refine thnF (pt.run _ s8 σ8 H8 _ I8 q8) fun b s9 ⟨H9, I9, q9⟩ => ?_
      have fin : ∀ (s' : Shared) (H' : Hp), Inv (X.blk s3 H3 scope ce fp) ([] ++ pinsAt fp s7.heap) σ8 H' s' → Nx H' → ∃ m, m < n ∧ ∃ i H', Inv (X.blk s3 H3 scope ce fp) [] (L2.wipe σ (own.map (·.2))) H' s' ∧ tn i s'.heap ∧ (∀ b ∈ fp, H' b = none) ∧ W i m H' := fun s' H' I' nx => by
        obtain ⟨m', hm, w'⟩ := hNx H' nx
        have held : ∀ b ∈ fp, ∀ o, s7.heap.get? b = some o → s'.heap.get? b = some o ∧ H' b = none := fun b hb o e =>
          let z := I'.pin (b, o) (List.mem_append_right _ (List.mem_append_right _ (mem_pinsAt hb e))); ⟨z.1, z.2.1⟩
        refine ⟨m', hm, i + 1, H', (I'.unpinned (pins := [])).weak len8 (fun j v e => (wipe_some (by rw [hw8]; exact e)).1), T.keep _ _ _ st7 fun b hb o e => (held b hb o e).1, fun b hb => ?_, w'⟩
        obtain ⟨o, e, _⟩ := T.obj _ _ st7 b hb
        exact (held b hb o e).2
      cases b with
      | false =>
        rw [if_neg Bool.false_ne_true] at q9 ⊢
        exact fin _ _ I9 q9
      | true =>
        rw [if_pos rfl] at q9 ⊢
        exact pl D _ s9 σ8 H9 Nx _ _ I9 q9 fin
  exact CK.start run (T.self X.A 0 _ _ _ st4 run)
end
end Ev
namespace Ev
open PySem PySem.Spec PyProof.Rows L2
theorem lcLoop_pre {g : Grd} {turn : D → Mem → Res (Option D)} : ∀ (ds acc : List D) (M : Mem) {res : List D} {M' : Mem}, lcLoop g turn ds acc M = some (res, M') → ∃ r, res = acc ++ r
  | [], acc, M, res, M', h => by
    simp only [lcLoop] at h
    split at h
    · cases h; exact ⟨[], by simp⟩
    · cases h
  | d :: ds, acc, M, res, M', h => by
    simp only [lcLoop] at h
    split at h
    · split at h
      · split at h
        · obtain ⟨r, e⟩ := lcLoop_pre ds _ _ h
          exact ⟨_ :: r, by rw [e, List.append_assoc]; rfl⟩
        · cases h
      · exact lcLoop_pre ds _ _ h
      · cases h
    · cases h
/-- the reading of what is gathered: Con tells what object holds it -/
def tGc (K : Fr) (Pr : List D → Prop) (Con : Wd → Addr → HO → List D → Prop) (f : Env → Mem → Res (List D)) : TE := fun σ H Q => ∃ w env M ad M', Rp K w M H ∧ EnvOk K w σ env ∧ f env M = some (ad, M') ∧ Pr ad ∧ ∀ w' H' p o, Fut w H w' H' → Rp K w' M' H' → H' p = none → Con w' p o ad → Q (.ref p) (upd H' p o)
theorem gc_imp {X : Cx} {own : List (Str × Nat)} {fi : Env → Mem → Res (List D × Grd)} {pt : D → Env → Option Env} {ft : Env → Mem → Res Bool} {fe : Env → Mem → Res D} {Pr : List D → Prop} {Con : Wd → Addr → HO → List D → Prop} {h0 : Addr → HO} {tl : Addr → L2.St → Hp → (Hp → Prop) → Prop}
    (mono : ∀ {w w' : Wd} {H H' : Hp} {p : Addr} {o : HO} {ad : List D}, Fut w H w' H' → Con w p o ad → Con w' p o ad) (ini : ∀ w p, Con w p (h0 p) [])
    (hstep : ∀ (D : Addr) (σ : L2.St) (H : Hp) (Nx : Hp → Prop) (res : List Ev.D), Pr res → (∃ w env M yd M', Rp (fr X) w M H ∧ EnvOk (fr X) w σ env ∧ fe env M = some (yd, M') ∧ ∀ w5 H5, Fut w H w5 H5 → Rp (fr X) w5 M' H5 → ∃ o ad r, H5 D = some o ∧ Con w5 D o ad ∧ res = ad ++ yd :: r ∧ ∀ o', Con w5 D o' (ad ++ [yd]) → Nx (upd H5 D o')) → tl D σ H Nx) :
    ∀ σ H Q, tGc (fr X) Pr Con (fLc fi (own.map (·.2)) pt ft fe) σ H Q → tGath h0 (tI (fr X) fi) (tG (fr X) (own.map (·.2)) pt) (tT (fr X) ft) tl (own.map (·.2)) σ H Q := by
  rintro σ H Q ⟨w0, env, M0, res, M', R0, E0, e, pr, q⟩
  simp only [fLc] at e
  split at e
  · rename_i ds gr M1 h1
    refine ⟨w0, env, M0, ds, gr, M1, R0, E0, h1, fun w1 H1 J f1 R1 ito => fun p hp => ?_⟩
    refine ⟨fun i m H => m = ds.length - i ∧ i ≤ ds.length ∧ ∃ w2 M2 H2 o ad, H = upd H2 p o ∧ H2 p = none ∧ Fut w1 H1 w2 H2 ∧ Rp (fr X) w2 M2 H2 ∧ Con w2 p o ad ∧ lcLoop gr (lcTurn (own.map (·.2)) pt ft fe env) (ds.drop i) ad M2 = some (res, M'),
      ⟨ds.length, by simp, Nat.zero_le _, w1, M1, H1, _, [], rfl, hp, Fut.refl _ _, R1, ini _ _, by rw [List.drop_zero]; exact e⟩, ?_⟩
    rintro i m H ⟨rfl, hil, w2, M2, H2, o, ad, rfl, hp2, f2, R2, rd, hl⟩
    have out2 := R2.newOut hp2
    have R2' : Rp (fr X) w2 M2 (upd H2 p o) := R2.upd out2
    by_cases hlt : i < ds.length
    · right
      have hd : ds[i]? = some ds[i] := List.getElem?_eq_getElem hlt
      rw [List.drop_eq_getElem_cons hlt] at hl
      simp only [lcLoop] at hl
      split at hl
      · rename_i hgk
        obtain ⟨go, yl⟩ := ito.go i w2 M2 _ ds[i] (Ext.of f2) R2' hgk hd
        refine ⟨go, fun H' => i + 1 ≤ ds.length ∧ ∃ w2 M2 H2 o ad, H' = upd H2 p o ∧ H2 p = none ∧ Fut w1 H1 w2 H2 ∧ Rp (fr X) w2 M2 H2 ∧ Con w2 p o ad ∧ lcLoop gr (lcTurn (own.map (·.2)) pt ft fe env) (ds.drop (i + 1)) ad M2 = some (res, M'), fun H' nx => ⟨ds.length - (i + 1), by omega, rfl, nx.1, nx.2⟩, fun x H3 hy => ?_⟩
        obtain ⟨w3, f3, R3, d3⟩ := yl x H3 hy
        have E3 : EnvOk (fr X) w3 (L2.wipe σ (own.map (·.2))) (Ev.wipe env (own.map (·.2))) := ((E0.fut f1).fut (f2.trans (Fut.updOut (o := o) hp2)) |>.fut f3).wipe _
        have o2 : upd H2 p o p = some o := upd_same
        have back : ∀ {w4 : Wd} {H4 : Hp} {M4 : Mem} {o' : HO} {ad' : List Ev.D}, Fut w3 H3 w4 H4 → Rp (fr X) w4 M4 H4 → Con w4 p o' ad' → lcLoop gr (lcTurn (own.map (·.2)) pt ft fe env) (ds.drop (i + 1)) ad' M4 = some (res, M') →
            ∃ w2 M2 H2 o2 ad2, upd H4 p o' = upd H2 p o2 ∧ H2 p = none ∧ Fut w1 H1 w2 H2 ∧ Rp (fr X) w2 M2 H2 ∧ Con w2 p o2 ad2 ∧ lcLoop gr (lcTurn (own.map (·.2)) pt ft fe env) (ds.drop (i + 1)) ad2 M2 = some (res, M') := fun {w4 H4 M4 o' ad'} f4 R4 rc hl4 => by
          have f24 : Fut w2 (upd H2 p o) w4 H4 := f3.trans f4
          refine ⟨w4, M4, Ev.era H4 p, o', ad', ?_, era_same, f2.trans (f24.era hp2), R4.era (out2.fut f24 o2), rc, hl4⟩
          funext b
          by_cases hb : b = p
          · subst hb; rw [upd_same, upd_same]
          · rw [upd_ne hb, upd_ne hb, era_ne hb]
        split at hl
        · rename_i y M4 ht4
          split at hl
          · rename_i hlen
            simp only [lcTurn] at ht4
            split at ht4
            · rename_i env3 hput
              refine ⟨w3, _, M2, ds[i], env3, R3, E3, d3, hput, fun σ3 on E4 => ⟨wipe_only on, ?_⟩⟩
              split at ht4
              · rename_i M3 ht3
                split at ht4
                · rename_i y' M5 he5
                  cases ht4
                  refine ⟨w3, env3, M2, true, M3, R3, E4, ht3, fun w4 H4 f4 R4 => ?_⟩
                  refine hstep p σ3 H4 _ res pr ⟨w4, env3, M3, y, _, R4, E4.fut f4, he5, fun w5 H5 f5 R5 => ?_⟩
                  have f25 : Fut w2 (upd H2 p o) w5 H5 := (f3.trans f4).trans f5
                  obtain ⟨r, er⟩ := lcLoop_pre _ _ _ hl
                  refine ⟨o, ad, r, f25.keep p _ o2 out2.n out2.s, mono f25 rd, by rw [er, List.append_assoc]; rfl, fun o' co => ⟨by omega, ?_⟩⟩
                  exact back (f4.trans f5) R5 co hl
                · cases ht4
              · cases ht4
              · cases ht4
            · cases ht4
          · cases hl
        · rename_i M4 ht4
          simp only [lcTurn] at ht4
          split at ht4
          · rename_i env3 hput
            refine ⟨w3, _, M2, ds[i], env3, R3, E3, d3, hput, fun σ3 on E4 => ⟨wipe_only on, ?_⟩⟩
            split at ht4
            · split at ht4
              · cases ht4
              · cases ht4
            · rename_i M3 ht3
              cases ht4
              refine ⟨w3, env3, M2, false, _, R3, E4, ht3, fun w4 H4 f4 R4 => ?_⟩
              have f24 : Fut w2 (upd H2 p o) w4 H4 := f3.trans f4
              have hk : H4 p = some o := f24.keep p _ o2 out2.n out2.s
              refine ⟨by omega, ?_⟩
              have z := back f4 R4 (mono f24 rd) hl
              rwa [show upd H4 p o = H4 by rw [← upd_era hk, upd_upd, upd_era hk]] at z
            · cases ht4
          · cases ht4
        · cases hl
      · cases hl
    · left
      have ei : i = ds.length := by omega
      subst ei
      rw [List.drop_length] at hl
      simp only [lcLoop] at hl
      split at hl
      · rename_i hgk
        cases hl
        exact ⟨ito.stop _ w2 _ _ (Ext.of f2) R2' hgk rfl, q w2 H2 p o (f1.trans f2) R2 hp2 rd⟩
      · cases hl
  · cases e
end Ev

set_option autoImplicit false
set_option linter.all false
set_option maxRecDepth 100000
set_option maxHeartbeats 1000000
/-! Ev: {e for g in it if ..} of tuples of ints, sorted. -/
namespace Ev
open PySem PySem.Spec PyProof.Rows L2
section
variable {P : Program} {w : World} {A : Around} {E : Value → Shared → Prop} {s : Shared}
theorem setT_add {a x : Addr} {k : List Int} {L : List (Addr × List Int)} {es : Array (Int × Value)} {ep : Nat} {t : SetTable} {Q : Value → Shared → Prop} (R : SetTR P w s.heap a L es ep t) (hx : IsT P w s.heap k x) (hu : A.in1.units < cLine) (hf : L.length + 1 < 64)
    (hQ : ∀ h' L' es' ep' t' tk, Heap.SameBut a s.heap h' → SetTR P w h' a L' es' ep' t' → (k ∈ L.map (·.2) → L' = L) → (k ∉ L.map (·.2) → L'.Perm ((x, k) :: L)) → Q .none { s with heap := h', toks := tk }) :
    wpAny (model P w) A (call (.builtin "set.add") [.ref a, .ref x]) Q E s := by
  have hT : s.TypeIs (.ref a) "set" := by
    obtain ⟨o, ho, hex, _⟩ := R.ob
    exact ⟨o, ho, hex.1⟩
  refine wpAny_call_entry F.slot_set_add hT F.entry_set_add ?_ (F.args_set_add_2 _ _)
  unfold Builtin.«set.add» Builtin.Frozenset.oneOther Builtin.Frozenset.addrOf setAdd
  simp only [List.isEmpty_nil, bind_assoc]
  refine wpAny_bind (wpAny_pure ?_); try dsimp only
  refine wpAny_bind (wpAny_pure ?_); try dsimp only
  refine wpAny_bind (wpAny_holding ?_)
  refine wpAny_bind (wpAny_pyHash_tuple hu hx ?_)
  refine add_at (s := { s with toks := s.toks + (k.length + 1) }) R hx hu hf fun b h' L' es' ep' t' sb R' c1 c2 => ?_
  exact wpAny_pure ⟨_, rfl, hQ h' L' es' ep' t' _ sb R' c1 c2⟩
end
end Ev

set_option autoImplicit false
set_option linter.all false
set_option maxRecDepth 100000
set_option maxHeartbeats 1000000
/-! Ev: sorted({e for g in it if ..}), tuples of ints. -/
namespace Ev
open PySem PySem.Spec PyProof.Rows L2
theorem perm_map_ex {α β : Type} (f : α → β) : ∀ (m : List β) (l : List α), m.Perm (l.map f) → ∃ l' : List α, m = l'.map f ∧ l'.Perm l
  | [], l, h => by
    have : l.map f = [] := List.nil_perm.mp h
    have : l = [] := by simpa using this
    subst this; exact ⟨[], rfl, .nil⟩
  | b :: m, l, h => by
    obtain ⟨a, ha, rfl⟩ := List.mem_map.mp (h.mem_iff.mp (List.mem_cons_self (a := b) (l := m)))
    obtain ⟨l1, l2, rfl⟩ := List.append_of_mem ha
    have h2 : m.Perm ((l1 ++ l2).map f) := by
      have q : ((l1 ++ a :: l2).map f).Perm (f a :: (l1 ++ l2).map f) := by
        rw [List.map_append, List.map_cons, List.map_append]; exact List.perm_middle
      exact (h.trans q).cons_inv
    obtain ⟨l', rfl, hp⟩ := perm_map_ex f m _ h2
    exact ⟨a :: l', rfl, (hp.cons a).trans List.perm_middle.symm⟩
section
variable {X : Cx}
theorem setTO_at {pins : List (Addr × Obj)} {σ : L2.St} {H : Hp} {s : Shared} {a : Addr} {L : List (Addr × List Int)} (I : Inv X pins σ H s) (ha : H a = some (SetTO X.prog X.w a L)) (ht : ∀ p ∈ L, SqT (fr X) H p.1 (p.2.map V.int)) : ∃ es ep t, SetTR X.prog X.w s.heap a L es ep t :=
  (show SetT0 X.prog X.w s.heap a L from (I.hok a _ ha).1).full fun p hp => I.isT (ht p hp)
/-- a tuple of ints is put into a set -/
theorem addT_ok {pins : List (Addr × Obj)} {σ : L2.St} {H : Hp} {s : Shared} {Er : Value → Shared → Prop} {a x : Addr} {k : List Int} {L : List (Addr × List Int)} {Q : Value → Shared → Prop} (hu : X.A.units + 65 < cLine) (I : Inv X pins σ H s) (ha : H a = some (SetTO X.prog X.w a L))
    (ht : ∀ p ∈ L, SqT (fr X) H p.1 (p.2.map V.int)) (hx : SqT (fr X) H x (k.map V.int)) (hf : L.length + 1 < 64)
    (h : ∀ L' s', (k ∈ L.map (·.2) → L' = L) → (k ∉ L.map (·.2) → L'.Perm ((x, k) :: L)) → Inv X pins σ (upd H a (SetTO X.prog X.w a L')) s' → Q .none s') : wpAny (model X.prog X.w) X.A (call (.builtin "set.add") [.ref a, .ref x]) Q Er s := by
  obtain ⟨es, ep, t, R⟩ := setTO_at I ha ht
  refine setT_add R (I.isT hx) (by rw [units_in1]; omega) hf fun h' L' es' ep' t' tk sb R' c1 c2 => ?_
  have he : ∃ u, h'.get? a = some u := let ⟨o, ho, _⟩ := R'.ob; ⟨o, ho⟩
  exact h L' _ c1 c2 (I.write (e := a) (t' := tk) (by rw [ha]; trivial) (.inl rfl) (fun b u hb hu => (sb.2 b hb).trans hu) he (setTO_new R'.t0))
abbrev tailS (X : Cx) (elt : Expr) : Tail := fun D ce R nxt s => wpAny (CM X) X.A (eval elt ce) (fun x s1 => wpAny (CM X) X.A (call (.builtin "set.add") [.ref D, x]) (fun _ s2 => nxt s2) (Ern X ce R) s1) (Ern X ce R) s
theorem ck_set {elt tg iter : Expr} {ifs : List Expr} {scope : Scope} {pos : Pos} : CompKind X (.SetComp elt [⟨tg, iter, ifs, 0⟩] scope pos) tg iter ifs (newSet (.type "set")) (fun D => SetTO X.prog X.w D []) (tailS X elt) where
  clauses := rfl
  make := fun {pins σ H s Q} I q => by
    refine PpSet.newSet_ok ?_
    refine q _ (I.laid (t' := s.toks) (fun b o e => Heap.get?_push_of_some _ e) (Nat.le_refl _) (setTO_new (SetTR.t0 (setTR_fresh (Heap.get?_push_size _ rfl))))) fun b o e => Heap.get?_push_of_some _ e
  loop := fun I h n s hI => PpSet.compLoopS_any I (fun n s hi => h n s hi) n hI
  start := fun h0 h => PpSet.codeAny_compStart_set h0 h
/-- what a turn's last step asks of a set -/
def tlS (K : Fr) (P : Program) (w : World) (te : TE) : Addr → L2.St → Hp → (Hp → Prop) → Prop := fun D σ H Nx => te σ H fun y H1 => ∃ (L : List (Addr × List Int)) (x : Addr) (k : List Int), y = .ref x ∧ H1 D = some (SetTO P w D L) ∧ (∀ p ∈ L, SqT K H1 p.1 (p.2.map V.int)) ∧ SqT K H1 x (k.map V.int) ∧ L.length + 1 < 64 ∧
  ∀ L', (k ∈ L.map (·.2) → L' = L) → (k ∉ L.map (·.2) → L'.Perm ((x, k) :: L)) → Nx (upd H1 D (SetTO P w D L'))
theorem pe_setc {elt tg iter : Expr} {ifs : List Expr} {scope : Scope} {own : List (Str × Nat)} {pos : Pos} {wi : TI} {g : TG} {tt : TT} {te : TE} (hu : X.A.units + 65 < cLine) (hc : X.calm = true) (hN : X.N.Nodup) (hi : PI X tg iter wi) (ok : BlkOk X.N X.env.scope scope own)
    (hg : ∀ (s : Shared) (H : Hp) (C : Addr) (cl : List (Str × Addr)) (fp : List Addr), PG (X.blk s H scope (compEnvC scope cl C X.env) fp) tg g) (ht : ∀ (s : Shared) (H : Hp) (C : Addr) (cl : List (Str × Addr)) (fp : List Addr), PTs (X.blk s H scope (compEnvC scope cl C X.env) fp) ifs tt)
    (he : ∀ (s : Shared) (H : Hp) (C : Addr) (cl : List (Str × Addr)) (fp : List Addr), PE (X.blk s H scope (compEnvC scope cl C X.env) fp) elt te) (hs : ∀ x, foldedSetIterable iter X.env x = pure x) :
    PE X (.SetComp elt [⟨tg, iter, ifs, 0⟩] scope pos) (tGath (fun D => SetTO X.prog X.w D []) wi g tt (tlS (fr X) X.prog X.w te) (own.map (·.2))) := by
  refine ⟨fun pins s σ H Q I h => ?_⟩
  rw [PpSet.eval_SetComp]
  refine gath_core (ck_set (elt := elt) (scope := scope) (pos := pos)) hc hN I hi ok hg ht (fun s0 H0 C cl fp D pins s σ H Nx R nxt I' h' fin => ?_) hs h fun D C s' m H' I' q hn f => ⟨m, hn, fun h'' sb => ?_⟩
  · refine thnF ((he s0 H0 C cl fp).run _ s σ H _ I' h') fun z s1 ⟨y, H1, I1, r1, L, x, k, ey, hD, ht1, hx1, hf, nx⟩ => ?_
    subst ey
    cases (show z = Value.ref x from r1)
    exact addT_ok (X := X.blk s0 H0 scope (compEnvC scope cl C X.env) fp) hu I1 hD ht1 hx1 hf fun L' s2 c1 c2 I2 => fin s2 _ I2 (nx L' c1 c2)
  · obtain ⟨f0, f1, f2, f3, f4, f5⟩ := f
    exact ⟨.ref D, H', I'.turned (t' := s'.toks) (fun b o hb e => (sb.2 b hb).trans e) f0 f1 f3 f4 f5, rfl, q⟩
end
/-! ### what it holds -/
theorem intsD_eq : ∀ {ds : List D} {is : List Int}, intsD ds = some is → ds = is.map D.int
  | [], is, h => by simp [intsD] at h; subst h; rfl
  | .int b :: r, is, h => by
    simp only [intsD, Option.map_eq_some_iff] at h
    obtain ⟨js, h1, rfl⟩ := h
    rw [intsD_eq h1]; rfl
  | .non :: _, _, h => by simp [intsD] at h
  | .bl _ :: _, _, h => by simp [intsD] at h
  | .str _ :: _, _, h => by simp [intsD] at h
  | .ty _ :: _, _, h => by simp [intsD] at h
  | .tup _ :: _, _, h => by simp [intsD] at h
  | .lst _ :: _, _, h => by simp [intsD] at h
  | .dic _ _ :: _, _, h => by simp [intsD] at h
  | .cell _ :: _, _, h => by simp [intsD] at h
  | .strm :: _, _, h => by simp [intsD] at h
  | .scr _ :: _, _, h => by simp [intsD] at h
  | .rng _ _ :: _, _, h => by simp [intsD] at h
theorem tupInts_eq {d : D} {k : List Int} (h : tupInts d = some k) : d = Tq k := by
  cases d <;> simp only [tupInts, reduceCtorEq] at h
  rw [intsD_eq h]
theorem allInts_eq : ∀ {ds : List D} {ks : List (List Int)}, allInts ds = some ks → ds = ks.map Tq
  | [], ks, h => by simp [allInts] at h; subst h; rfl
  | d :: ds, ks, h => by
    simp only [allInts] at h
    split at h
    · rename_i k ks' h1 h2
      cases h
      rw [tupInts_eq h1, allInts_eq h2]; rfl
    · cases h
theorem den_ints {K : Fr} {w : Wd} : ∀ {is : List Int} {vs : List V}, Dens K w vs (is.map D.int) → vs = is.map V.int
  | [], _, .nil => rfl
  | i :: is, _, .cons h r => by cases h; rw [den_ints r]; rfl
theorem den_Tq {K : Fr} {w : Wd} {v : V} {k : List Int} (h : Den K w v (Tq k)) : ∃ a, v = .ref a ∧ SqT K w.F a (k.map V.int) := by
  obtain ⟨a, vs, rfl, h1, h2⟩ := den_tup h
  rw [den_ints h2] at h1
  exact ⟨a, rfl, h1⟩
theorem dens_of_ints {K : Fr} {w : Wd} : ∀ (k : List Int), Dens K w (k.map V.int) (k.map D.int)
  | [] => .nil
  | i :: k => .cons (.int i) (dens_of_ints k)
theorem Tq_inj {a b : List Int} (h : Tq a = Tq b) : a = b := by
  have h' : a.map D.int = b.map D.int := by injection h
  exact List.map_inj_right (fun x y e => by injection e) |>.mp h'
/-- the set at p holds these -/
def ConS (K : Fr) (P : Program) (wo : World) : Wd → Addr → HO → List D → Prop := fun w p o ad => ∃ L : List (Addr × List Int), o = SetTO P wo p L ∧ (∀ q ∈ L, SqT K w.F q.1 (q.2.map V.int)) ∧ (L.map (·.2)).Nodup ∧ (∀ k, k ∈ L.map (·.2) ↔ Tq k ∈ ad) ∧ L.length ≤ ad.length
def PrS (ad : List D) : Prop := ∃ ks : List (List Int), ad = ks.map Tq ∧ ks.length < 64
section
variable {X : Cx}
theorem e_setc {elt tg iter : Expr} {ifs : List Expr} {scope : Scope} {own : List (Str × Nat)} {pos : Pos} {fi : Env → Mem → Res (List D × Grd)} {pt : D → Env → Option Env} {ft : Env → Mem → Res Bool} {fe : Env → Mem → Res D} (hu : X.A.units + 65 < cLine) (hc : X.calm = true) (hN : X.N.Nodup) (hi : PI X tg iter (tI (fr X) fi)) (ok : BlkOk X.N X.env.scope scope own)
    (hg : ∀ (s : Shared) (H : Hp) (C : Addr) (cl : List (Str × Addr)) (fp : List Addr), PG (X.blk s H scope (compEnvC scope cl C X.env) fp) tg (tG (fr X) (own.map (·.2)) pt)) (ht : ∀ (s : Shared) (H : Hp) (C : Addr) (cl : List (Str × Addr)) (fp : List Addr), PTs (X.blk s H scope (compEnvC scope cl C X.env) fp) ifs (tT (fr X) ft))
    (he : ∀ (s : Shared) (H : Hp) (C : Addr) (cl : List (Str × Addr)) (fp : List Addr), PE (X.blk s H scope (compEnvC scope cl C X.env) fp) elt (tE (fr X) fe)) (hs : ∀ x, foldedSetIterable iter X.env x = pure x) :
    PE X (.SetComp elt [⟨tg, iter, ifs, 0⟩] scope pos) (tGc (fr X) PrS (ConS (fr X) X.prog X.w) (fLc fi (own.map (·.2)) pt ft fe)) := by
  refine imp_e (pe_setc hu hc hN hi ok hg ht he hs) (gc_imp (Con := ConS (fr X) X.prog X.w) (Pr := PrS) ?_ ?_ ?_)
  · rintro w w' H H' p o ad f ⟨L, rfl, h1, h2⟩
    exact ⟨L, rfl, fun q hq => Same.seqT f.F (h1 q hq), h2⟩
  · exact fun w p => ⟨[], rfl, ⟨fun q hq => (by cases hq), List.nodup_nil, fun k => (by simp), Nat.le_refl _⟩⟩
  · rintro D σ H Nx res ⟨ks, rfl, hk⟩ ⟨w, env, M, yd, M', R, E, e, q⟩
    refine ⟨w, env, M, yd, M', R, E, e, fun w5 H5 v f5 R5 d5 => ?_⟩
    obtain ⟨o, ad, r, hD, ⟨L, rfl, h1, h2, h3, h4⟩, er, nx⟩ := q w5 H5 f5 R5
    have hy : yd ∈ ks.map Tq := by rw [er]; simp
    obtain ⟨k, hk', rfl⟩ := List.mem_map.mp hy
    obtain ⟨a, rfl, ha⟩ := den_Tq d5
    have hlen : ad.length + 1 ≤ ks.length := by
      have := congrArg List.length er
      simp at this; omega
    refine ⟨L, a, k, rfl, hD, fun p hp => Same.seqT R5.same (h1 p hp), Same.seqT R5.same ha, by omega, fun L' c1 c2 => nx _ ?_⟩
    rcases Classical.em (k ∈ L.map (·.2)) with c | c
    · rw [c1 c]
      refine ⟨L, rfl, h1, h2, fun j => ?_, by simp; omega⟩
      rw [h3 j, List.mem_append, List.mem_singleton]
      refine ⟨.inl, fun z => z.elim id fun z => ?_⟩
      rw [Tq_inj z]
      exact (h3 k).1 c
    · have pm := c2 c
      have pm2 := pm.map (·.2)
      refine ⟨L', rfl, fun q hq => ?_, pm2.nodup_iff.mpr (List.nodup_cons.mpr ⟨c, h2⟩), fun j => ?_, ?_⟩
      · rcases List.mem_cons.mp (pm.mem_iff.mp hq) with rfl | hq
        · exact ha
        · exact h1 q hq
      · rw [pm2.mem_iff, List.map_cons, List.mem_cons, h3 j, List.mem_append, List.mem_singleton]
        constructor
        · rintro (rfl | z)
          · exact .inr rfl
          · exact .inl z
        · rintro (z | z)
          · exact .inr z
          · exact .inl (Tq_inj z)
      · rw [pm.length_eq]; simp; omega
end
end Ev

set_option autoImplicit false
set_option linter.all false
set_option maxRecDepth 100000
set_option maxHeartbeats 1000000
/-! Ev: sorted(..) of what was collected from a set, a dict. -/
namespace Ev
open PySem PySem.Spec PyProof.Rows L2
section
variable {P : Program} {w : World} {A : Around} {E : Value → Shared → Prop} {s : Shared}
/-- list.sort() of data; a list of one thing may hold anything -/
theorem sort_ps {a : Addr} {n : Nat} {vs : List Value} {ps : List (V × D)} {Q : Value → Shared → Prop} (ho : s.heap.get? a = some (seqObj "list" vs.toArray n)) (e : PySem.W.EachIs (fun u (p : V × D) => RelV p.1 u) vs ps) (er : PySem.W.EachIs (fun u (p : V × D) => ∃ as, Reads (PySem.W.sortingHeap s.heap a vs) u p.2.py as) vs ps)
    (hal : ps.length ≤ 1 ∨ (PySem.W.AllAlike (ps.map (·.2.py)) ∧ PySem.W.Sortable (ps.map (·.2.py)))) (hz : ps.length ≤ sizeLine) (hu : ∀ p ∈ ps, A.units + 1 + p.2.py.depth < cLine)
    (hQ : ∀ out : List Value, PySem.W.EachIs (fun u (p : V × D) => RelV p.1 u) out (ps.mergeSort (PySem.W.dataLe false (·.2.py))) → Q .none { s with heap := sortedHeap s.heap a vs out.toArray }) :
    wpAny (model P w) A (call (.builtin "list.sort") [.ref a]) Q E s := by
  rcases hal with h1 | ⟨h1, h2⟩
  · have hl : vs.length ≤ 1 := by rw [e.length]; exact h1
    refine wpAny_call_entry slot_list_sort ⟨_, ho, rfl⟩ entry_list_sort (SK.plain_sort (r := fun _ => 0) ho (by omega) (fun h2 => by omega) fun ps' out o1 o2 o3 => ⟨.none, rfl, ?_⟩) (args_list_sort _)
    have ev : out = vs.toArray := by
      have hp : ps' = vs.zip vs := by
        match vs, hl with
        | [], _ => exact List.perm_nil.mp o2
        | [u], _ => exact List.perm_singleton.mp o2
      have : out.toList = vs := by
        rw [o1, hp]
        match vs, hl with
        | [], _ => rfl
        | [u], _ => rfl
      rw [← this]
    rw [ev]
    refine hQ vs ?_
    have em : ps.mergeSort (PySem.W.dataLe false (·.2.py)) = ps := by
      match ps, h1 with
      | [], _ => simp
      | [p], _ => simp
    rw [em]; exact e
  · refine wpAny_call_entry slot_list_sort ⟨_, ho, rfl⟩ entry_list_sort (PySem.W.list_sort_vals (κ := PySem.W.dataKind (PySem.W.sortingHeap s.heap a vs) (ps.map (·.2.py))) ho (PySem.W.SortsAt.data (s := { s with heap := PySem.W.sortingHeap s.heap a vs }) (PySem.W.each_map (R := fun v d => ∃ as, Reads (PySem.W.sortingHeap s.heap a vs) v d as) (fun p : V × D => p.2.py) er) h1 h2 (PySem.W.bound_map (enc := fun p : V × D => p.2.py) hu)) (by rw [e.length]; exact hz) ⟨.none, rfl, ?_⟩) (args_list_sort _)
    exact hQ _ (PySem.W.sortVals_data false e er h1)
end
section
variable {X : Cx}
theorem dp_Tq {H : Hp} {a : Addr} {k : List Int} (h : SqT (fr X) H a (k.map V.int)) : Dp (fr X) H (.ref a) (Tq k).py := by
  have : ∀ k : List Int, DpAll (fr X) H (k.map V.int) (D.pys (k.map D.int)) := by
    intro k
    induction k with
    | nil => exact .nil
    | cons i k ih => exact .cons (.int i) ih
  exact .tup h (this k)
theorem depth_Tq (k : List Int) : (Tq k).py.depth ≤ 1 := by
  have h : ∀ k : List Int, PyData.depthAll (D.pys (k.map D.int)) = 0 := by
    intro k
    induction k with
    | nil => rfl
    | cons i k ih => simp only [List.map_cons, D.pys, PyData.depthAll, D.py, PyData.depth, ih]; rfl
  simp only [D.py, PyData.depth, h]
  omega
abbrev rowS (q : Addr × List Int) : V × D := (.ref q.1, Tq q.2)
/-- sorted(a set of tuples of ints) -/
def rSortU (K : Fr) (P : Program) (w : World) : List V → Hp → VK → Prop := fun vs H Q => ∃ (a : Addr) (L : List (Addr × List Int)), vs = [.ref a] ∧ H a = some (SetTO P w a L) ∧ (∀ p ∈ L, SqT K H p.1 (p.2.map V.int)) ∧ (L.length ≤ 1 ∨ ∀ p ∈ L, p.2 ≠ []) ∧
  ∀ (L1 : List (Addr × List Int)) (p : Addr), L1.Perm L → H p = none → Q (.ref p) (upd H p (.lst (((L1.map rowS).mergeSort (PySem.W.dataLe false (·.2.py))).map (·.1))))
theorem alike_Tq (a b : List Int) : PySem.W.alike (Tq a).py (Tq b).py = true := by
  have e : ∀ k : List Int, D.pys (k.map D.int) = k.map PyData.int := by
    intro k
    induction k with
    | nil => rfl
    | cons i k ih => simp only [List.map_cons, D.pys, D.py, ih]
  simp only [D.py, e, PySem.W.alike]
  exact PySem.W.alike_ints a b
theorem cr_sortU (hc : X.calm = true) (hu : X.A.units + 65 < cLine) : CallR X (.builtin "sorted") (rSortU (fr X) X.prog X.w) := by
  intro pins s σ H vs us Q I r h
  obtain ⟨a, L, rfl, ha, ht, hne, q⟩ := h
  obtain ⟨es, ep, t, R⟩ := setTO_at I ha ht
  rw [Vals.ref1 r]
  have hsz := R.size
  have hfew := R.few
  obtain ⟨o, ho, hex, hd⟩ := R.ob
  refine Calls.call_function_entry kind_sorted plain_sorted entry_sorted (args_sorted1 _) ?_
  unfold Builtin.«sorted»
  refine wpAny_bind (m := checkCount "sorted" 1 1 _) (wpAny_pure ?_)
  refine wpAny_bind (collect_set (A := X.A.in1) (I.ok.hd hc) ⟨o, ho, hex.1, hd⟩ R.fits (by unfold scanBound; omega) R.tab.ris R.led fun s1 vs k1 hz g1 o1 pm => ?_)
  have hes : es.toList.map (·.2) = L.map fun q => Value.ref q.1 := by
    rw [R.rows]; unfold rowsOf; rw [List.map_map]; rfl
  rw [hes] at pm
  obtain ⟨L1, rfl, pL⟩ := perm_map_ex _ _ _ pm
  have hL1 : L1.length < 64 := by rw [pL.length_eq]; exact hfew
  have hps : ((L1.map rowS).map (·.1)) = L1.map fun q => V.ref q.1 := by rw [List.map_map]; rfl
  have rv : Vals ((L1.map rowS).map (·.1)) (L1.map fun q => Value.ref q.1) := by rw [hps]; exact vals_of_refs L1
  have hdp : ∀ p ∈ L1.map rowS, Dp (fr X) H p.1 p.2.py := fun p hp => by
    obtain ⟨q, hq, rfl⟩ := List.mem_map.mp hp
    exact dp_Tq (ht q (pL.mem_iff.mp hq))
  have er0 := each_reads I rv hdp
  have e0 := each_of_vals rv
  refine wpAny_bind (wpAny_newList ?_ (by rw [List.length_map, sizeLine_eq]; omega))
  generalize hvs : (L1.map fun q => Value.ref q.1) = vs at er0 e0 ⊢
  have hoL : (s1.heap.push (seqObj "list" vs.toArray 0)).get? s1.heap.objs.size = some (seqObj "list" vs.toArray 0) := Heap.get?_push_size _ rfl
  have er1 : PySem.W.EachIs (fun u (p : V × D) => ∃ as, Reads (PySem.W.sortingHeap (s1.heap.push (seqObj "list" vs.toArray 0)) s1.heap.objs.size vs) u p.2.py as) vs (L1.map rowS) := er0.mono fun _ _ ⟨as, r⟩ => ⟨as, PyProof.Rows.Reads.keeps (fun b o e => PySem.W.sortingHeap_old (Nat.ne_of_lt (Heap.lt_size (k1 b o e))) (Heap.get?_push_of_some _ (k1 b o e))) r⟩
  refine wpAny_bind (wpAny_holding (sort_ps (s := { s1 with heap := s1.heap.push (seqObj "list" vs.toArray 0) }) hoL e0 er1 ?_ (by rw [List.length_map, sizeLine_eq]; omega) (fun p hp => ?_) fun out ho2 => ?_))
  · rcases hne with h1 | h1
    · exact .inl (by rw [List.length_map, pL.length_eq]; exact h1)
    · refine .inr ⟨fun d hd d' hd' => ?_, .inl fun d hd => ?_⟩
      · obtain ⟨p, hp, rfl⟩ := List.mem_map.mp hd
        obtain ⟨p', hp', rfl⟩ := List.mem_map.mp hd'
        obtain ⟨q, hq, rfl⟩ := List.mem_map.mp hp
        obtain ⟨q', hq', rfl⟩ := List.mem_map.mp hp'
        exact alike_Tq _ _
      · obtain ⟨p, hp, rfl⟩ := List.mem_map.mp hd
        obtain ⟨q, hq, rfl⟩ := List.mem_map.mp hp
        have hn := h1 q (pL.mem_iff.mp hq)
        obtain ⟨x, xs, hx⟩ := List.exists_cons_of_ne_nil hn
        exact ⟨_, _, by show (Tq q.2).py = _; rw [hx]; rfl⟩
  · obtain ⟨q, hq, rfl⟩ := List.mem_map.mp hp
    have := depth_Tq q.2
    rw [units_in1]
    show X.A.units + 1 + 1 + (Tq q.2).py.depth < cLine
    omega
  · obtain ⟨c, hc2⟩ := sortedHeap_at (out := out.toArray) hoL
    have hp : s.heap.objs.size ≤ s1.heap.objs.size := hz
    have hn : H s1.heap.objs.size = none := I.hok.fresh hp
    have keep : ∀ b u, s.heap.get? b = some u → (sortedHeap (s1.heap.push (seqObj "list" vs.toArray 0)) s1.heap.objs.size vs out.toArray).get? b = some u := fun b u e => by
      have q := k1 b u e
      have hlt := Heap.lt_size q
      rw [sortedHeap_old (Nat.ne_of_lt hlt) (by rw [size_push']; exact Nat.lt_succ_of_lt hlt)]
      exact Heap.get?_push_of_some _ q
    have hv : Vals ((((L1.map rowS).mergeSort (PySem.W.dataLe false (·.2.py))).map (·.1))) out := vals_of_each ho2
    have J : Inv X pins σ (upd H s1.heap.objs.size (.lst (((L1.map rowS).mergeSort (PySem.W.dataLe false (·.2.py))).map (·.1)))) { s with heap := sortedHeap (s1.heap.push (seqObj "list" vs.toArray 0)) s1.heap.objs.size vs out.toArray, gens := s1.gens, drawn := s1.drawn, toks := s1.toks } :=
      I.call (ch := []) (Un.laid keep hp hn) (I.hok.laid keep hp ⟨by rw [List.length_map, List.length_mergeSort, List.length_map, sizeLine_eq]; omega, out, c, hv, hc2⟩) (by rw [g1]; exact I.bare) (fun _ z => nomatch z)
    refine wpAny_pure ⟨_, rfl, .ref s1.heap.objs.size, _, ?_, rfl, q L1 _ pL hn⟩
    have es : ({ s1 with heap := sortedHeap (s1.heap.push (seqObj "list" vs.toArray 0)) s1.heap.objs.size vs out.toArray } : Shared) = { s with heap := sortedHeap (s1.heap.push (seqObj "list" vs.toArray 0)) s1.heap.objs.size vs out.toArray, gens := s1.gens, drawn := s1.drawn, toks := s1.toks } := by
      have o1' : s1.os = s.os := o1
      cases s1; cases s; simp only at o1'; subst o1'; rfl
    first
      | exact es ▸ J
      | (rw [es]; exact J)
end
end Ev

set_option autoImplicit false
set_option linter.all false
set_option maxRecDepth 100000
set_option maxHeartbeats 1000000
/-! Ev: enumerate, zip; the other built-ins; chains. -/
namespace Ev
open PySem PySem.Spec PyProof.Rows L2
section
variable {X : Cx} {a b c : Expr} {fa fb fc : Env → Mem → Res D} {pos : Pos}
theorem bin_any (o : Bop) : ∃ r, OpR X (binaryOp o.op) r ∧ OpS (fr X) r (fun M x y => opBin M o x y) := by
  cases o with
  | add => exact ⟨_, op_addAll, add_ok⟩
  | sub => exact ⟨_, op_sub, sub_ok⟩
  | mul => exact ⟨_, op_mulAll, mul_ok⟩
  | fdiv => exact ⟨_, op_fdiv, fdiv_ok⟩
  | mod => exact ⟨_, op_mod, mod_ok⟩
  | pow => exact ⟨_, op_pow, pow_ok⟩
theorem cmp_any (hu : X.A.units + 65 < cLine) (o : Cop) : ∃ r, OpR X (compareOp o.op) r ∧ OpB (fr X) r (fun M x y => opCmp M o x y) := by
  cases o with
  | eq => exact ⟨_, op_eqD (by omega), eq_ok⟩
  | ne => exact ⟨_, op_neD (by omega), ne_ok⟩
  | lt => exact ⟨_, OpR.or (OpR.or op_lt op_lt_str) (op_ltD hu), lt_ok⟩
  | le => exact ⟨_, OpR.or op_le (op_leD hu), le_ok⟩
  | gt => exact ⟨_, OpR.or op_gt (op_gtD hu), gt_ok⟩
  | ge => exact ⟨_, OpR.or op_ge (op_geD hu), ge_ok⟩
  | is => exact ⟨_, op_isAll, is_ok⟩
  | isnot => exact ⟨_, op_isnotAll, isnot_ok⟩
  | in_ => exact ⟨_, op_inAll hu, in_ok⟩
  | notin => exact ⟨_, op_notInAll hu, notin_ok⟩
abbrev fChn (o o' : Cop) (fa fb fc : Env → Mem → Res D) : Env → Mem → Res D := fun env M => match fa env M with
    | some (x, M1) => match fb env M1 with
      | some (y, M2) => match opCmp M2 o x y with
        | some true => match fc env M2 with
          | some (z, M3) => ofB (opCmp M3 o' y z) M3
          | none => none
        | some false => some (.bl false, M2)
        | none => none
      | none => none
    | none => none
theorem chn_imp {o o' : Cop} {r r' : R2} (hs : OpB (fr X) r (fun M x y => opCmp M o x y)) (hs' : OpB (fr X) r' (fun M x y => opCmp M o' x y)) {σ : L2.St} {H : Hp} {Q : VK} (h : tE (fr X) (fChn o o' fa fb fc) σ H Q) : tChain r r' (tE (fr X) fa) (tE (fr X) fb) (tE (fr X) fc) σ H Q := by
  obtain ⟨w, env, M, d, M', R, E, e, q⟩ := h
  simp only [fChn] at e
  split at e
  · rename_i dx M1 h1
    split at e
    · rename_i dy M2 h2
      refine ⟨w, env, M, dx, M1, R, E, h1, fun w1 H1 x f1 R1 d1 => ⟨w1, env, M1, dy, M2, R1, E.fut f1, h2, fun w2 H2 y f2 R2 d2 => ?_⟩⟩
      split at e
      · rename_i hk
        refine hs w2 _ H2 x y dx dy true _ R2 (d1.fut f2) d2 hk ⟨true, rfl, ?_⟩
        rw [if_pos rfl]
        split at e
        · rename_i dz M3 h3
          simp only [ofB, Option.map_eq_some_iff] at e
          obtain ⟨k, h4, e⟩ := e
          cases e
          exact ⟨w2, env, M2, dz, _, R2, (E.fut f1).fut f2, h3, fun w3 H3 z f3 R3 d3 => hs' w3 _ H3 y z dy dz k Q R3 (d2.fut f3) d3 h4 (q w3 H3 _ ((f1.trans f2).trans f3) R3 (.bl k))⟩
        · cases e
      · rename_i hk
        cases e
        refine hs w2 _ H2 x y dx dy false _ R2 (d1.fut f2) d2 hk ⟨false, rfl, ?_⟩
        exact q w2 H2 _ (f1.trans f2) R2 (.bl false)
      · cases e
    · cases e
  · cases e
theorem e_chn {o o' : Cop} (hu : X.A.units + 65 < cLine) (ha : PE X a (tE (fr X) fa)) (hb : PE X b (tE (fr X) fb)) (hc : PE X c (tE (fr X) fc)) (hm : lastMarks [o.op, o'.op] [b, c] = false) : PE X (.Compare a [o.op, o'.op] [b, c] pos) (tE (fr X) (fChn o o' fa fb fc)) := by
  obtain ⟨r, h1, h2⟩ := cmp_any (X := X) hu o
  obtain ⟨r', h3, h4⟩ := cmp_any (X := X) hu o'
  exact imp_e (pe_chain h1 h3 ha hb hc hm) fun σ H Q h => chn_imp h2 h4 h
theorem fChn_bl {o o' : Cop} {env : Env} {M M' : Mem} {d : D} (h : fChn o o' fa fb fc env M = some (d, M')) : ∃ b, d = .bl b := by
  simp only [fChn] at h
  split at h
  · split at h
    · split at h
      · split at h
        · simp only [ofB, Option.map_eq_some_iff] at h
          obtain ⟨k, _, e⟩ := h
          cases e; exact ⟨k, rfl⟩
        · cases h
      · cases h; exact ⟨_, rfl⟩
      · cases h
    · cases h
  · cases h
theorem t_chn {o o' : Cop} (hu : X.A.units + 65 < cLine) (ha : PE X a (tE (fr X) fa)) (hb : PE X b (tE (fr X) fb)) (hc : PE X c (tE (fr X) fc)) (hm : lastMarks [o.op, o'.op] [b, c] = false) : PT X (.Compare a [o.op, o'.op] [b, c] pos) (tT (fr X) fun env M => tru (fChn o o' fa fb fc env M)) := by
  obtain ⟨r, h1, h2⟩ := cmp_any (X := X) hu o
  obtain ⟨r', h3, h4⟩ := cmp_any (X := X) hu o'
  refine imp_t (pt_chain h1 h3 ha hb hc hm) fun σ H Q h => ?_
  exact chn_imp h2 h4 (tB_of (fun env M b M' e => tru_bool (f := fChn o o' fa fb fc) (fun _ _ _ _ e => fChn_bl e) e) h)
theorem e_tupOf {p : Pos} (hg : Gl X "tuple") (hm : X.mg "tuple" = none) (ha : PE X a (tE (fr X) fa)) (hst : isStar a = false) : PE X (.Call (.Name "tuple" p) [a] [] pos) (tE (fr X) fun env M => match fa env M with
    | some (d, M1) => ofD ((seqOf M1 d).map .tup) M1
    | none => none) := by
  refine e_t1 (g := fun M d => (seqOf M d).map .tup) call_tuple_of hg hm boot_tuple (by decide +kernel) (by decide +kernel) ?_ ha hst
  intro w M H v d d' Q R dv e n
  simp only [Option.map_eq_some_iff] at e
  obtain ⟨ds, h1, rfl⟩ := e
  have lst : ∀ ds, listOf M d = some ds → n = n → (∀ w' H' v, Fut w H w' H' → Rp (fr X) w' M H' → Den (fr X) w' v (.tup ds) → Q v H') → ∃ p ys, [v] = [V.ref p] ∧ ((SqL (fr X) H p ys ∧ ∀ l, H l = none → Q (.ref l) (upd H l (.tup ys))) ∨ (SqT (fr X) H p ys ∧ Q (.ref p) H)) := fun ds h1 _ n => by
    obtain ⟨a, vs, rfl, z, r⟩ := listOf_den R dv h1
    exact ⟨a, vs, rfl, .inl ⟨.inl (.inl z), fun l hl => NxV.newT n R r hl⟩⟩
  cases d with
  | tup xs =>
    simp only [seqOf, Option.some.injEq] at h1
    subst h1
    obtain ⟨a, vs, rfl, hs, r⟩ := den_tup dv
    exact ⟨a, vs, rfl, .inr ⟨Same.seqT R.same hs, n.same R dv⟩⟩
  | _ => exact lst ds h1 rfl n
theorem e_intOf {p : Pos} (hg : Gl X "int") (hm : X.mg "int" = none) (ha : PE X a (tE (fr X) fa)) (hst : isStar a = false) : PE X (.Call (.Name "int" p) [a] [] pos) (tE (fr X) fun env M => match fa env M with
    | some (.int i, M1) => some (.int i, M1)
    | some (.bl b, M1) => some (.int (if b then 1 else 0), M1)
    | _ => none) := by
  refine imp_e (e_t1 (g := fun M d => match d with
    | .int i => some (.int i)
    | .bl b => some (.int (if b then 1 else 0))
    | _ => none) call_int1 hg hm boot_int (by decide +kernel) (by decide +kernel) ?_ ha hst) ?_
  · intro w M H v d d' Q R dv e n
    split at e
    · cases e; exact .inl ⟨_, by rw [den_int dv], n.same R (.int _)⟩
    · cases e; exact .inr ⟨_, by rw [den_bl dv], n.same R (.int _)⟩
    · cases e
  · rintro σ H Q ⟨w, env, M, d, M', R, E, e, q⟩
    refine ⟨w, env, M, d, M', R, E, ?_, q⟩
    dsimp only at e ⊢
    split at e
    · rename_i h; cases e; rw [h]; rfl
    · rename_i h; cases e; rw [h]; rfl
    · cases e
theorem e_absOf {p : Pos} (hg : Gl X "abs") (hm : X.mg "abs" = none) (ha : PE X a (tE (fr X) fa)) (hst : isStar a = false) : PE X (.Call (.Name "abs" p) [a] [] pos) (tE (fr X) fun env M => match fa env M with
    | some (.int i, M1) => some (.int (if i < 0 then -i else i), M1)
    | _ => none) := by
  refine imp_e (e_b1 (g := fun M d => match d with
    | .int i => some (.int (if i < 0 then -i else i))
    | _ => none) call_abs hg hm boot_abs (by decide +kernel) (by decide +kernel) ?_ ha hst) ?_
  · intro w M H v d d' Q R dv e n
    split at e
    · cases e; exact ⟨_, by rw [den_int dv], n.same R (.int _)⟩
    · cases e
  · rintro σ H Q ⟨w, env, M, d, M', R, E, e, q⟩
    refine ⟨w, env, M, d, M', R, E, ?_, q⟩
    dsimp only at e ⊢
    split at e
    · rename_i h; cases e; rw [h]; rfl
    · cases e
theorem e_allOf {p : Pos} (hc : X.calm = true) (hg : Gl X "all") (hm : X.mg "all" = none) (ha : PE X a (tE (fr X) fa)) (hst : isStar a = false) : PE X (.Call (.Name "all" p) [a] [] pos) (tE (fr X) fun env M => match fa env M with
    | some (d, M1) => match listOf M1 d with
      | some xs => ofB ((bools xs).map fun bs => bs.all id) M1
      | none => none
    | none => none) := by
  refine imp_e (e_b1 (g := fun M d => match listOf M d with
      | some xs => (bools xs).map fun bs => .bl (bs.all id)
      | none => none) (cr_all hc) hg hm boot_all (by decide +kernel) (by decide +kernel) ?_ ha hst) ?_
  · intro w M H v d d' Q R dv e n
    split at e
    · rename_i xs h1
      simp only [Option.map_eq_some_iff] at e
      obtain ⟨bs, h2, rfl⟩ := e
      obtain ⟨a, vs, rfl, hs, r⟩ := listOf_den R dv h1
      have := Dens.bools r h2
      subst this
      exact ⟨a, bs, rfl, .inl (.inl hs), n.same R (.bl _)⟩
    · cases e
  · rintro σ H Q ⟨w, env, M, d, M', R, E, e, q⟩
    refine ⟨w, env, M, d, M', R, E, ?_, q⟩
    cases h : fa env M with
    | none => simp [h] at e
    | some p =>
      obtain ⟨d1, M1⟩ := p
      simp only [h] at e ⊢
      cases h2 : listOf M1 d1 with
      | none => simp [h2] at e
      | some xs =>
        simp only [h2] at e ⊢
        simp only [ofB, ofD, Option.map_map, Option.map_eq_some_iff] at e ⊢
        obtain ⟨bs, h3, h4⟩ := e
        exact ⟨bs, h3, h4⟩
theorem e_anyOf {p : Pos} (hc : X.calm = true) (hg : Gl X "any") (hm : X.mg "any" = none) (ha : PE X a (tE (fr X) fa)) (hst : isStar a = false) : PE X (.Call (.Name "any" p) [a] [] pos) (tE (fr X) fun env M => match fa env M with
    | some (d, M1) => match listOf M1 d with
      | some xs => ofB ((bools xs).map fun bs => bs.any id) M1
      | none => none
    | none => none) := by
  refine imp_e (e_b1 (g := fun M d => match listOf M d with
      | some xs => (bools xs).map fun bs => .bl (bs.any id)
      | none => none) (cr_any hc) hg hm boot_any (by decide +kernel) (by decide +kernel) ?_ ha hst) ?_
  · intro w M H v d d' Q R dv e n
    split at e
    · rename_i xs h1
      simp only [Option.map_eq_some_iff] at e
      obtain ⟨bs, h2, rfl⟩ := e
      obtain ⟨a, vs, rfl, hs, r⟩ := listOf_den R dv h1
      have := Dens.bools r h2
      subst this
      exact ⟨a, bs, rfl, .inl (.inl hs), n.same R (.bl _)⟩
    · cases e
  · rintro σ H Q ⟨w, env, M, d, M', R, E, e, q⟩
    refine ⟨w, env, M, d, M', R, E, ?_, q⟩
    cases h : fa env M with
    | none => simp [h] at e
    | some p =>
      obtain ⟨d1, M1⟩ := p
      simp only [h] at e ⊢
      cases h2 : listOf M1 d1 with
      | none => simp [h2] at e
      | some xs =>
        simp only [h2] at e ⊢
        simp only [ofB, ofD, Option.map_map, Option.map_eq_some_iff] at e ⊢
        obtain ⟨bs, h3, h4⟩ := e
        exact ⟨bs, h3, h4⟩
theorem e_sumOf {p : Pos} (hc : X.calm = true) (hg : Gl X "sum") (hm : X.mg "sum" = none) (ha : PE X a (tE (fr X) fa)) (hst : isStar a = false) : PE X (.Call (.Name "sum" p) [a] [] pos) (tE (fr X) fun env M => match fa env M with
    | some (d, M1) => match listOf M1 d with
      | some xs => ofD ((intsD xs).map fun is => .int is.sum) M1
      | none => none
    | none => none) := by
  refine imp_e (e_b1 (g := fun M d => match listOf M d with
      | some xs => (intsD xs).map fun bs => .int bs.sum
      | none => none) (cr_sum hc) hg hm boot_sum (by decide +kernel) (by decide +kernel) ?_ ha hst) ?_
  · intro w M H v d d' Q R dv e n
    split at e
    · rename_i xs h1
      simp only [Option.map_eq_some_iff] at e
      obtain ⟨bs, h2, rfl⟩ := e
      obtain ⟨a, vs, rfl, hs, r⟩ := listOf_den R dv h1
      have := Dens.ints r h2
      subst this
      exact ⟨a, bs, rfl, .inl (.inl hs), n.same R (.int _)⟩
    · cases e
  · rintro σ H Q ⟨w, env, M, d, M', R, E, e, q⟩
    refine ⟨w, env, M, d, M', R, E, ?_, q⟩
    cases h : fa env M with
    | none => simp [h] at e
    | some p =>
      obtain ⟨d1, M1⟩ := p
      simp only [h] at e ⊢
      cases h2 : listOf M1 d1 with
      | none => simp [h2] at e
      | some xs =>
        simp only [h2] at e ⊢
        exact e
theorem two_int {g : Int → Int → Int} {env : Env} {M M' : Mem} {d : D} (e : (match fa env M with
    | some (.int i, M1) => match fb env M1 with
      | some (.int j, M2) => some (.int (g i j), M2)
      | _ => none
    | _ => none) = some (d, M')) : (match fa env M with
    | some (x, M1) => match fb env M1 with
      | some (y, M2) => ofD ((fun (_ : Mem) (x y : D) => match x, y with
        | .int i, .int j => some (.int (g i j))
        | _, _ => none) M2 x y) M2
      | none => none
    | none => none) = some (d, M') := by
  split at e
  · rename_i i M1 h1
    rw [h1]
    dsimp only
    split at e
    · rename_i j M2 h2
      rw [h2]; exact e
    · cases e
  · cases e
theorem e_max2 {p : Pos} (hc : X.calm = true) (hg : Gl X "max") (hm : X.mg "max" = none) (ha : PE X a (tE (fr X) fa)) (hb : PE X b (tE (fr X) fb)) (hst : isStar a = false) (hst2 : isStar b = false) : PE X (.Call (.Name "max" p) [a, b] [] pos) (tE (fr X) fun env M => match fa env M with
    | some (.int i, M1) => match fb env M1 with
      | some (.int j, M2) => some (.int (if j > i then j else i), M2)
      | _ => none
    | _ => none) := by
  refine imp_e (e_b2 (g := fun (_ : Mem) (x y : D) => match x, y with
        | .int i, .int j => some (.int (if j > i then j else i))
        | _, _ => none) (call_max2 hc) hg hm boot_max (by decide +kernel) (by decide +kernel) ?_ ha hb hst hst2) ?_
  · intro w M H u v d d1 d' Q R du dv e n
    split at e
    · cases e; exact ⟨_, _, by rw [den_int du, den_int dv], n.same R (.int _)⟩
    · cases e
  · rintro σ H Q ⟨w, env, M, d, M', R, E, e, q⟩
    exact ⟨w, env, M, d, M', R, E, two_int (g := fun i j => if j > i then j else i) e, q⟩
theorem e_min2 {p : Pos} (hc : X.calm = true) (hg : Gl X "min") (hm : X.mg "min" = none) (ha : PE X a (tE (fr X) fa)) (hb : PE X b (tE (fr X) fb)) (hst : isStar a = false) (hst2 : isStar b = false) : PE X (.Call (.Name "min" p) [a, b] [] pos) (tE (fr X) fun env M => match fa env M with
    | some (.int i, M1) => match fb env M1 with
      | some (.int j, M2) => some (.int (if j < i then j else i), M2)
      | _ => none
    | _ => none) := by
  refine imp_e (e_b2 (g := fun (_ : Mem) (x y : D) => match x, y with
        | .int i, .int j => some (.int (if j < i then j else i))
        | _, _ => none) (call_min2 hc) hg hm boot_min (by decide +kernel) (by decide +kernel) ?_ ha hb hst hst2) ?_
  · intro w M H u v d d1 d' Q R du dv e n
    split at e
    · cases e; exact ⟨_, _, by rw [den_int du, den_int dv], n.same R (.int _)⟩
    · cases e
  · rintro σ H Q ⟨w, env, M, d, M', R, E, e, q⟩
    exact ⟨w, env, M, d, M', R, E, two_int (g := fun i j => if j < i then j else i) e, q⟩

/-! ### enumerate, zip -/
theorem enum_get : ∀ (ds : List D) (k i : Nat), (enumD k ds)[i]? = ds[i]?.map fun d => .tup [.int ((k + i : Nat) : Int), d]
  | [], k, i => by simp [enumD]
  | d :: ds, k, 0 => by simp [enumD]
  | d :: ds, k, i + 1 => by
    simp only [enumD, List.getElem?_cons_succ]
    rw [enum_get ds (k + 1) i, show k + 1 + i = k + (i + 1) by omega]
theorem enum_len : ∀ (ds : List D) (k : Nat), (enumD k ds).length = ds.length
  | [], _ => rfl
  | _ :: ds, k => by simp [enumD, enum_len ds]
theorem ite_ok {w : Wd} {p : Addr} {ds : List D} {g : Grd} (s : Src (fr X) w p ds g true) : ItOk (fr X) w (Ite (fr X) p) (enumD 0 ds) g where
  go := fun i w1 M1 H1 d x R hg hd => by
    rw [enum_get, Option.map_eq_some_iff] at hd
    obtain ⟨d, hd, rfl⟩ := hd
    obtain ⟨vs, e, r⟩ := s.list x R hg
    obtain ⟨v, hv, dv⟩ := r.get hd
    refine ⟨⟨vs, v, .inl (.inl e), hv⟩, fun y H2 h => ?_⟩
    obtain ⟨T, z, rfl, hT, rfl, hy⟩ := h
    have := hy vs (.inl (.inl e))
    rw [hv] at this; cases this
    obtain ⟨f2, R2⟩ := alloc_frozen R hT (.tup [.int (i : Nat), v])
    refine ⟨_, f2, R2, .tup (.inl (.inl upd_same)) (.cons ?_ (.cons (dv.fut f2) .nil))⟩
    rw [Nat.zero_add]; exact .int _
  stop := fun i w1 M1 H1 x R hg hd => by
    obtain ⟨vs, e, r⟩ := s.list x R hg
    rw [enum_len] at hd
    exact ⟨vs, .inl (.inl e), by rw [r.length]; omega⟩
theorem walk_l {w : Wd} {M : Mem} {H : Hp} {x : V} {d : D} {ds : List D} {g : Grd} (R : Rp (fr X) w M H) (h : Den (fr X) w x d) (e : walkOf M d = some (ds, g)) (ht : isTup d = false) : ∃ a, x = .ref a ∧ Src (fr X) w a ds g true ∧ gok g M = true := by
  cases d with
  | tup => cases ht
  | lst xs =>
    obtain ⟨a, k, rfl, s, hg⟩ := walk_src R h e
    simp only [walkOf, Option.some.injEq, Prod.mk.injEq] at e
    obtain ⟨rfl, rfl⟩ := e
    cases h with
    | lst h r => exact ⟨_, rfl, .fl h r, rfl⟩
  | cell c =>
    obtain ⟨p, k, e1, s, hg⟩ := walk_src R h e
    simp only [walkOf] at e
    split at e
    · simp only [Option.some.injEq, Prod.mk.injEq] at e
      obtain ⟨rfl, rfl⟩ := e
      cases h with
      | cell h => exact ⟨_, rfl, .ce h, hg⟩
    · cases e
  | _ => simp [walkOf] at e
theorem walk_t {w : Wd} {M : Mem} {H : Hp} {x : V} {d : D} {ds : List D} {g : Grd} (R : Rp (fr X) w M H) (h : Den (fr X) w x d) (e : walkOf M d = some (ds, g)) (ht : isTup d = true) : ∃ a, x = .ref a ∧ Src (fr X) w a ds g false ∧ gok g M = true := by
  cases d with
  | tup =>
    simp only [walkOf, Option.some.injEq, Prod.mk.injEq] at e
    obtain ⟨rfl, rfl⟩ := e
    cases h with
    | tup h r => exact ⟨_, rfl, .tu h r, rfl⟩
  | _ => cases ht
theorem i_enum {p tpos : Pos} {elts : List Expr} {kk : Nat} (hg : Gl X "enumerate") (hm : X.mg "enumerate" = none) (ha : PE X a (tE (fr X) fa)) (hst : isStar a = false) : PI X (.Tuple elts kk tpos) (.Call (.Name "enumerate" p) [a] [] pos) (tI (fr X) fun env M => match fa env M with
    | some (d, M1) => match walkOf M1 d with
        | some (xs, g) => if isTup d then none else some ((enumD 0 xs, g), M1)
        | none => none
    | none => none) := by
  refine imp_i (pi_enum (ta := tCons (tE (fr X) fa) tNil) hg hm (pa_cons ha pa_nil (star_cons hst)) (star_cons hst)) ?_
  rintro σ H R ⟨w, env, M, ds, g, M', Rr, E, e, q⟩
  simp only at e
  split at e
  · rename_i d M1 h1
    split at e
    · rename_i xs g' h2
      split at e
      · cases e
      · rename_i hnt
        cases e
        refine ⟨w, env, M, d, _, Rr, E, h1, fun w1 H1 x f1 R1 d1 => ?_⟩
        obtain ⟨a, rfl, s, hg⟩ := walk_l R1 d1 h2 (Bool.eq_false_iff.mpr hnt)
        obtain ⟨vs, e1, r⟩ := s.list (Ext.refl (X := X) w1) R1 hg
        exact ⟨a, vs, rfl, .inl (.inl e1), q w1 H1 _ f1 R1 (ite_ok s)⟩
    · cases e
  · cases e
theorem zip_get : ∀ (xs ys : List D) (i : Nat) (d : D), (zipD xs ys)[i]? = some d → ∃ x y, xs[i]? = some x ∧ ys[i]? = some y ∧ d = .tup [x, y]
  | [], _, i, d, h => by simp [zipD] at h
  | x :: xs, [], i, d, h => by simp [zipD] at h
  | x :: xs, y :: ys, 0, d, h => by simp [zipD] at h; exact ⟨x, y, by simp, by simp, h.symm⟩
  | x :: xs, y :: ys, i + 1, d, h => by
    simp only [zipD, List.getElem?_cons_succ] at h ⊢
    exact zip_get xs ys i d h
theorem zip_len : ∀ (xs ys : List D), xs.length ≤ (zipD xs ys).length ∨ ys.length ≤ (zipD xs ys).length
  | [], _ => .inl (Nat.zero_le _)
  | x :: xs, [] => .inr (Nat.zero_le _)
  | x :: xs, y :: ys => by
    simp only [zipD, List.length_cons]
    rcases zip_len xs ys with h | h
    · exact .inl (by omega)
    · exact .inr (by omega)
theorem itz_ok {w : Wd} {p p2 : Addr} {ds es : List D} {g h : Grd} (s : Src (fr X) w p ds g true) (s2 : Src (fr X) w p2 es h true) : ItOk (fr X) w (Itz (fr X) p p2) (zipD ds es) (g ++ h) where
  go := fun i w1 M1 H1 d x R hg hd => by
    rw [gok_append, Bool.and_eq_true] at hg
    obtain ⟨d, d2, h1, h2, rfl⟩ := zip_get _ _ _ _ hd
    obtain ⟨vs, e, r⟩ := s.list x R hg.1
    obtain ⟨vs2, e2, r2⟩ := s2.list x R hg.2
    obtain ⟨v, hv, dv⟩ := r.get h1
    obtain ⟨v2, hv2, dv2⟩ := r2.get h2
    refine ⟨⟨vs, vs2, v, v2, .inl (.inl e), .inl (.inl e2), hv, hv2⟩, fun y H2 h => ?_⟩
    obtain ⟨T, z, z2, rfl, hT, rfl, hy, hy2⟩ := h
    have := hy vs (.inl (.inl e))
    rw [hv] at this; cases this
    have := hy2 vs2 (.inl (.inl e2))
    rw [hv2] at this; cases this
    obtain ⟨f2, R2⟩ := alloc_frozen R hT (.tup [v, v2])
    exact ⟨_, f2, R2, .tup (.inl (.inl upd_same)) (.cons (dv.fut f2) (.cons (dv2.fut f2) .nil))⟩
  stop := fun i w1 M1 H1 x R hg hd => by
    rw [gok_append, Bool.and_eq_true] at hg
    obtain ⟨vs, e, r⟩ := s.list x R hg.1
    obtain ⟨vs2, e2, r2⟩ := s2.list x R hg.2
    exact ⟨vs, vs2, .inl (.inl e), .inl (.inl e2), by rw [r.length, r2.length, ← hd]; exact zip_len ds es⟩
theorem itzT_ok {w : Wd} {p p2 : Addr} {ds es : List D} {g h : Grd} (s : Src (fr X) w p ds g false) (s2 : Src (fr X) w p2 es h false) : ItOk (fr X) w (RZ.ItzT (fr X) p p2) (zipD ds es) (g ++ h) where
  go := fun i w1 M1 H1 d x R hg hd => by
    obtain ⟨d, d2, h1, h2, rfl⟩ := zip_get _ _ _ _ hd
    obtain ⟨vs, e, r⟩ := s.tup x R
    obtain ⟨vs2, e2, r2⟩ := s2.tup x R
    obtain ⟨v, hv, dv⟩ := r.get h1
    obtain ⟨v2, hv2, dv2⟩ := r2.get h2
    refine ⟨⟨vs, vs2, v, v2, e, e2, hv, hv2⟩, fun y H2 h => ?_⟩
    obtain ⟨T, z, z2, rfl, hT, rfl, hy, hy2⟩ := h
    have := hy vs e
    rw [hv] at this; cases this
    have := hy2 vs2 e2
    rw [hv2] at this; cases this
    obtain ⟨f2, R2⟩ := alloc_frozen R hT (.tup [v, v2])
    exact ⟨_, f2, R2, .tup (.inl (.inl upd_same)) (.cons (dv.fut f2) (.cons (dv2.fut f2) .nil))⟩
  stop := fun i w1 M1 H1 x R hg hd => by
    obtain ⟨vs, e, r⟩ := s.tup x R
    obtain ⟨vs2, e2, r2⟩ := s2.tup x R
    exact ⟨vs, vs2, e, e2, by rw [r.length, r2.length, ← hd]; exact zip_len ds es⟩
theorem i_zip {p tpos : Pos} {elts : List Expr} {kk : Nat} (hg : Gl X "zip") (hm : X.mg "zip" = none) (ha : PE X a (tE (fr X) fa)) (hb : PE X b (tE (fr X) fb)) (hst : isStar a = false) (hst2 : isStar b = false) : PI X (.Tuple elts kk tpos) (.Call (.Name "zip" p) [a, b] [] pos) (tI (fr X) fun env M => match fa env M with
    | some (x, M1) => match fb env M1 with
      | some (y, M2) => match walkOf M2 x, walkOf M2 y with
        | some (xs, g), some (ys, h) => if isTup x == isTup y then some ((zipD xs ys, g ++ h), M2) else none
        | _, _ => none
      | none => none
    | none => none) := by
  refine imp_i (RZ.pi_zipA (ta := tCons (tE (fr X) fa) (tCons (tE (fr X) fb) tNil)) hg hm (pa_cons ha (pa_cons hb pa_nil (star_cons hst2)) (star_cons hst)) (star_cons hst) (by rw [star_cons hst2]; rfl)) ?_
  rintro σ H R ⟨w, env, M, ds, g, M', Rr, E, e, q⟩
  simp only at e
  split at e
  · rename_i d M1 h1
    split at e
    · rename_i d2 M2 h2
      split at e
      · rename_i xs g1 ys g2 hw1 hw2
        split at e
        · rename_i hk
          cases e
          refine ⟨w, env, M, d, M1, Rr, E, h1, fun w1 H1 x f1 R1 dx => ⟨w1, env, M1, d2, _, R1, E.fut f1, h2, fun w2 H2 y f2 R2 dy => ?_⟩⟩
          have hk2 : isTup d = isTup d2 := beq_iff_eq.mp hk
          cases ht : isTup d with
          | false =>
            obtain ⟨a, rfl, s, hg⟩ := walk_l R2 (dx.fut f2) hw1 ht
            obtain ⟨a2, rfl, s2, hg2⟩ := walk_l R2 dy hw2 (hk2 ▸ ht)
            obtain ⟨vs, e1, r⟩ := s.list (Ext.refl (X := X) w2) R2 hg
            obtain ⟨vs2, e2, r2⟩ := s2.list (Ext.refl (X := X) w2) R2 hg2
            exact ⟨a, a2, vs, vs2, rfl, .inl ⟨.inl (.inl e1), .inl (.inl e2), q w2 H2 _ (f1.trans f2) R2 (itz_ok s s2)⟩⟩
          | true =>
            obtain ⟨a, rfl, s, hg⟩ := walk_t R2 (dx.fut f2) hw1 ht
            obtain ⟨a2, rfl, s2, hg2⟩ := walk_t R2 dy hw2 (hk2 ▸ ht)
            obtain ⟨vs, e1, r⟩ := s.tup (Ext.refl (X := X) w2) R2
            obtain ⟨vs2, e2, r2⟩ := s2.tup (Ext.refl (X := X) w2) R2
            exact ⟨a, a2, vs, vs2, rfl, .inr ⟨e1, e2, q w2 H2 _ (f1.trans f2) R2 (itzT_ok s s2)⟩⟩
        · cases e
      · cases e
    · cases e
  · cases e
theorem iteT_ok {w : Wd} {p : Addr} {ds : List D} {g : Grd} (s : Src (fr X) w p ds g false) : ItOk (fr X) w (RZ.IteT (fr X) p) (enumD 0 ds) g where
  go := fun i w1 M1 H1 d x R hg hd => by
    rw [enum_get, Option.map_eq_some_iff] at hd
    obtain ⟨d, hd, rfl⟩ := hd
    obtain ⟨vs, e, r⟩ := s.tup x R
    obtain ⟨v, hv, dv⟩ := r.get hd
    refine ⟨⟨vs, v, e, hv⟩, fun y H2 h => ?_⟩
    obtain ⟨T, z, rfl, hT, rfl, hy⟩ := h
    have := hy vs e
    rw [hv] at this; cases this
    obtain ⟨f2, R2⟩ := alloc_frozen R hT (.tup [.int (i : Nat), v])
    refine ⟨_, f2, R2, .tup (.inl (.inl upd_same)) (.cons ?_ (.cons (dv.fut f2) .nil))⟩
    rw [Nat.zero_add]; exact .int _
  stop := fun i w1 M1 H1 x R hg hd => by
    obtain ⟨vs, e, r⟩ := s.tup x R
    rw [enum_len] at hd
    exact ⟨vs, e, by rw [r.length]; omega⟩
theorem i_enum2 {p tpos : Pos} {elts : List Expr} {kk : Nat} (hg : Gl X "enumerate") (hm : X.mg "enumerate" = none) (ha : PE X a (tE (fr X) fa)) (hst : isStar a = false) : PI X (.Tuple elts kk tpos) (.Call (.Name "enumerate" p) [a] [] pos) (tI (fr X) fun env M => match fa env M with
    | some (d, M1) => match walkOf M1 d with
        | some (xs, g) => some ((enumD 0 xs, g), M1)
        | none => none
    | none => none) := by
  refine imp_i (RZ.pi_enum2 (ta := tCons (tE (fr X) fa) tNil) hg hm (pa_cons ha pa_nil (star_cons hst)) (star_cons hst)) ?_
  rintro σ H R ⟨w, env, M, ds, g, M', Rr, E, e, q⟩
  simp only at e
  split at e
  · rename_i d M1 h1
    split at e
    · rename_i xs g' h2
      cases e
      refine ⟨w, env, M, d, _, Rr, E, h1, fun w1 H1 x f1 R1 d1 => ?_⟩
      cases ht : isTup d with
      | false =>
        obtain ⟨a, rfl, s, hg⟩ := walk_l R1 d1 h2 ht
        obtain ⟨vs, e1, r⟩ := s.list (Ext.refl (X := X) w1) R1 hg
        exact ⟨a, vs, rfl, .inl ⟨.inl (.inl e1), q w1 H1 _ f1 R1 (ite_ok s)⟩⟩
      | true =>
        obtain ⟨a, rfl, s, hg⟩ := walk_t R1 d1 h2 ht
        obtain ⟨vs, e1, r⟩ := s.tup (Ext.refl (X := X) w1) R1
        exact ⟨a, vs, rfl, .inr ⟨e1, q w1 H1 _ f1 R1 (iteT_ok s)⟩⟩
    · cases e
  · cases e
theorem itEZ_ok {w : Wd} {p p2 : Addr} {ds es : List D} {g h : Grd} (s : Src (fr X) w p ds g false) (s2 : Src (fr X) w p2 es h false) : ItOk (fr X) w (RZ.ItEZ (fr X) p p2) (enumD 0 (zipD ds es)) (g ++ h) where
  go := fun i w1 M1 H1 d x R hg hd => by
    rw [enum_get, Option.map_eq_some_iff] at hd
    obtain ⟨d, hd, rfl⟩ := hd
    obtain ⟨d, d2, h1, h2, rfl⟩ := zip_get _ _ _ _ hd
    obtain ⟨vs, e, r⟩ := s.tup x R
    obtain ⟨vs2, e2, r2⟩ := s2.tup x R
    obtain ⟨v, hv, dv⟩ := r.get h1
    obtain ⟨v2, hv2, dv2⟩ := r2.get h2
    refine ⟨⟨vs, vs2, v, v2, e, e2, hv, hv2⟩, fun y H2 h => ?_⟩
    obtain ⟨T, T2, z, z2, rfl, hT, hT2, rfl, hy, hy2⟩ := h
    have := hy vs e
    rw [hv] at this; cases this
    have := hy2 vs2 e2
    rw [hv2] at this; cases this
    obtain ⟨f2, R2⟩ := alloc_frozen R hT (.tup [v, v2])
    have dt := Den.tup (K := (fr X)) (w := _) (.inl (.inl (upd_same (H := w1.F) (a := T)))) (.cons (dv.fut f2) (.cons (dv2.fut f2) .nil))
    obtain ⟨f3, R3⟩ := alloc_frozen R2 hT2 (.tup [.int (i : Nat), .ref T])
    refine ⟨_, f2.trans f3, R3, .tup (.inl (.inl upd_same)) (.cons ?_ (.cons (dt.fut f3) .nil))⟩
    rw [Nat.zero_add]; exact .int _
  stop := fun i w1 M1 H1 x R hg hd => by
    obtain ⟨vs, e, r⟩ := s.tup x R
    obtain ⟨vs2, e2, r2⟩ := s2.tup x R
    rw [enum_len] at hd
    exact ⟨vs, vs2, e, e2, by rw [r.length, r2.length, ← hd]; exact zip_len ds es⟩
theorem i_ez {p p2 pos2 tpos : Pos} {elts : List Expr} {kk : Nat} (hg : Gl X "enumerate") (hm : X.mg "enumerate" = none) (hg2 : Gl X "zip") (hm2 : X.mg "zip" = none) (ha : PE X a (tE (fr X) fa)) (hb : PE X b (tE (fr X) fb)) (hst : isStar a = false) (hst2 : isStar b = false) : PI X (.Tuple elts kk tpos) (.Call (.Name "enumerate" p) [.Call (.Name "zip" p2) [a, b] [] pos2] [] pos) (tI (fr X) fun env M => match fa env M with
    | some (x, M1) => match fb env M1 with
      | some (y, M2) => match walkOf M2 x, walkOf M2 y with
        | some (xs, g), some (ys, h) => if isTup x && isTup y then some ((enumD 0 (zipD xs ys), g ++ h), M2) else none
        | _, _ => none
      | none => none
    | none => none) := by
  refine imp_i (RZ.pi_ez (ta := tCons (tE (fr X) fa) (tCons (tE (fr X) fb) tNil)) hg hm hg2 hm2 (pa_cons ha (pa_cons hb pa_nil (star_cons hst2)) (star_cons hst)) (star_cons hst) (by rw [star_cons hst2]; rfl)) ?_
  rintro σ H R ⟨w, env, M, ds, g, M', Rr, E, e, q⟩
  simp only at e
  split at e
  · rename_i d M1 h1
    split at e
    · rename_i d2 M2 h2
      split at e
      · rename_i xs g1 ys g2 hw1 hw2
        split at e
        · rename_i hk
          cases e
          rw [Bool.and_eq_true] at hk
          refine ⟨w, env, M, d, M1, Rr, E, h1, fun w1 H1 x f1 R1 dx => ⟨w1, env, M1, d2, _, R1, E.fut f1, h2, fun w2 H2 y f2 R2 dy => ?_⟩⟩
          obtain ⟨a, rfl, s, hg⟩ := walk_t R2 (dx.fut f2) hw1 hk.1
          obtain ⟨a2, rfl, s2, hg2⟩ := walk_t R2 dy hw2 hk.2
          obtain ⟨vs, e1, r⟩ := s.tup (Ext.refl (X := X) w2) R2
          obtain ⟨vs2, e2, r2⟩ := s2.tup (Ext.refl (X := X) w2) R2
          exact ⟨a, a2, vs, vs2, rfl, e1, e2, q w2 H2 _ (f1.trans f2) R2 (itEZ_ok s s2)⟩
        · cases e
      · cases e
    · cases e
  · cases e
theorem e_rngV {p : Pos} (hg : Gl X "range") (hm : X.mg "range" = none) (ha : PE X a (tE (fr X) fa)) (hb : PE X b (tE (fr X) fb)) (hst : isStar a = false) (hst2 : isStar b = false) : PE X (.Call (.Name "range" p) [a, b] [] pos) (tE (fr X) fun env M => match fa env M with
    | some (.int i, M1) => match fb env M1 with
      | some (.int j, M2) => if in62 i && in62 j then some (.rng i j, M2) else none
      | _ => none
    | _ => none) := by
  refine imp_e (pe_callTy (t := tCons (tE (fr X) fa) (tCons (tE (fr X) fb) tNil)) cr_range2 hg hm boot_range (pa_cons ha (pa_cons hb pa_nil (star_cons hst2)) (star_cons hst)) (by decide +kernel) (by decide +kernel) (star_cons hst) (by rw [star_cons hst2]; rfl)) ?_
  rintro σ H Q ⟨w, env, M, d, M', R, E, e, q⟩
  simp only at e
  split at e
  · rename_i i M1 h1
    split at e
    · rename_i j M2 h2
      split at e
      · cases e
        refine ⟨w, env, M, .int i, M1, R, E, h1, fun w1 H1 x f1 R1 d1 => ⟨w1, env, M1, .int j, _, R1, E.fut f1, h2, fun w2 H2 y f2 R2 d2 => ⟨i, j, by rw [den_int d1, den_int d2], fun p hp => ?_⟩⟩⟩
        obtain ⟨f3, R3⟩ := alloc_frozen R2 hp (.rng i j)
        exact q _ _ _ ((f1.trans f2).trans f3) R3 (.rng upd_same)
      · cases e
    · cases e
  · cases e
theorem cr_range1 : CallR X (.type "range") (fun vs H Q => ∃ j, vs = [V.int j] ∧ ∀ p, H p = none → Q (.ref p) (upd H p (.rng 0 j))) := by
  intro pins s σ H vs us Q I r h
  obtain ⟨j, rfl, q⟩ := h
  cases r with
  | cons rj rr =>
    cases rr
    obtain ⟨u, rfl⟩ := rj
    refine call_range_1 ⟨.ref s.heap.objs.size, upd H s.heap.objs.size (.rng 0 j), I.laid (t' := s.toks + 1 + 1) (fun b o e => Heap.get?_push_of_some _ e) (Nat.le_refl _) ?_, rfl, q _ (I.hok.fresh (Nat.le_refl _))⟩
    exact ⟨s.toks, u, s.toks + 1, Heap.get?_push_size _ rfl⟩
theorem e_rngV1 {p : Pos} (hg : Gl X "range") (hm : X.mg "range" = none) (ha : PE X a (tE (fr X) fa)) (hst : isStar a = false) : PE X (.Call (.Name "range" p) [a] [] pos) (tE (fr X) fun env M => match fa env M with
    | some (.int j, M1) => if in62 j then some (.rng 0 j, M1) else none
    | _ => none) := by
  refine imp_e (pe_callTy (t := tCons (tE (fr X) fa) tNil) cr_range1 hg hm boot_range (pa_cons ha pa_nil (star_cons hst)) (by decide +kernel) (by decide +kernel) (star_cons hst) rfl) ?_
  rintro σ H Q ⟨w, env, M, d, M', R, E, e, q⟩
  simp only at e
  split at e
  · rename_i j M1 h1
    split at e
    · cases e
      refine ⟨w, env, M, .int j, _, R, E, h1, fun w1 H1 x f1 R1 d1 => ⟨j, by rw [den_int d1], fun p hp => ?_⟩⟩
      obtain ⟨f3, R3⟩ := alloc_frozen R1 hp (.rng 0 j)
      exact q _ _ _ (f1.trans f3) R3 (.rng upd_same)
    · cases e
  · cases e
/-! ### sorted, min, max -/
theorem py_inj : ∀ (a b : D), PyData.canLay0 a.py = true → a.py = b.py → a = b := by
  have h : ∀ n : Nat, ∀ (a b : D), sizeOf a ≤ n → PyData.canLay0 a.py = true → a.py = b.py → a = b := by
    intro n
    induction n with
    | zero => intro a b hs; cases a <;> simp at hs
    | succ n ih =>
      have lists : ∀ (xs ys : List D), sizeOf xs ≤ n → PyData.canLayAll0 (D.pys xs) = true → D.pys xs = D.pys ys → xs = ys := by
        intro xs
        induction xs with
        | nil => intro ys _ _ h; cases ys with
          | nil => rfl
          | cons => simp [D.pys] at h
        | cons x xs ih2 =>
          intro ys hs hc h
          cases ys with
          | nil => simp [D.pys] at h
          | cons y ys =>
            simp only [D.pys, List.cons.injEq] at h
            simp only [D.pys, PyData.canLayAll0, Bool.and_eq_true] at hc
            simp only [List.cons.sizeOf_spec] at hs
            rw [ih x y (by omega) hc.1 h.1, ih2 ys (by omega) hc.2 h.2]
      intro a b hs hc h
      cases a <;> cases b <;> simp only [D.py, reduceCtorEq, PyData.bool.injEq, PyData.int.injEq, PyData.str.injEq, PyData.tuple.injEq, PyData.list.injEq, PyData.canLay0, Bool.false_eq_true] at h hc <;> first | rfl | (rw [h]; done) | skip
      · rename_i xs ys
        rw [lists xs ys (by simp at hs; omega) hc h]
      · rename_i xs ys
        rw [lists xs ys (by simp at hs; omega) hc h]
  exact fun a b => h (sizeOf a) a b (Nat.le_refl _)
theorem zip_ps {K : Fr} {w : Wd} : ∀ {vs : List V} {ds : List D}, Dens K w vs ds → ∃ ps : List (V × D), ps.map (·.1) = vs ∧ ps.map (·.2) = ds ∧ ∀ p ∈ ps, Den K w p.1 p.2
  | _, _, .nil => ⟨[], rfl, rfl, fun _ h => by cases h⟩
  | _, _, .cons (v := v) (d := d) h r => by
    obtain ⟨ps, e1, e2, h3⟩ := zip_ps r
    exact ⟨(v, d) :: ps, by simp [e1], by simp [e2], fun p hp => by
      rcases List.mem_cons.mp hp with rfl | hp
      · exact h
      · exact h3 p hp⟩
theorem dens_ps {K : Fr} {w : Wd} : ∀ {ps : List (V × D)}, (∀ p ∈ ps, Den K w p.1 p.2) → Dens K w (ps.map (·.1)) (ps.map (·.2))
  | [], _ => .nil
  | p :: ps, h => .cons (h p (by simp)) (dens_ps fun q hq => h q (by simp [hq]))
theorem all_ok {ps : List (V × D)} (h : (ps.map (·.2)).all okData = true) : ∀ p ∈ ps, PyData.canLay0 p.2.py = true ∧ p.2.py.depth ≤ 50 := fun p hp => okData_inv (List.all_eq_true.mp h p.2 (List.mem_map.mpr ⟨p, hp, rfl⟩))
theorem all_alike {ps : List (V × D)} (h : alikes (ps.map (·.2)) = true) : PySem.W.AllAlike (ps.map (·.2.py)) := by
  intro d hd d' hd'
  obtain ⟨b, hb, rfl⟩ := List.mem_map.mp hd
  obtain ⟨b', hb', rfl⟩ := List.mem_map.mp hd'
  exact List.all_eq_true.mp (List.all_eq_true.mp h b.2 (List.mem_map.mpr ⟨b, hb, rfl⟩)) b'.2 (List.mem_map.mpr ⟨b', hb', rfl⟩)
theorem depth_all : ∀ {ps : List (V × D)}, (∀ p ∈ ps, p.2.py.depth ≤ 50) → PyData.depthAll (ps.map (·.2.py)) ≤ 60
  | [], _ => by simp [PyData.depthAll]
  | p :: ps, h => by
    have h1 := h p (by simp)
    have h2 := depth_all (ps := ps) fun q hq => h q (by simp [hq])
    simp only [List.map_cons, PyData.depthAll]
    omega
theorem sort_inv {ds es : List D} (h : sortD ds = some es) : ds.all okData = true ∧ alikes ds = true ∧ (ds.all D.tupNe = true ∨ ds.all D.noTup = true) ∧ ds.length ≤ Lim ∧ es = ds.mergeSort dLe := by
  unfold sortD at h
  split at h
  · rename_i hs
    cases h
    simp only [Bool.and_eq_true, Bool.or_eq_true, decide_eq_true_eq] at hs
    exact ⟨hs.1.1.1, hs.1.1.2, hs.1.2, hs.2, rfl⟩
  · cases h
theorem sortable_of {ps : List (V × D)} (h : (ps.map (·.2)).all D.tupNe = true ∨ (ps.map (·.2)).all D.noTup = true) : PySem.W.Sortable (ps.map (·.2.py)) := by
  rcases h with h | h
  · refine .inl fun d hd => ?_
    obtain ⟨b, hb, rfl⟩ := List.mem_map.mp hd
    have := List.all_eq_true.mp h b.2 (List.mem_map.mpr ⟨b, hb, rfl⟩)
    cases hb2 : b.2 <;> rw [hb2] at this <;> first | (cases this; done) | skip
    rename_i xs
    cases xs with
    | nil => cases this
    | cons x xs => exact ⟨x.py, D.pys xs, rfl⟩
  · refine .inr fun d hd => ?_
    obtain ⟨b, hb, rfl⟩ := List.mem_map.mp hd
    have := List.all_eq_true.mp h b.2 (List.mem_map.mpr ⟨b, hb, rfl⟩)
    cases hb2 : b.2 <;> rw [hb2] at this <;> first | (cases this; done) | simp [D.py]
theorem f_srt {p : Pos} (hu : X.A.units + 65 < cLine) (hg : Gl X "sorted") (hm : X.mg "sorted" = none) (ha : PE X a (tE (fr X) fa)) (hst : isStar a = false) : PE X (.Call (.Name "sorted" p) [a] [] pos) (tF (fr X) fun env M => match fa env M with
    | some (d, M1) => match (listOf M1 d).bind sortD with
      | some xs => some (xs, M1)
      | none => none
    | none => none) := by
  refine imp_e (pe_callB (t := tCons (tE (fr X) fa) tNil) (cr_sortD hu) hg hm (by kernel_rfl) (pa_cons ha pa_nil (star_cons hst)) (by decide +kernel) (by decide +kernel) (star_cons hst) rfl) ?_
  rintro σ H Q ⟨w, env, M, d, M', R, E, e, q⟩
  simp only at e
  split at e
  · rename_i dx M1 h1
    split at e
    · rename_i xs h2
      cases e
      refine ⟨w, env, M, dx, _, R, E, h1, fun w1 H1 x f1 R1 d1 => ?_⟩
      obtain ⟨ds, h3, h4⟩ := Option.bind_eq_some_iff.mp h2
      obtain ⟨a, vs, rfl, hs, r⟩ := listOf_den R1 d1 h3
      obtain ⟨ps, rfl, rfl, hp⟩ := zip_ps r
      obtain ⟨o1, o2, o3, o4, rfl⟩ := sort_inv h4
      refine ⟨a, ps, rfl, .inl (.inl hs), fun p hp' => den_dp R1.same (hp p hp') (all_ok o1 p hp').1, fun p hp' => by have := (all_ok o1 p hp').2; omega, all_alike o2, sortable_of o3, lim_line (by simpa using o4), fun l hl => ?_⟩
      refine q w1 H1 l _ f1 R1 hl ?_
      have e1 : (ps.map (·.2)).mergeSort dLe = (ps.mergeSort (PySem.W.dataLe false (·.2.py))).map (·.2) := (List.map_mergeSort (r := PySem.W.dataLe false fun x : V × D => x.2.py) (s := dLe) (f := fun x : V × D => x.2) (l := ps) (fun a _ b _ => rfl)).symm
      rw [e1]
      exact dens_ps fun p hp' => hp p (List.mem_mergeSort.mp hp')
    · cases e
  · cases e
theorem sortC_inv {M : Mem} {ds es : List D} (h : sortC M ds = some es) : ∃ ys, derefs M 64 ds = some ys ∧ ys.all okData = true ∧ alikes ys = true ∧ (ys.all D.tupNe = true ∨ ys.all D.noTup = true) ∧ ds.length ≤ Lim ∧ es = ((ds.zip ys).mergeSort fun a b => dLe a.2 b.2).map (·.1) := by
  unfold sortC at h
  split at h
  · rename_i ys e
    split at h
    · rename_i hs
      cases h
      simp only [Bool.and_eq_true, Bool.or_eq_true, decide_eq_true_eq] at hs
      exact ⟨ys, e, hs.1.1.1, hs.1.1.2, hs.1.2, hs.2, rfl⟩
    · cases h
  · cases h
theorem derefs_zip {M : Mem} {n : Nat} {K : Fr} {w : Wd} : ∀ {ps : List (V × D)} {ys : List D}, derefs M n (ps.map (·.2)) = some ys → (∀ p ∈ ps, Den K w p.1 p.2) →
    ∃ ts : List (V × (D × D)), ps = ts.map (fun t => (t.1, t.2.1)) ∧ ys = ts.map (fun t => t.2.2) ∧ ∀ t ∈ ts, deref M n t.2.1 = some t.2.2 ∧ Den K w t.1 t.2.1
  | [], ys, h, _ => by
    rw [List.map_nil, derefs] at h; cases h
    exact ⟨[], rfl, rfl, fun _ h => by cases h⟩
  | p :: ps, ys, h, hd => by
    rw [List.map_cons, derefs] at h
    cases e1 : deref M n p.2 with
    | none => rw [e1] at h; cases h
    | some y =>
      cases e2 : derefs M n (ps.map (·.2)) with
      | none => rw [e1, e2] at h; cases h
      | some zs =>
        rw [e1, e2] at h
        cases h
        obtain ⟨ts, h1, h2, h3⟩ := derefs_zip e2 fun q hq => hd q (by simp [hq])
        refine ⟨(p.1, (p.2, y)) :: ts, by rw [List.map_cons, ← h1], by rw [List.map_cons, ← h2], fun t ht => ?_⟩
        rcases List.mem_cons.mp ht with rfl | ht
        · exact ⟨e1, hd p (by simp)⟩
        · exact h3 t ht
theorem f_srtC {p : Pos} (hu : X.A.units + 65 < cLine) (hg : Gl X "sorted") (hm : X.mg "sorted" = none) (ha : PE X a (tE (fr X) fa)) (hst : isStar a = false) : PE X (.Call (.Name "sorted" p) [a] [] pos) (tF (fr X) fun env M => match fa env M with
    | some (d, M1) => match (listOf M1 d).bind (sortC M1) with
      | some xs => some (xs, M1)
      | none => none
    | none => none) := by
  refine imp_e (pe_callB (t := tCons (tE (fr X) fa) tNil) (cr_sortD hu) hg hm (by kernel_rfl) (pa_cons ha pa_nil (star_cons hst)) (by decide +kernel) (by decide +kernel) (star_cons hst) rfl) ?_
  rintro σ H Q ⟨w, env, M, d, M', R, E, e, q⟩
  simp only at e
  split at e
  · rename_i dx M1 h1
    split at e
    · rename_i xs h2
      cases e
      refine ⟨w, env, M, dx, _, R, E, h1, fun w1 H1 x f1 R1 d1 => ?_⟩
      obtain ⟨ds, h3, h4⟩ := Option.bind_eq_some_iff.mp h2
      obtain ⟨a, vs, rfl, hs, r⟩ := listOf_den R1 d1 h3
      obtain ⟨ps0, rfl, rfl, hp0⟩ := zip_ps r
      obtain ⟨ys, e0, o1, o2, o3, o4, rfl⟩ := sortC_inv h4
      obtain ⟨ts, rfl, rfl, ht⟩ := derefs_zip e0 hp0
      have k1 : (ts.map fun t => (t.1, t.2.1)).map (fun p : V × D => p.1) = (ts.map fun t => (t.1, t.2.2)).map (·.1) := by simp [List.map_map, Function.comp_def]
      have k2 : (ts.map fun t => t.2.2) = (ts.map fun t => (t.1, t.2.2)).map (·.2) := by simp [List.map_map, Function.comp_def]
      rw [k2] at o1 o2 o3
      refine ⟨a, ts.map fun t => (t.1, t.2.2), rfl, .inl (.inl (by rw [← k1]; exact hs)), fun p hp' => ?_, fun p hp' => by have := (all_ok o1 p hp').2; omega, all_alike o2, sortable_of o3, lim_line (by simpa using o4), fun l hl => ?_⟩
      · have ok := all_ok o1 p hp'
        obtain ⟨t, ht', rfl⟩ := List.mem_map.mp hp'
        exact deref_dp R1 64 (ht t ht').2 (ht t ht').1 ok.1
      · refine q w1 H1 l _ f1 R1 hl ?_
        have e1 : ((((ts.map fun t => (t.1, t.2.1)).map (·.2)).zip (ts.map fun t => t.2.2)).mergeSort fun a b => dLe a.2 b.2).map (·.1) = ((ts.mergeSort fun a b => dLe a.2.2 b.2.2).map fun t => t.2.1) := by
          have z : ((ts.map fun t => (t.1, t.2.1)).map (·.2)).zip (ts.map fun t => t.2.2) = ts.map fun t => (t.2.1, t.2.2) := by
            have zz : ∀ us : List (V × (D × D)), ((us.map fun t => (t.1, t.2.1)).map (fun p : V × D => p.2)).zip (us.map fun t => t.2.2) = us.map fun t => (t.2.1, t.2.2) := by
              intro us
              induction us with
              | nil => rfl
              | cons t us ih => simp only [List.map_cons, List.zip_cons_cons, ih]
            exact zz ts
          rw [z, ← List.map_mergeSort (r := fun a b : V × (D × D) => dLe a.2.2 b.2.2) (s := fun a b : D × D => dLe a.2 b.2) (f := fun t : V × (D × D) => (t.2.1, t.2.2)) (l := ts) (fun a _ b _ => rfl), List.map_map]
          rfl
        have e2 : ((ts.map fun t => (t.1, t.2.2)).mergeSort (PySem.W.dataLe false (·.2.py))).map (·.1) = (ts.mergeSort fun a b => dLe a.2.2 b.2.2).map fun t => t.1 := by
          rw [← List.map_mergeSort (r := fun a b : V × (D × D) => dLe a.2.2 b.2.2) (s := PySem.W.dataLe false fun x : V × D => x.2.py) (f := fun t : V × (D × D) => (t.1, t.2.2)) (l := ts) (fun a _ b _ => rfl), List.map_map]
          rfl
        rw [e1, e2]
        have hm : ∀ t ∈ ts.mergeSort (fun a b => dLe a.2.2 b.2.2), Den (fr X) w1 t.1 t.2.1 := fun t h => (ht t (List.mem_mergeSort.mp h)).2
        have := dens_ps (K := (fr X)) (w := w1) (ps := (ts.mergeSort fun a b => dLe a.2.2 b.2.2).map fun t => (t.1, t.2.1)) fun p hp => by
          obtain ⟨t, h, rfl⟩ := List.mem_map.mp hp
          exact hm t h
        simpa [List.map_map, Function.comp_def] using this
    · cases e
  · cases e
theorem least_inv {ds : List D} {m : D} (h : leastD ds = some m) : ∃ d r, ds = d :: r ∧ ds.all okData = true ∧ alikes ds = true ∧ ds.all D.notNon = true ∧ m = r.foldl (fun a y => if dLt y a then y else a) d := by
  unfold leastD at h
  split at h
  · cases h
  · rename_i d r
    split at h
    · rename_i hs
      cases h
      simp only [Bool.and_eq_true] at hs
      exact ⟨d, r, rfl, hs.1.1, hs.1.2, hs.2, rfl⟩
    · cases h
theorem great_inv {ds : List D} {m : D} (h : greatD ds = some m) : ∃ d r, ds = d :: r ∧ ds.all okData = true ∧ alikes ds = true ∧ ds.all D.notNon = true ∧ m = r.foldl (fun a y => if dLt a y then y else a) d := by
  unfold greatD at h
  split at h
  · cases h
  · rename_i d r
    split at h
    · rename_i hs
      cases h
      simp only [Bool.and_eq_true] at hs
      exact ⟨d, r, rfl, hs.1.1, hs.1.2, hs.2, rfl⟩
    · cases h
theorem fold_py (f : PyData → PyData → Bool) : ∀ (r : List (V × D)) (d : D), ((r.map (·.2)).foldl (fun a y => if f y.py a.py = true then y else a) d).py = (r.map (·.2.py)).foldl (fun a y => if f y a = true then y else a) d.py
  | [], d => rfl
  | p :: r, d => by
    simp only [List.map_cons, List.foldl_cons]
    rw [fold_py f r]
    by_cases c : f p.2.py d.py = true
    · rw [if_pos c, if_pos c]
    · rw [if_neg c, if_neg c]
theorem best_ok {m : PyData → List PyData → PyData} {g : List D → Option D} (f : PyData → PyData → Bool) (hm : ∀ x xs, m x xs = xs.foldl (fun a y => if f y a = true then y else a) x)
    (hi : ∀ {ds : List D} {z : D}, g ds = some z → ∃ d r, ds = d :: r ∧ ds.all okData = true ∧ alikes ds = true ∧ ds.all D.notNon = true ∧ z = r.foldl (fun a y => if f y.py a.py = true then y else a) d) :
    ∀ w M H v d d' Q, Rp (fr X) w M H → Den (fr X) w v d → (seqOf M d).bind g = some d' → NxV (fr X) w H M d' Q → rBest (fr X) m [v] H Q := by
  intro w M H v d d' Q R dv e n
  obtain ⟨ds, h3, h4⟩ := Option.bind_eq_some_iff.mp e
  obtain ⟨a, vs, rfl, hs, r⟩ := seqOf_den R dv h3
  obtain ⟨ps, rfl, e2, hp⟩ := zip_ps r
  obtain ⟨d0, r0, rfl, o1, o2, o3, rfl⟩ := hi h4
  cases ps with
  | nil => cases e2
  | cons p ps =>
    rw [← e2] at o1 o2 o3
    obtain ⟨e3, e4⟩ := List.cons.inj e2
    refine ⟨a, p, ps, rfl, hs.elim (fun z => .inl (.inl (.inl z))) .inr, fun q hq => den_dp R.same (hp q hq) (all_ok o1 q hq).1, depth_all fun q hq => (all_ok o1 q hq).2, ⟨all_alike o2, ?_⟩, fun q hq hz => ?_⟩
    · intro x hx
      obtain ⟨b, hb, rfl⟩ := List.mem_map.mp hx
      exact notNon_py (List.all_eq_true.mp o3 b.2 (List.mem_map.mpr ⟨b, hb, rfl⟩))
    · rw [hm, ← fold_py f] at hz
      have := py_inj _ _ (all_ok o1 q hq).1 hz
      rw [← e3, ← e4, ← this] at n
      exact n.same R (hp q hq)
theorem e_minL {p : Pos} (hc : X.calm = true) (hu : X.A.units + 65 < cLine) (hg : Gl X "min") (hm : X.mg "min" = none) (ha : PE X a (tE (fr X) fa)) (hst : isStar a = false) : PE X (.Call (.Name "min" p) [a] [] pos) (tE (fr X) fun env M => match fa env M with
    | some (d, M1) => ofD ((seqOf M1 d).bind leastD) M1
    | none => none) :=
  e_b1 (g := fun M d => (seqOf M d).bind leastD) (cr_minB hc hu) hg hm boot_min (by decide +kernel) (by decide +kernel) (best_ok PySem.W.dataLt (fun _ _ => rfl) fun h => least_inv h) ha hst
theorem e_maxL {p : Pos} (hc : X.calm = true) (hu : X.A.units + 65 < cLine) (hg : Gl X "max") (hm : X.mg "max" = none) (ha : PE X a (tE (fr X) fa)) (hst : isStar a = false) : PE X (.Call (.Name "max" p) [a] [] pos) (tE (fr X) fun env M => match fa env M with
    | some (d, M1) => ofD ((seqOf M1 d).bind greatD) M1
    | none => none) :=
  e_b1 (g := fun M d => (seqOf M d).bind greatD) (cr_maxB hc hu) hg hm boot_max (by decide +kernel) (by decide +kernel) (best_ok (fun y a => PySem.W.dataLt a y) (fun _ _ => rfl) fun h => great_inv h) ha hst
end
end Ev

set_option autoImplicit false
set_option linter.all false
set_option maxRecDepth 100000
set_option maxHeartbeats 1000000
/-! Ev: sorted({..}) gives what the evaluator says. -/
namespace Ev
open PySem PySem.Spec PyProof.Rows L2
/-! ### lists that ascend -/
theorem ltl_of {a b : List Int} (h : ¬ b < a) (hn : a ≠ b) : a < b := Classical.byContradiction fun z => hn (List.le_antisymm h z)
theorem ltl_asymm {a b : List Int} (h : a < b) : ¬ b < a := fun h' => List.lt_irrefl a (List.lt_trans h h')
theorem lastD_get {acc : List (List Int)} (hn : acc ≠ []) : acc.getLastD [] = acc.getLast hn := by rw [List.getLastD_eq_getLast?, List.getLast?_eq_some_getLast hn]; rfl
theorem last_top {acc : List (List Int)} (hn : acc ≠ []) (h : acc.Pairwise (· < ·)) : ∀ a ∈ acc, a = acc.getLastD [] ∨ a < acc.getLastD [] := by
  intro a ha
  rw [lastD_get hn]
  have h2 := h
  rw [← List.dropLast_concat_getLast hn] at ha h2
  rcases List.mem_append.mp ha with ha | ha
  · exact .inr ((List.pairwise_append.mp h2).2.2 a ha _ (by simp))
  · simp at ha; exact .inl ha
theorem uqL_go : ∀ (ls acc : List (List Int)), acc.Pairwise (· < ·) → (∀ a ∈ acc, ∀ x ∈ ls, ¬ x < a) → ls.Pairwise (fun a b => ¬ b < a) →
    (ls.foldl (fun acc x => if acc = [] ∨ acc.getLastD [] ≠ x then acc ++ [x] else acc) acc).Pairwise (· < ·) ∧ ∀ x, x ∈ ls.foldl (fun acc x => if acc = [] ∨ acc.getLastD [] ≠ x then acc ++ [x] else acc) acc ↔ x ∈ acc ∨ x ∈ ls
  | [], acc, h1, _, _ => ⟨h1, fun x => by simp⟩
  | y :: ls, acc, h1, h2, h3 => by
    obtain ⟨h4, h5⟩ := List.pairwise_cons.mp h3
    rw [List.foldl_cons]
    by_cases c : acc = [] ∨ acc.getLastD [] ≠ y
    · rw [if_pos c]
      have key : ∀ a ∈ acc, a < y := fun a ha => by
        have hn : acc ≠ [] := List.ne_nil_of_mem ha
        have hl : acc.getLastD [] < y := ltl_of (h2 _ (by rw [lastD_get hn]; exact List.getLast_mem hn) y (by simp)) (c.resolve_left hn)
        rcases last_top hn h1 a ha with e | e
        · rw [e]; exact hl
        · exact List.lt_trans e hl
      obtain ⟨r1, r2⟩ := uqL_go ls (acc ++ [y]) (List.pairwise_append.mpr ⟨h1, List.pairwise_singleton _ _, fun a ha b hb => by simp at hb; subst hb; exact key a ha⟩) (fun a ha x hx => by
        rcases List.mem_append.mp ha with ha | ha
        · exact h2 a ha x (by simp [hx])
        · simp at ha; subst ha; exact h4 x hx) h5
      exact ⟨r1, fun x => by rw [r2 x, List.mem_append, List.mem_singleton, List.mem_cons, or_assoc]⟩
    · rw [if_neg c]
      have hn : acc ≠ [] := fun z => c (.inl z)
      have hq : acc.getLastD [] = y := Classical.byContradiction fun z => c (.inr z)
      obtain ⟨r1, r2⟩ := uqL_go ls acc h1 (fun a ha x hx => h2 a ha x (by simp [hx])) h5
      refine ⟨r1, fun x => ?_⟩
      rw [r2 x, List.mem_cons]
      constructor
      · rintro (z | z)
        · exact .inl z
        · exact .inr (.inr z)
      · rintro (z | rfl | z)
        · exact .inl z
        · exact .inl (by rw [← hq, lastD_get hn]; exact List.getLast_mem hn)
        · exact .inr z
theorem le_total_L (a b : List Int) : (!decide (b < a) || !decide (a < b)) = true := by
  by_cases h : b < a
  · simp [h, ltl_asymm h]
  · simp [h]
theorem le_trans_L (a b c : List Int) : (!decide (b < a)) = true → (!decide (c < b)) = true → (!decide (c < a)) = true := by
  simp only [Bool.not_eq_true', decide_eq_false_iff_not]
  intro h1 h2 h3
  by_cases e : b = c
  · subst e; exact h1 h3
  · exact h1 (List.lt_trans (ltl_of h2 e) h3)
theorem srL_pw (ls : List (List Int)) : (srL ls).Pairwise fun a b => ¬ b < a := by
  have := List.pairwise_mergeSort (le := fun a b : List Int => !decide (b < a)) (fun a b c => le_trans_L a b c) (fun a b => le_total_L a b) ls
  exact this.imp fun {a b} h => by simpa using h
theorem srL_mem {ls : List (List Int)} {x : List Int} : x ∈ srL ls ↔ x ∈ ls := List.mem_mergeSort
theorem uq_sr (ls : List (List Int)) : (uqL (srL ls)).Pairwise (· < ·) ∧ ∀ x, x ∈ uqL (srL ls) ↔ x ∈ ls := by
  obtain ⟨h1, h2⟩ := uqL_go (srL ls) [] .nil (fun a ha => by cases ha) (srL_pw ls)
  exact ⟨h1, fun x => (h2 x).trans (by simp [srL_mem])⟩
theorem asc_same : ∀ {a b : List (List Int)}, a.Pairwise (· < ·) → b.Pairwise (· < ·) → (∀ x, x ∈ a ↔ x ∈ b) → a = b
  | [], [], _, _, _ => rfl
  | [], y :: b, _, _, h => by have := (h y).2 (by simp); cases this
  | x :: a, [], _, _, h => by have := (h x).1 (by simp); cases this
  | x :: a, y :: b, h1, h2, h => by
    obtain ⟨p1, p2⟩ := List.pairwise_cons.mp h1
    obtain ⟨q1, q2⟩ := List.pairwise_cons.mp h2
    have e : x = y := by
      rcases List.mem_cons.mp ((h x).1 (by simp)) with e | e
      · exact e
      · rcases List.mem_cons.mp ((h y).2 (by simp)) with e' | e'
        · exact e'.symm
        · exact absurd (q1 x e) (ltl_asymm (p1 y e'))
    subst e
    rw [asc_same p2 q2 fun z => ?_]
    constructor
    · intro hz
      rcases List.mem_cons.mp ((h z).1 (by simp [hz])) with e | e
      · subst e; exact absurd (p1 z hz) (List.lt_irrefl z)
      · exact e
    · intro hz
      rcases List.mem_cons.mp ((h z).2 (by simp [hz])) with e | e
      · subst e; exact absurd (q1 z hz) (List.lt_irrefl z)
      · exact e
/-- a set's members, sorted -/
theorem sr_set {l ks : List (List Int)} (hn : l.Nodup) (h : ∀ x, x ∈ l ↔ x ∈ ks) : srL l = uqL (srL ks) := by
  obtain ⟨h1, h2⟩ := uq_sr ks
  refine asc_same ?_ h1 fun x => by rw [srL_mem, h2 x, h x]
  have hs := srL_pw l
  have hn2 : (srL l).Nodup := (List.mergeSort_perm l _).nodup_iff.mpr hn
  exact (hs.and hn2).imp fun {a b} ⟨p, q⟩ => ltl_of p q
theorem dLe_Tq (a b : List Int) : dLe (Tq a) (Tq b) = !decide (b < a) := by
  have e : ∀ k : List Int, D.pys (k.map D.int) = k.map PyData.int := by
    intro k
    induction k with
    | nil => rfl
    | cons i k ih => simp only [List.map_cons, D.pys, D.py, ih]
  unfold dLe dLt
  simp only [D.py, e]
  rw [PySem.W.dataLt_tuple]
  exact congrArg (!·) (PySem.W.dataLt_ints b a)
theorem setT_inv {xs ys : List D} (h : setT xs = some ys) : ∃ ks : List (List Int), xs = ks.map Tq ∧ ks.length < 64 ∧ ((∀ k ∈ ks, k ≠ []) ∨ (uqL (srL ks)).length ≤ 1) ∧ ys = (uqL (srL ks)).map Tq := by
  unfold setT at h
  split at h
  · rename_i ks hk
    split at h
    · rename_i hc
      cases h
      simp only [Bool.and_eq_true, Bool.or_eq_true, decide_eq_true_eq, List.all_eq_true, Bool.not_eq_true', List.isEmpty_eq_false_iff] at hc
      exact ⟨ks, allInts_eq hk, hc.1, hc.2, rfl⟩
    · cases h
  · cases h
section
variable {X : Cx}
theorem f_srtS {elt tg iter : Expr} {ifs : List Expr} {scope : Scope} {own : List (Str × Nat)} {p pos pos2 : Pos} {fi : Env → Mem → Res (List D × Grd)} {pt : D → Env → Option Env} {ft : Env → Mem → Res Bool} {fe : Env → Mem → Res D} (hu : X.A.units + 65 < cLine) (hgl : Gl X "sorted") (hm : X.mg "sorted" = none) (hc : X.calm = true) (hN : X.N.Nodup) (hi : PI X tg iter (tI (fr X) fi)) (ok : BlkOk X.N X.env.scope scope own)
    (hg : ∀ (s : Shared) (H : Hp) (C : Addr) (cl : List (Str × Addr)) (fp : List Addr), PG (X.blk s H scope (compEnvC scope cl C X.env) fp) tg (tG (fr X) (own.map (·.2)) pt)) (ht : ∀ (s : Shared) (H : Hp) (C : Addr) (cl : List (Str × Addr)) (fp : List Addr), PTs (X.blk s H scope (compEnvC scope cl C X.env) fp) ifs (tT (fr X) ft))
    (he : ∀ (s : Shared) (H : Hp) (C : Addr) (cl : List (Str × Addr)) (fp : List Addr), PE (X.blk s H scope (compEnvC scope cl C X.env) fp) elt (tE (fr X) fe)) (hs : ∀ x, foldedSetIterable iter X.env x = pure x) :
    PE X (.Call (.Name "sorted" p) [.SetComp elt [⟨tg, iter, ifs, 0⟩] scope pos2] [] pos) (tF (fr X) fun env M => match fLc fi (own.map (·.2)) pt ft fe env M with
      | some (xs, M1) => match setT xs with
        | some ys => some (ys, M1)
        | none => none
      | none => none) := by
  have hst : isStar (.SetComp elt [⟨tg, iter, ifs, 0⟩] scope pos2) = false := rfl
  refine imp_e (pe_callB (t := tCons (tGc (fr X) PrS (ConS (fr X) X.prog X.w) (fLc fi (own.map (·.2)) pt ft fe)) tNil) (cr_sortU hc hu) hgl hm (by kernel_rfl) (pa_cons (e_setc hu hc hN hi ok hg ht he hs) pa_nil (star_cons hst)) (by decide +kernel) (by decide +kernel) (star_cons hst) rfl) ?_
  rintro σ H Q ⟨w, env, M, d, M', R, E, e, q⟩
  simp only at e
  split at e
  · rename_i xs M1 h1
    split at e
    · rename_i ys h2
      cases e
      obtain ⟨ks, rfl, hk, hne, rfl⟩ := setT_inv h2
      refine ⟨w, env, M, _, _, R, E, h1, ⟨ks, rfl, hk⟩, fun w1 H1 p o f1 R1 hp ⟨L, ho, l1, l2, l3, l4⟩ => ?_⟩
      subst ho
      have l3' : ∀ x, x ∈ L.map (·.2) ↔ x ∈ ks := fun x => (l3 x).trans ⟨fun z => by
        obtain ⟨y, hy, e⟩ := List.mem_map.mp z
        rw [← Tq_inj e]; exact hy, fun z => List.mem_map.mpr ⟨x, z, rfl⟩⟩
      have hset := sr_set l2 l3'
      have out := R1.newOut hp
      have R1' : Rp (fr X) w1 _ (upd H1 p (SetTO X.prog X.w p L)) := R1.upd out
      refine ⟨p, L, rfl, upd_same, fun q hq => Same.seqT R1'.same (l1 q hq), ?_, fun L1 a hp1 ha => ?_⟩
      · rcases hne with c | c
        · exact .inr fun q hq => c _ ((l3' _).1 (List.mem_map.mpr ⟨q, hq, rfl⟩))
        · refine .inl ?_
          have h3 : (srL (L.map (·.2))).length = L.length := by unfold srL; rw [List.length_mergeSort, List.length_map]
          rw [← h3, hset]; exact c
      · refine q w1 _ a _ (f1.trans (Fut.updOut hp)) R1' ha ?_
        have e1 : ((L1.map rowS).mergeSort (PySem.W.dataLe false (·.2.py))).map (·.2) = (uqL (srL ks)).map Tq := by
          have e2 : ((L1.map rowS).mergeSort (PySem.W.dataLe false (·.2.py))).map (·.2) = ((L1.map rowS).map (·.2)).mergeSort dLe := List.map_mergeSort (r := PySem.W.dataLe false fun x : V × D => x.2.py) (s := dLe) (f := fun x : V × D => x.2) (l := L1.map rowS) (fun a _ b _ => rfl)
          have e3 : (L1.map rowS).map (·.2) = (L1.map (·.2)).map Tq := by rw [List.map_map, List.map_map]; rfl
          have e4 : ((L1.map (·.2)).map Tq).mergeSort dLe = (srL (L1.map (·.2))).map Tq := (List.map_mergeSort (f := Tq) fun a _ b _ => (dLe_Tq a b).symm).symm
          rw [e2, e3, e4, sr_set ((hp1.map (·.2)).nodup_iff.mpr l2) fun x => ((hp1.map (·.2)).mem_iff).trans (l3' x)]
        rw [← e1]
        refine dens_ps fun p' hp' => ?_
        obtain ⟨q', hq', rfl⟩ := List.mem_map.mp (List.mem_mergeSort.mp hp')
        exact .tup (l1 q' (hp1.mem_iff.mp hq')) (dens_of_ints _)
    · cases e
  · cases e
end
end Ev

set_option autoImplicit false
set_option linter.all false
set_option maxRecDepth 100000
set_option maxHeartbeats 1000000
/-! Ev: displays of dicts that are never changed. -/
namespace Ev
open PySem PySem.Spec PyProof.Rows L2
section
variable {X : Cx} {pos : Pos} {k : CallF}
def trsOf (K : Fr) (k : CallF) : PL → List (TE × TE)
  | .nil => []
  | .cons a v ps => (tE K (ev k a), tE K (ev k v)) :: trsOf K k ps
theorem pairs_run {K : Fr} : ∀ (ps : PL) {w : Wd} {M M' : Mem} {H : Hp} {σ : L2.St} {env : Env} {kv : List (D × D)} {Q : List (V × V) → Hp → Prop}, Rp K w M H → EnvOk K w σ env → evPs k ps env M = some (kv, M') →
    (∀ w' H' vs, Fut w H w' H' → Rp K w' M' H' → Dens K w' (vs.map (·.1)) (kv.map (·.1)) → Dens K w' (vs.map (·.2)) (kv.map (·.2)) → Q vs H') → tPairs (trsOf K k ps) σ H Q
  | .nil, w, M, M', H, σ, env, kv, Q, R, E, e, q => by
    simp only [evPs, Option.some.injEq, Prod.mk.injEq] at e
    obtain ⟨rfl, rfl⟩ := e
    exact q w H [] (Fut.refl w H) R .nil .nil
  | .cons a v ps, w, M, M', H, σ, env, kv, Q, R, E, e, q => by
    simp only [evPs] at e
    split at e
    · rename_i x M1 h1
      split at e
      · rename_i y M2 h2
        split at e
        · rename_i kv' M3 h3
          cases e
          refine ⟨w, env, M, x, M1, R, E, h1, fun w1 H1 vx f1 R1 d1 => ⟨w1, env, M1, y, M2, R1, E.fut f1, h2, fun w2 H2 vy f2 R2 d2 => ?_⟩⟩
          refine pairs_run ps R2 ((E.fut f1).fut f2) h3 fun w3 H3 vs f3 R3 e1 e2 => ?_
          exact q w3 H3 ((vx, vy) :: vs) ((f1.trans f2).trans f3) R3 (.cons ((d1.fut f2).fut f3) e1) (.cons (d2.fut f3) e2)
        · cases e
      · cases e
    · cases e
/-- a key as the layer has it -/
def keyD : Key → D
  | .inl i => .int i
  | .inr x => .str x
theorem key_of {d : D} (h : keyB d = true) : ∃ x, d = keyD x := by
  cases d with
  | int i => exact ⟨.inl i, rfl⟩
  | str s => exact ⟨.inr s, rfl⟩
  | _ => cases h
theorem keys_of : ∀ {ks : List D}, keysOk ks = true → ∃ xs : List Key, ks = xs.map keyD ∧ xs.Nodup
  | [], _ => ⟨[], rfl, .nil⟩
  | d :: ks, h => by
    simp only [keysOk, Bool.and_eq_true, Bool.not_eq_true'] at h
    obtain ⟨x, rfl⟩ := key_of h.1.1
    obtain ⟨xs, rfl, nd⟩ := keys_of h.2
    refine ⟨x :: xs, rfl, List.nodup_cons.mpr ⟨fun hx => ?_, nd⟩⟩
    have : ((xs.map keyD).any (D.beq (keyD x))) = true := List.any_eq_true.mpr ⟨keyD x, List.mem_map.mpr ⟨x, hx, rfl⟩, beq_refl _⟩
    rw [this] at h
    exact absurd h.1.2 (by decide)
theorem key_den {K : Fr} {w : Wd} {v : V} {x : Key} (h : Den K w v (keyD x)) : v = kV x := by
  cases x with
  | inl i => exact den_int h
  | inr s => exact den_str h
theorem keys_den {K : Fr} {w : Wd} : ∀ {vs : List V} {xs : List Key}, Dens K w vs (xs.map keyD) → vs = xs.map kV
  | _, [], .nil => rfl
  | _, x :: xs, .cons h r => by rw [key_den h, keys_den r]; rfl
theorem merge_nodup : ∀ (more kvs : List (Key × V)), (kvs.map (·.1) ++ more.map (·.1)).Nodup → mergeK kvs more = kvs ++ more
  | [], kvs, _ => by simp [mergeK]
  | p :: more, kvs, h => by
    have hp : (kvs.any fun kv => decide (kv.1 = p.1)) = false := by
      rw [Bool.eq_false_iff]
      intro z
      obtain ⟨q, hq, e⟩ := List.any_eq_true.mp z
      have e := of_decide_eq_true e
      rw [List.nodup_append] at h
      exact h.2.2 q.1 (List.mem_map.mpr ⟨q, hq, rfl⟩) p.1 (by simp) e
    have e : putK kvs p.1 p.2 = kvs ++ [p] := by
      unfold putK
      rw [if_neg (by rw [hp]; decide)]
    show mergeK (putK kvs p.1 p.2) more = _
    rw [e, merge_nodup more (kvs ++ [p]) (by simpa [List.append_assoc] using h)]
    simp
theorem zip_back : ∀ (vs : List (V × V)) (xs : List Key), vs.map (·.1) = xs.map kV → vs = (xs.zip (vs.map (·.2))).map (fun q => (kV q.1, q.2)) ∧ (xs.zip (vs.map (·.2))).map (fun q => kV q.1) = vs.map (·.1)
  | [], [], _ => ⟨rfl, rfl⟩
  | [], _ :: _, h => by simp at h
  | _ :: _, [], h => by simp at h
  | (a, b) :: vs, x :: xs, h => by
    simp only [List.map_cons, List.cons.injEq] at h
    obtain ⟨rfl, h⟩ := h
    obtain ⟨h1, h2⟩ := zip_back vs xs h
    refine ⟨?_, ?_⟩
    · simp only [List.map_cons, List.zip_cons_cons]
      rw [← h1]
    · simp only [List.map_cons, List.zip_cons_cons]
      rw [h2]
theorem e_dsp {ps : PL} {keys : List (Option Expr)} {vals : List Expr} (hp : PPs X pos keys vals (trsOf (fr X) k ps)) (hall : keys.all (·.isSome) = true) (hl : keys.length = vals.length) (h0 : keys ≠ []) (h15 : keys.length ≤ 15) : PE X (.Dict keys vals pos) (tE (fr X) fun env M => match evPs k ps env M with
    | some (kv, M') => if keysOk (kv.map (·.1)) && decide (kv.length ≤ 15) then some (.dic (kv.map (·.1)) (kv.map (·.2)), M') else none
    | none => none) := by
  refine imp_e (pe_disp hp hall hl h0 h15) ?_
  rintro σ H Q ⟨w, env, M, d, M', R, E, e, q⟩ p hpn
  simp only at e
  split at e
  · rename_i kv M1 h1
    split at e
    · rename_i hk
      cases e
      rw [Bool.and_eq_true, decide_eq_true_eq] at hk
      have out := R.newOut hpn
      have R1 : Rp (fr X) w M (upd H p (.dK [])) := R.upd out
      refine pairs_run ps R1 E h1 fun w2 H2 vs f2 R2 e1 e2 => ?_
      have o1 : upd H p (.dK []) p = some (.dK []) := upd_same
      have out2 : Outw w2 p := out.fut f2 o1
      have kp : H2 p = some (.dK []) := f2.keep p _ o1 out.n out.s
      obtain ⟨xs, hx, nd⟩ := keys_of hk.1
      rw [hx] at e1
      have e1' := keys_den e1
      have hlen : xs.length = vs.length := by
        have := congrArg List.length e1'
        simpa using this.symm
      obtain ⟨hps, hz⟩ := zip_back vs xs e1'
      refine ⟨kp, xs.zip (vs.map (·.2)), hps, by rw [List.length_zip, List.length_map]; have := congrArg List.length hx; simp at this; omega, ?_⟩
      have hm : mergeK [] (xs.zip (vs.map (·.2))) = xs.zip (vs.map (·.2)) := by
        rw [merge_nodup _ [] (by rw [List.map_nil, List.nil_append, List.map_fst_zip (by rw [List.length_map]; omega)]; exact nd)]; rfl
      rw [hm]
      have R3 : Rp (fr X) w2 M' (era H2 p) := R2.era out2
      obtain ⟨f4, R4⟩ := alloc_frozen R3 (era_same (H := H2) (p := p)) (.dK (xs.zip (vs.map (·.2))))
      have hu : upd (era H2 p) p (.dK (xs.zip (vs.map (·.2)))) = upd H2 p (.dK (xs.zip (vs.map (·.2)))) := by
        funext b
        by_cases hb : b = p
        · subst hb; rw [upd_same, upd_same]
        · rw [upd_ne hb, upd_ne hb, era_ne hb]
      rw [hu] at f4 R4
      have ft : Fut w H _ _ := (f2.era hpn).trans f4
      refine q _ _ _ ft R4 (.dic upd_same ?_ ?_)
      · rw [hz, hx]
        exact e1.fut f4
      · rw [List.map_snd_zip (by rw [List.length_map]; omega)]
        exact e2.fut f4
    · cases e
  · cases e
theorem e_dsp0 {p : Nat} : PE X (.Dict [] [] pos) (tE (fr X) (ev k (.dsp .nil p))) := by
  refine imp_e pe_dnewK ?_
  rintro σ H Q ⟨w, env, M, d, M', R, E, e, q⟩ a ha
  have e' : some (D.dic [] [], M) = some (d, M') := e
  cases e'
  obtain ⟨f, R'⟩ := alloc_frozen R ha (.dK [])
  exact q _ _ _ f R' (.dic upd_same .nil .nil)
theorem pk_len {T : Tab} : ∀ ps : PL, (pyKs T ps).length = (pyVs T ps).length ∧ (pyKs T ps).all (·.isSome) = true
  | .nil => ⟨rfl, rfl⟩
  | .cons a v ps => by
    obtain ⟨h1, h2⟩ := pk_len (T := T) ps
    exact ⟨by simp [pyKs, pyVs, h1], by simp only [pyKs, List.all_cons, h2]; rfl⟩
theorem e_celD : PE X (.Dict [] [] pos) (tE (fr X) fun _ M => some (allocC (.dic [] []) M)) := by
  refine imp_e pe_dnewK ?_
  rintro σ H Q ⟨w, env, M, d, M', R, E, e, q⟩ a ha
  obtain ⟨f, R', dd⟩ := alloc_dic R ha
  simp only [Option.some.injEq] at e
  have e1 : (allocC (.dic [] []) M).1 = d := by rw [e]
  have e2 : (allocC (.dic [] []) M).2 = M' := by rw [e]
  rw [e1] at dd
  rw [e2] at R'
  exact q _ _ _ f R' dd
theorem beq_kV {K : Fr} {w : Wd} {x y : Key} {d e : D} (h1 : Den K w (kV x) d) (h2 : Den K w (kV y) e) : D.beq d e = decide (x = y) := by
  have q1 : d = keyD x := by cases x <;> cases h1 <;> rfl
  have q2 : e = keyD y := by cases y <;> cases h2 <;> rfl
  subst q1 q2
  cases x with
  | inl i => cases y with
    | inl j =>
      simp only [keyD, D.beq, Sum.inl.injEq]
      by_cases h : i = j <;> simp [h]
    | inr j => simp [keyD, D.beq]
  | inr i => cases y with
    | inl j => simp [keyD, D.beq]
    | inr j => simp [keyD, D.beq, Sum.inr.injEq]
theorem any_kV {K : Fr} {w : Wd} {k : Key} {y : D} (hy : Den K w (kV k) y) : ∀ {kvs : List (Key × V)} {ks : List D}, Dens K w (kvs.map fun p => kV p.1) ks → (ks.any fun j => D.beq j y) = kvs.any fun kv => decide (kv.1 = k)
  | [], _, .nil => rfl
  | (x, v) :: kvs, _, .cons h r => by
    simp only [List.any_cons]
    rw [beq_kV h hy, any_kV hy r]
theorem putDv_den {K : Fr} {w : Wd} {k : Key} {y : D} {v : V} {d : D} (hy : Den K w (kV k) y) (hd : Den K w v d) : ∀ {kvs : List (Key × V)} {ks vs : List D}, Dens K w (kvs.map fun p => kV p.1) ks → Dens K w (kvs.map fun p => p.2) vs → Dens K w ((kvs.map fun kv => if kv.1 = k then (kv.1, v) else kv).map fun p => p.2) (putDv ks vs y d)
  | [], _, _, .nil, .nil => .nil
  | (x, u) :: kvs, _, _, .cons h1 r1, .cons h2 r2 => by
    simp only [List.map_cons, putDv]
    refine .cons ?_ (putDv_den hy hd r1 r2)
    rw [beq_kV h1 hy]
    by_cases h : x = k
    · simp only [h, if_true, decide_true]; exact hd
    · simp only [h, if_false, decide_false, Bool.false_eq_true]; exact h2
theorem putK_den {K : Fr} {w : Wd} {k : Key} {y : D} {v : V} {d : D} {kvs : List (Key × V)} {ks vs : List D} (hy : Den K w (kV k) y) (hd : Den K w v d) (r1 : Dens K w (kvs.map fun p => kV p.1) ks) (r2 : Dens K w (kvs.map fun p => p.2) vs) :
    Dens K w ((putK kvs k v).map fun p => kV p.1) (putDk ks y) ∧ Dens K w ((putK kvs k v).map fun p => p.2) (putDw ks vs y d) := by
  unfold putK putDk putDw
  rw [any_kV hy r1]
  by_cases h : (kvs.any fun kv => decide (kv.1 = k)) = true
  · rw [if_pos h, if_pos h, if_pos h]
    refine ⟨?_, putDv_den hy hd r1 r2⟩
    have : ((kvs.map fun kv => if kv.1 = k then (kv.1, v) else kv).map fun p => kV p.1) = kvs.map fun p => kV p.1 := by
      rw [List.map_map]
      refine List.map_congr_left fun p _ => ?_
      by_cases z : p.1 = k <;> simp [z]
    rw [this]
    exact r1
  · rw [if_neg h, if_neg h, if_neg h, List.map_append, List.map_append]
    exact ⟨r1.append (.cons hy .nil), r2.append (.cons hd .nil)⟩
end
end Ev

set_option autoImplicit false
set_option linter.all false
set_option maxRecDepth 100000
set_option maxHeartbeats 1000000
/-! Ev: statements. -/
namespace Ev
open PySem PySem.Spec PyProof.Rows L2
/-- what a statement leads to, for what comes behind it -/
def outK (K : Fr) (D : Ends) (w : Wd) (H : Hp) (M' : Mem) : Out → Prop
  | .nx env' => ∀ w' H' σ', Fut w H w' H' → Rp K w' M' H' → EnvOk K w' σ' env' → D.nx σ' H'
  | .bk env' => ∀ w' H' σ', Fut w H w' H' → Rp K w' M' H' → EnvOk K w' σ' env' → D.bk σ' H'
  | .ct env' => ∀ w' H' σ', Fut w H w' H' → Rp K w' M' H' → EnvOk K w' σ' env' → D.ct σ' H'
  | .rt d => ∀ w' H' v, Fut w H w' H' → Rp K w' M' H' → Den K w' v d → D.rt v H'
def tS (K : Fr) (f : Env → Mem → Res Out) : TS := fun D σ H => ∃ w env M o M', Rp K w M H ∧ EnvOk K w σ env ∧ f env M = some (o, M') ∧ outK K D w H M' o
theorem outK.fut {K : Fr} {D : Ends} {w w1 : Wd} {H H1 : Hp} {M' : Mem} {o : Out} (f : Fut w H w1 H1) (h : outK K D w H M' o) : outK K D w1 H1 M' o := by
  cases o with
  | nx e => exact fun w' H' σ' g R E => h w' H' σ' (f.trans g) R E
  | bk e => exact fun w' H' σ' g R E => h w' H' σ' (f.trans g) R E
  | ct e => exact fun w' H' σ' g R E => h w' H' σ' (f.trans g) R E
  | rt d => exact fun w' H' v g R E => h w' H' v (f.trans g) R E
theorem tS_eq {K : Fr} {f g : Env → Mem → Res Out} (h : ∀ env M, f env M = g env M) : tS K f = tS K g := by
  have e : f = g := by funext env M; exact h env M
  rw [e]
section
variable {X : Cx} {pos : Pos} {e a b c : Expr} {st : Stmt} {rest : List Stmt} {fa fb fc : Env → Mem → Res D}
theorem s_nev : PS X st (tS (fr X) fun _ _ => none) := ⟨fun _ _ _ _ _ _ ⟨_, _, _, _, _, _, _, h, _⟩ => by cases h⟩
theorem ss_nil : PSs X [] (tS (fr X) fun env M => some (.nx env, M)) := by
  refine imp_ss pss_nil ?_
  rintro D σ H ⟨w, env, M, o, M', R, E, e, q⟩
  cases e
  exact q w H σ (Fut.refl w H) R E
theorem ss_cons {f g : Env → Mem → Res Out} (h1 : PS X st (tS (fr X) f)) (h2 : PSs X rest (tS (fr X) g)) : PSs X (st :: rest) (tS (fr X) fun env M => match f env M with
    | some (.nx env', M') => g env' M'
    | r => r) := by
  refine imp_ss (pss_cons h1 h2) ?_
  rintro D σ H ⟨w, env, M, o, M', R, E, e, q⟩
  simp only at e
  split at e
  · rename_i env1 M1 h1
    exact ⟨w, env, M, _, M1, R, E, h1, fun w1 H1 σ1 f1 R1 E1 => ⟨w1, env1, M1, o, M', R1, E1, e, q.fut f1⟩⟩
  · rename_i hne
    refine ⟨w, env, M, o, M', R, E, e, ?_⟩
    cases o with
    | nx e1 => exact absurd e (hne _ _)
    | bk e => exact q
    | ct e => exact q
    | rt d => exact q
theorem s_pass : PS X (.Pass pos) (tS (fr X) fun env M => some (.nx env, M)) := by
  refine imp_s ps_pass ?_
  rintro D σ H ⟨w, env, M, o, M', R, E, e, q⟩
  cases e
  exact q w H σ (Fut.refl w H) R E
theorem s_brk : PS X (.Break pos) (tS (fr X) fun env M => some (.bk env, M)) := by
  refine imp_s ps_break ?_
  rintro D σ H ⟨w, env, M, o, M', R, E, e, q⟩
  cases e
  exact q w H σ (Fut.refl w H) R E
theorem s_cont : PS X (.Continue pos) (tS (fr X) fun env M => some (.ct env, M)) := by
  refine imp_s ps_continue ?_
  rintro D σ H ⟨w, env, M, o, M', R, E, e, q⟩
  cases e
  exact q w H σ (Fut.refl w H) R E
theorem s_ret (he : PE X e (tE (fr X) fa)) : PS X (.Return (some e) pos) (tS (fr X) fun env M => match fa env M with
    | some (d, M1) => some (.rt d, M1)
    | none => none) := by
  refine imp_s (ps_ret he) ?_
  rintro D σ H ⟨w, env, M, o, M', R, E, e, q⟩
  simp only at e
  split at e
  · rename_i d M1 h1
    cases e
    exact ⟨w, env, M, d, _, R, E, h1, fun w1 H1 v f1 R1 d1 => q w1 H1 v f1 R1 d1⟩
  · cases e
/-- no comprehension -/
def isComp : Expr → Bool
  | .ListComp .. => true
  | .SetComp .. => true
  | .DictComp .. => true
  | _ => false
theorem sw_no {env : PySem.Env} {t : Option Expr} {l : Nat} (h : isComp e = false) : swapsWith e t l env = pure false := by
  cases e <;> first | rfl | cases h
theorem s_ex (he : PE X e (tE (fr X) fa)) (hc : isComp e = false) : PS X (.Expr e pos) (tS (fr X) fun env M => match fa env M with
    | some (_, M1) => some (.nx env, M1)
    | none => none) := by
  refine imp_s (ps_expr he (sw_no hc)) ?_
  rintro D σ H ⟨w, env, M, o, M', R, E, e, q⟩
  simp only at e
  split at e
  · rename_i d M1 h1
    cases e
    exact ⟨w, env, M, d, _, R, E, h1, fun w1 H1 v f1 R1 d1 => q w1 H1 σ f1 R1 (E.fut f1)⟩
  · cases e
theorem s_iff {f : Env → Mem → Res Bool} {g h : Env → Mem → Res Out} {p q : List Stmt} (hc : PT X c (tT (fr X) f)) (ha : PSs X p (tS (fr X) g)) (hb : PSs X q (tS (fr X) h)) : PS X (.If c p q pos) (tS (fr X) fun env M => match f env M with
    | some (true, M1) => g env M1
    | some (false, M1) => h env M1
    | none => none) := by
  refine imp_s (ps_if hc ha hb) ?_
  rintro D σ H ⟨w, env, M, o, M', R, E, e, q⟩
  simp only at e
  split at e
  · rename_i M1 h1
    refine ⟨w, env, M, true, M1, R, E, h1, fun w1 H1 f1 R1 => ?_⟩
    show tS (fr X) g D σ H1
    exact ⟨w1, env, M1, o, M', R1, E.fut f1, e, q.fut f1⟩
  · rename_i M1 h1
    refine ⟨w, env, M, false, M1, R, E, h1, fun w1 H1 f1 R1 => ?_⟩
    show tS (fr X) h D σ H1
    exact ⟨w1, env, M1, o, M', R1, E.fut f1, e, q.fut f1⟩
  · cases e
/-! ### assignments -/
theorem asg_imp {te : TE} {g : TG} {own : List Nat} {pt : D → Env → Option Env} (h1 : ∀ σ H Q, tE (fr X) fa σ H Q → te σ H Q) (h2 : ∀ v σ H Q, tG (fr X) own pt v σ H Q → g v σ H Q) {D : Ends} {σ : L2.St} {H : Hp} (h : tS (fr X) (fun env M => match fa env M with
    | some (d, M1) => match pt d env with
      | some env' => some (.nx env', M1)
      | none => none
    | none => none) D σ H) : tAsg te g D σ H := by
  obtain ⟨w, env, M, o, M', R, E, e, q⟩ := h
  simp only at e
  split at e
  · rename_i d M1 e1
    split at e
    · rename_i env' e2
      cases e
      exact h1 _ _ _ ⟨w, env, M, d, _, R, E, e1, fun w1 H1 v f1 R1 d1 => h2 _ _ _ _ ⟨w1, env, _, d, env', R1, E.fut f1, d1, e2, fun σ' _ E' => q w1 H1 σ' f1 R1 E'⟩⟩
    · cases e
  · cases e
theorem s_asg {tg : Expr} {own : List Nat} {pt : D → Env → Option Env} (he : PE X e (tE (fr X) fa)) (hg : PG X tg (tG (fr X) own pt)) (hs : swapsWithSole [tg] e pos.line X.env = pure false) (hw : swappedStores [tg] e X.env = pure none) (hst : isStar tg = false) : PS X (.Assign [tg] e pos) (tS (fr X) fun env M => match fa env M with
    | some (d, M1) => match pt d env with
      | some env' => some (.nx env', M1)
      | none => none
    | none => none) := by
  refine imp_s (ps_asg he hg hs hw (by cases tg <;> first | rfl | cases hst)) ?_
  exact fun D σ H h => asg_imp (fun _ _ _ h => h) (fun _ _ _ _ h => h) h
abbrev ptN (i : Nat) : D → Env → Option Env := fun d env => if i < env.length then some (env.set i (some d)) else none
theorem gname_imp {K : Fr} {i : Nat} : ∀ v σ H Q, tG K [i] (ptN i) v σ H Q → gName i v σ H Q := by
  rintro v σ H Q ⟨w, env, M, d, env', R, E, dv, e, q⟩
  simp only [ptN] at e
  split at e
  · cases e
    refine q _ ⟨by rw [List.length_set], fun j hj => ?_⟩ (E.set i dv)
    rw [List.getElem?_set_ne (fun z => hj (by simp [z]))]
  · cases e
theorem s_set {i : Nat} {x : Str} {p2 : Pos} (hN : X.N.Nodup) (hi : X.N[i]? = some x) (hx : Loc X.env.scope x) (he : PE X e (tE (fr X) fa)) (hs : swapsWith e (some (.Name x p2)) pos.line X.env = pure false) (hf : X.fn x = true ∨ X.env.scope.names.lookup x = some .local) : PS X (.Assign [.Name x p2] e pos) (tS (fr X) fun env M => match fa env M with
    | some (d, M1) => match ptN i d env with
      | some env' => some (.nx env', M1)
      | none => none
    | none => none) := imp_s (ps_set hN hi hx he hs hf) fun D σ H h => asg_imp (fun _ _ _ h => h) gname_imp h
/-- is the list of a comprehension stored before the variables go? -/
def swLc (sc scope : Scope) (pos py : Pos) (y : Str) : Bool := decide (sc.kind = .function) && decide (sc.names.lookup y = some .local) && (py.line == pos.line) && !(scope.names.any fun (n, k) => n == y && (k == .local || k == .cell))
theorem sw_lc {elt : Expr} {gs : List Comprehension} {scope : Scope} {pos py : Pos} {y : Str} {l : Nat} {env : PySem.Env} {sc : Scope} (hk : sc.kind = .function) (hsc : env.scope = sc) : swapsWith (.ListComp elt gs scope pos) (some (.Name y py)) l env = pure (swLc sc scope pos py y) := by
  have hb : env.blockKind = .function := by unfold Env.blockKind; rw [hsc, hk]; rfl
  unfold swapsWith
  simp only [hb, swLc, hk, decide_true, Bool.true_and]
  have e : (env.kindOf y == some NameKind.local) = decide (sc.names.lookup y = some .local) := by
    show (env.scope.names.lookup y == some NameKind.local) = _
    rw [hsc]
    cases h : sc.names.lookup y with
    | none => rfl
    | some z => cases z <;> rfl
  rw [e]
  rfl
/-- o[i] = e -/
theorem sw_sub {o i : Expr} {p2 : Pos} {l : Nat} {env : PySem.Env} : swapsWithSole [.Subscript o i p2] e l env = pure false := by
  cases e <;> rfl
theorem sw_tup {es : List Expr} {k : Nat} {p2 : Pos} {l : Nat} {env : PySem.Env} : swapsWithSole [.Tuple es k p2] e l env = pure false := by
  cases e <;> rfl
theorem s_sub {o i : Expr} {fo fi : Env → Mem → Res D} {p2 : Pos} (he : PE X e (tE (fr X) fa)) (ho : PE X o (tE (fr X) fo)) (hi : PE X i (tE (fr X) fi)) (hsl : isSlice i = false) : PS X (.Assign [.Subscript o i p2] e pos) (tS (fr X) fun env M => match fa env M with
    | some (d, M1) => match fo env M1 with
      | some (.cell c, M2) => match fi env M2 with
        | some (.int j, M3) => match M3.S[c]? with
          | some (.lst xs) => match ixOf xs.length j with
            | some m => some (.nx env, setC c (.lst (xs.set m d)) M3)
            | none => none
          | _ => none
        | _ => none
      | _ => none
    | none => none) := by
  refine imp_s (ps_asg he (pg_sub ho hi set_list (by cases i <;> first | (intro _; rfl) | cases hsl)) sw_sub (by cases e <;> rfl)) ?_
  rintro D σ H ⟨w, env, M, out, M', R, E, e, q⟩
  simp only at e
  split at e
  · rename_i d M1 e1
    refine ⟨w, env, M, d, M1, R, E, e1, fun w1 H1 v f1 R1 d1 => ?_⟩
    split at e
    · rename_i c M2 e2
      refine ⟨w1, env, M1, .cell c, M2, R1, E.fut f1, e2, fun w2 H2 o f2 R2 d2 => ?_⟩
      split at e
      · rename_i j M3 e3
        refine ⟨w2, env, M2, .int j, M3, R2, (E.fut f1).fut f2, e3, fun w3 H3 i f3 R3 d3 => ?_⟩
        split at e
        · rename_i xs e4
          split at e
          · rename_i m e5
            cases e
            cases d2.fut f3 with
            | @cell a _ ha =>
              obtain ⟨_, vs, e6, r⟩ := R3.cell ha e4
              obtain ⟨f4, R4⟩ := R3.setLst ha e4 (Dens.set m ((d1.fut f2).fut f3) r)
              refine ⟨a, vs, j, m, rfl, den_int d3, e6, by rw [← ixOf_eq, r.length]; exact e5, ?_⟩
              exact q _ _ σ (((f1.trans f2).trans f3).trans f4) R4 ((((E.fut f1).fut f2).fut f3).fut f4)
          · cases e
        · cases e
      · cases e
    · cases e
  · cases e
theorem set_dic (hu : X.A.units + 1 < cLine) : PSet X (fun o i v H Q => ∃ a H', o = .ref a ∧ DPut H a i v H' ∧ Q H') := by
  intro pins s σ H o i v ov iv u Q I ro ri rv ⟨a, H', eo, g, q⟩
  subst eo
  cases (show ov = Value.ref a from ro)
  exact d_setItem hu I g ri rv fun s' I' => ⟨H', I', q⟩
/-- d[i] = e, a dict -/
theorem s_subD {o i : Expr} {fo fi : Env → Mem → Res D} {p2 : Pos} (hu : X.A.units + 65 < cLine) (he : PE X e (tE (fr X) fa)) (ho : PE X o (tE (fr X) fo)) (hi : PE X i (tE (fr X) fi)) (hsl : isSlice i = false) : PS X (.Assign [.Subscript o i p2] e pos) (tS (fr X) fun env M => match fa env M with
    | some (d, M1) => match fo env M1 with
      | some (.cell c, M2) => match fi env M2 with
        | some (y, M3) => match M3.S[c]? with
          | some (.dic ks vs) => if keyB y && decide (ks.length < Lim) then some (.nx env, setC c (.dic (putDk ks y) (putDw ks vs y d)) M3) else none
          | _ => none
        | none => none
      | _ => none
    | none => none) := by
  refine imp_s (ps_asg he (pg_sub ho hi (set_dic (by omega)) (by cases i <;> first | (intro _; rfl) | cases hsl)) sw_sub (by cases e <;> rfl)) ?_
  rintro D σ H ⟨w, env, M, out, M', R, E, e, q⟩
  simp only at e
  split at e
  · rename_i d M1 e1
    refine ⟨w, env, M, d, M1, R, E, e1, fun w1 H1 v f1 R1 d1 => ?_⟩
    split at e
    · rename_i c M2 e2
      refine ⟨w1, env, M1, .cell c, M2, R1, E.fut f1, e2, fun w2 H2 o f2 R2 d2 => ?_⟩
      split at e
      · rename_i y M3 e3
        refine ⟨w2, env, M2, y, M3, R2, (E.fut f1).fut f2, e3, fun w3 H3 i f3 R3 d3 => ?_⟩
        split at e
        · rename_i ks vs e4
          split at e
          · rename_i hb
            simp only [Bool.and_eq_true, decide_eq_true_eq] at hb
            cases e
            cases d2.fut f3 with
            | @cell a _ ha =>
              obtain ⟨_, kvs, e6, r1, r2⟩ := R3.cellD ha e4
              obtain ⟨k, rfl⟩ := key_of hb.1
              obtain rfl := key_den d3
              obtain ⟨r3, r4⟩ := putK_den d3 ((d1.fut f2).fut f3) r1 r2
              obtain ⟨f4, R4⟩ := R3.setDic ha e4 r3 r4
              have hl : kvs.length < sizeLine := by
                have := r1.length
                rw [List.length_map] at this
                rw [this, sizeLine_eq]
                exact hb.2
              refine ⟨a, _, rfl, DPut.k e6 hl, ?_⟩
              exact q _ _ σ (((f1.trans f2).trans f3).trans f4) R4 ((((E.fut f1).fut f2).fut f3).fut f4)
          · cases e
        · cases e
      · cases e
    · cases e
  · cases e
/-- name op= e -/
def augF : Bop → Int → Int → Option Int
  | .add, x, y => some (x + y)
  | .sub, x, y => some (x - y)
  | _, _, _ => none
theorem s_aug {i : Nat} {x : Str} {o : Bop} {p2 : Pos} (hN : X.N.Nodup) (hi : X.N[i]? = some x) (hx : Loc X.env.scope x) (he : PE X e (tE (fr X) fa)) (hf : X.fn x = true ∨ X.env.scope.names.lookup x = some .local) (ho : o = .add ∨ o = .sub) : PS X (.AugAssign (.Name x p2) o.op e pos) (tS (fr X) fun env M => match env[i]? with
    | some (some (.int x)) => match fa env M with
      | some (.int y, M1) => match (generalizing := false) o with
        | .add => some (.nx (env.set i (some (.int (x + y)))), M1)
        | .sub => some (.nx (env.set i (some (.int (x - y)))), M1)
        | _ => none
      | _ => none
    | _ => none) := by
  have key : ∀ (g : Int → Int → Int) D σ H, tS (fr X) (fun env M => match env[i]? with
    | some (some (.int x)) => match fa env M with
      | some (.int y, M1) => some (.nx (env.set i (some (.int (g x y)))), M1)
      | _ => none
    | _ => none) D σ H → tAug i (tE (fr X) fa) (ipI g) D σ H := by
    rintro g D σ H ⟨w, env, M, out, M', R, E, e, q⟩
    simp only at e
    split at e
    · rename_i x0 h0
      obtain ⟨v, h1, h2⟩ := E.get i _ h0
      refine ⟨v, h1, ?_⟩
      split at e
      · rename_i y M1 e1
        cases e
        exact ⟨w, env, M, .int y, _, R, E, e1, fun w1 H1 u f1 R1 d1 => ⟨x0, y, den_int h2, den_int d1, q w1 H1 _ f1 R1 ((E.fut f1).set i (.int _))⟩⟩
      · cases e
    · cases e
  rcases ho with rfl | rfl
  · exact imp_s (ps_aug hN hi hx he ip_add hf) (key _)
  · exact imp_s (ps_aug hN hi hx he ip_sub hf) (key _)
/-- a, b = x, y -/
theorem s_par {i j : Nat} {x y : Str} {px py pt pt2 : Pos} {kt k2 : Nat} (hc : X.calm = true) (hN : X.N.Nodup) (hi : X.N[i]? = some x) (hj : X.N[j]? = some y) (hij : i ≠ j)
    (hx : X.env.scope.names.lookup x = some .local) (hy : X.env.scope.names.lookup y = some .local) (ha : PE X a (tE (fr X) fa)) (hb : PE X b (tE (fr X) fb)) (hst : isStar a = false) (hst2 : isStar b = false)
    (hw : swappedStores [.Tuple [.Name x px, .Name y py] kt pt] (.Tuple [a, b] k2 pt2) X.env = pure (some [x, y])) : PS X (.Assign [.Tuple [.Name x px, .Name y py] kt pt] (.Tuple [a, b] k2 pt2) pos) (tS (fr X) fun env M => match fa env M with
    | some (x, M1) => match fb env M1 with
      | some (y, M2) => if i < env.length ∧ j < env.length then some (.nx ((env.set i (some x)).set j (some y)), M2) else none
      | none => none
    | none => none) := by
  refine imp_s (ps_par (ta := tCons (tE (fr X) fa) (tCons (tE (fr X) fb) tNil)) hc hN hi hj hij hx hy (pa_cons ha (pa_cons hb pa_nil (star_cons hst2)) (star_cons hst)) hw rfl) ?_
  rintro D σ H ⟨w, env, M, out, M', R, E, e, q⟩
  simp only at e
  split at e
  · rename_i d M1 e1
    split at e
    · rename_i d2 M2 e2
      split at e
      · cases e
        exact ⟨w, env, M, d, M1, R, E, e1, fun w1 H1 v f1 R1 d1 => ⟨w1, env, M1, d2, _, R1, E.fut f1, e2, fun w2 H2 u f2 R2 d2 => ⟨v, u, rfl, q w2 H2 _ (f1.trans f2) R2 ((((E.fut f1).fut f2).set i (d1.fut f2)).set j d2)⟩⟩⟩
      · cases e
    · cases e
  · cases e
/-- a, b, c = x, y, z -/
theorem s_par3 {i j l : Nat} {x y z : Str} {px py pz pt pt2 : Pos} {kt k2 : Nat} {c : Expr} {fc : Env → Mem → Res D} (hc : X.calm = true) (hN : X.N.Nodup) (hi : X.N[i]? = some x) (hj : X.N[j]? = some y) (hl : X.N[l]? = some z) (hij : i ≠ j) (hil : i ≠ l) (hjl : j ≠ l)
    (hx : X.env.scope.names.lookup x = some .local) (hy : X.env.scope.names.lookup y = some .local) (hz : X.env.scope.names.lookup z = some .local) (ha : PE X a (tE (fr X) fa)) (hb : PE X b (tE (fr X) fb)) (hcc : PE X c (tE (fr X) fc)) (hst : isStar a = false) (hst2 : isStar b = false) (hst3 : isStar c = false)
    (hw : swappedStores [.Tuple [.Name x px, .Name y py, .Name z pz] kt pt] (.Tuple [a, b, c] k2 pt2) X.env = pure (some [x, y, z])) : PS X (.Assign [.Tuple [.Name x px, .Name y py, .Name z pz] kt pt] (.Tuple [a, b, c] k2 pt2) pos) (tS (fr X) fun env M => match fa env M with
    | some (x, M1) => match fb env M1 with
      | some (y, M2) => match fc env M2 with
        | some (z, M3) => if i < env.length ∧ j < env.length ∧ l < env.length then some (.nx (((env.set i (some x)).set j (some y)).set l (some z)), M3) else none
        | none => none
      | none => none
    | none => none) := by
  refine imp_s (ps_par3 (ta := tCons (tE (fr X) fa) (tCons (tE (fr X) fb) (tCons (tE (fr X) fc) tNil))) hc hN hi hj hl hij hil hjl hx hy hz (pa_cons ha (pa_cons hb (pa_cons hcc pa_nil (star_cons hst3)) (star_cons hst2)) (star_cons hst)) hw rfl) ?_
  rintro D σ H ⟨w, env, M, out, M', R, E, e, q⟩
  simp only at e
  split at e
  · rename_i d M1 e1
    split at e
    · rename_i d2 M2 e2
      split at e
      · rename_i d3 M3 e3
        split at e
        · cases e
          exact ⟨w, env, M, d, M1, R, E, e1, fun w1 H1 v f1 R1 d1 => ⟨w1, env, M1, d2, M2, R1, E.fut f1, e2, fun w2 H2 u f2 R2 d2 => ⟨w2, env, M2, d3, _, R2, (E.fut f1).fut f2, e3, fun w3 H3 t f3 R3 d3 => ⟨v, u, t, rfl, q w3 H3 _ ((f1.trans f2).trans f3) R3 ((((((E.fut f1).fut f2).fut f3).set i ((d1.fut f2).fut f3)).set j (d2.fut f3)).set l d3)⟩⟩⟩⟩
        · cases e
      · cases e
    · cases e
  · cases e
/-! ### loops -/
abbrev forTurn (pt : D → Env → Option Env) (fb : Env → Mem → Res Out) : D → Env → Mem → Res Out := fun d env M => match pt d env with
  | some env' => fb env' M
  | none => none
/-- the loop's end is still due -/
def ForW (K : Fr) (w1 : Wd) (H1 : Hp) (gr : Grd) (turn : D → Env → Mem → Res Out) (out : Out) (M' : Mem) (ds : List D) (σ : L2.St) (H : Hp) : Prop :=
  ∃ w2 M2 env2, Fut w1 H1 w2 H ∧ Rp K w2 M2 H ∧ EnvOk K w2 σ env2 ∧ forLoop gr turn ds env2 M2 = some (out, M')
theorem s_for {tg iter : Expr} {body : List Stmt} {own : List Nat} {fi : Env → Mem → Res (List D × Grd)} {pt : D → Env → Option Env} {fb : Env → Mem → Res Out}
    (hp : PassesOwn (model X.prog X.w) X.A X.env X.xe) (hc : X.calm = true) (hi : PI X tg iter (tI (fr X) fi)) (hg : PG X tg (tG (fr X) own pt)) (hb : PSs X body (tS (fr X) fb)) (hs : ∀ x, foldedSetIterable iter X.env x = pure x) : PS X (.For tg iter body [] pos) (tS (fr X) fun env M => match fi env M with
    | some ((ds, gr), M1) => forLoop gr (forTurn pt fb) ds env M1
    | none => none) := by
  refine imp_s (ps_for hp hc hi hg hb hs) ?_
  rintro D σ H ⟨w0, env, M0, out, M', R0, E0, e, q⟩
  simp only at e
  split at e
  · rename_i ds gr M1 h1
    refine ⟨w0, env, M0, ds, gr, M1, R0, E0, h1, fun w1 H1 J f1 R1 ito => ?_⟩
    refine ⟨fun i m σ2 H2 => m = ds.length - i ∧ i ≤ ds.length ∧ ForW (fr X) w1 H1 gr (forTurn pt fb) out M' (ds.drop i) σ2 H2,
      ⟨ds.length, by simp, Nat.zero_le _, w1, M1, env, Fut.refl _ _, R1, E0.fut f1, by rw [List.drop_zero]; exact e⟩, ?_⟩
    rintro i m σ2 H2 ⟨rfl, hil, w2, M2, env2, f2, R2, E2, hl⟩
    have q2 : outK (fr X) D w2 H2 M' out := q.fut (f1.trans f2)
    by_cases hlt : i < ds.length
    · right
      have hd : ds[i]? = some ds[i] := List.getElem?_eq_getElem hlt
      rw [List.drop_eq_getElem_cons hlt] at hl
      simp only [forLoop] at hl
      split at hl
      · rename_i hgk
        obtain ⟨go, yl⟩ := ito.go i w2 M2 _ ds[i] (Ext.of f2) R2 hgk hd
        refine ⟨go, ForW (fr X) w1 H1 gr (forTurn pt fb) out M' (ds.drop (i + 1)), fun σ' H' nx => ⟨ds.length - (i + 1), by omega, rfl, hlt, nx⟩, fun x H3 hy => ?_⟩
        obtain ⟨w3, f3, R3, d3⟩ := yl x H3 hy
        cases hput : pt ds[i] env2 with
        | none => simp only [forTurn, hput] at hl; cases hl
        | some env3 =>
          simp only [forTurn, hput] at hl
          refine ⟨w3, env2, M2, ds[i], env3, R3, E2.fut f3, d3, hput, fun σ3 _ E3 => ?_⟩
          cases hb4 : fb env3 M2 with
          | none => rw [hb4] at hl; cases hl
          | some p =>
            obtain ⟨o, M3⟩ := p
            rw [hb4] at hl
            refine ⟨w3, env3, M2, o, M3, R3, E3, hb4, ?_⟩
            cases o with
            | nx env' => exact fun w4 H4 σ4 f4 R4 E4 => ⟨w4, M3, env', (f2.trans f3).trans f4, R4, E4, hl⟩
            | ct env' => exact fun w4 H4 σ4 f4 R4 E4 => ⟨w4, M3, env', (f2.trans f3).trans f4, R4, E4, hl⟩
            | bk env' => cases hl; exact fun w4 H4 σ4 f4 R4 E4 => q2 w4 H4 σ4 (f3.trans f4) R4 E4
            | rt d => cases hl; exact fun w4 H4 v f4 R4 E4 => q2 w4 H4 v (f3.trans f4) R4 E4
      · cases hl
    · left
      have ei : i = ds.length := by omega
      subst ei
      rw [List.drop_length] at hl
      simp only [forLoop] at hl
      split at hl
      · rename_i hgk
        cases hl
        exact ⟨ito.stop _ w2 _ _ (Ext.of f2) R2 hgk rfl, q2 w2 H2 σ2 (Fut.refl _ _) R2 E2⟩
      · cases hl
  · cases e
theorem s_whl {body : List Stmt} {ft : Env → Mem → Res Bool} {fb : Env → Mem → Res Out} {n : Nat}
    (hp : PassesOwn (model X.prog X.w) X.A X.env X.xe) (hc : PT X c (tT (fr X) ft)) (hb : PSs X body (tS (fr X) fb)) : PS X (.While c body [] pos) (tS (fr X) fun env M => whileLoop ft fb n env M) := by
  refine imp_s (ps_while hp hc hb) ?_
  rintro D σ H ⟨w0, env, M0, out, M', R0, E0, e, q⟩
  refine ⟨fun m σ2 H2 => ∃ w2 M2 env2, Fut w0 H w2 H2 ∧ Rp (fr X) w2 M2 H2 ∧ EnvOk (fr X) w2 σ2 env2 ∧ whileLoop ft fb m env2 M2 = some (out, M'), ⟨n, w0, M0, env, Fut.refl _ _, R0, E0, e⟩, ?_⟩
  rintro m σ2 H2 ⟨w2, M2, env2, f2, R2, E2, hl⟩
  have q2 : outK (fr X) D w2 H2 M' out := q.fut f2
  cases m with
  | zero => cases hl
  | succ m =>
    simp only [whileLoop] at hl
    cases ht : ft env2 M2 with
    | none => rw [ht] at hl; cases hl
    | some p =>
      obtain ⟨b, M3⟩ := p
      rw [ht] at hl
      refine ⟨w2, env2, M2, b, M3, R2, E2, ht, fun w3 H3 f3 R3 => ?_⟩
      cases b with
      | false =>
        cases hl
        show D.nx σ2 H3
        exact q2 w3 H3 σ2 f3 R3 (E2.fut f3)
      | true =>
        simp only at hl
        show ∃ N : L2.St → Hp → Prop, _ ∧ _
        refine ⟨fun σ' H' => ∃ w4 M4 env4, Fut w0 H w4 H' ∧ Rp (fr X) w4 M4 H' ∧ EnvOk (fr X) w4 σ' env4 ∧ whileLoop ft fb m env4 M4 = some (out, M'), fun σ' H' nx => ⟨m, Nat.lt_succ_self m, nx⟩, ?_⟩
        cases hb4 : fb env2 M3 with
        | none => rw [hb4] at hl; cases hl
        | some p =>
          obtain ⟨o, M4⟩ := p
          rw [hb4] at hl
          refine ⟨w3, env2, M3, o, M4, R3, E2.fut f3, hb4, ?_⟩
          cases o with
          | nx env' => exact fun w4 H4 σ4 f4 R4 E4 => ⟨w4, M4, env', (f2.trans f3).trans f4, R4, E4, hl⟩
          | ct env' => exact fun w4 H4 σ4 f4 R4 E4 => ⟨w4, M4, env', (f2.trans f3).trans f4, R4, E4, hl⟩
          | bk env' => cases hl; exact fun w4 H4 σ4 f4 R4 E4 => q2 w4 H4 σ4 (f3.trans f4) R4 E4
          | rt d => cases hl; exact fun w4 H4 v f4 R4 E4 => q2 w4 H4 v (f3.trans f4) R4 E4
end
end Ev

set_option autoImplicit false
set_option linter.all false
set_option maxRecDepth 100000
set_option maxHeartbeats 1000000
/-! Ev: what is looked at before a text counts; the context of a body. -/
namespace Ev
open PySem PySem.Spec PyProof.Rows L2
/-- a name of a local variable -/
def locName (sc : Scope) : Expr → Bool
  | .Name id _ => sc.names.lookup id == some NameKind.local
  | _ => false
def visB (sc : Scope) (x : Str) : Bool := match sc.names.lookup x with
  | some .local => true
  | some .cell => true
  | some .free => true
  | _ => false
def locB (sc : Scope) (x : Str) : Bool := match sc.names.lookup x with
  | some .local => true
  | some .cell => true
  | _ => false
def isLocal (sc : Scope) (x : Str) : Bool := match sc.names.lookup x with
  | some .local => true
  | _ => false
def isCellB (sc : Scope) (x : Str) : Bool := match sc.names.lookup x with
  | some .cell => true
  | _ => false
def glB (sc : Scope) (x : Str) : Bool := match sc.names.lookup x with
  | some .globalImplicit => true
  | _ => false
def nmB (x : Str) : Bool := !(x == ("__debug__" : Str)) && !(x == ("__classdict__" : Str))
theorem vis_of {sc : Scope} {x : Str} (h : visB sc x = true) : Vis sc x := by
  unfold visB at h
  split at h
  · exact .inl (by assumption)
  · exact .inr (.inl (by assumption))
  · exact .inr (.inr (by assumption))
  · cases h
theorem loc_of {sc : Scope} {x : Str} (h : locB sc x = true) : Loc sc x := by
  unfold locB at h
  split at h
  · exact .inl (by assumption)
  · exact .inr (by assumption)
  · cases h
theorem local_of {sc : Scope} {x : Str} (h : isLocal sc x = true) : sc.names.lookup x = some .local := by
  unfold isLocal at h
  split at h
  · assumption
  · cases h
theorem gl_of {sc : Scope} {x : Str} (h : glB sc x = true) : sc.names.lookup x = some .globalImplicit := by
  unfold glB at h
  split at h
  · assumption
  · cases h
theorem nm_of {x : Str} (h : nmB x = true) : (x == ("__debug__" : Str)) = false ∧ (x == ("__classdict__" : Str)) = false := by
  unfold nmB at h
  simp only [Bool.and_eq_true, Bool.not_eq_true'] at h
  exact h
/-- a function's name, its parameters, the keywords (by the parameters' places) that it is called with -/
abbrev Nm := Nat → Option (Str × List Str × List (List Nat))
/-- the built-ins that a text may name -/
def blts : List Str := ["len", "isinstance", "tuple", "list", "int", "abs", "all", "any", "sum", "max", "min", "range", "enumerate", "zip", "str", "bool", "dict", "sorted"]
def EL.ne : EL → Bool
  | .nil => false
  | .cons _ _ => true
def EL.one : EL → Bool
  | .nil => true
  | .cons _ .nil => true
  | _ => false
def EL.len : EL → Nat
  | .nil => 0
  | .cons _ es => es.len + 1
def PL.len : PL → Nat
  | .nil => 0
  | .cons _ _ ps => ps.len + 1
def G.isTup : G → Bool
  | .tup .. => true
  | _ => false
def isTupE : Expr → Bool
  | .Tuple .. => true
  | _ => false
/-- classes to look for -/
def allTy : EL → Bool
  | .nil => true
  | .cons (.tyn _ _) es => allTy es
  | _ => false
/-- a list of a comprehension -/
def lcB : E → Bool
  | .inl (.lc ..) => true
  | .cel (.lc ..) => true
  | _ => false
def lcF : FL → Bool
  | .lc .. => true
  | _ => false
def clsB : E → Bool
  | .tyn _ _ => true
  | .tup es _ => allTy es
  | _ => false
section
variable (T : Tab) (nm : Nm) (N : List Str)
mutual
/-- the text is so that its test is known -/
def testB : E → Bool
  | .cmp .. => true
  | .chn .. => true
  | .nott a _ => testB a
  | .bool _ es _ => testBs es
  | .frz a => plainTest (py T a)
  | e => plainTest (py T e)
def testBs : EL → Bool
  | .nil => true
  | .cons e es => testB e && testBs es
end
def callB (sc : Scope) (f : Nat) (x : Str) (n : Nat) : Bool := match nm f with
  | some (y, ps, _) => decide (y = x) && decide (ps.length = n) && glB sc x && nmB x
  | none => false
def KL.ix : KL → List Nat
  | .nil => []
  | .cons i _ _ ks => i :: ks.ix
def nmsOf (ks : KL) : List Str := match ks with
  | .nil => []
  | .cons _ _ p ks => (T.at p).x :: nmsOf ks
def callKB (sc : Scope) (f : Nat) (x : Str) (n : Nat) (ks : KL) : Bool := match nm f with
  | some (y, ps, shs) => decide (y = x) && decide (ps.length = n + ks.ix.length) && shs.contains ks.ix && decide (nmsOf T ks = ks.ix.map fun i => ps.getD i "") && glB sc x && nmB x
  | none => false
def ownOf (vs : List Nat) : List (Str × Nat) := vs.map fun i => (N.getD i "", i)
/-- a block's own names that are cells -/
def fnOf (scope : Scope) : Str → Bool := fun x => scope.names.lookup x == some .cell
mutual
def okE (sc : Scope) (fn : Str → Bool) : E → Bool
  | .nev _ => true
  | .loc i p => decide (N[i]? = some (T.at p).x) && visB sc (T.at p).x && nmB (T.at p).x
  | .glo _ _ => false
  | .cint _ _ => true
  | .cstr _ _ => true
  | .cbl _ _ => true
  | .cnon _ => true
  | .tyn t _ => glB sc t.nm
  | .tup es _ => okEs sc fn es
  | .inl f => okF sc fn f
  | .cel f => okF sc fn f
  | .bin _ a b _ => okE sc fn a && okE sc fn b
  | .neg a _ => okE sc fn a
  | .nott a _ => okE sc fn a
  | .bool _ es _ => okEs sc fn es && es.ne
  | .cmp _ a b _ => okE sc fn a && okE sc fn b && !isSet (py T b)
  | .chn _ _ a b c _ => okE sc fn a && okE sc fn b && okE sc fn c && !isSet (py T c)
  | .ife c a b _ => okE sc fn c && testB T c && okE sc fn a && okE sc fn b
  | .call f es p => callB nm sc f (T.at p).x es.len && okEs sc fn es && es.ne
  | .callk f es ks p => callKB T nm sc f (T.at p).x es.len ks && okEs sc fn es && okK sc fn ks
  | .len a _ => glB sc "len" && okE sc fn a && !isStar (py T a)
  | .isi a c _ => glB sc "isinstance" && okE sc fn a && !isStar (py T a) && okE sc fn c && clsB c
  | .tupOf a _ => glB sc "tuple" && okE sc fn a && !isStar (py T a)
  | .intOf a _ => glB sc "int" && okE sc fn a && !isStar (py T a)
  | .absOf a _ => glB sc "abs" && okE sc fn a && !isStar (py T a)
  | .allOf a _ => glB sc "all" && okE sc fn a && !isStar (py T a)
  | .anyOf a _ => glB sc "any" && okE sc fn a && !isStar (py T a)
  | .sumOf a _ => glB sc "sum" && okE sc fn a && !isStar (py T a)
  | .max2 a b _ => glB sc "max" && okE sc fn a && !isStar (py T a) && okE sc fn b && !isStar (py T b)
  | .min2 a b _ => glB sc "min" && okE sc fn a && !isStar (py T a) && okE sc fn b && !isStar (py T b)
  | .rngV a b _ => glB sc "range" && okE sc fn a && !isStar (py T a) && okE sc fn b && !isStar (py T b)
  | .celD _ => true
  | .rngV1 a _ => glB sc "range" && okE sc fn a && !isStar (py T a)
  | .maxL a _ => glB sc "max" && okE sc fn a && !isStar (py T a)
  | .minL a _ => glB sc "min" && okE sc fn a && !isStar (py T a)
  | .idx a i _ => okE sc fn a && okE sc fn i && !isSlice (py T i)
  | .slc a lo hi _ => okE sc fn a && okO sc fn lo && okO sc fn hi
  | .rev a _ => okE sc fn a
  | .idxOf a e p => okE sc fn a && okE sc fn e && !isStar (py T e) && plainBase (py T a) && ((T.at p).b.endLine == (T.at p).a.line)
  | .app a e p => okE sc fn a && okE sc fn e && !isStar (py T e) && plainBase (py T a) && ((T.at p).b.endLine == (T.at p).a.line)
  | .ext a e p => okE sc fn a && okE sc fn e && !isStar (py T e) && plainBase (py T a) && ((T.at p).b.endLine == (T.at p).a.line)
  | .pop a p => okE sc fn a && plainBase (py T a) && ((T.at p).b.endLine == (T.at p).a.line)
  | .popAt a e p => okE sc fn a && okE sc fn e && !isStar (py T e) && plainBase (py T a) && ((T.at p).b.endLine == (T.at p).a.line)
  | .frz a => okE sc fn a
  | .dsp ps _ => okPs sc fn ps && decide (ps.len ≤ 15)
def okPs (sc : Scope) (fn : Str → Bool) : PL → Bool
  | .nil => true
  | .cons k v ps => okE sc fn k && okE sc fn v && okPs sc fn ps
def okK (sc : Scope) (fn : Str → Bool) : KL → Bool
  | .nil => true
  | .cons _ e _ ks => okE sc fn e && okK sc fn ks
def okO (sc : Scope) (fn : Str → Bool) : OE → Bool
  | .none => true
  | .some e => okE sc fn e
def okEs (sc : Scope) (fn : Str → Bool) : EL → Bool
  | .nil => true
  | .cons e es => okE sc fn e && !isStar (py T e) && okEs sc fn es
def okF (sc : Scope) (fn : Str → Bool) : FL → Bool
  | .disp es _ => okEs sc fn es
  | .lc tg it ifs elt p => okI sc fn tg.isTup it && okG (relS (T.at p).sc sc) (fnOf (T.at p).sc) tg && okEs (relS (T.at p).sc sc) (fnOf (T.at p).sc) ifs && testBs T ifs && ifs.one && okE (relS (T.at p).sc sc) (fnOf (T.at p).sc) elt &&
      blkC N sc (T.at p).sc (ownOf N tg.own) && !isSet (pyI T it)
  | .listOf a _ => glB sc "list" && okE sc fn a && !isStar (py T a)
  | .revL a _ => okE sc fn a
  | .srtC a _ => glB sc "sorted" && okE sc fn a && !isStar (py T a)
  | .srt a _ => glB sc "sorted" && okE sc fn a && !isStar (py T a)
  | .srtS f _ => glB sc "sorted" && lcF f && okF sc fn f
  | .add a b _ => okE sc fn a && okE sc fn b
  | .repL a b _ => okE sc fn a && okE sc fn b
  | .slc a lo hi _ => okE sc fn a && okO sc fn lo && okO sc fn hi
def okI (sc : Scope) (fn : Str → Bool) (tup : Bool) : It → Bool
  | .val e => okE sc fn e
  | .rng1 b _ => glB sc "range" && okE sc fn b && !isStar (py T b)
  | .rng2 a b _ => glB sc "range" && okE sc fn a && !isStar (py T a) && okE sc fn b && !isStar (py T b)
  | .rng3 a b c _ => glB sc "range" && okE sc fn a && !isStar (py T a) && okE sc fn b && !isStar (py T b) && okE sc fn c && !isStar (py T c)
  | .enum2 e _ => tup && glB sc "enumerate" && okE sc fn e && !isStar (py T e)
  | .enum e _ => tup && glB sc "enumerate" && okE sc fn e && !isStar (py T e)
  | .enumZip a b _ => tup && glB sc "enumerate" && glB sc "zip" && okE sc fn a && !isStar (py T a) && okE sc fn b && !isStar (py T b)
  | .zip a b _ => tup && glB sc "zip" && okE sc fn a && !isStar (py T a) && okE sc fn b && !isStar (py T b)
def okG (sc : Scope) (fn : Str → Bool) : G → Bool
  | .name i p => decide (N[i]? = some (T.at p).x) && locB sc (T.at p).x && (fn (T.at p).x || isLocal sc (T.at p).x)
  | .tup gs _ => okGs sc fn gs
def okGs (sc : Scope) (fn : Str → Bool) : GL → Bool
  | .nil => true
  | .cons g gs => okG sc fn g && okGs sc fn gs
end
/-- which stores the pair (x, y) = (a, b) makes: 2 from the right, 1 as a tuple, 0 not known -/
def parB (sc : Scope) (a b : Expr) (p : Pay) : Nat :=
  if isLocal sc p.x && isLocal sc p.y && (p.b.line == p.b.line) && (p.c.line == p.b.line) && !(p.x == p.y) && !isStar a && !isStar b then
    if foldedForSure 8 a && foldedForSure 8 b then 1
    else if constantsAlone 8 a && constantsAlone 8 b then 0 else 2
  else 0
/-- three local names are stored from the right -/
def par3B (sc : Scope) (a b c : Expr) (p q : Pay) : Bool :=
  isLocal sc p.x && isLocal sc p.y && isLocal sc q.x && (p.c.line == p.b.line) && (q.b.line == p.b.line) && !(p.x == p.y) && !(p.x == q.x) && !(p.y == q.x) && !isStar a && !isStar b && !isStar c && !(foldedForSure 8 a && foldedForSure 8 b && foldedForSure 8 c) && !(constantsAlone 8 a && constantsAlone 8 b && constantsAlone 8 c)
mutual
def okS (sc : Scope) : S → Bool
  | .nev _ => true
  | .asg g e p => okG T nm N sc (fun _ => true) g && okE T nm N sc (fun _ => true) e && (match g with
    | .name _ _ => lcB e || !isComp (py T e)
    | .tup gs _ => !isTupE (py T e) || (pyGs T gs).any fun x => !locName sc x)
  | .par i j a b p => okE T nm N sc (fun _ => true) a && okE T nm N sc (fun _ => true) b && decide (N[i]? = some (T.at p).x) && decide (N[j]? = some (T.at p).y) && decide (i ≠ j) && (parB sc (py T a) (py T b) (T.at p) == 2)
  | .par3 i j l a b c p => okE T nm N sc (fun _ => true) a && okE T nm N sc (fun _ => true) b && okE T nm N sc (fun _ => true) c && decide (N[i]? = some (T.at p).x) && decide (N[j]? = some (T.at p).y) && decide (N[l]? = some (T.at (p + 1)).x) && decide (i ≠ j) && decide (i ≠ l) && decide (j ≠ l) && par3B sc (py T a) (py T b) (py T c) (T.at p) (T.at (p + 1))
  | .sub o i e _ => okE T nm N sc (fun _ => true) o && okE T nm N sc (fun _ => true) i && okE T nm N sc (fun _ => true) e && !isSlice (py T i)
  | .subD o i e _ => okE T nm N sc (fun _ => true) o && okE T nm N sc (fun _ => true) i && okE T nm N sc (fun _ => true) e && !isSlice (py T i)
  | .aug i o e p => decide (N[i]? = some (T.at p).x) && locB sc (T.at p).x && okE T nm N sc (fun _ => true) e && (match o with
    | .add => true
    | .sub => true
    | _ => false)
  | .ex e _ => okE T nm N sc (fun _ => true) e && !isComp (py T e)
  | .iff c a b _ => okE T nm N sc (fun _ => true) c && testB T c && okSs sc a && okSs sc b
  | .for_ g it b _ => okG T nm N sc (fun _ => true) g && okI T nm N sc (fun _ => true) g.isTup it && okSs sc b && !isSet (pyI T it)
  | .whl c b _ => okE T nm N sc (fun _ => true) c && testB T c && okSs sc b
  | .ret e _ => okE T nm N sc (fun _ => true) e
  | .pass _ => true
  | .brk _ => true
  | .cont _ => true
def okSs (sc : Scope) : SL → Bool
  | .nil => true
  | .cons s ss => okS sc s && okSs sc ss
end
end

/-- a function of the table, called with data -/
def spF (K : Fr) (k : CallF) (f np : Nat) : Sp := fun vs H Q E => vs.length = np ∧ ∃ w M ds d M', Rp K w M H ∧ Dens K w vs ds ∧ k f ds M = some (d, M') ∧ ∀ w' H' v, Fut w H w' H' → Rp K w' M' H' → Den K w' v d → Q v H'
/-- the keywords' values in the parameters' order, behind the others -/
def reord {α : Type} (n : Nat) (is : List Nat) (ws : List α) : List α := (List.range is.length).filterMap fun i => (is.zip ws).lookup (n + i)
/-- the function f may be called by the name x -/
structure FnAt (P : Program) (wo : World) (K : PySem.W.Frag) (mg : Str → Option Value) (base : Heap) (j : Nat) (k : CallF) (f : Nat) (x : Str) (ps : List Str) (shs : List (List Nat)) : Prop where
  ex : ∃ (a : Addr) (fd : FuncData), FnOk P wo K mg base C8.CX0 j a fd ps (spF ⟨K, P, wo⟩ k f ps.length) ∧ mg x = some (.ref a) ∧ PySem.W.keepIn K (.ref a) = true ∧ Binds K fd ps [] ∧
    ∀ is ∈ shs, KBn K fd ps (ps.length - is.length) (is.map fun i => ps.getD i "") (fun us ws => us ++ reord us.length is ws) (fun us ws => us ++ reord us.length is ws)
structure Good (nm : Nm) (N : List Str) (j : Nat) (k : CallF) (X : Cx) (sc : Scope) (fn : Str → Bool) : Prop where
  calm : X.calm = true
  N : X.N = N
  nd : X.N.Nodup
  room : Room j X.A
  sc : X.env.scope = sc
  fn : ∀ x, fn x = true → X.fn x = true
  free : ∀ x ∈ blts, X.mg x = none
  call : ∀ f x ps shs, nm f = some (x, ps, shs) → FnAt X.prog X.w X.K X.mg X.base j k f x ps shs
section
variable {nm : Nm} {N : List Str} {j : Nat} {k : CallF} {X : Cx} {sc : Scope} {fn : Str → Bool}
theorem Good.un (g : Good nm N j k X sc fn) : X.A.units + 65 < cLine := by have := g.room.un; omega
theorem Good.vis (g : Good nm N j k X sc fn) {x : Str} (h : visB sc x = true) : Vis X.env.scope x := by rw [g.sc]; exact vis_of h
theorem Good.loc (g : Good nm N j k X sc fn) {x : Str} (h : locB sc x = true) : Loc X.env.scope x := by rw [g.sc]; exact loc_of h
theorem Good.loc' (g : Good nm N j k X sc fn) {x : Str} (h : isLocal sc x = true) : X.env.scope.names.lookup x = some .local := by rw [g.sc]; exact local_of h
theorem Good.gl (g : Good nm N j k X sc fn) {x : Str} (h : glB sc x = true) : Gl X x := by
  show X.env.scope.names.lookup x = _
  rw [g.sc]; exact gl_of h
theorem Good.fr (g : Good nm N j k X sc fn) {x : Str} (h : blts.contains x = true) : X.mg x = none := g.free x (by simpa using h)
theorem Good.blk (g : Good nm N j k X sc fn) (s : Shared) (H : Hp) (scope : Scope) (C : Addr) (cl : List (Str × Addr)) (fp : List Addr) : Good nm N j k (X.blk s H scope (compEnvC scope cl C X.env) fp) (relS scope sc) (fnOf scope) :=
  ⟨g.calm, g.N, g.nd, g.room, by rw [← g.sc]; rfl, fun x h => h, g.free, g.call⟩
theorem noPl {es : List Expr} {env : PySem.Env} {pos : Pos} (h : ∀ e ∈ es, isStar e = false) : (backTo pos (starEach es env)).any (·.1) = false := by
  induction es with
  | nil => rfl
  | cons e es ih =>
    have e1 : starEach (e :: es) env = (false, eval e env) :: starEach es env := by
      have := h e (by simp)
      cases e <;> first | rfl | cases this
    rw [e1]
    exact ih fun a ha => h a (by simp [ha])
theorem okEs_star {T : Tab} : ∀ {es : EL}, okEs T nm N sc fn es = true → ∀ e ∈ pys T es, isStar e = false
  | .nil, _, e, he => by simp [pys] at he
  | .cons a es, h, e, he => by
    simp only [okEs, Bool.and_eq_true, Bool.not_eq_true'] at h
    simp only [pys, List.mem_cons] at he
    rcases he with rfl | he
    · exact h.1.2
    · exact okEs_star h.2 e he
theorem pys_len {T : Tab} : ∀ (es : EL), (pys T es).length = es.len
  | .nil => rfl
  | .cons a es => by simp [pys, EL.len, pys_len es]
theorem mapM_length {α β : Type} {f : α → Option β} : ∀ {l : List α} {r : List β}, l.mapM f = some r → r.length = l.length
  | [], r, h => by
    simp only [List.mapM_nil] at h
    cases h; rfl
  | a :: l, r, h => by
    rw [List.mapM_cons] at h
    cases h1 : f a with
    | none => rw [h1] at h; cases h
    | some b =>
      rw [h1] at h
      cases h2 : l.mapM f with
      | none => rw [h2] at h; cases h
      | some bs =>
        rw [h2] at h
        cases h
        simp [mapM_length h2]
/-- a call of a function -/
theorem e_call {f : Nat} {x : Str} {ps : List Str} {shs : List (List Nat)} {e : Expr} {es : List Expr} {fs : Env → Mem → Res (List D)} {p pos : Pos} (g : Good nm N j k X sc fn) (hf : nm f = some (x, ps, shs)) (hg : glB sc x = true) (hn : nmB x = true) (ha : PA X (e :: es) (tA (fr X) fs)) (hst : ∀ a ∈ e :: es, isStar a = false) (hl : ps.length = (e :: es).length)
    (hlen : ∀ env M ds M', fs env M = some (ds, M') → ds.length = (e :: es).length) :
    PE X (.Call (.Name x p) (e :: es) [] pos) (tE (fr X) fun env M => match fs env M with
      | some (ds, M') => k f ds M'
      | none => none) := by
  obtain ⟨a, fd, F, hm, kp, hb, _⟩ := (g.call f x ps shs hf).ex
  refine imp_e (pe_call F g.room (g.gl hg) hm kp hb .nil (E := C8.E0) C8.pass0 ha (nm_of hn).1 (star_cons (hst e (by simp))) (noPl fun a ha => hst a (by simp [ha]))) ?_
  rintro σ H Q ⟨w, env, M, d, M', R, E, e, q⟩
  simp only at e
  split at e
  · rename_i ds M1 h1
    refine ⟨w, env, M, ds, M1, R, E, h1, fun w1 H1 vs f1 R1 d1 => ?_⟩
    show spF (fr X) k f ps.length (vs ++ []) H1 Q C8.E0
    rw [List.append_nil]
    exact ⟨by rw [d1.length, hl]; exact hlen _ _ _ _ h1, w1, M1, ds, d, M', R1, d1, e, fun w2 H2 v f2 R2 d2 => q w2 H2 v (f1.trans f2) R2 d2⟩
  · cases e
/-! ### keywords -/
theorem look_den {K : Fr} {w : Wd} {x : Nat} : ∀ {is : List Nat} {vs : List V} {ds : List D} {d : D}, Dens K w vs ds → (is.zip ds).lookup x = some d → ∃ v, (is.zip vs).lookup x = some v ∧ Den K w v d
  | [], _, _, _, _, h => by simp at h
  | i :: is, _, _, _, .nil, h => by simp at h
  | i :: is, _, _, d, .cons (v := v) h1 r, h => by
    simp only [List.zip_cons_cons, List.lookup_cons] at h ⊢
    cases hx : x == i with
    | true => rw [hx] at h; cases h; exact ⟨v, rfl, h1⟩
    | false => rw [hx] at h; exact look_den r h
theorem reord_den {K : Fr} {w : Wd} {is : List Nat} {n : Nat} {vs : List V} {ds : List D} (r : Dens K w vs ds) : ∀ {l : List Nat} {more : List D}, l.mapM (fun i => (is.zip ds).lookup (n + i)) = some more → Dens K w (l.filterMap fun i => (is.zip vs).lookup (n + i)) more
  | [], more, h => by
    simp only [List.mapM_nil] at h
    cases h; exact .nil
  | i :: l, more, h => by
    rw [List.mapM_cons] at h
    cases h1 : (is.zip ds).lookup (n + i) with
    | none => rw [h1] at h; cases h
    | some d =>
      rw [h1] at h
      cases h2 : l.mapM (fun i => (is.zip ds).lookup (n + i)) with
      | none => rw [h2] at h; cases h
      | some ms =>
        rw [h2] at h
        cases h
        obtain ⟨v, h3, h4⟩ := look_den r h1
        rw [List.filterMap_cons, h3]
        exact .cons h4 (reord_den r h2)
/-- the keywords' values, each with its place -/
def tK (K : Fr) (is : List Nat) (f : Env → Mem → Res (List (Nat × D))) : TA := fun σ H Q => ∃ w env M ds M', Rp K w M H ∧ EnvOk K w σ env ∧ f env M = some (is.zip ds, M') ∧ ds.length = is.length ∧ ∀ w' H' vs, Fut w H w' H' → Rp K w' M' H' → Dens K w' vs ds → Q vs H'
theorem imp_k {e : List Keyword} {t t' : TA} (h : PK X e t) (i : ∀ σ H Q, t' σ H Q → t σ H Q) : PK X e t' := ⟨fun p pins s σ H Q I q => h.run p pins s σ H Q I (i σ H Q q)⟩
theorem k_nil : PK X [] (tK (fr X) [] fun _ M => some ([], M)) := by
  refine imp_k pk_nil ?_
  rintro σ H Q ⟨w, env, M, d, M', R, E, e, hl, q⟩
  cases e
  cases d with
  | nil => exact q w H [] (Fut.refl w H) R .nil
  | cons => cases hl
theorem k_cons {a : Expr} {fa : Env → Mem → Res D} {is : List Nat} {i : Nat} {x : Str} {p : Pos} {ks : List Keyword} {f : Env → Mem → Res (List (Nat × D))} (ha : PE X a (tE (fr X) fa)) (h : PK X ks (tK (fr X) is f)) (hf : ∀ env M l M', f env M = some (l, M') → ∃ ds, l = is.zip ds ∧ ds.length = is.length) : PK X (⟨some x, a, p⟩ :: ks) (tK (fr X) (i :: is) fun env M => match fa env M with
    | some (d, M1) => match f env M1 with
      | some (ds, M2) => some ((i, d) :: ds, M2)
      | none => none
    | none => none) := by
  refine imp_k (pk_cons ha h) ?_
  rintro σ H Q ⟨w, env, M, d, M', R, E, e, hl, q⟩
  simp only at e
  split at e
  · rename_i dx M1 h1
    split at e
    · rename_i ds M2 h2
      obtain ⟨ds, rfl, hl2⟩ := hf _ _ _ _ h2
      cases d with
      | nil => cases hl
      | cons d0 dr =>
        simp only [List.zip_cons_cons, Option.some.injEq, Prod.mk.injEq, List.cons.injEq, true_and] at e
        obtain ⟨⟨rfl, e2⟩, rfl⟩ := e
        have hl3 : dr.length = is.length := by simpa using hl
        have e3 : ds = dr := by
          have := congrArg (List.map Prod.snd) e2
          rwa [List.map_snd_zip (by omega), List.map_snd_zip (by omega)] at this
        subst e3
        exact ⟨w, env, M, dx, M1, R, E, h1, fun w1 H1 x f1 R1 d1 => ⟨w1, env, M1, ds, _, R1, E.fut f1, h2, hl3, fun w2 H2 ys f2 R2 d2 => q w2 H2 (x :: ys) (f1.trans f2) R2 (.cons (d1.fut f2) d2)⟩⟩
    · cases e
  · cases e
/-- f(k = v, ..), nothing by position -/
theorem pe_callN0 {x : Str} {p pos : Pos} {n : Nat} {CX : CXT} {f : Addr} {fd : FuncData} {ps ks : List Str} {sp : Sp} {E : XK} {kws : List Keyword} {tk : TA} {g : List Value → List Value → List Value} {gV : List V → List V → List V} (F : FnOk X.prog X.w (fr X) X.mg X.base CX n f fd ps sp) (hr : Room n X.A) (hg : Gl X x) (hm : X.mg x = some (.ref f)) (hk : PySem.W.keepIn (fr X) (.ref f) = true) (hb : KBn (fr X) fd ps 0 ks g gV) (hx : Passes CX X E)
    (hkw : PK X kws tk) (hall : (backToKw pos (keywordEach kws X.env)).all (·.1.isSome) = true) (hks : (backToKw pos (keywordEach kws X.env)).filterMap (·.1) = ks)
    (hdb : (x == ("__debug__" : Str)) = false) (hpl : ((backTo pos (starEach [] X.env)).any (·.1) || (backToKw pos (keywordEach kws X.env)).any (·.1.isNone)) = false) :
    PE X (.Call (.Name x p) [] kws pos) (tCallN 0 ks.length sp gV E tNil tk) := by
  refine ⟨fun pins s σ H Q I h => ?_⟩
  refine wpAny_Call_Name_kw (ld_glob I hg hm ?_ hdb)
  refine PySem.W.callWith_KW0 (h₀ := X.base) I.ok.mod.kin hk hall ?_ hpl
  refine thn (hkw.run pos pins s σ H _ I h) fun ws s2 ⟨zs, H2, I2, rz, l1, l2, q2⟩ => ⟨I2.kIn, ?_⟩
  rw [hks]
  exact run_fnN (us := []) (vs := []) F hr hb hx I2 .nil rz l1 l2 q2
theorem kwe_names {T : Tab} {env : PySem.Env} {pos : Pos} : ∀ ks : KL, (backToKw pos (keywordEach (pyk T ks) env)).filterMap (·.1) = nmsOf T ks ∧ (backToKw pos (keywordEach (pyk T ks) env)).all (·.1.isSome) = true ∧ (backToKw pos (keywordEach (pyk T ks) env)).any (·.1.isNone) = false
  | .nil => ⟨rfl, rfl, rfl⟩
  | .cons i e p ks => by
    obtain ⟨h1, h2, h3⟩ := kwe_names (T := T) (env := env) (pos := pos) ks
    refine ⟨?_, ?_, ?_⟩
    · show (T.at p).x :: (backToKw pos (keywordEach (pyk T ks) env)).filterMap (·.1) = _
      rw [h1]; rfl
    · exact h2
    · exact h3
theorem ix_names {T : Tab} : ∀ ks : KL, (nmsOf T ks).length = ks.ix.length
  | .nil => rfl
  | .cons _ _ _ ks => by simp [nmsOf, KL.ix, ix_names ks]
abbrev fCallk (k : CallF) (f : Nat) (fs : Env → Mem → Res (List D)) (fk : Env → Mem → Res (List (Nat × D))) : Env → Mem → Res D := fun env M => match fs env M with
    | some (ds, M') => match fk env M' with
      | some (kd, M'') => match ((List.range kd.length).mapM fun i => kd.lookup (ds.length + i)) with
        | some more => k f (ds ++ more) M''
        | none => none
      | none => none
    | none => none
theorem callk_imp {f n : Nat} {ps : List Str} {is : List Nat} {fs : Env → Mem → Res (List D)} {fk : Env → Mem → Res (List (Nat × D))} {m : Nat} (hp : ps.length = n + is.length) (hm : m = is.length) (hlen : ∀ env M ds M', fs env M = some (ds, M') → ds.length = n) (hk : ∀ env M l M', fk env M = some (l, M') → ∃ ds, l = is.zip ds ∧ ds.length = is.length) :
    ∀ σ H Q, tE (fr X) (fCallk k f fs fk) σ H Q → tCallN n m (spF (fr X) k f ps.length) (fun us ws => us ++ reord us.length is ws) C8.E0 (tA (fr X) fs) (tK (fr X) is fk) σ H Q := by
  rintro σ H Q ⟨w, env, M, d, M', R, E, e, q⟩
  simp only [fCallk] at e
  split at e
  · rename_i ds M1 h1
    split at e
    · rename_i kd M2 h2
      split at e
      · rename_i more h3
        obtain ⟨es, rfl, hl⟩ := hk _ _ _ _ h2
        refine ⟨w, env, M, ds, M1, R, E, h1, fun w1 H1 vs f1 R1 d1 => ⟨w1, env, M1, es, M2, R1, E.fut f1, h2, hl, fun w2 H2 zs f2 R2 d2 => ?_⟩⟩
        have hn : vs.length = n := d1.length.trans (hlen _ _ _ _ h1)
        have hn2 : ds.length = n := hlen _ _ _ _ h1
        have hz : zs.length = m := by rw [d2.length, hl, hm]
        have hzl : (is.zip es).length = is.length := by rw [List.length_zip, hl]; omega
        rw [hzl] at h3
        have rr := reord_den d2 h3
        refine ⟨hn, hz, ?_, w2, M2, ds ++ more, d, M', R2, (d1.fut f2).append (by rw [hn, ← hn2]; exact rr), e, fun w3 H3 v f3 R3 d3 => q w3 H3 v ((f1.trans f2).trans f3) R3 d3⟩
        rw [List.length_append, hn, hp]
        have : (reord n is zs).length = more.length := by rw [← hn2]; exact rr.length
        rw [this]
        have : more.length = is.length := by
          have := mapM_length h3
          rw [this, List.length_range]
        rw [this]
      · cases e
    · cases e
  · cases e
theorem evs_len {k : CallF} : ∀ (es : EL) (env : Env) (M : Mem) (ds : List D) (M' : Mem), evs k es env M = some (ds, M') → ds.length = es.len
  | .nil, env, M, ds, M', h => by simp only [evs, Option.some.injEq, Prod.mk.injEq] at h; rw [← h.1]; rfl
  | .cons e es, env, M, ds, M', h => by
    simp only [evs] at h
    split at h
    · split at h
      · rename_i h2
        cases h
        simp only [List.length_cons, EL.len]
        rw [evs_len es _ _ _ _ h2]
      · cases h
    · cases h
theorem evks_ix {k : CallF} : ∀ (ks : KL) (env : Env) (M : Mem) (l : List (Nat × D)) (M' : Mem), evks k ks env M = some (l, M') → ∃ ds, l = ks.ix.zip ds ∧ ds.length = ks.ix.length
  | .nil, env, M, l, M', h => by simp only [evks, Option.some.injEq, Prod.mk.injEq] at h; exact ⟨[], by rw [← h.1]; rfl, rfl⟩
  | .cons i e p ks, env, M, l, M', h => by
    simp only [evks] at h
    split at h
    · split at h
      · rename_i h2
        cases h
        obtain ⟨ds, rfl, hl⟩ := evks_ix ks _ _ _ _ h2
        exact ⟨_ :: ds, rfl, by simp [KL.ix, hl]⟩
      · cases h
    · cases h
end
end Ev

set_option autoImplicit false
set_option linter.all false
set_option maxRecDepth 100000
set_option maxHeartbeats 2000000
/-! Ev: an expression that is looked at does what the evaluator says. -/
namespace Ev
open PySem PySem.Spec PyProof.Rows L2
section
variable {T : Tab} {nm : Nm} {N : List Str} {j : Nat} {k : CallF}
theorem name_of {X : Cx} {sc : Scope} {fn : Str → Bool} (g : Good nm N j k X sc fn) {i : Nat} {x : Str} (h : decide (N[i]? = some x) = true) : X.N[i]? = some x := by
  rw [g.N]; exact of_decide_eq_true h
/-- a value, and its test -/
def SndE (T : Tab) (k : CallF) (X : Cx) (e : E) : Prop := PE X (py T e) (tE (fr X) (ev k e)) ∧ (testB T e = true → PT X (py T e) (tT (fr X) fun env M => tru (ev k e env M)))
theorem SndE.plain {X : Cx} {e : E} (h : PE X (py T e) (tE (fr X) (ev k e))) (ht : testB T e = plainTest (py T e)) : SndE T k X e := ⟨h, fun t => t_truth h (by rw [← ht]; exact t)⟩
/-- the items of and, or; arguments; tests -/
def SndEs (T : Tab) (k : CallF) (X : Cx) (es : EL) : Prop := PA X (pys T es) (tA (fr X) (evs k es)) ∧ (es.ne = true → ∀ (w : Bool) (pos : Pos), PE X (.BoolOp (opB w) (pys T es) pos) (tE (fr X) (evBool k w es)) ∧
    (testBs T es = true → PW X (.BoolOp (opB w) (pys T es) pos) (tT (fr X) fun env M => tru (evBool k w es env M)))) ∧ (testBs T es = true → es.one = true → PTs X (pys T es) (tT (fr X) (evIfs k es)))
theorem puts_len : ∀ (gs : GL) (ds : List D) (env env' : Env), puts gs ds env = some env' → ds.length = (pyGs T gs).length
  | .nil, [], _, _, _ => rfl
  | .nil, _ :: _, _, _, h => by simp [puts] at h
  | .cons g gs, [], _, _, h => by simp [puts] at h
  | .cons g gs, d :: ds, env, env', h => by
    simp only [puts] at h
    split at h
    · simp only [pyGs, List.length_cons]
      rw [puts_len gs ds _ _ h]
    · cases h
theorem pyG_star : ∀ (g : G), isStar (pyG T g) = false
  | .name _ _ => rfl
  | .tup _ _ => rfl
theorem pyGs_star : ∀ (gs : GL), ∀ e ∈ pyGs T gs, isStar e = false
  | .nil, e, h => by simp [pyGs] at h
  | .cons g gs, e, h => by
    simp only [pyGs, List.mem_cons] at h
    rcases h with rfl | h
    · exact pyG_star g
    · exact pyGs_star gs e h
theorem fn_or {X : Cx} {sc : Scope} {fn : Str → Bool} (g : Good nm N j k X sc fn) {x : Str} (h : (fn x || isLocal sc x) = true) : X.fn x = true ∨ X.env.scope.names.lookup x = some .local := by
  rw [Bool.or_eq_true] at h
  rcases h with h | h
  · exact .inl (g.fn x h)
  · exact .inr (g.loc' h)
mutual
theorem sG : ∀ (t : G) {X : Cx} {sc : Scope} {fn : Str → Bool}, Good nm N j k X sc fn → okG T nm N sc fn t = true → PG X (pyG T t) (tG (fr X) t.own (put t))
  | .name i p, X, sc, fn, g, h => by
    simp only [okG, Bool.and_eq_true] at h
    exact g_name g.nd (name_of g h.1.1) (g.loc h.1.2) (fn_or g h.2)
  | .tup gs p, X, sc, fn, g, h => by
    simp only [okG] at h
    have e : put (.tup gs p) = fun d env => match d with
      | .tup ds => puts gs ds env
      | .lst ds => puts gs ds env
      | _ => none := by
      funext d env
      cases d <;> rfl
    rw [e]
    exact g_tup g.calm (sGs gs g h) (pyGs_star gs) (puts_len gs)
theorem sGs : ∀ (ts : GL) {X : Cx} {sc : Scope} {fn : Str → Bool}, Good nm N j k X sc fn → okGs T nm N sc fn ts = true → PGs X (pyGs T ts) (tGs (fr X) (GL.own ts) (puts ts))
  | .nil, X, sc, fn, g, h => by
    have e : puts .nil = fun (ds : List D) (env : Env) => match ds with
      | [] => some env
      | _ => none := by
      funext ds env
      cases ds <;> rfl
    rw [e]
    exact gs_nil
  | .cons t ts, X, sc, fn, g, h => by
    simp only [okGs, Bool.and_eq_true] at h
    have e : puts (.cons t ts) = fun (ds : List D) (env : Env) => match ds with
      | d :: ds => match put t d env with
        | some env' => puts ts ds env'
        | none => none
      | [] => none := by
      funext ds env
      cases ds <;> rfl
    rw [e]
    exact gs_cons (sG t g h.1) (sGs ts g h.2) (pyG_star t)
end
theorem isi_fresh {X : Cx} {es : EL} {fs : Env → Mem → Res (List D)} {pos : Pos} {es' : List Expr} (h : PA X es' (tA (fr X) fs)) : PE X (.Tuple es' 0 pos) (fun σ H Q => ∃ w env M d M', Rp (fr X) w M H ∧ EnvOk (fr X) w σ env ∧ (match fs env M with
    | some (ds, M') => if ds.length ≤ Lim then some (D.tup ds, M') else none
    | none => none) = some (d, M') ∧ ∀ w' H' v, Fut w H w' H' → Rp (fr X) w' M' H' → Den (fr X) w' v d → (∀ a cs, d = .tup cs → v = .ref a → ∃ vs, H' a = some (.tup vs) ∧ Dens (fr X) w' vs cs) → Q v H') := by
  refine imp_e (pe_tup h) ?_
  rintro σ H Q ⟨w, env, M, d, M', R, E, e, q⟩
  split at e
  · rename_i ds M1 h1
    split at e
    · rename_i hl
      cases e
      refine ⟨w, env, M, ds, _, R, E, h1, fun w1 H1 vs f1 R1 r => ⟨lim_line (by rw [r.length]; exact hl), fun p hp => ?_⟩⟩
      obtain ⟨f2, R2⟩ := alloc_frozen R1 hp (.tup vs)
      refine q _ _ _ (f1.trans f2) R2 (.tup (.inl (.inl upd_same)) (r.fut f2)) fun a cs e1 e2 => ?_
      cases e1; cases e2
      exact ⟨vs, upd_same, r.fut f2⟩
    · cases e
  · cases e
theorem e_isi {X : Cx} {a c : Expr} {fa fc : Env → Mem → Res D} {tc : TE} {p pos : Pos} (hg : Gl X "isinstance") (hm : X.mg "isinstance" = none) (ha : PE X a (tE (fr X) fa)) (hc : PE X c tc) (hst : isStar a = false) (hst2 : isStar c = false)
    (hi : ∀ σ H Q, (∃ w env M d M', Rp (fr X) w M H ∧ EnvOk (fr X) w σ env ∧ fc env M = some (d, M') ∧ ∀ w' H' v, Fut w H w' H' → Rp (fr X) w' M' H' → Den (fr X) w' v d → (∀ a cs, d = .tup cs → v = .ref a → ∃ vs, H' a = some (.tup vs) ∧ Dens (fr X) w' vs cs) → Q v H') → tc σ H Q) :
    PE X (.Call (.Name "isinstance" p) [a, c] [] pos) (tE (fr X) fun env M => match fa env M with
    | some (x, M1) => match fc env M1 with
      | some (y, M2) => ofB (isiD M2 x y) M2
      | none => none
    | none => none) := by
  refine imp_e (pe_callB (t := tCons (tE (fr X) fa) (tCons tc tNil)) call_isiAll hg hm boot_isinstance (pa_cons ha (pa_cons hc pa_nil (star_cons hst2)) (star_cons hst)) (by decide +kernel) (by decide +kernel) (star_cons hst) (by rw [star_cons hst2]; rfl)) ?_
  rintro σ H Q ⟨w, env, M, d, M', R, E, e, q⟩
  simp only at e
  split at e
  · rename_i dx M1 h1
    split at e
    · rename_i dy M2 h2
      simp only [ofB, Option.map_eq_some_iff] at e
      obtain ⟨b, h3, e⟩ := e
      cases e
      refine ⟨w, env, M, dx, M1, R, E, h1, fun w1 H1 x f1 R1 d1 => hi _ _ _ ⟨w1, env, M1, dy, _, R1, E.fut f1, h2, fun w2 H2 y f2 R2 d2 ht => ?_⟩⟩
      exact isi_ok R2 (d1.fut f2) d2 ht h3 (q w2 H2 _ (f1.trans f2) R2 (.bl b))
    · cases e
  · cases e
theorem e_tyn {X : Cx} {t : Ty} {p : Pos} (hg : Gl X t.nm) (hm : X.mg t.nm = none) : PE X (.Name t.nm p) (tE (fr X) fun _ M => some (.ty t, M)) := by
  refine e_const (pe_bltn hg hm (v := V.ty t.n) (u := .type t.n) ?_ ?_ ?_ ?_) fun w => .ty t
  · cases t <;> decide +kernel
  · cases t <;> rfl
  · cases t <;> decide +kernel
  · cases t <;> decide +kernel
end
end Ev

set_option autoImplicit false
set_option linter.all false
set_option maxRecDepth 100000
set_option maxHeartbeats 400000
/-! Ev: an expression that is looked at does what the evaluator says. -/
namespace Ev
open PySem PySem.Spec PyProof.Rows L2
section
variable {T : Tab} {nm : Nm} {N : List Str} {j : Nat} {k : CallF}
theorem tru_not {a : E} {p : Nat} (env : Env) (M : Mem) : tru (ev k (.nott a p) env M) = match tru (ev k a env M) with
    | some (b, M1) => some (!b, M1)
    | none => none := by
  rw [ev]
  cases tru (ev k a env M) with
  | none => rfl
  | some p => rfl
theorem tru_bool2 {w : Bool} {e e' : E} {es : EL} (env : Env) (M : Mem) : tru (evBool k w (.cons e (.cons e' es)) env M) = fBoolT w (fun env M => tru (ev k e env M)) (fun env M => tru (evBool k w (.cons e' es) env M)) env M := by
  rw [evBool]
  cases h : ev k e env M with
  | none => simp only [fBoolT, h]; rfl
  | some p =>
    obtain ⟨d, M1⟩ := p
    simp only [fBoolT, h, tru]
    cases ht : truth M1 d with
    | none => rfl
    | some b =>
      simp only [Option.map_some]
      by_cases hb : (b == w) = true
      · rw [if_pos hb, if_pos hb]
      · rw [if_neg hb, if_neg hb]
        simp only [ht, Option.map_some]
theorem tys_ok' {X : Cx} {sc : Scope} {fn : Str → Bool} (g : Good nm N j k X sc fn) : ∀ (n : Nat) (es : EL), es.len ≤ n → allTy es = true → okEs T nm N sc fn es = true → PA X (pys T es) (tA (fr X) (evs k es)) := by
  intro n
  induction n with
  | zero =>
    intro es hl ht h
    cases es with
    | nil => exact a_nil
    | cons e es => exact absurd hl (by simp [EL.len])
  | succ n ih =>
    intro es hl ht h
    cases es with
    | nil => exact a_nil
    | cons e es =>
      cases e with
      | tyn t p =>
        simp only [okEs, okE, Bool.and_eq_true, Bool.not_eq_true'] at h
        exact a_cons (e_tyn (g.gl h.1.1) (g.fr (by cases t <;> decide +kernel))) (ih es (by simp only [EL.len] at hl; omega) ht h.2) rfl
      | _ => exact absurd ht (by simp [allTy])
theorem tys_ok (es : EL) {X : Cx} {sc : Scope} {fn : Str → Bool} (g : Good nm N j k X sc fn) (ht : allTy es = true) (h : okEs T nm N sc fn es = true) : PA X (pys T es) (tA (fr X) (evs k es)) := tys_ok' g _ es (Nat.le_refl _) ht h
theorem pkl_len : ∀ ps : PL, (pyKs T ps).length = ps.len
  | .nil => rfl
  | .cons a v ps => by simp [pyKs, PL.len, pkl_len ps]
mutual
theorem sE : ∀ (e : E) {X : Cx} {sc : Scope} {fn : Str → Bool}, Good nm N j k X sc fn → okE T nm N sc fn e = true → SndE T k X e
  | .nev p, X, sc, fn, g, h => .plain e_nev rfl
  | .loc i p, X, sc, fn, g, h => by
    simp only [okE, Bool.and_eq_true] at h
    exact .plain (e_var (name_of g h.1.1) (g.vis h.1.2) (nm_of h.2).1 (nm_of h.2).2) rfl
  | .glo _ _, X, sc, fn, g, h => by simp [okE] at h
  | .cint i p, X, sc, fn, g, h => ⟨e_const pe_int fun w => .int i, fun t => by cases t⟩
  | .cstr i p, X, sc, fn, g, h => ⟨e_const pe_str fun w => .str i, fun t => by cases t⟩
  | .cbl i p, X, sc, fn, g, h => ⟨e_const pe_bl fun w => .bl i, fun t => by cases t⟩
  | .cnon p, X, sc, fn, g, h => ⟨e_const pe_non fun w => .non, fun t => by cases t⟩
  | .tyn t p, X, sc, fn, g, h => by
    simp only [okE] at h
    exact .plain (e_tyn (g.gl h) (g.fr (by cases t <;> decide +kernel))) rfl
  | .tup es p, X, sc, fn, g, h => by
    simp only [okE] at h
    exact .plain (e_tup (sEs es g h).1) rfl
  | .inl f, X, sc, fn, g, h => by
    simp only [okE] at h
    exact .plain (e_inl (sF f g h)) rfl
  | .cel f, X, sc, fn, g, h => by
    simp only [okE] at h
    exact .plain (e_cel (sF f g h)) rfl
  | .bin o a b p, X, sc, fn, g, h => by
    simp only [okE, Bool.and_eq_true] at h
    obtain ⟨r, h1, h2⟩ := bin_any (X := X) o
    exact .plain (e_bin h1 h2 (sE a g h.1).1 (sE b g h.2).1) rfl
  | .neg a p, X, sc, fn, g, h => by
    simp only [okE] at h
    exact ⟨e_neg (sE a g h).1, fun t => by cases t⟩
  | .nott a p, X, sc, fn, g, h => by
    simp only [okE] at h
    refine ⟨e_not (sE a g h).1, fun t => ?_⟩
    have := t_not (pos := (T.at p).a) ((sE a g h).2 t)
    rw [tT_eq (f := fun env M => tru (ev k (.nott a p) env M)) tru_not]
    exact this
  | .bool w es p, X, sc, fn, g, h => by
    simp only [okE, Bool.and_eq_true] at h
    obtain ⟨_, h2, _⟩ := sEs es g h.1
    obtain ⟨h3, h4⟩ := h2 h.2 w (T.at p).a
    exact ⟨h3, fun t => (h4 t).pt⟩
  | .cmp o a b p, X, sc, fn, g, h => by
    simp only [okE, Bool.and_eq_true, Bool.not_eq_true'] at h
    obtain ⟨r, h1, h2⟩ := cmp_any g.un o
    have ha := (sE a g h.1.1).1
    have hb := (sE b g h.1.2).1
    exact ⟨e_cmp h1 h2 ha hb (noset h.2), fun _ => t_cmp h1 h2 ha hb (noset h.2)⟩
  | .chn o o' a b c p, X, sc, fn, g, h => by
    simp only [okE, Bool.and_eq_true, Bool.not_eq_true'] at h
    have ha := (sE a g h.1.1.1).1
    have hb := (sE b g h.1.1.2).1
    have hc := (sE c g h.1.2).1
    have hm : lastMarks [o.op, o'.op] [py T b, py T c] = false := noset h.2
    exact ⟨e_chn g.un ha hb hc hm, fun _ => t_chn g.un ha hb hc hm⟩
  | .ife c a b p, X, sc, fn, g, h => by
    simp only [okE, Bool.and_eq_true] at h
    exact ⟨e_ife ((sE c g h.1.1.1).2 h.1.1.2) (sE a g h.1.2).1 (sE b g h.2).1, fun t => by cases t⟩
  | .call f es p, X, sc, fn, g, h => by
    simp only [okE, Bool.and_eq_true] at h
    obtain ⟨⟨hc, he⟩, hne⟩ := h
    have ha := (sEs es g he).1
    have hst := okEs_star he
    refine .plain ?_ rfl
    unfold callB at hc
    split at hc
    · rename_i y ps shs hf
      simp only [Bool.and_eq_true, decide_eq_true_eq] at hc
      obtain ⟨⟨⟨rfl, hm⟩, hg⟩, hn⟩ := hc
      cases es with
      | nil => cases hne
      | cons e es => exact e_call g hf hg hn ha hst (hm.trans (pys_len _).symm) fun env M ds M' q => (evs_len _ _ _ _ _ q).trans (pys_len _).symm
    · cases hc
  | .callk f es ks p, X, sc, fn, g, h => by
    simp only [okE, Bool.and_eq_true] at h
    obtain ⟨⟨hc, he⟩, hks⟩ := h
    have ha := (sEs es g he).1
    have hst := okEs_star he
    have hkk := sK ks g hks
    refine .plain ?_ rfl
    unfold callKB at hc
    split at hc
    · rename_i y ps shs hf
      simp only [Bool.and_eq_true, decide_eq_true_eq] at hc
      obtain ⟨⟨⟨⟨⟨rfl, hl⟩, hsh⟩, hnm⟩, hg⟩, hn⟩ := hc
      obtain ⟨a, fd, F, hm, kp, _, hb⟩ := (g.call f _ ps shs hf).ex
      have hb := hb ks.ix (by simpa using hsh)
      rw [← hnm, show ps.length - ks.ix.length = es.len by omega] at hb
      obtain ⟨k1, k2, k3⟩ := kwe_names (T := T) (env := X.env) (pos := (T.at p).a) ks
      have hlen : ∀ env M ds M', evs k es env M = some (ds, M') → ds.length = es.len := fun env M ds M' q => evs_len _ _ _ _ _ q
      cases es with
      | nil =>
        have := pe_callN0 (p := (T.at p).b) (pos := (T.at p).a) F g.room (g.gl hg) hm kp hb (E := C8.E0) C8.pass0 hkk k2 k1 (nm_of hn).1 (by rw [k3]; rfl)
        refine imp_e this fun σ H Q q => ?_
        have q2 := callk_imp (is := ks.ix) (m := (nmsOf T ks).length) hl (ix_names ks) hlen (evks_ix ks) σ H Q q
        obtain ⟨w, env, M, ds, M', R, E, e, q3⟩ := q2
        have e' : ([], M) = (ds, M') := Option.some.inj e
        cases e'
        exact q3 w H [] (Fut.refl w H) R .nil
      | cons e es =>
        have := pe_callN (p := (T.at p).b) (pos := (T.at p).a) F g.room (g.gl hg) hm kp hb (E := C8.E0) C8.pass0 ha hkk k2 k1 (nm_of hn).1 (star_cons (hst (py T e) (by simp [pys]))) (by
          rw [k3, Bool.or_false]; exact noPl hst)
        exact imp_e this (callk_imp (is := ks.ix) (m := (nmsOf T ks).length) hl (ix_names ks) hlen (evks_ix ks))
    · cases hc
  | .len a p, X, sc, fn, g, h => by
    simp only [okE, Bool.and_eq_true, Bool.not_eq_true'] at h
    refine .plain (e_b1 (g := fun M d => (lenD M d).map fun (n : Nat) => D.int (n : Int)) call_lenAll (g.gl h.1.1) (g.fr (by decide +kernel)) boot_len (by decide +kernel) (by decide +kernel) ?_ (sE a g h.1.2).1 h.2) rfl
    intro w M H v d d' Q R dv e n
    simp only [Option.map_eq_some_iff] at e
    obtain ⟨m, e1, rfl⟩ := e
    exact len_ok R dv e1 (n.same R (.int _))
  | .isi a c p, X, sc, fn, g, h => by
    simp only [okE, Bool.and_eq_true, Bool.not_eq_true'] at h
    have hgl := g.gl h.1.1.1.1
    have hfr := g.fr (x := "isinstance") (by decide +kernel)
    have ha := (sE a g h.1.1.1.2).1
    refine .plain ?_ rfl
    cases c with
    | tyn t p2 =>
      refine e_isi (fc := fun _ M => some (.ty t, M)) hgl hfr ha (e_tyn (g.gl h.1.2) (g.fr (by cases t <;> decide +kernel))) h.1.1.2 rfl ?_
      rintro σ H Q ⟨w, env, M, d, M', R, E, e, q⟩
      cases e
      exact ⟨w, env, M, _, _, R, E, rfl, fun w1 H1 v f1 R1 d1 => q w1 H1 v f1 R1 d1 fun a cs e => by cases e⟩
    | tup es p2 => exact e_isi hgl hfr ha (isi_fresh (es := es) (tys_ok es g h.2 h.1.2)) h.1.1.2 rfl (fun _ _ _ h => h)
    | _ => exact absurd h.2 (by simp [clsB])
  | .tupOf a p, X, sc, fn, g, h => by
    simp only [okE, Bool.and_eq_true, Bool.not_eq_true'] at h
    exact .plain (e_tupOf (g.gl h.1.1) (g.fr (by decide +kernel)) (sE a g h.1.2).1 h.2) rfl
  | .intOf a p, X, sc, fn, g, h => by
    simp only [okE, Bool.and_eq_true, Bool.not_eq_true'] at h
    exact .plain (e_intOf (g.gl h.1.1) (g.fr (by decide +kernel)) (sE a g h.1.2).1 h.2) rfl
  | .absOf a p, X, sc, fn, g, h => by
    simp only [okE, Bool.and_eq_true, Bool.not_eq_true'] at h
    exact .plain (e_absOf (g.gl h.1.1) (g.fr (by decide +kernel)) (sE a g h.1.2).1 h.2) rfl
  | .allOf a p, X, sc, fn, g, h => by
    simp only [okE, Bool.and_eq_true, Bool.not_eq_true'] at h
    exact .plain (e_allOf g.calm (g.gl h.1.1) (g.fr (by decide +kernel)) (sE a g h.1.2).1 h.2) rfl
  | .anyOf a p, X, sc, fn, g, h => by
    simp only [okE, Bool.and_eq_true, Bool.not_eq_true'] at h
    exact .plain (e_anyOf g.calm (g.gl h.1.1) (g.fr (by decide +kernel)) (sE a g h.1.2).1 h.2) rfl
  | .sumOf a p, X, sc, fn, g, h => by
    simp only [okE, Bool.and_eq_true, Bool.not_eq_true'] at h
    exact .plain (e_sumOf g.calm (g.gl h.1.1) (g.fr (by decide +kernel)) (sE a g h.1.2).1 h.2) rfl
  | .max2 a b p, X, sc, fn, g, h => by
    simp only [okE, Bool.and_eq_true, Bool.not_eq_true'] at h
    exact .plain (e_max2 g.calm (g.gl h.1.1.1.1) (g.fr (by decide +kernel)) (sE a g h.1.1.1.2).1 (sE b g h.1.2).1 h.1.1.2 h.2) rfl
  | .min2 a b p, X, sc, fn, g, h => by
    simp only [okE, Bool.and_eq_true, Bool.not_eq_true'] at h
    exact .plain (e_min2 g.calm (g.gl h.1.1.1.1) (g.fr (by decide +kernel)) (sE a g h.1.1.1.2).1 (sE b g h.1.2).1 h.1.1.2 h.2) rfl
  | .rngV a b p, X, sc, fn, g, h => by
    simp only [okE, Bool.and_eq_true, Bool.not_eq_true'] at h
    exact .plain (e_rngV (g.gl h.1.1.1.1) (g.fr (by decide +kernel)) (sE a g h.1.1.1.2).1 (sE b g h.1.2).1 h.1.1.2 h.2) rfl
  | .celD p, X, sc, fn, g, h => .plain e_celD rfl
  | .rngV1 a p, X, sc, fn, g, h => by
    simp only [okE, Bool.and_eq_true, Bool.not_eq_true'] at h
    exact .plain (e_rngV1 (g.gl h.1.1) (g.fr (by decide +kernel)) (sE a g h.1.2).1 h.2) rfl
  | .maxL a p, X, sc, fn, g, h => by
    simp only [okE, Bool.and_eq_true, Bool.not_eq_true'] at h
    exact .plain (e_maxL g.calm g.un (g.gl h.1.1) (g.fr (by decide +kernel)) (sE a g h.1.2).1 h.2) rfl
  | .minL a p, X, sc, fn, g, h => by
    simp only [okE, Bool.and_eq_true, Bool.not_eq_true'] at h
    exact .plain (e_minL g.calm g.un (g.gl h.1.1) (g.fr (by decide +kernel)) (sE a g h.1.2).1 h.2) rfl
  | .idx a i p, X, sc, fn, g, h => by
    simp only [okE, Bool.and_eq_true, Bool.not_eq_true'] at h
    exact .plain (e_idx ix_all idx_ok (sE a g h.1.1).1 (sE i g h.1.2).1 (noslice h.2)) rfl
  | .slc a lo hi p, X, sc, fn, g, h => by
    simp only [okE, Bool.and_eq_true] at h
    exact .plain (e_slc (sE a g h.1.1).1 (sO lo g h.1.2) (sO hi g h.2)) rfl
  | .rev a p, X, sc, fn, g, h => by
    simp only [okE] at h
    exact .plain (e_revL (sE a g h).1) rfl
  | .idxOf a e p, X, sc, fn, g, h => by
    simp only [okE, Bool.and_eq_true, Bool.not_eq_true'] at h
    exact .plain (e_idxOf g.un (sE a g h.1.1.1.1).1 (sE e g h.1.1.1.2).1 h.1.1.2 h.1.2 h.2) rfl
  | .app a e p, X, sc, fn, g, h => by
    simp only [okE, Bool.and_eq_true, Bool.not_eq_true'] at h
    exact .plain (e_app (sE a g h.1.1.1.1).1 (sE e g h.1.1.1.2).1 h.1.1.2 h.1.2 h.2) rfl
  | .ext a e p, X, sc, fn, g, h => by
    simp only [okE, Bool.and_eq_true, Bool.not_eq_true'] at h
    exact .plain (e_ext (sE a g h.1.1.1.1).1 (sE e g h.1.1.1.2).1 h.1.1.2 h.1.2 h.2) rfl
  | .pop a p, X, sc, fn, g, h => by
    simp only [okE, Bool.and_eq_true] at h
    exact .plain (e_pop (sE a g h.1.1).1 h.1.2 h.2) rfl
  | .popAt a e p, X, sc, fn, g, h => by
    simp only [okE, Bool.and_eq_true, Bool.not_eq_true'] at h
    exact .plain (e_popAt (sE a g h.1.1.1.1).1 (sE e g h.1.1.1.2).1 h.1.1.2 h.1.2 h.2) rfl
  | .frz a, X, sc, fn, g, h => by
    simp only [okE] at h
    exact .plain (e_frz (sE a g h).1) rfl
  | .dsp .nil p, X, sc, fn, g, h => .plain e_dsp0 rfl
  | .dsp (.cons a v ps) p, X, sc, fn, g, h => by
    simp only [okE, Bool.and_eq_true, decide_eq_true_eq] at h
    obtain ⟨h1, h2⟩ := pk_len (T := T) (.cons a v ps)
    have hlen : (pyKs T (.cons a v ps)).length = PL.len (.cons a v ps) := pkl_len _
    exact .plain (e_dsp (k := k) (ps := .cons a v ps) (sPs (.cons a v ps) (T.at p).a g h.1) h2 h1 (by simp [pyKs]) (by rw [hlen]; exact h.2)) rfl
theorem sPs : ∀ (ps : PL) (pos : Pos) {X : Cx} {sc : Scope} {fn : Str → Bool}, Good nm N j k X sc fn → okPs T nm N sc fn ps = true → PPs X pos (pyKs T ps) (pyVs T ps) (trsOf (fr X) k ps)
  | .nil, pos, X, sc, fn, g, h => pps_nil
  | .cons a v ps, pos, X, sc, fn, g, h => by
    simp only [okPs, Bool.and_eq_true] at h
    exact pps_cons (sE a g h.1.1).1 (sE v g h.1.2).1 (sPs ps pos g h.2)
theorem sK : ∀ (ks : KL) {X : Cx} {sc : Scope} {fn : Str → Bool}, Good nm N j k X sc fn → okK T nm N sc fn ks = true → PK X (pyk T ks) (tK (fr X) ks.ix (evks k ks))
  | .nil, X, sc, fn, g, h => k_nil
  | .cons i e p ks, X, sc, fn, g, h => by
    simp only [okK, Bool.and_eq_true] at h
    exact k_cons (sE e g h.1).1 (sK ks g h.2) (evks_ix ks)
theorem sO : ∀ (o : OE) {X : Cx} {sc : Scope} {fn : Str → Bool}, Good nm N j k X sc fn → okO T nm N sc fn o = true → PO X (pyO T o) (tOe (fr X) (evO k o))
  | .none, X, sc, fn, g, h => o_none
  | .some e, X, sc, fn, g, h => by
    simp only [okO] at h
    exact o_some (sE e g h).1
theorem sEs : ∀ (es : EL) {X : Cx} {sc : Scope} {fn : Str → Bool}, Good nm N j k X sc fn → okEs T nm N sc fn es = true → SndEs T k X es
  | .nil, X, sc, fn, g, h => by
    refine ⟨a_nil, fun t => by (cases t), fun _ _ => ?_⟩
    refine ⟨fun pins s σ H Q I hw => (pts_nil (X := X)).run pins s σ H Q I ?_⟩
    obtain ⟨w, env, M, b, M', R, E, e, q⟩ := hw
    cases e
    exact q w H (Fut.refl w H) R
  | .cons e .nil, X, sc, fn, g, h => by
    simp only [okEs, Bool.and_eq_true, Bool.not_eq_true', and_true] at h
    have he := sE e g h.1
    refine ⟨a_cons he.1 a_nil h.2, fun _ w pos => ⟨e_bool1 he.1, fun t => ?_⟩, fun t _ => ?_⟩
    · simp only [testBs, Bool.and_eq_true] at t
      exact w_bool1 (he.2 t.1)
    · simp only [testBs, Bool.and_eq_true] at t
      have ht := he.2 t.1
      refine ⟨fun pins s σ H Q I hw => (pts_one ht).run pins s σ H Q I ?_⟩
      obtain ⟨w, env, M, b, M', R, E, e1, q⟩ := hw
      refine ⟨w, env, M, b, M', R, E, ?_, q⟩
      simp only [evIfs] at e1
      split at e1
      · rename_i h1; cases e1; exact h1
      · rename_i h1; cases e1; exact h1
      · cases e1
  | .cons e (.cons e' es), X, sc, fn, g, h => by
    have hh := h
    simp only [okEs, Bool.and_eq_true, Bool.not_eq_true'] at h
    have he := sE e g h.1.1
    have hr := sEs (.cons e' es) g (by simp only [okEs, Bool.and_eq_true, Bool.not_eq_true']; exact h.2)
    refine ⟨a_cons he.1 hr.1 h.1.2, fun _ w pos => ⟨?_, fun t => ?_⟩, fun _ t => by cases t⟩
    · have := e_bool he.1 (hr.2.1 rfl w pos).1
      exact this
    · have t' : testBs T (.cons e (.cons e' es)) = (testB T e && testBs T (.cons e' es)) := rfl
      rw [t', Bool.and_eq_true] at t
      have := w_bool (he.2 t.1) ((hr.2.1 rfl w pos).2 t.2)
      rw [tT_eq (f := fun env M => tru (evBool k w (.cons e (.cons e' es)) env M)) tru_bool2]
      exact this
theorem sF : ∀ (f : FL) {X : Cx} {sc : Scope} {fn : Str → Bool}, Good nm N j k X sc fn → okF T nm N sc fn f = true → PE X (pyF T f) (tF (fr X) (evF k f))
  | .disp es p, X, sc, fn, g, h => by
    simp only [okF] at h
    exact f_disp (sEs es g h).1
  | .lc tg it ifs elt p, X, sc, fn, g, h => by
    simp only [okF, Bool.and_eq_true, Bool.not_eq_true'] at h
    obtain ⟨⟨⟨⟨⟨⟨⟨h1, h2⟩, h3⟩, h4⟩, h5⟩, h6⟩, h7⟩, h8⟩ := h
    have own : (ownOf N tg.own).map (·.2) = tg.own := by simp [ownOf, Function.comp_def]
    have hb : BlkOk X.N X.env.scope (T.at p).sc (ownOf N tg.own) := by rw [g.N, g.sc]; exact blkOk_by h7
    have := f_lc (X := X) (elt := py T elt) (scope := (T.at p).sc) (pos := (T.at p).a) g.calm g.nd (sI it tg g h1) hb (pt := put tg) (ft := evIfs k ifs) (fe := ev k elt) (tg := pyG T tg) (ifs := pys T ifs)
      (fun s H C cl fp => by rw [own]; exact sG tg (g.blk s H _ C cl fp) h2) (fun s H C cl fp => (sEs ifs (g.blk s H _ C cl fp) h3).2.2 h4 h5) (fun s H C cl fp => (sE elt (g.blk s H _ C cl fp) h6).1) (nofold h8)
    rw [own] at this
    exact this
  | .listOf a p, X, sc, fn, g, h => by
    simp only [okF, Bool.and_eq_true, Bool.not_eq_true'] at h
    exact f_listOf g.calm (g.gl h.1.1) (g.fr (by decide +kernel)) (sE a g h.1.2).1 h.2
  | .revL a p, X, sc, fn, g, h => by
    simp only [okF] at h
    exact f_revL (sE a g h).1
  | .srtC a p, X, sc, fn, g, h => by
    simp only [okF, Bool.and_eq_true, Bool.not_eq_true'] at h
    exact f_srtC g.un (g.gl h.1.1) (g.fr (by decide +kernel)) (sE a g h.1.2).1 h.2
  | .srtS (.lc tg it ifs elt q) p, X, sc, fn, g, h => by
    simp only [okF, Bool.and_eq_true, Bool.not_eq_true'] at h
    obtain ⟨⟨hs, _⟩, ⟨⟨⟨⟨⟨⟨⟨h1, h2⟩, h3⟩, h4⟩, h5⟩, h6⟩, h7⟩, h8⟩⟩ := h
    have own : (ownOf N tg.own).map (·.2) = tg.own := by simp [ownOf, Function.comp_def]
    have hb : BlkOk X.N X.env.scope (T.at q).sc (ownOf N tg.own) := by rw [g.N, g.sc]; exact blkOk_by h7
    have := f_srtS (X := X) (elt := py T elt) (scope := (T.at q).sc) (pos2 := (T.at q).a) (p := (T.at p).b) (pos := (T.at p).a) g.un (g.gl hs) (g.fr (by decide +kernel)) g.calm g.nd (sI it tg g h1) hb (pt := put tg) (ft := evIfs k ifs) (fe := ev k elt) (tg := pyG T tg) (ifs := pys T ifs)
      (fun s H C cl fp => by rw [own]; exact sG tg (g.blk s H _ C cl fp) h2) (fun s H C cl fp => (sEs ifs (g.blk s H _ C cl fp) h3).2.2 h4 h5) (fun s H C cl fp => (sE elt (g.blk s H _ C cl fp) h6).1) (nofold h8)
    rw [own] at this
    exact this
  | .srtS (.disp ..) p, X, sc, fn, g, h => by simp [okF, lcF] at h
  | .srtS (.listOf ..) p, X, sc, fn, g, h => by simp [okF, lcF] at h
  | .srtS (.revL ..) p, X, sc, fn, g, h => by simp [okF, lcF] at h
  | .srtS (.srt ..) p, X, sc, fn, g, h => by simp [okF, lcF] at h
  | .srtS (.srtC ..) p, X, sc, fn, g, h => by simp [okF, lcF] at h
  | .srtS (.srtS ..) p, X, sc, fn, g, h => by simp [okF, lcF] at h
  | .srtS (.add ..) p, X, sc, fn, g, h => by simp [okF, lcF] at h
  | .srtS (.repL ..) p, X, sc, fn, g, h => by simp [okF, lcF] at h
  | .srtS (.slc ..) p, X, sc, fn, g, h => by simp [okF, lcF] at h
  | .srt a p, X, sc, fn, g, h => by
    simp only [okF, Bool.and_eq_true, Bool.not_eq_true'] at h
    exact f_srt g.un (g.gl h.1.1) (g.fr (by decide +kernel)) (sE a g h.1.2).1 h.2
  | .repL a b p, X, sc, fn, g, h => by
    simp only [okF, Bool.and_eq_true] at h
    exact f_repL (sE a g h.1).1 (sE b g h.2).1
  | .add a b p, X, sc, fn, g, h => by
    simp only [okF, Bool.and_eq_true] at h
    exact f_add (sE a g h.1).1 (sE b g h.2).1
  | .slc a lo hi p, X, sc, fn, g, h => by
    simp only [okF, Bool.and_eq_true] at h
    exact f_slc (sE a g h.1.1).1 (sO lo g h.1.2) (sO hi g h.2)
theorem sI : ∀ (it : It) {X : Cx} {sc : Scope} {fn : Str → Bool} (tg : G), Good nm N j k X sc fn → okI T nm N sc fn tg.isTup it = true → PI X (pyG T tg) (pyI T it) (tI (fr X) (evIt k it))
  | .val e, X, sc, fn, tg, g, h => by
    simp only [okI] at h
    exact i_val (sE e g h).1
  | .rng1 a p, X, sc, fn, tg, g, h => by
    simp only [okI, Bool.and_eq_true, Bool.not_eq_true'] at h
    exact i_rng1 (g.gl h.1.1) (g.fr (by decide +kernel)) (sE a g h.1.2).1 h.2
  | .rng2 a b p, X, sc, fn, tg, g, h => by
    simp only [okI, Bool.and_eq_true, Bool.not_eq_true'] at h
    exact i_rng2 (g.gl h.1.1.1.1) (g.fr (by decide +kernel)) (sE a g h.1.1.1.2).1 (sE b g h.1.2).1 h.1.1.2 h.2
  | .rng3 a b c p, X, sc, fn, tg, g, h => by
    simp only [okI, Bool.and_eq_true, Bool.not_eq_true'] at h
    exact i_rng3 (g.gl h.1.1.1.1.1.1) (g.fr (by decide +kernel)) (sE a g h.1.1.1.1.1.2).1 (sE b g h.1.1.1.2).1 (sE c g h.1.2).1 h.1.1.1.1.2 h.1.1.2 h.2
  | .enum a p, X, sc, fn, tg, g, h => by
    simp only [okI, Bool.and_eq_true, Bool.not_eq_true'] at h
    cases tg with
    | name => cases h.1.1.1
    | tup gs p2 => exact i_enum (g.gl h.1.1.2) (g.fr (by decide +kernel)) (sE a g h.1.2).1 h.2
  | .enum2 a p, X, sc, fn, tg, g, h => by
    simp only [okI, Bool.and_eq_true, Bool.not_eq_true'] at h
    cases tg with
    | name => cases h.1.1.1
    | tup gs p2 => exact i_enum2 (g.gl h.1.1.2) (g.fr (by decide +kernel)) (sE a g h.1.2).1 h.2
  | .enumZip a b p, X, sc, fn, tg, g, h => by
    simp only [okI, Bool.and_eq_true, Bool.not_eq_true'] at h
    cases tg with
    | name => cases h.1.1.1.1.1.1
    | tup gs p2 => exact i_ez (g.gl h.1.1.1.1.1.2) (g.fr (by decide +kernel)) (g.gl h.1.1.1.1.2) (g.fr (by decide +kernel)) (sE a g h.1.1.1.2).1 (sE b g h.1.2).1 h.1.1.2 h.2
  | .zip a b p, X, sc, fn, tg, g, h => by
    simp only [okI, Bool.and_eq_true, Bool.not_eq_true'] at h
    cases tg with
    | name => cases h.1.1.1.1.1
    | tup gs p2 => exact i_zip (g.gl h.1.1.1.1.2) (g.fr (by decide +kernel)) (sE a g h.1.1.1.2).1 (sE b g h.1.2).1 h.1.1.2 h.2
end
end
end Ev

set_option autoImplicit false
set_option linter.all false
set_option maxRecDepth 100000
set_option maxHeartbeats 400000
/-! Ev: statements that are looked at; functions. -/
namespace Ev
open PySem PySem.Spec PyProof.Rows L2
section
variable {T : Tab} {nm : Nm} {N : List Str} {j : Nat} {k : CallF}
theorem kind_eq {env : PySem.Env} {x : Str} (h : env.scope.names.lookup x = some .local) : (env.kindOf x == some NameKind.local) = true := by
  show (env.scope.names.lookup x == some NameKind.local) = true
  rw [h]; rfl
theorem sw_par {env : PySem.Env} {a b : Expr} {q : Pay} {pt pt2 : Pos} (hb : env.blockKind = .function) (h : parB env.scope a b q = 2) :
    swappedStores [.Tuple [.Name q.x q.b, .Name q.y q.c] 0 pt] (.Tuple [a, b] 0 pt2) env = pure (some [q.x, q.y]) := by
  unfold parB at h
  split at h
  · rename_i hc
    simp only [Bool.and_eq_true, Bool.not_eq_true', beq_iff_eq] at hc
    obtain ⟨⟨⟨⟨⟨⟨h1, h2⟩, h3⟩, h4⟩, h5⟩, h6⟩, h7⟩ := hc
    have k1 := kind_eq (local_of h1)
    have k2 := kind_eq (local_of h2)
    split at h
    · cases h
    · rename_i hf
      split at h
      · cases h
      · rename_i hc2
        unfold swappedStores
        have f2 : [a, b].all (foldedForSure 8) = false := by
          simp only [List.all_cons, List.all_nil, Bool.and_true]
          exact Bool.eq_false_iff.mpr hf
        have c2 : [a, b].all (constantsAlone 8) = false := by
          simp only [List.all_cons, List.all_nil, Bool.and_true]
          exact Bool.eq_false_iff.mpr hc2
        have dd : [q.x, q.y].eraseDups.length = 2 := by
          have : (q.y == q.x) = false := by
            rw [Bool.eq_false_iff]
            intro z
            rw [beq_iff_eq] at z
            rw [z] at h5
            simp at h5
          simp [List.eraseDups_cons, this]
        have h4' : (q.c.line == q.b.line) = true := by rw [h4]; exact beq_self_eq_true _
        simp only [hb, f2, c2, List.filterMap_cons, List.filterMap_nil, k1, k2, List.head?_cons, Option.map_some, Option.getD_some, Expr.pos, h4', beq_self_eq_true, Bool.and_self, if_true, List.length_cons, List.length_nil, dd]
        rw [if_neg (by decide), if_neg ?_]
        · rfl
        · simp only [List.any_cons, List.any_nil, Bool.or_false, Bool.or_eq_true]
          rintro (z | z)
          · cases a <;> first | (cases z; done) | (cases h6; done)
          · cases b <;> first | (cases z; done) | (cases h7; done)
  · cases h
theorem sw_none {env : PySem.Env} {es : List Expr} {kk : Nat} {p : Pos} {e : Expr} (h : isTupE e = false) : swappedStores [.Tuple es kk p] e env = pure none := by
  cases e <;> first | rfl | cases h
theorem sw_par3 {env : PySem.Env} {a b c : Expr} {q r : Pay} {pt pt2 : Pos} (hb : env.blockKind = .function) (h : par3B env.scope a b c q r = true) :
    swappedStores [.Tuple [.Name q.x q.b, .Name q.y q.c, .Name r.x r.b] 0 pt] (.Tuple [a, b, c] 0 pt2) env = pure (some [q.x, q.y, r.x]) := by
  unfold par3B at h
  simp only [Bool.and_eq_true, Bool.not_eq_true', beq_iff_eq] at h
  obtain ⟨⟨⟨⟨⟨⟨⟨⟨⟨⟨⟨⟨h1, h2⟩, h3⟩, h4⟩, h5⟩, h6⟩, h7⟩, h8⟩, h9⟩, h10⟩, h11⟩, h12⟩, h13⟩ := h
  have k1 := kind_eq (local_of h1)
  have k2 := kind_eq (local_of h2)
  have k3 := kind_eq (local_of h3)
  unfold swappedStores
  have f2 : [a, b, c].all (foldedForSure 8) = false := by
    simp only [List.all_cons, List.all_nil, Bool.and_true, ← Bool.and_assoc]
    exact h12
  have c2 : [a, b, c].all (constantsAlone 8) = false := by
    simp only [List.all_cons, List.all_nil, Bool.and_true, ← Bool.and_assoc]
    exact h13
  have fl : ∀ {x y : Str}, (x == y) = false → (y == x) = false := fun {x y} e => by
    rw [Bool.eq_false_iff]
    intro z
    rw [beq_iff_eq] at z
    rw [z] at e
    simp at e
  have dd : [q.x, q.y, r.x].eraseDups.length = 3 := by
    simp [List.eraseDups_cons, fl h6, fl h7, fl h8]
  have h4' : (q.c.line == q.b.line) = true := by rw [h4]; exact beq_self_eq_true _
  have h5' : (r.b.line == q.b.line) = true := by rw [h5]; exact beq_self_eq_true _
  simp only [hb, f2, c2, List.filterMap_cons, List.filterMap_nil, k1, k2, k3, List.head?_cons, Option.map_some, Option.getD_some, Expr.pos, h4', h5', beq_self_eq_true, Bool.and_self, if_true, List.length_cons, List.length_nil, dd]
  rw [if_neg (by decide), if_neg ?_]
  · rfl
  · simp only [List.any_cons, List.any_nil, Bool.or_false, Bool.or_eq_true]
    rintro (z | z | z)
    · cases a <;> first | (cases z; done) | (cases h9; done)
    · cases b <;> first | (cases z; done) | (cases h10; done)
    · cases c <;> first | (cases z; done) | (cases h11; done)
theorem len_fm {α β : Type} {f : α → Option β} : ∀ {l : List α}, (∃ a ∈ l, f a = none) → (l.filterMap f).length < l.length
  | [], h => by obtain ⟨_, h, _⟩ := h; cases h
  | a :: l, h => by
    obtain ⟨b, hb, hn⟩ := h
    have hle := List.length_filterMap_le f l
    rw [List.filterMap_cons]
    cases hf : f a with
    | none => simp only [List.length_cons]; omega
    | some c =>
      rcases List.mem_cons.mp hb with rfl | hb
      · rw [hn] at hf; cases hf
      · have := len_fm ⟨b, hb, hn⟩
        simp only [List.length_cons]; omega
theorem sw_none2 {env : PySem.Env} {es : List Expr} {kk : Nat} {p : Pos} {e : Expr} (h : es.any (fun x => !locName env.scope x) = true) : swappedStores [.Tuple es kk p] e env = pure none := by
  cases e <;> first | rfl | skip
  rename_i vs k2 p2
  have hx : ∀ line : Nat, (es.filterMap fun
    | Expr.Name id pos => if env.kindOf id == some .local && pos.line == line then some id else none
    | _ => none).length < es.length := fun line => by
    refine len_fm ?_
    obtain ⟨x, hx, hn⟩ := List.any_eq_true.mp h
    refine ⟨x, hx, ?_⟩
    cases x <;> first | rfl | skip
    rename_i id ps
    have : (env.kindOf id == some NameKind.local) = false := by
      simp only [locName, Bool.not_eq_true'] at hn
      exact hn
    simp only [this, Bool.false_and, Bool.false_eq_true, if_false]
  have hb : ∀ line : Nat, ((es.filterMap fun
    | Expr.Name id pos => if env.kindOf id == some .local && pos.line == line then some id else none
    | _ => none).length != es.length) = true := fun line => bne_iff_ne.mpr (Nat.ne_of_lt (hx line))
  unfold swappedStores
  by_cases c1 : (!(es.length == 2 || es.length == 3) || vs.length != es.length || env.blockKind != .function) = true
  · simp only [if_pos c1]
  · simp only [if_neg c1]
    split
    · rfl
    · rw [if_pos]
      rw [Bool.or_eq_true]
      exact .inl (hb _)
theorem bk_fn {env : PySem.Env} (h : env.scope.kind = .function) : env.blockKind = .function := by unfold Env.blockKind; rw [h]; rfl
/-- name = a list of a comprehension -/
theorem s_setLc {X : Cx} {sc : Scope} (g : Good nm N j k X sc (fun _ => true)) (hk : sc.kind = .function) {i : Nat} {y : Str} {py' : Pos} (hi : X.N[i]? = some y) (hx : Loc X.env.scope y) (hf : X.fn y = true ∨ X.env.scope.names.lookup y = some .local) {tg : G} {it : It} {ifs : EL} {elt : E} {p : Nat} {spos : Pos} (h : okF T nm N sc (fun _ => true) (.lc tg it ifs elt p) = true)
    (f : Env → Mem → Res D) (fimp : ∀ σ H Q, tE (fr X) f σ H Q → tF (fr X) (evF k (.lc tg it ifs elt p)) σ H Q) : PS X (.Assign [.Name y py'] (pyF T (.lc tg it ifs elt p)) spos) (tS (fr X) fun env M => match f env M with
    | some (d, M1) => match ptN i d env with
      | some env' => some (.nx env', M1)
      | none => none
    | none => none) := by
  have hl := sF (.lc tg it ifs elt p) g h
  have hs := sw_lc (elt := py T elt) (gs := [⟨pyG T tg, pyI T it, pys T ifs, 0⟩]) (scope := (T.at p).sc) (pos := (T.at p).a) (py := py') (y := y) (l := spos.line) hk g.sc
  cases hsw : swLc sc (T.at p).sc (T.at p).a py' y with
  | false =>
    rw [hsw] at hs
    exact s_set g.nd hi hx (imp_e hl fimp) hs hf
  | true =>
    rw [hsw] at hs
    simp only [okF, Bool.and_eq_true, Bool.not_eq_true'] at h
    obtain ⟨⟨⟨⟨⟨⟨⟨h1, h2⟩, h3⟩, h4⟩, h5⟩, h6⟩, h7⟩, h8⟩ := h
    have own : (ownOf N tg.own).map (·.2) = tg.own := by simp [ownOf, Function.comp_def]
    have hb : BlkOk X.N X.env.scope (T.at p).sc (ownOf N tg.own) := by rw [g.N, g.sc]; exact blkOk_by h7
    have hyl : X.env.scope.names.lookup y = some .local := by
      rw [g.sc]
      simp only [swLc, Bool.and_eq_true, decide_eq_true_eq] at hsw
      exact hsw.1.1.2
    have := ps_setLc (X := X) (i := i) (y := y) (py := py') (spos := spos) (elt := py T elt) (scope := (T.at p).sc) (pos := (T.at p).a) g.calm g.nd hi hyl hs (sI it tg g h1) hb (tt := tT (fr X) (evIfs k ifs)) (te := tE (fr X) (ev k elt)) (g := tG (fr X) ((ownOf N tg.own).map (·.2)) (put tg)) (tg := pyG T tg) (ifs := pys T ifs)
      (fun s H C cl fp => by rw [own]; exact sG tg (g.blk s H _ C cl fp) h2) (fun s H C cl fp => (sEs ifs (g.blk s H _ C cl fp) h3).2.2 h4 h5) (fun s H C cl fp => (sE elt (g.blk s H _ C cl fp) h6).1) (nofold h8)
    refine imp_s this fun D σ H q => asg_imp (fun σ H Q z => ?_) gname_imp q
    have z2 := fimp σ H Q z
    have e : evF k (.lc tg it ifs elt p) = fLc (evIt k it) tg.own (put tg) (evIfs k ifs) (ev k elt) := rfl
    rw [e, ← own] at z2
    exact lc_imp σ H Q z2
mutual
theorem sS : ∀ (s : S) {n : Nat} {X : Cx} {sc : Scope}, Good nm N j k X sc (fun _ => true) → sc.kind = .function → (∀ e s, ¬ X.xe e s) → okS T nm N sc s = true → PS X (pyS T s) (tS (fr X) (ex k n s))
  | .nev p, n, X, sc, g, hk, hx, h => s_nev
  | .asg (.name i p1) e p, n, X, sc, g, hk, hx, h => by
    simp only [okS, okG, Bool.and_eq_true] at h
    obtain ⟨⟨⟨⟨h1, h2⟩, h3⟩, h4⟩, h5⟩ := h
    have hi := name_of g h1
    have hl := g.loc h2
    have hf := fn_or g h3
    have nocomp : isComp (py T e) = false → PS X (pyS T (.asg (.name i p1) e p)) (tS (fr X) (ex k n (.asg (.name i p1) e p))) := fun hc => s_set g.nd hi hl (sE e g h4).1 (sw_no hc) hf
    cases e with
    | inl f =>
      cases f with
      | lc tg it ifs elt p2 =>
        simp only [okE] at h4
        exact s_setLc g hk hi hl hf h4 (ev k (.inl (.lc tg it ifs elt p2))) inl_imp
      | _ => exact nocomp rfl
    | cel f =>
      cases f with
      | lc tg it ifs elt p2 =>
        simp only [okE] at h4
        exact s_setLc g hk hi hl hf h4 (ev k (.cel (.lc tg it ifs elt p2))) cel_imp
      | _ => exact nocomp rfl
    | _ =>
      simp only [lcB, Bool.false_or, Bool.not_eq_true'] at h5
      exact nocomp h5
  | .asg (.tup gs p1) e p, n, X, sc, g, hk, hx, h => by
    simp only [okS, Bool.and_eq_true] at h
    have hsw : swappedStores [pyG T (.tup gs p1)] (py T e) X.env = pure none := by
      have h2 := h.2
      rw [Bool.or_eq_true] at h2
      rcases h2 with h2 | h2
      · exact sw_none (by simpa using h2)
      · exact sw_none2 (by rw [g.sc]; exact h2)
    exact s_asg (sE e g h.1.2).1 (sG (.tup gs p1) g h.1.1) sw_tup hsw rfl
  | .par i m a b p, n, X, sc, g, hk, hx, h => by
    simp only [okS, Bool.and_eq_true, decide_eq_true_eq, beq_iff_eq] at h
    obtain ⟨⟨⟨⟨⟨h1, h2⟩, h3⟩, h4⟩, h5⟩, h6⟩ := h
    have hh := h6
    unfold parB at hh
    split at hh
    · rename_i hc
      simp only [Bool.and_eq_true, Bool.not_eq_true'] at hc
      obtain ⟨⟨⟨⟨⟨⟨c1, c2⟩, _⟩, _⟩, c5⟩, c6⟩, c7⟩ := hc
      have hb : X.env.blockKind = .function := bk_fn (by rw [g.sc]; exact hk)
      exact s_par g.calm g.nd (by rw [g.N]; exact h3) (by rw [g.N]; exact h4) h5 (g.loc' c1) (g.loc' c2) (sE a g h1).1 (sE b g h2).1 c6 c7 (sw_par hb (by rw [g.sc]; exact h6))
    · cases hh
  | .par3 i m l a b c p, n, X, sc, g, hk, hx, h => by
    simp only [okS, Bool.and_eq_true, decide_eq_true_eq] at h
    obtain ⟨⟨⟨⟨⟨⟨⟨⟨⟨h1, h2⟩, h3⟩, h4⟩, h5⟩, h6⟩, h7⟩, h8⟩, h9⟩, h10⟩ := h
    have hh := h10
    unfold par3B at hh
    simp only [Bool.and_eq_true, Bool.not_eq_true'] at hh
    obtain ⟨⟨⟨⟨⟨⟨⟨⟨⟨⟨⟨⟨c1, c2⟩, c3⟩, _⟩, _⟩, _⟩, _⟩, _⟩, c9⟩, c10⟩, c11⟩, _⟩, _⟩ := hh
    have hb : X.env.blockKind = .function := bk_fn (by rw [g.sc]; exact hk)
    exact s_par3 g.calm g.nd (by rw [g.N]; exact h4) (by rw [g.N]; exact h5) (by rw [g.N]; exact h6) h7 h8 h9 (g.loc' c1) (g.loc' c2) (g.loc' c3) (sE a g h1).1 (sE b g h2).1 (sE c g h3).1 c9 c10 c11 (sw_par3 hb (by rw [g.sc]; exact h10))
  | .sub o i e p, n, X, sc, g, hk, hx, h => by
    simp only [okS, Bool.and_eq_true, Bool.not_eq_true'] at h
    exact s_sub (sE e g h.1.2).1 (sE o g h.1.1.1).1 (sE i g h.1.1.2).1 h.2
  | .subD o i e p, n, X, sc, g, hk, hx, h => by
    simp only [okS, Bool.and_eq_true, Bool.not_eq_true'] at h
    exact s_subD g.un (sE e g h.1.2).1 (sE o g h.1.1.1).1 (sE i g h.1.1.2).1 h.2
  | .aug i o e p, n, X, sc, g, hk, hx, h => by
    simp only [okS, Bool.and_eq_true] at h
    refine s_aug g.nd (name_of g h.1.1.1) (g.loc h.1.1.2) (sE e g h.1.2).1 (.inl (g.fn _ rfl)) ?_
    cases o <;> first | exact .inl rfl | exact .inr rfl | exact absurd h.2 (by decide)
  | .ex e p, n, X, sc, g, hk, hx, h => by
    simp only [okS, Bool.and_eq_true, Bool.not_eq_true'] at h
    exact s_ex (sE e g h.1).1 h.2
  | .iff c a b p, n, X, sc, g, hk, hx, h => by
    simp only [okS, Bool.and_eq_true] at h
    exact s_iff ((sE c g h.1.1.1).2 h.1.1.2) (sSs a g hk hx h.1.2) (sSs b g hk hx h.2)
  | .for_ t it b p, n, X, sc, g, hk, hx, h => by
    simp only [okS, Bool.and_eq_true, Bool.not_eq_true'] at h
    exact s_for (fun e s z => absurd z (hx e s)) g.calm (sI it t g h.1.1.2) (sG t g h.1.1.1) (sSs b g hk hx h.1.2) (nofold h.2)
  | .whl c b p, n, X, sc, g, hk, hx, h => by
    simp only [okS, Bool.and_eq_true] at h
    exact s_whl (n := n) (fun e s z => absurd z (hx e s)) ((sE c g h.1.1).2 h.1.2) (sSs b g hk hx h.2)
  | .ret e p, n, X, sc, g, hk, hx, h => by
    simp only [okS] at h
    exact s_ret (sE e g h).1
  | .pass p, n, X, sc, g, hk, hx, h => s_pass
  | .brk p, n, X, sc, g, hk, hx, h => s_brk
  | .cont p, n, X, sc, g, hk, hx, h => s_cont
theorem sSs : ∀ (ss : SL) {n : Nat} {X : Cx} {sc : Scope}, Good nm N j k X sc (fun _ => true) → sc.kind = .function → (∀ e s, ¬ X.xe e s) → okSs T nm N sc ss = true → PSs X (pySs T ss) (tS (fr X) (exs k n ss))
  | .nil, n, X, sc, g, hk, hx, h => ss_nil
  | .cons s ss, n, X, sc, g, hk, hx, h => by
    simp only [okSs, Bool.and_eq_true] at h
    exact ss_cons (sS s g hk hx h.1) (sSs ss g hk hx h.2)
end
end
end Ev

set_option autoImplicit false
set_option linter.all false
set_option maxRecDepth 100000
set_option maxHeartbeats 400000
/-! Ev: functions by the depth of their calls. -/
namespace Ev
open PySem PySem.Spec PyProof.Rows L2
section
variable {K : Fr} {w w' : Wd}
/-- the cells that were made since are forgotten -/
abbrev Wd.back (w' : Wd) (ν : List Addr) : Wd := { w' with ν := ν }
mutual
theorem Den.back {l : List Addr} (e : w'.ν = w.ν ++ l) : ∀ {v0 v : V} {d : D}, Den K w v0 d → Den K w' v d → Den K (w'.back w.ν) v d
  | _, _, _, _, .non => .non
  | _, _, _, _, .bl b => .bl b
  | _, _, _, _, .int i => .int i
  | _, _, _, _, .str x => .str x
  | _, _, _, _, .ty t => .ty t
  | _, _, _, h0, .tup h r => by
    cases h0 with
    | tup _ r0 => exact .tup h (Dens.back e r0 r)
  | _, _, _, h0, .lst h r => by
    cases h0 with
    | lst _ r0 => exact .lst h (Dens.back e r0 r)
  | _, _, _, h0, .dic h r1 r2 => by
    cases h0 with
    | dic _ s1 s2 => exact .dic h (Dens.back e s1 r1) (Dens.back e s2 r2)
  | _, _, _, h0, .cell h => by
    cases h0 with
    | cell g =>
      have := nu_get e g
      rw [h] at this; cases this
      exact .cell g
  | _, _, _, _, .strm h => .strm h
  | _, _, _, _, .scr h => .scr h
  | _, _, _, _, .rng h => .rng h
theorem Dens.back {l : List Addr} (e : w'.ν = w.ν ++ l) : ∀ {vs0 vs : List V} {ds : List D}, Dens K w vs0 ds → Dens K w' vs ds → Dens K (w'.back w.ν) vs ds
  | _, _, _, _, .nil => .nil
  | _, _, _, h0, .cons h r => by
    cases h0 with
    | cons h1 r1 => exact .cons (Den.back e h1 h) (Dens.back e r1 r)
end
theorem cbeq_eq : ∀ {x y : C}, C.beq x y = true → x = y
  | .dead, .dead, _ => rfl
  | .lst xs, .lst ys, h => by rw [beqs_eq (show D.beqs xs ys = true from h)]
  | .dic ks vs, .dic js ws, h => by
    simp only [C.beq, Bool.and_eq_true] at h
    rw [beqs_eq h.1, beqs_eq h.2]
  | .dead, .lst _, h => by simp [C.beq] at h
  | .dead, .dic _ _, h => by simp [C.beq] at h
  | .lst _, .dead, h => by simp [C.beq] at h
  | .lst _, .dic _ _, h => by simp [C.beq] at h
  | .dic _ _, .dead, h => by simp [C.beq] at h
  | .dic _ _, .lst _, h => by simp [C.beq] at h
theorem beqC_eq : ∀ {xs ys : List C}, beqC xs ys = true → xs = ys
  | [], [], _ => rfl
  | [], _ :: _, h => by simp [beqC] at h
  | _ :: _, [], h => by simp [beqC] at h
  | x :: xs, y :: ys, h => by
    simp only [beqC, Bool.and_eq_true] at h
    rw [cbeq_eq h.1, beqC_eq h.2]
theorem trim_ok {H H' : Hp} {M M0 M' : Mem} {d0 d : D} {v : V} (R : Rp K w M H) (f : Fut w H w' H') (R' : Rp K w' M0 H') (dv : Den K w' v d0) (e : trim M.S d0 M0 = (d, M')) : ∃ w2, Fut w H w2 H' ∧ Rp K w2 M' H' ∧ Den K w2 v d := by
  unfold trim at e
  split at e
  · cases e; exact ⟨w', f, R', dv⟩
  · split at e
    · rename_i hb
      rw [Bool.and_eq_true] at hb
      have ht := beqC_eq hb.2
      cases e
      obtain ⟨l, e1, n1⟩ := f.nu
      refine ⟨w'.back w.ν, ⟨⟨[], by simp, by simp⟩, f.F, f.new, f.s, f.keep, f.there⟩, ⟨R'.same, R.len, R.nd, fun c o a h1 h2 => ?_, ?_⟩, Den.nocell (w := w') (w' := w'.back w.ν) (fun _ _ h => h) (fun _ _ h => h) hb.1 dv⟩
      · have h3 : M0.S[c]? = some o := by
          have hc : c < M.S.length := (List.getElem?_eq_some_iff.mp h1).1
          have : (M0.S.take M.S.length)[c]? = some o := by rw [ht]; exact h1
          rwa [List.getElem?_take_of_lt hc] at this
        have q := R'.cells c o a h3 (nu_get e1 h2)
        have q0 := R.cells c o a h1 h2
        cases o with
        | dead => exact q
        | lst ds =>
          obtain ⟨g, vs, g1, g2⟩ := q
          obtain ⟨_, vs0, _, g3⟩ := q0
          exact ⟨g, vs, g1, g3.back e1 g2⟩
        | dic _ _ =>
          obtain ⟨g, vs, g1, g2, g4⟩ := q
          obtain ⟨_, vs0, _, g3, g5⟩ := q0
          exact ⟨g, vs, g1, g3.back e1 g2, g5.back e1 g4⟩
      · have q := R'.st
        show match M0.st with
          | none => (w'.back w.ν).s = none
          | some t => _
        cases hm : M0.st with
        | none => rw [hm] at q; exact q
        | some t =>
          rw [hm] at q
          obtain ⟨p, b, e, h1, h2, h3, h4, h5, h6, h7⟩ := q
          rw [e1, List.mem_append, not_or] at h6 h7
          exact ⟨p, b, e, h1, h2, h3, h4, h5, h6.1, h7.1⟩
    · cases e; exact ⟨w', f, R', dv⟩
theorem start_ok {N : List Str} {w : Wd} {vs : List V} {ds : List D} (r : Dens K w vs ds) (hl : ds.length ≤ N.length) : EnvOk K w (L2.start N vs) (ds.map some ++ List.replicate (N.length - ds.length) none) := by
  refine ⟨by simp [L2.start, r.length], fun i d h => ?_⟩
  by_cases hi : i < ds.length
  · rw [List.getElem?_append_left (by simpa using hi), List.getElem?_map, Option.map_eq_some_iff] at h
    obtain ⟨d', h1, h2⟩ := h
    cases h2
    obtain ⟨v, h3, h4⟩ := r.get h1
    refine ⟨v, ?_, h4⟩
    unfold L2.start
    rw [List.getElem?_append_left (by simpa [r.length] using hi), List.getElem?_map, h3]; rfl
  · rw [List.getElem?_append_right (by simpa using hi), List.getElem?_replicate] at h
    split at h <;> cases h
end
/-- what is seen of a def's text and of its code -/
structure Txt (nm : Nm) (fn : Fn) (st : Stmt) (ps : List Str) where
  T : Tab
  N : List Str
  np : fn.np = ps.length
  ns : fn.ns = N.length
  le : ps.length ≤ N.length
  body : pySs T fn.body = C8.fnBody st
  kind : (C8.fnScope st).kind = .function
  sc : C8.scC N ps (C8.fnScope st) = true
  ok : okSs T nm N (C8.fnScope st) fn.body = true
/-- what stands behind the top for a function: its object, how it binds -/
structure FnC (K : PySem.W.Frag) (mg : Str → Option Value) (x : Str) (st : Stmt) (ps : List Str) (shs : List (List Nat)) : Prop where
  ex : ∃ (a : Addr) (fd : FuncData), C8.Fun K x x st a fd ∧ mg x = some (.ref a) ∧ PySem.W.keepIn K (.ref a) = true ∧ Binds K fd ps [] ∧
    ∀ is ∈ shs, KBn K fd ps (ps.length - is.length) (is.map fun i => ps.getD i "") (fun us ws => us ++ reord us.length is ws) (fun us ws => us ++ reord us.length is ws)
section
variable {P : Program} {wo : World} {K : PySem.W.Frag} {mg : Str → Option Value} {base : Heap} {nm : Nm} {tbl : Nat → Option Ent} {n : Nat}
theorem FnAt.zero {f : Nat} {x : Str} {st : Stmt} {ps : List Str} {shs : List (List Nat)} (F : FnC K mg x st ps shs) : FnAt P wo K mg base 0 (callN tbl n 0) f x ps shs := by
  obtain ⟨a, fd, h1, h2, h3, h4, h5⟩ := F.ex
  refine ⟨a, fd, ⟨fun vs H Q E h => h.1, fun A outer s H args us vs Q E _ _ _ _ h => ?_⟩, h2, h3, h4, h5⟩
  obtain ⟨_, w, M, ds, d, M', _, _, e, _⟩ := h
  simp [callN] at e
/-- a def of the table by its text -/
theorem fn_code {j f : Nat} {x : Str} {st : Stmt} {ps : List Str} {a : Addr} {fd : FuncData} {fn : Fn} (h1 : C8.Fun K x x st a fd) (t : tbl f = some (.code fn)) (X : Txt nm fn st ps) (free : ∀ x ∈ blts, mg x = none)
    (ih : ∀ f x ps shs, nm f = some (x, ps, shs) → FnAt P wo K mg base j (callN tbl n j) f x ps shs) : FnOk P wo K mg base C8.CX0 (j + 1) a fd ps (spF ⟨K, P, wo⟩ (callN tbl n (j + 1)) f ps.length) := by
  have S := C8.fnScope_by X.sc
  refine C8.fn0 (N := X.N) h1 S (fun vs H Q E h => h.1) fun cdv A outer s H vs Q E hr h => ?_
  obtain ⟨hl, w, M, ds, d, M', R, dv, e, q⟩ := h
  refine ⟨tS ⟨K, P, wo⟩ (exs (callN tbl n j) n fn.body), ?_, ?_⟩
  · rw [← X.body]
    exact sSs (N := X.N) (j := j) fn.body ⟨rfl, rfl, S.nd, hr, rfl, fun _ _ => rfl, free, ih⟩ X.kind (fun e s h => h) X.ok
  · simp only [callN, t] at e
    have hds : ds.length = ps.length := dv.length.symm.trans hl
    rw [if_pos (hds.trans X.np.symm)] at e
    have E := start_ok (N := X.N) dv (by rw [hds]; exact X.le)
    split at e
    · rename_i d0 M0 he
      rw [X.ns] at he
      exact ⟨w, _, M, _, M0, R, E, he, fun w' H' v f R' d' => by
        obtain ⟨w2, f2, R2, d2⟩ := trim_ok R f R' d' (Option.some.inj e)
        exact q w2 H' v f2 R2 d2⟩
    · rename_i env' M0 he
      rw [X.ns] at he
      exact ⟨w, _, M, _, M0, R, E, he, fun w' H' σ' f R' _ => by
        obtain ⟨w2, f2, R2, d2⟩ := trim_ok (d0 := .non) R f R' .non (Option.some.inj e)
        exact q w2 H' .non f2 R2 d2⟩
    · cases e
theorem FnAt.code {j f : Nat} {x : Str} {st : Stmt} {ps : List Str} {shs : List (List Nat)} {fn : Fn} (F : FnC K mg x st ps shs) (t : tbl f = some (.code fn)) (X : Txt nm fn st ps) (free : ∀ x ∈ blts, mg x = none)
    (ih : ∀ f x ps shs, nm f = some (x, ps, shs) → FnAt P wo K mg base j (callN tbl n j) f x ps shs) : FnAt P wo K mg base (j + 1) (callN tbl n (j + 1)) f x ps shs := by
  obtain ⟨a, fd, h1, h2, h3, h4, h5⟩ := F.ex
  exact ⟨a, fd, fn_code h1 t X free ih, h2, h3, h4, h5⟩
end
end Ev

set_option autoImplicit false
set_option linter.all false
set_option maxRecDepth 100000
set_option maxHeartbeats 1000000
/-! Ev: the stream of draws: its two functions do what the evaluator takes them to do. -/
namespace Ev
open PySem PySem.Spec PyProof.Rows L2
def bStream : SL := (.cons (.ret (.cel (.disp (.cons (.cel (.listOf (.loc 0 0) 1)) (.cons (.cint 0 2) (.cons (.cint 0 3) (.cons (.cint 17 4) .nil)))) 5)) 6) .nil)
abbrev wTest : E := (.bool true (.cons (.cmp .eq (.idx (.loc 0 8) (.cint 1 9) 10) (.cint 0 11) 12) (.cons (.cmp .ne (.idx (.loc 0 13) (.cint 0 14) 15) (.inl (.disp .nil 16)) 17) .nil)) 18)
abbrev wBody : SL := (.cons (.asg (.name 2 19) (.absOf (.popAt (.idx (.loc 0 20) (.cint 0 21) 22) (.cint 0 23) 24) 25) 26) (.cons (.sub (.loc 0 27) (.cint 3 28) (.bin .mod (.intOf (.bin .add (.bin .add (.bin .mul (.idx (.loc 0 29) (.cint 3 30) 31) (.cint 8191 32) 33) (.loc 2 34) 35) (.cint 3 36) 37) 38) (.cint 2147483647 39) 40) 41) (.cons (.sub (.loc 0 42) (.cint 1 43) (.ife (.cmp .ge (.loc 2 44) (.bin .pow (.cint 10 45) (.cint 18 46) 47) 48) (.loc 2 49) (.cint 0 50) 51) 52) .nil)))
abbrev dHead : S := (.sub (.loc 0 0) (.cint 2 1) (.bin .add (.idx (.loc 0 2) (.cint 2 3) 4) (.cint 1 5) 6) 7)
abbrev dIf : S := (.iff (.cmp .gt (.idx (.loc 0 54) (.cint 1 55) 56) (.cint 0 57) 58) (.cons (.asg (.name 3 59) (.bin .mod (.intOf (.idx (.loc 0 60) (.cint 1 61) 62) 63) (.loc 1 64) 65) 66) (.cons (.sub (.loc 0 67) (.cint 1 68) (.bin .fdiv (.idx (.loc 0 69) (.cint 1 70) 71) (.loc 1 72) 73) 74) (.cons (.ret (.loc 3 75) 76) .nil))) .nil 77)
abbrev dMix : S := (.asg (.name 4 78) (.bin .mod (.intOf (.bin .pow (.bin .add (.bin .add (.idx (.loc 0 79) (.cint 3 80) 81) (.bin .mul (.cint 7919 82) (.idx (.loc 0 83) (.cint 2 84) 85) 86) 87) (.cint 104729 88) 89) (.cint 5 90) 91) 92) (.cint 2147483629 93) 94) 95)
abbrev dRet : S := (.ret (.bin .mod (.bin .mod (.intOf (.bin .pow (.bin .add (.bin .add (.bin .mul (.loc 4 96) (.cint 48271 97) 98) (.bin .mul (.cint 30011 99) (.idx (.loc 0 100) (.cint 2 101) 102) 103) 104) (.cint 29 105) 106) (.cint 3 107) 108) 109) (.cint 1000000007 110) 111) (.loc 1 112) 113) 114)
def bDraw : SL := (.cons dHead (.cons (.whl wTest wBody 53) (.cons dIf (.cons dMix (.cons dRet .nil)))))
/-- the memory while a draw runs: the script's list, the stream -/
def dm (S : List C) (cells : List Int) (big cnt mix : Int) : Mem := ⟨S ++ [.lst (cells.map .int), .lst [.cell S.length, .int big, .int cnt, .int mix]], none⟩
section
variable {S : List C} {cells : List Int} {big cnt mix m : Int} {k : CallF} {x y z : Option D}
theorem dm_0 : (dm S cells big cnt mix).S[S.length]? = some (.lst (cells.map .int)) := by simp [dm]
theorem dm_1 : (dm S cells big cnt mix).S[S.length + 1]? = some (.lst [.cell S.length, .int big, .int cnt, .int mix]) := by simp [dm, List.getElem?_append_right]
theorem dm_set0 (c2 : List Int) : setC S.length (.lst (c2.map .int)) (dm S cells big cnt mix) = dm S c2 big cnt mix := by
  simp [dm, setC, List.set_append_right]
theorem dm_set1 (b2 c2 m2 : Int) : setC (S.length + 1) (.lst [.cell S.length, .int b2, .int c2, .int m2]) (dm S cells big cnt mix) = dm S cells b2 c2 m2 := by
  simp [dm, setC, List.set_append_right]
abbrev denv (S : List C) (m : Int) (x y z : Option D) : Env := [some (.cell (S.length + 1)), some (.int m), x, y, z]
theorem at0 (p q r : Nat) : ev k (.idx (.loc 0 p) (.cint 0 q) r) (denv S m x y z) (dm S cells big cnt mix) = some (.cell S.length, dm S cells big cnt mix) := by
  simp [ev, idxD, seqOf, listOf, dm_1, atD, ixOf, ofD]
theorem at1 (p q r : Nat) : ev k (.idx (.loc 0 p) (.cint 1 q) r) (denv S m x y z) (dm S cells big cnt mix) = some (.int big, dm S cells big cnt mix) := by
  simp [ev, idxD, seqOf, listOf, dm_1, atD, ixOf, ofD]
theorem at2 (p q r : Nat) : ev k (.idx (.loc 0 p) (.cint 2 q) r) (denv S m x y z) (dm S cells big cnt mix) = some (.int cnt, dm S cells big cnt mix) := by
  simp [ev, idxD, seqOf, listOf, dm_1, atD, ixOf, ofD]
theorem at3 (p q r : Nat) : ev k (.idx (.loc 0 p) (.cint 3 q) r) (denv S m x y z) (dm S cells big cnt mix) = some (.int mix, dm S cells big cnt mix) := by
  simp [ev, idxD, seqOf, listOf, dm_1, atD, ixOf, ofD]
theorem put1 {e : E} {v : Int} {n : Nat} (p q r : Nat) (h : ev k e (denv S m x y z) (dm S cells big cnt mix) = some (.int v, dm S cells big cnt mix)) : ex k n (.sub (.loc 0 p) (.cint 1 q) e r) (denv S m x y z) (dm S cells big cnt mix) = some (.nx (denv S m x y z), dm S cells v cnt mix) := by
  rw [ex, h]
  simp [ev, dm_1, ixOf, dm_set1]
theorem put2 {e : E} {v : Int} {n : Nat} (p q r : Nat) (h : ev k e (denv S m x y z) (dm S cells big cnt mix) = some (.int v, dm S cells big cnt mix)) : ex k n (.sub (.loc 0 p) (.cint 2 q) e r) (denv S m x y z) (dm S cells big cnt mix) = some (.nx (denv S m x y z), dm S cells big v mix) := by
  rw [ex, h]
  simp [ev, dm_1, ixOf, dm_set1]
theorem put3 {e : E} {v : Int} {n : Nat} (p q r : Nat) (h : ev k e (denv S m x y z) (dm S cells big cnt mix) = some (.int v, dm S cells big cnt mix)) : ex k n (.sub (.loc 0 p) (.cint 3 q) e r) (denv S m x y z) (dm S cells big cnt mix) = some (.nx (denv S m x y z), dm S cells big cnt v) := by
  rw [ex, h]
  simp [ev, dm_1, ixOf, dm_set1]
theorem pys_ints : ∀ l : List Int, D.pys (l.map .int) = l.map PyData.int
  | [] => rfl
  | i :: l => by simp [D.pys, D.py, pys_ints l]
theorem pures_ints : ∀ l : List Int, D.pures (l.map .int) = true
  | [] => rfl
  | i :: l => by simp [D.pures, D.pure, pures_ints l]
theorem derefs_ints {M : Mem} (n : Nat) : ∀ l : List Int, derefs M (n + 1) (l.map .int) = some (l.map .int)
  | [] => by simp [derefs]
  | i :: l => by simp [derefs, deref, derefs_ints n l]
theorem lay_ints : ∀ l : List Int, PyData.canLayAll0 (l.map PyData.int) = true
  | [] => rfl
  | i :: l => by simp [PyData.canLayAll0, PyData.canLay0, lay_ints l]
theorem depth_ints : ∀ l : List Int, PyData.depthAll (l.map PyData.int) = 0
  | [] => rfl
  | i :: l => by simp [PyData.depthAll, PyData.depth, depth_ints l]
theorem shaped_ints (l : List Int) : SeqAt.shaped (.list (l.map PyData.int)) = true := by
  simp [SeqAt.shaped, PyData.canLay0, lay_ints, PyData.depth, depth_ints]
theorem wtest : tru (ev k wTest (denv S m x y z) (dm S cells big cnt mix)) = some (big == 0 && !cells.isEmpty, dm S cells big cnt mix) := by
  have h1 : ev k (.cmp .eq (.idx (.loc 0 8) (.cint 1 9) 10) (.cint 0 11) 12) (denv S m x y z) (dm S cells big cnt mix) = some (.bl (big == 0), dm S cells big cnt mix) := by
    rw [ev, at1]
    simp [ev, ofB, opCmp, eqD, view, D.pure, D.py, SeqAt.shaped, PyData.canLay0, PyData.depth, PyData.eqv]
  have h2 : ev k (.cmp .ne (.idx (.loc 0 13) (.cint 0 14) 15) (.inl (.disp .nil 16)) 17) (denv S m x y z) (dm S cells big cnt mix) = some (.bl (!cells.isEmpty), dm S cells big cnt mix) := by
    rw [ev, at0]
    have v1 : view (dm S cells big cnt mix) (.cell S.length) = some (.lst (cells.map .int)) := by
      simp only [view, D.pure, deref, dm_0, derefs_ints]; rfl
    have v2 : view (dm S cells big cnt mix) (.lst []) = some (.lst []) := by simp [view, D.pure, D.pures]
    have s2 : SeqAt.shaped (.list []) = true := shaped_ints []
    have v3 : eqD (dm S cells big cnt mix) (.cell S.length) (.lst []) = some cells.isEmpty := by
      simp only [eqD, v1, v2, D.py, pys_ints, D.pys, shaped_ints, s2]
      cases cells <;> simp [PyData.eqv, PyData.eqvAll]
    simp [ev, evF, evs, opCmp, v3, ofB]
  rw [ev, evBool, h1]
  cases hb : (big == 0) with
  | false => simp [tru, truth]
  | true => simp [evBool, h2, tru, truth]
theorem wturn {n : Nat} {c : Int} {r : List Int} : exs k n wBody (denv S m x y z) (dm S (c :: r) 0 cnt mix) = some (.nx (denv S m (some (.int (if c < 0 then -c else c))) y z), dm S r (if (if c < 0 then -c else c) ≥ 10 ^ 18 then (if c < 0 then -c else c) else 0) cnt ((mix * 8191 + (if c < 0 then -c else c) + 3) % 2147483647)) := by
  have h1 : ev k (.absOf (.popAt (.idx (.loc 0 20) (.cint 0 21) 22) (.cint 0 23) 24) 25) (denv S m x y z) (dm S (c :: r) 0 cnt mix) = some (.int (if c < 0 then -c else c), dm S r 0 cnt mix) := by
    have e : setC S.length (.lst (r.map .int)) (dm S (c :: r) 0 cnt mix) = dm S r 0 cnt mix := dm_set0 r
    rw [ev, ev, at0]
    simp only [dm_0, List.map_cons, ev]
    simp [e]
  generalize hv : (if c < 0 then -c else c) = v at h1 ⊢
  have h2 : ev k (.bin .mod (.intOf (.bin .add (.bin .add (.bin .mul (.idx (.loc 0 29) (.cint 3 30) 31) (.cint 8191 32) 33) (.loc 2 34) 35) (.cint 3 36) 37) 38) (.cint 2147483647 39) 40) (denv S m (some (.int v)) y z) (dm S r 0 cnt mix) = some (.int ((mix * 8191 + v + 3) % 2147483647), dm S r 0 cnt mix) := by
    simp only [↓at3, ev]
    simp [opBin, intBin, mulOk, ofD]
  have h3 : ev k (.ife (.cmp .ge (.loc 2 44) (.bin .pow (.cint 10 45) (.cint 18 46) 47) 48) (.loc 2 49) (.cint 0 50) 51) (denv S m (some (.int v)) y z) (dm S r 0 cnt ((mix * 8191 + v + 3) % 2147483647)) = some (.int (if v ≥ 10 ^ 18 then v else 0), dm S r 0 cnt ((mix * 8191 + v + 3) % 2147483647)) := by
    have p : opBin (dm S r 0 cnt ((mix * 8191 + v + 3) % 2147483647)) .pow (.int 10) (.int 18) = some (.int (10 ^ 18)) := by
      simp [opBin, intBin]
    by_cases hc : (1000000000000000000 : Int) ≤ v
    · simp [ev, p, ofD, opCmp, ofB, tru, truth, hc]
    · simp [ev, p, ofD, opCmp, ofB, tru, truth, hc]
  rw [exs, ex, h1]
  simp only [put, List.length_cons, List.length_nil]
  rw [if_pos (by omega)]
  show exs k n _ (denv S m (some (.int v)) y z) _ = _
  rw [exs, put3 _ _ _ h2]
  simp only
  rw [exs, put1 _ _ _ h3]
  rfl
theorem wloop : ∀ (cells : List Int) (big mix : Int) (x : Option D) (n : Nat), cells.length < n → ∃ x', whileLoop (fun env M => tru (ev k wTest env M)) (fun env M => exs k 0 wBody env M) n (denv S m x y z) (dm S cells big cnt mix) =
    some (.nx (denv S m x' y z), dm S (drawCells cells big mix).2.2 (drawCells cells big mix).1 cnt (drawCells cells big mix).2.1)
  | [], big, mix, x, n, h => by
    cases n with
    | zero => exact absurd h (by simp)
    | succ n =>
      refine ⟨x, ?_⟩
      rw [whileLoop, wtest]
      simp [drawCells]
  | c :: r, big, mix, x, n, h => by
    cases n with
    | zero => exact absurd h (by simp)
    | succ n =>
      rw [whileLoop, wtest]
      by_cases hb : big = 0
      · subst hb
        have hl : r.length < n := by simp at h; omega
        obtain ⟨x', e⟩ := wloop r (if (if c < 0 then -c else c) ≥ 10 ^ 18 then (if c < 0 then -c else c) else 0) ((mix * 8191 + (if c < 0 then -c else c) + 3) % 2147483647) (some (.int (if c < 0 then -c else c))) n hl
        refine ⟨x', ?_⟩
        simp only [List.isEmpty_cons, Bool.not_false, Bool.and_true, beq_self_eq_true, wturn]
        rw [e]
        simp [drawCells]
      · refine ⟨x, ?_⟩
        have : (big == 0) = false := by simpa using hb
        simp [this, drawCells, hb]
theorem drawCells_mix : ∀ (cells : List Int) (big mix : Int), 0 ≤ mix → mix < 2 ^ 31 → 0 ≤ (drawCells cells big mix).2.1 ∧ (drawCells cells big mix).2.1 < 2 ^ 31
  | [], big, mix, h1, h2 => ⟨h1, h2⟩
  | c :: r, big, mix, h1, h2 => by
    unfold drawCells
    split
    · refine drawCells_mix r _ _ ?_ ?_
      · exact Int.emod_nonneg _ (by decide)
      · have := Int.emod_lt_of_pos (mix * 8191 + (if c < 0 then -c else c) + 3) (show (0 : Int) < 2147483647 by decide)
        omega
    · exact ⟨h1, h2⟩
theorem draw_ev (h : Strm.fit ⟨cells, big, cnt, mix⟩ = true) (h0 : 0 < m) (h1 : m < 1073741824) : exs k (cells.length + 1) bDraw (denv S m none none none) (dm S cells big cnt mix) = some (.rt (.int (drawF ⟨cells, big, cnt, mix⟩ m).1), dm S (drawF ⟨cells, big, cnt, mix⟩ m).2.cells (drawF ⟨cells, big, cnt, mix⟩ m).2.big (drawF ⟨cells, big, cnt, mix⟩ m).2.cnt (drawF ⟨cells, big, cnt, mix⟩ m).2.mix) := by
  simp only [Strm.fit, Bool.and_eq_true, decide_eq_true_eq] at h
  obtain ⟨⟨⟨hc0, hc1⟩, hm0⟩, hm1⟩ := h
  have e1 : ex k (cells.length + 1) dHead (denv S m none none none) (dm S cells big cnt mix) = some (.nx (denv S m none none none), dm S cells big (cnt + 1) mix) := put2 _ _ _ (by
    rw [ev, at2]; simp [ev, opBin, intBin, ofD])
  have e2 : ∃ x', ex k (cells.length + 1) (.whl wTest wBody 53) (denv S m none none none) (dm S cells big (cnt + 1) mix) = some (.nx (denv S m x' none none), dm S (drawCells cells big mix).2.2 (drawCells cells big mix).1 (cnt + 1) (drawCells cells big mix).2.1) := by
    rw [ex]
    exact wloop cells big mix none (cells.length + 1) (Nat.lt_succ_self _)
  obtain ⟨x', e2⟩ := e2
  obtain ⟨q0, q1⟩ := drawCells_mix cells big mix hm0 hm1
  unfold drawF
  generalize hr : drawCells cells big mix = r at e2 q0 q1 ⊢
  obtain ⟨b', mx, cs⟩ := r
  simp only at e2 q0 q1 ⊢
  unfold bDraw
  rw [exs, e1]
  simp only
  rw [exs, e2]
  simp only
  have t : tru (ev k (.cmp .gt (.idx (.loc 0 54) (.cint 1 55) 56) (.cint 0 57) 58) (denv S m x' none none) (dm S cs b' (cnt + 1) mx)) = some (decide (0 < b'), dm S cs b' (cnt + 1) mx) := by
    rw [ev, at1]
    simp [ev, opCmp, ofB, tru, truth]
  by_cases hb : 0 < b'
  · rw [if_pos hb]
    have e3 : ex k (cells.length + 1) dIf (denv S m x' none none) (dm S cs b' (cnt + 1) mx) = some (.rt (.int (b' % m)), dm S cs (b' / m) (cnt + 1) mx) := by
      rw [ex, t]
      simp only [hb, decide_true]
      have e4 : ev k (.bin .mod (.intOf (.idx (.loc 0 60) (.cint 1 61) 62) 63) (.loc 1 64) 65) (denv S m x' none none) (dm S cs b' (cnt + 1) mx) = some (.int (b' % m), dm S cs b' (cnt + 1) mx) := by
        rw [ev, ev, at1]
        simp [ev, opBin, intBin, ofD, h0]
      have e5 : ev k (.bin .fdiv (.idx (.loc 0 69) (.cint 1 70) 71) (.loc 1 72) 73) (denv S m x' (some (.int (b' % m))) none) (dm S cs b' (cnt + 1) mx) = some (.int (b' / m), dm S cs b' (cnt + 1) mx) := by
        rw [ev, at1]
        simp [ev, opBin, intBin, ofD, h0, h1]
      rw [exs, ex, e4]
      simp only [put, List.length_cons, List.length_nil]
      rw [if_pos (by omega)]
      show exs k _ _ (denv S m x' (some (.int (b' % m))) none) _ = _
      rw [exs, put1 _ _ _ e5]
      simp only
      rw [exs, ex]
      simp [ev]
    rw [exs, e3]
  · rw [if_neg hb]
    have e3 : ex k (cells.length + 1) dIf (denv S m x' none none) (dm S cs b' (cnt + 1) mx) = some (.nx (denv S m x' none none), dm S cs b' (cnt + 1) mx) := by
      rw [ex, t]
      simp [hb, exs]
    rw [exs, e3]
    simp only
    have p5 : intBin .pow (mx + 7919 * (cnt + 1) + 104729) 5 = some ((mx + 7919 * (cnt + 1) + 104729) ^ 5) := by
      simp only [intBin]
      rw [if_pos ⟨by decide, by decide, by omega⟩]; rfl
    have e4 : ev k (.bin .mod (.intOf (.bin .pow (.bin .add (.bin .add (.idx (.loc 0 79) (.cint 3 80) 81) (.bin .mul (.cint 7919 82) (.idx (.loc 0 83) (.cint 2 84) 85) 86) 87) (.cint 104729 88) 89) (.cint 5 90) 91) 92) (.cint 2147483629 93) 94) (denv S m x' none none) (dm S cs b' (cnt + 1) mx) = some (.int ((mx + 7919 * (cnt + 1) + 104729) ^ 5 % 2147483629), dm S cs b' (cnt + 1) mx) := by
      have i1 : intBin .mul 7919 (cnt + 1) = some (7919 * (cnt + 1)) := by simp [intBin, mulOk]
      have i2 : ∀ a, intBin .mod a 2147483629 = some (a % 2147483629) := fun a => by simp [intBin]
      have i3 : ∀ a b, intBin .add a b = some (a + b) := fun a b => rfl
      simp only [↓at3, ↓at2, ev, opBin, i1, i2, i3, p5, Option.map_some, ofD]
    generalize hx : (mx + 7919 * (cnt + 1) + 104729) ^ 5 % 2147483629 = xd at e4 ⊢
    have x0 : 0 ≤ xd := by rw [← hx]; exact Int.emod_nonneg _ (by decide)
    have x1 : xd < 2147483629 := by rw [← hx]; exact Int.emod_lt_of_pos _ (by decide)
    have p3 : intBin .pow (xd * 48271 + 30011 * (cnt + 1) + 29) 3 = some ((xd * 48271 + 30011 * (cnt + 1) + 29) ^ 3) := by
      simp only [intBin]
      rw [if_pos ⟨by decide, by decide, by omega⟩]; rfl
    rw [exs, ex, e4]
    simp only [put, List.length_cons, List.length_nil]
    rw [if_pos (by omega)]
    show exs k _ _ (denv S m x' none (some (.int xd))) _ = _
    have e5 : ev k (.bin .mod (.bin .mod (.intOf (.bin .pow (.bin .add (.bin .add (.bin .mul (.loc 4 96) (.cint 48271 97) 98) (.bin .mul (.cint 30011 99) (.idx (.loc 0 100) (.cint 2 101) 102) 103) 104) (.cint 29 105) 106) (.cint 3 107) 108) 109) (.cint 1000000007 110) 111) (.loc 1 112) 113) (denv S m x' none (some (.int xd))) (dm S cs b' (cnt + 1) mx) = some (.int ((xd * 48271 + 30011 * (cnt + 1) + 29) ^ 3 % 1000000007 % m), dm S cs b' (cnt + 1) mx) := by
      have i1 : intBin .mul 30011 (cnt + 1) = some (30011 * (cnt + 1)) := by simp [intBin, mulOk]
      have i4 : intBin .mul xd 48271 = some (xd * 48271) := by simp [intBin, mulOk]
      have i2 : ∀ a, intBin .mod a 1000000007 = some (a % 1000000007) := fun a => by simp [intBin]
      have i5 : ∀ a, intBin .mod a m = some (a % m) := fun a => by simp [intBin, h0]
      have i3 : ∀ a b, intBin .add a b = some (a + b) := fun a b => rfl
      have l4 : (denv S m x' none (some (.int xd)))[4]? = some (some (.int xd)) := rfl
      have l1 : (denv S m x' none (some (.int xd)))[1]? = some (some (.int m)) := rfl
      simp only [↓at2, ev, l4, l1, opBin, i1, i2, i3, i4, i5, p3, Option.map_some, ofD]
    rw [exs, ex, e5]
end
end Ev

set_option autoImplicit false
set_option linter.all false
set_option maxRecDepth 100000
set_option maxHeartbeats 400000
/-! Ev: the two functions of the stream. -/
namespace Ev
open PySem PySem.Spec PyProof.Rows L2
section
variable {K : Fr} {w w' : Wd} {M : Mem} {H H' : Hp}
theorem ints_of {vs : List V} {ns : List Int} (h : Dens K w vs (ns.map .int)) : vs = ns.map V.int := by
  refine Dens.ints h ?_
  clear h
  induction ns with
  | nil => rfl
  | cons a l ih => simp [intsD, ih]
theorem dens_ints (ns : List Int) : Dens K w (ns.map V.int) (ns.map .int) := by
  induction ns with
  | nil => exact .nil
  | cons a l ih => exact .cons (.int a) ih
/-- the other cells over a time in which only p and q are written -/
theorem Rp.cellsKeep {F : Hp} {s : Option (Addr × Addr)} {M2 : Mem} (R : Rp K w M H) (hF : Same w.F F) (hs : ∀ p q, w.s = some (p, q) → s = some (p, q)) (keep : ∀ a ∈ w.ν, ∀ o, H a = some o → H' a = some o) (new : ∀ a ∈ w.ν, ∀ o, H a = some o → w.F a = none → F a = none) (hS : M2.S = M.S) :
    ∀ (c : Nat) (o : C) (a : Addr), M2.S[c]? = some o → (⟨w.ν, s, F⟩ : Wd).ν[c]? = some a → cellOk K ⟨w.ν, s, F⟩ H' a o := fun c o a h1 h2 => by
  rw [hS] at h1
  have ha : a ∈ w.ν := List.mem_of_getElem? h2
  have q := R.cells c o a h1 h2
  cases o with
  | dead => obtain ⟨x, hx⟩ := q; exact ⟨x, keep a ha x hx⟩
  | lst ds =>
    obtain ⟨f, vs, e, r⟩ := q
    exact ⟨new a ha _ e f, vs, keep a ha _ e, Dens.mono (w' := ⟨w.ν, s, F⟩) hF (fun _ _ h => h) hs r⟩
  | dic _ _ =>
    obtain ⟨f, vs, e, r1, r2⟩ := q
    exact ⟨new a ha _ e f, vs, keep a ha _ e, Dens.mono (w' := ⟨w.ν, s, F⟩) hF (fun _ _ h => h) hs r1, Dens.mono (w' := ⟨w.ν, s, F⟩) hF (fun _ _ h => h) hs r2⟩
/-- the stream's lists, seen alone -/
theorem Rp.draw {p q : Addr} {t : Strm} (R : Rp K w M H) (h : stOk w H p q t) : Rp K ⟨[q, p], none, w.F⟩ (dm [] t.cells t.big t.cnt t.mix) H := by
  obtain ⟨h1, h2, h3, h4, h5, h6, h7⟩ := h
  refine ⟨R.same, rfl, by simp [h5.symm], fun c o a e1 e2 => ?_, rfl⟩
  match c, e1, e2 with
  | 0, e1, e2 =>
    cases e1; cases e2
    exact ⟨h4, _, h2, dens_ints _⟩
  | 1, e1, e2 =>
    cases e1; cases e2
    exact ⟨h3, _, h1, .cons (.cell rfl) (.cons (.int _) (.cons (.int _) (.cons (.int _) .nil)))⟩
  | c + 2, e1, e2 => cases e2
theorem dm_lists {p q : Addr} {cells : List Int} {big cnt mix : Int} (R : Rp K w M H) (hM : M = dm [] cells big cnt mix) (hn : w.ν = [q, p]) : H p = some (.lst [.ref q, .int big, .int cnt, .int mix]) ∧ H q = some (.lst (cells.map V.int)) ∧ w.F p = none ∧ w.F q = none := by
  subst hM
  obtain ⟨f0, vs0, e0, r0⟩ := R.cells 0 _ q rfl (by rw [hn]; rfl)
  obtain ⟨f1, vs1, e1, r1⟩ := R.cells 1 _ p rfl (by rw [hn]; rfl)
  rw [ints_of r0] at e0
  refine ⟨?_, e0, f1, f0⟩
  rw [e1]
  cases r1 with
  | cons a r1 =>
    cases r1 with
    | cons b r1 =>
      cases r1 with
      | cons c r1 =>
        cases r1 with
        | cons d r1 =>
          cases r1
          cases a with
          | cell ha =>
            rw [hn] at ha
            cases ha
            rw [den_int b, den_int c, den_int d]
end
section
variable {P : Program} {wo : World} {K : PySem.W.Frag} {mg : Str → Option Value} {base : Heap} {nm : Nm} {tbl : Nat → Option Ent} {n : Nat}
theorem draw_inv {k f : Nat} {ds : List D} {M M' : Mem} {d : D} (t : tbl f = some .draw) (e : callN tbl n (k + 1) f ds M = some (d, M')) : ∃ m s, ds = [.strm, .int m] ∧ M.st = some s ∧ 0 < m ∧ m < 1073741824 ∧ s.fit = true ∧ d = .int (drawF s m).1 ∧ M' = { M with st := some (drawF s m).2 } := by
  simp only [callN, t] at e
  split at e
  · rename_i m s h
    split at e
    · rename_i hc
      cases e
      exact ⟨m, s, rfl, h, hc.1, hc.2.1, hc.2.2, rfl, rfl⟩
    · cases e
  · cases e
theorem stream_inv {k f : Nat} {ds : List D} {M M' : Mem} {d : D} (t : tbl f = some .stream) (e : callN tbl n (k + 1) f ds M = some (d, M')) : ∃ ns, ds = [.scr ns] ∧ M.st = none ∧ ns.length ≤ Lim ∧ d = .strm ∧ M' = { M with st := some ⟨ns, 0, 0, 17⟩ } := by
  simp only [callN, t] at e
  split at e
  · rename_i ns h
    split at e
    · rename_i hc
      cases e
      exact ⟨ns, rfl, h, hc, rfl, rfl⟩
    · cases e
  · cases e
theorem FnAt.draw {j f : Nat} {x : Str} {st : Stmt} {ps : List Str} {shs : List (List Nat)} (F : FnC K mg x st ps shs) (t : tbl f = some .draw) (X : Txt nm ⟨2, 5, bDraw⟩ st ps) (free : ∀ x ∈ blts, mg x = none)
    (ih : ∀ f x ps shs, nm f = some (x, ps, shs) → FnAt P wo K mg base j (callN tbl n j) f x ps shs) : FnAt P wo K mg base (j + 1) (callN tbl n (j + 1)) f x ps shs := by
  obtain ⟨a, fd, h1, h2, h3, h4, h5⟩ := F.ex
  have S := C8.fnScope_by X.sc
  refine ⟨a, fd, C8.fn0 (N := X.N) h1 S (fun vs H Q E h => h.1) fun cdv A outer s H vs Q E hr h => ?_, h2, h3, h4, h5⟩
  obtain ⟨hl, w, M, ds, d, M', R, dv, e, q⟩ := h
  obtain ⟨m, s, rfl, hs, m0, m1, fit, rfl, rfl⟩ := draw_inv t e
  refine ⟨tS ⟨K, P, wo⟩ (exs (callN tbl n j) (s.cells.length + 1) bDraw), ?_, ?_⟩
  · rw [← X.body]
    exact sSs (N := X.N) (j := j) bDraw ⟨rfl, rfl, S.nd, hr, rfl, fun _ _ => rfl, free, ih⟩ X.kind (fun e s h => h) X.ok
  · have hst := R.st
    rw [hs] at hst
    obtain ⟨p, b, es, ok⟩ := hst
    have R2 := R.draw ok
    obtain ⟨k1, k2, k3, k4, k5, k6, k7⟩ := ok
    have d2 : Dens ⟨K, P, wo⟩ ⟨[b, p], none, w.F⟩ vs [.cell 1, .int m] := by
      cases dv with
      | cons a1 r =>
        cases r with
        | cons a2 r =>
          cases r
          cases a1 with
          | strm z =>
            rw [es] at z
            cases z
            rw [den_int a2]
            exact .cons (.cell rfl) (.cons (.int _) .nil)
    have E := start_ok (N := X.N) d2 (by rw [← d2.length, hl]; exact X.le)
    have hns : X.N.length = 5 := X.ns.symm
    rw [hns] at E
    refine ⟨_, _, _, _, _, R2, E, draw_ev (S := []) fit m0 m1, fun w' H' v f' R' d' => ?_⟩
    obtain ⟨l, hn, hl2⟩ := f'.nu
    have hl0 : l = [] := by
      have := R'.len
      rw [hn] at this
      simp [dm] at this
      exact this
    rw [hl0, List.append_nil] at hn
    obtain ⟨u1, u2, u3, u4⟩ := dm_lists R' rfl hn
    refine q ⟨w.ν, w.s, w'.F⟩ H' v ⟨⟨[], by simp, by simp⟩, f'.F, fun c o hc hF hnu => ?_, .inl rfl, fun c o hc hnu hsx => ?_, f'.there⟩ ⟨R'.same, R.len, R.nd, ?_, ?_⟩ (by rw [den_int d']; exact .int _)
    · by_cases hb : c ∈ [b, p]
      · rcases List.mem_cons.mp hb with rfl | hb
        · exact u4
        · rcases List.mem_cons.mp hb with rfl | hb
          · exact u3
          · cases hb
      · exact f'.new c o hc hF hb
    · obtain ⟨n1, n2⟩ := hsx p b es
      exact f'.keep c o hc (by simp [n1, n2]) (fun _ _ z => by cases z)
    · refine R.cellsKeep f'.F (fun _ _ z => z) (fun a ha o ho => f'.keep a o ho ?_ (fun _ _ z => by cases z)) (fun a ha o ho hF => f'.new a o ho hF ?_) rfl
      · simp only [List.mem_cons, List.not_mem_nil, or_false, not_or]
        exact ⟨fun z => k7 (z ▸ ha), fun z => k6 (z ▸ ha)⟩
      · simp only [List.mem_cons, List.not_mem_nil, or_false, not_or]
        exact ⟨fun z => k7 (z ▸ ha), fun z => k6 (z ▸ ha)⟩
    · exact ⟨p, b, es, u1, u2, u3, u4, k5, k6, k7⟩
theorem stream_ev {k : CallF} {m : Nat} (ns : List Int) (hl : ns.length ≤ Lim) : exs k m bStream [some (.scr ns)] ⟨[], none⟩ = some (.rt (.cell 1), dm [] ns 0 0 17) := by
  simp [bStream, exs, ex, ev, evF, evs, lseq, allocC, dm, show (4 : Nat) ≤ Lim by decide]
theorem FnAt.stream {j f : Nat} {x : Str} {st : Stmt} {ps : List Str} {shs : List (List Nat)} (F : FnC K mg x st ps shs) (t : tbl f = some .stream) (X : Txt nm ⟨1, 1, bStream⟩ st ps) (free : ∀ x ∈ blts, mg x = none)
    (ih : ∀ f x ps shs, nm f = some (x, ps, shs) → FnAt P wo K mg base j (callN tbl n j) f x ps shs) : FnAt P wo K mg base (j + 1) (callN tbl n (j + 1)) f x ps shs := by
  obtain ⟨a, fd, h1, h2, h3, h4, h5⟩ := F.ex
  have S := C8.fnScope_by X.sc
  refine ⟨a, fd, C8.fn0 (N := X.N) h1 S (fun vs H Q E h => h.1) fun cdv A outer s H vs Q E hr h => ?_, h2, h3, h4, h5⟩
  obtain ⟨hl, w, M, ds, d, M', R, dv, e, q⟩ := h
  obtain ⟨ns, rfl, hs, hln, rfl, rfl⟩ := stream_inv t e
  refine ⟨tS ⟨K, P, wo⟩ (exs (callN tbl n j) 1 bStream), ?_, ?_⟩
  · rw [← X.body]
    exact sSs (N := X.N) (j := j) bStream ⟨rfl, rfl, S.nd, hr, rfl, fun _ _ => rfl, free, ih⟩ X.kind (fun e s h => h) X.ok
  · have hst := R.st
    rw [hs] at hst
    have R2 : Rp ⟨K, P, wo⟩ ⟨[], none, w.F⟩ ⟨[], none⟩ H := ⟨R.same, rfl, .nil, fun c o a e1 e2 => (by cases e2), rfl⟩
    have d2 : Dens ⟨K, P, wo⟩ ⟨[], none, w.F⟩ vs [.scr ns] := by
      cases dv with
      | cons a1 r =>
        cases r
        cases a1 with
        | scr z => exact .cons (.scr z) .nil
    have E := start_ok (N := X.N) d2 (by rw [← d2.length, hl]; exact X.le)
    have hns : X.N.length = 1 := X.ns.symm
    rw [hns] at E
    refine ⟨_, _, _, _, _, R2, E, stream_ev ns hln, fun w' H' v f' R' d' => ?_⟩
    obtain ⟨l, hn, hl2⟩ := f'.nu
    rw [List.nil_append] at hn
    have hlen : l.length = 2 := by
      have := R'.len
      rw [hn] at this
      simpa [dm] using this
    obtain ⟨b, p, rfl⟩ : ∃ b p, l = [b, p] := by
      match l, hlen with
      | [b, p], _ => exact ⟨b, p, rfl⟩
    obtain ⟨u1, u2, u3, u4⟩ := dm_lists R' rfl hn
    have nd := R'.nd
    rw [hn] at nd
    have hpb : p ≠ b := by simp at nd; exact fun z => nd z.symm
    have fb := hl2 b (by simp)
    have fp := hl2 p (by simp)
    refine q ⟨w.ν, some (p, b), w'.F⟩ H' v ⟨⟨[], by simp, by simp⟩, f'.F, fun c o hc hF hnu => f'.new c o hc hF (by simp), .inr ⟨hst, fun p' q' z => by cases z; exact ⟨fp, fb⟩⟩, fun c o hc hnu hsx => f'.keep c o hc (by simp) (fun _ _ z => by cases z), f'.there⟩ ⟨R'.same, R.len, R.nd, ?_, ?_⟩ ?_
    · exact R.cellsKeep f'.F (fun _ _ z => by rw [hst] at z; cases z) (fun a ha o ho => f'.keep a o ho (by simp) (fun _ _ z => by cases z)) (fun a ha o ho hF => f'.new a o ho hF (by simp)) rfl
    · exact ⟨p, b, rfl, u1, u2, u3, u4, hpb, R.notin fp, R.notin fb⟩
    · cases d' with
      | cell z =>
        rw [hn] at z
        cases z
        exact .strm rfl
end
end Ev

set_option autoImplicit false
set_option linter.all false
set_option maxRecDepth 100000
set_option maxHeartbeats 400000
/-! Ev: a whole law. -/
namespace Ev
open PySem PySem.Spec PyProof.Rows L2
inductive EntOk (nm : Nm) (tbl : Nat → Option Ent) (f : Nat) (st : Stmt) (ps : List Str) : Prop
  | code (fn : Fn) : tbl f = some (.code fn) → Txt nm fn st ps → EntOk nm tbl f st ps
  | draw : tbl f = some .draw → Txt nm ⟨2, 5, bDraw⟩ st ps → EntOk nm tbl f st ps
  | stream : tbl f = some .stream → Txt nm ⟨1, 1, bStream⟩ st ps → EntOk nm tbl f st ps
structure TblOk (K : PySem.W.Frag) (mg : Str → Option Value) (nm : Nm) (tbl : Nat → Option Ent) : Prop where
  free : ∀ x ∈ blts, mg x = none
  ent : ∀ f x ps shs, nm f = some (x, ps, shs) → ∃ st, FnC K mg x st ps shs ∧ EntOk nm tbl f st ps
section
variable {P : Program} {wo : World} {K : PySem.W.Frag} {mg : Str → Option Value} {base : Heap} {nm : Nm} {tbl : Nat → Option Ent} {n : Nat}
theorem TblOk.all (h : TblOk K mg nm tbl) : ∀ (j f : Nat) (x : Str) (ps : List Str) (shs : List (List Nat)), nm f = some (x, ps, shs) → FnAt P wo K mg base j (callN tbl n j) f x ps shs
  | 0, f, x, ps, shs, e => by
    obtain ⟨st, F, _⟩ := h.ent f x ps shs e
    exact FnAt.zero F
  | j + 1, f, x, ps, shs, e => by
    obtain ⟨st, F, o⟩ := h.ent f x ps shs e
    cases o with
    | code fn t X => exact FnAt.code F t X h.free (TblOk.all h j)
    | draw t X => exact FnAt.draw F t X h.free (TblOk.all h j)
    | stream t X => exact FnAt.stream F t X h.free (TblOk.all h j)
def spLaw (K : PySem.W.Frag) : Sp := fun vs H Q _ => ∃ (a : Addr) (ns : List Int), vs = [.ref a] ∧ ns.length ≤ 63 ∧ SqL K H a (ns.map V.int) ∧ ∀ H', Q (.bl true) H'
/-- a law that is true of every script -/
theorem law_fn (h : TblOk K mg nm tbl) {j f : Nat} {x : Str} {st : Stmt} {a : Addr} {fd : FuncData} {fn : Fn} (h1 : C8.Fun K x x st a fd) (t : tbl f = some (.code fn)) (X : Txt nm fn st ["script"])
    (ht : ∀ ns : List Int, ns.length ≤ 63 → ∃ M', callN tbl n (j + 1) f [.scr ns] ⟨[], none⟩ = some (.bl true, M')) : FnOk P wo K mg base C8.CX0 (j + 1) a fd ["script"] (spLaw K) := by
  refine (fn_code (P := P) (wo := wo) (base := base) (n := n) h1 t X h.free (h.all j)).imp ?_
  rintro vs H Q E ⟨b, ns, rfl, hl, hs, q⟩
  obtain ⟨M', e⟩ := ht ns hl
  refine ⟨rfl, ⟨[], none, H⟩, ⟨[], none⟩, [.scr ns], .bl true, M', ⟨fun _ _ h => h, rfl, .nil, fun c o a e1 e2 => (by cases e2), rfl⟩, .cons (.scr hs) .nil, e, fun w' H' v _ _ d => ?_⟩
  rw [den_bl d]
  exact q H'
end
/-! ### from the head's facts -/
theorem fun_of {K : PySem.W.Frag} {x : Str} {st : Stmt} {f : Addr} {fd : FuncData} (F : FunD K x x (C8.fnArgs st) (C8.fnBody st) (C8.fnScope st) [] [] f fd) : C8.Fun K x x st f fd := by
  obtain ⟨oc, od, dV, kV, doc, pm, an, cdv, ct, osl, e, lk, hcd, _, _⟩ := F.ex
  exact ⟨oc, od, dV, kV, doc, pm, an, cdv, ct, osl, e, lk, hcd⟩
/-- how a def without defaults binds, seen of its written parameters -/
def BindP (x : Str) (st : Stmt) (ps : List Str) : Prop := ∀ (kV doc pm : Value) (an : Option Addr) (cdv ct : Value) (us : List Value), us.length = ps.length → bindArgs (PySem.W.fnOf x x (C8.fnArgs st) (C8.fnBody st) (C8.fnScope st) .none kV doc pm an cdv ct) ⟨us, []⟩ = pure (ps.zip us)
def BindK (x : Str) (st : Stmt) (ps : List Str) (is : List Nat) : Prop := ∀ (kV doc pm : Value) (an : Option Addr) (cdv ct : Value) (us ws : List Value), us.length = ps.length - is.length → ws.length = is.length →
  bindArgs (PySem.W.fnOf x x (C8.fnArgs st) (C8.fnBody st) (C8.fnScope st) .none kV doc pm an cdv ct) ⟨us, (is.map fun i => ps.getD i "").zip ws⟩ = pure (ps.zip (us ++ reord us.length is ws))
theorem look_vals {x : Nat} : ∀ {is : List Nat} {vs : List V} {us : List Value}, Vals vs us → match (is.zip vs).lookup x, (is.zip us).lookup x with
    | some v, some u => RelV v u
    | none, none => True
    | _, _ => False
  | [], vs, us, _ => by simp
  | i :: is, _, _, .nil => by simp
  | i :: is, v :: _, u :: _, .cons h r => by
    simp only [List.zip_cons_cons, List.lookup_cons]
    cases hx : x == i with
    | true => exact h
    | false => exact look_vals r
theorem reord_vals {n : Nat} {is : List Nat} {vs : List V} {us : List Value} (r : Vals vs us) : Vals (reord n is vs) (reord n is us) := by
  unfold reord
  induction List.range is.length with
  | nil => exact .nil
  | cons i l ih =>
    have h := look_vals (x := n + i) (is := is) r
    rw [List.filterMap_cons, List.filterMap_cons]
    cases h1 : (is.zip vs).lookup (n + i) with
    | none =>
      cases h2 : (is.zip us).lookup (n + i) with
      | none => exact ih
      | some u => rw [h1, h2] at h; exact h.elim
    | some v =>
      cases h2 : (is.zip us).lookup (n + i) with
      | none => rw [h1, h2] at h; exact h.elim
      | some u => rw [h1, h2] at h; exact .cons h ih
theorem fnC_of {K : PySem.W.Frag} {mg : Str → Option Value} {x : Str} {st : Stmt} {f : Addr} {fd : FuncData} {ps : List Str} {shs : List (List Nat)} (F : FunD K x x (C8.fnArgs st) (C8.fnBody st) (C8.fnScope st) [] [] f fd) (hm : mg x = some (.ref f)) (hb : BindP x st ps) (hk : ∀ is ∈ shs, BindK x st ps is) : FnC K mg x st ps shs := by
  refine ⟨f, fd, fun_of F, hm, F.kp, ?_, fun is his => ⟨fun s us ws hK h1 h2 => ?_, fun {vs us zs ws} r1 r2 => ?_⟩⟩
  · obtain ⟨oc, od, dV, kV, doc, pm, an, cdv, ct, osl, rfl, lk, hcd, hD, _⟩ := F.ex
    rcases hD with ⟨_, rfl⟩ | ⟨z, _⟩
    · exact .all fun us hl => hb kV doc pm an cdv ct us hl
    · exact absurd rfl z
  · obtain ⟨oc, od, dV, kV, doc, pm, an, cdv, ct, osl, rfl, lk, hcd, hD, _⟩ := F.ex
    rcases hD with ⟨_, rfl⟩ | ⟨z, _⟩
    · exact .of_eq (hk is his kV doc pm an cdv ct us ws h1 (by simpa using h2))
    · exact absurd rfl z
  · rw [show vs.length = us.length from r1.length]
    exact r1.append (reord_vals r2)
end Ev

set_option autoImplicit false
set_option linter.all false
set_option maxRecDepth 100000
set_option maxHeartbeats 1000000
/-! Ev: the helpers that the laws share. -/
namespace Ev
open PySem
namespace H
/-- 0:stream 1:things -/
def f_law_pick : Fn := ⟨2, 2, (.cons (.ret (.idx (.loc 1 0) (.call 12 (.cons (.loc 0 1) (.cons (.len (.loc 1 2) 3) .nil)) 4) 5) 6) .nil)⟩
/-- 0:found 1:due 2:mine 3:theirs -/
def f_law_same : Fn := ⟨2, 4, (.cons (.iff (.isi (.loc 1 0) (.tup (.cons (.tyn .list 1) (.cons (.tyn .tuple 2) .nil)) 3) 4) (.cons (.iff (.bool false (.cons (.cmp .ne (.isi (.loc 0 5) (.tyn .list 6) 7) (.isi (.loc 1 8) (.tyn .list 9) 10) 11) (.cons (.cmp .ne (.isi (.loc 0 12) (.tyn .tuple 13) 14) (.isi (.loc 1 15) (.tyn .tuple 16) 17) 18) .nil)) 19) (.cons (.ret (.cbl false 20) 21) .nil) .nil 22) (.cons (.ret (.bool true (.cons (.cmp .eq (.len (.loc 0 23) 24) (.len (.loc 1 25) 26) 27) (.cons (.allOf (.inl (.lc (.tup (.cons (.name 2 31) (.cons (.name 3 32) .nil)) 33) (.zip (.loc 0 28) (.loc 1 29) 30) .nil (.call 14 (.cons (.loc 2 34) (.cons (.loc 3 35) .nil)) 36) 37)) 38) .nil)) 39) 40) .nil)) .nil 41) (.cons (.iff (.isi (.loc 1 42) (.tyn .dict 43) 44) (.cons (.ret (.bool true (.cons (.isi (.loc 0 45) (.tyn .dict 46) 47) (.cons (.call 14 (.cons (.inl (.listOf (.nev 48) 49)) (.cons (.inl (.listOf (.nev 50) 51)) .nil)) 52) .nil)) 53) 54) .nil) .nil 55) (.cons (.iff (.bool false (.cons (.isi (.loc 1 56) (.tyn .bool 57) 58) (.cons (.isi (.loc 0 59) (.tyn .bool 60) 61) .nil)) 62) (.cons (.ret (.bool true (.cons (.isi (.loc 1 63) (.tyn .bool 64) 65) (.cons (.isi (.loc 0 66) (.tyn .bool 67) 68) (.cons (.cmp .eq (.loc 0 69) (.loc 1 70) 71) .nil))) 72) 73) .nil) .nil 74) (.cons (.iff (.bool false (.cons (.cmp .is (.loc 1 75) (.cnon 76) 77) (.cons (.cmp .is (.loc 0 78) (.cnon 79) 80) .nil)) 81) (.cons (.ret (.bool true (.cons (.cmp .is (.loc 1 82) (.cnon 83) 84) (.cons (.cmp .is (.loc 0 85) (.cnon 86) 87) .nil)) 88) 89) .nil) .nil 90) (.cons (.iff (.bool false (.cons (.cmp .ne (.isi (.loc 1 91) (.tyn .int 92) 93) (.isi (.loc 0 94) (.tyn .int 95) 96) 97) (.cons (.cmp .ne (.isi (.loc 1 98) (.tyn .str 99) 100) (.isi (.loc 0 101) (.tyn .str 102) 103) 104) .nil)) 105) (.cons (.ret (.cbl false 106) 107) .nil) .nil 108) (.cons (.ret (.bool true (.cons (.nott (.isi (.loc 0 109) (.tup (.cons (.tyn .list 110) (.cons (.tyn .tuple 111) (.cons (.tyn .dict 112) .nil))) 113) 114) 115) (.cons (.cmp .eq (.loc 0 116) (.loc 1 117) 118) .nil)) 119) 120) .nil))))))⟩
/-- 0:thing 1:part -/
def f_law_spoilt : Fn := ⟨1, 2, (.cons (.iff (.isi (.loc 0 0) (.tup (.cons (.tyn .list 1) (.cons (.tyn .tuple 2) .nil)) 3) 4) (.cons (.for_ (.name 1 6) (.val (.loc 0 5)) (.cons (.ex (.call 15 (.cons (.loc 1 7) .nil) 8) 9) .nil) 10) .nil) .nil 11) (.cons (.iff (.isi (.loc 0 12) (.tyn .list 13) 14) (.cons (.ex (.app (.loc 0 15) (.cstr "late" 16) 17) 18) .nil) .nil 19) .nil))⟩
/-- 0:thing 1:some 2:key 3:one -/
def f_law_copied : Fn := ⟨1, 4, (.cons (.iff (.isi (.loc 0 0) (.tyn .dict 1) 2) (.cons (.ret (.nev 3) 4) .nil) .nil 5) (.cons (.asg (.name 1 6) (.ife (.isi (.loc 0 7) (.tup (.cons (.tyn .list 8) (.cons (.tyn .tuple 9) .nil)) 10) 11) (.inl (.lc (.name 3 13) (.val (.loc 0 12)) .nil (.call 16 (.cons (.loc 3 14) .nil) 15) 16)) (.loc 0 17) 18) 19) (.cons (.ret (.ife (.isi (.loc 0 20) (.tyn .tuple 21) 22) (.tupOf (.loc 1 23) 24) (.loc 1 25) 26) 27) .nil)))⟩
/-- 0:stream 1:thing 2:some 3:part -/
def f_law_loose : Fn := ⟨2, 4, (.cons (.iff (.nott (.isi (.loc 1 0) (.tup (.cons (.tyn .list 1) (.cons (.tyn .tuple 2) .nil)) 3) 4) 5) (.cons (.ret (.loc 1 6) 7) .nil) .nil 8) (.cons (.asg (.name 2 9) (.inl (.lc (.name 3 11) (.val (.loc 1 10)) .nil (.call 17 (.cons (.loc 0 12) (.cons (.loc 3 13) .nil)) 14) 15)) 16) (.cons (.ret (.ife (.cmp .eq (.call 12 (.cons (.loc 0 17) (.cons (.cint 2 18) .nil)) 19) (.cint 0 20) 21) (.tupOf (.loc 2 22) 23) (.loc 2 24) 25) 26) .nil)))⟩
/-- 0:stream 1:many 2:most 3:k -/
def f_law_word : Fn := ⟨3, 4, (.cons (.ret (.inl (.lc (.name 3 6) (.rng1 (.call 12 (.cons (.loc 0 0) (.cons (.bin .add (.loc 2 1) (.cint 1 2) 3) .nil)) 4) 5) .nil (.call 12 (.cons (.loc 0 7) (.cons (.loc 1 8) .nil)) 9) 10)) 11) .nil)⟩
/-- 0:stream 1:letters 2:most 3:root 4:way 5:found 6:place -/
def f_law_repeated : Fn := ⟨3, 7, (.cons (.par 3 4 (.call 18 (.cons (.loc 0 0) (.cons (.loc 1 1) (.cons (.cint 5 2) .nil))) 3) (.call 12 (.cons (.loc 0 4) (.cons (.cint 4 5) .nil)) 6) 7) (.cons (.iff (.cmp .eq (.loc 4 9) (.cint 0 10) 11) (.cons (.ret (.call 18 (.cons (.loc 0 12) (.cons (.loc 1 13) (.cons (.loc 2 14) .nil))) 15) 16) .nil) .nil 17) (.cons (.asg (.name 5 18) (.ife (.cmp .eq (.loc 4 19) (.cint 1 20) 21) (.slc (.bin .mul (.loc 3 22) (.cint 12 23) 24) .none (.some (.call 12 (.cons (.loc 0 25) (.cons (.bin .add (.loc 2 26) (.cint 1 27) 28) .nil)) 29)) 30) (.bin .mul (.loc 3 31) (.call 12 (.cons (.loc 0 32) (.cons (.cint 6 33) .nil)) 34) 35) 36) 37) (.cons (.iff (.bool true (.cons (.cmp .eq (.loc 4 38) (.cint 3 39) 40) (.cons (.cmp .ne (.loc 5 41) (.inl (.disp .nil 42)) 43) .nil)) 44) (.cons (.asg (.name 6 45) (.call 12 (.cons (.loc 0 46) (.cons (.len (.loc 5 47) 48) .nil)) 49) 50) (.cons (.asg (.name 5 51) (.bin .add (.bin .add (.slc (.loc 5 52) .none (.some (.loc 6 53)) 54) (.inl (.disp (.cons (.call 12 (.cons (.loc 0 55) (.cons (.loc 1 56) .nil)) 57) .nil) 58)) 59) (.slc (.loc 5 60) (.some (.bin .add (.loc 6 61) (.cint 1 62) 63)) .none 64) 65) 66) .nil)) .nil 67) (.cons (.ret (.slc (.loc 5 68) .none (.some (.loc 2 69)) 70) 71) .nil)))))⟩
end H
open H
/-! ### the evaluator's equations, loops kept -/
def turnE (k : CallF) (tg : G) (ifs : EL) (elt : E) (env : Env) : D → Mem → Res (Option D) := fun d M => match put tg d (wipe env (G.own tg)) with
        | some env' => match evIfs k ifs env' M with
          | some (true, M') => match ev k elt env' M' with
            | some (y, M'') => some (some y, M'')
            | none => none
          | some (false, M') => some (none, M')
          | none => none
        | none => none
def turnS (k : CallF) (n : Nat) (g : G) (b : SL) : D → Env → Mem → Res Out := fun d env M => match put g d env with
        | some env' => exs k n b env' M
        | none => none
def testW (k : CallF) (c : E) : Env → Mem → Res Bool := fun env M => tru (ev k c env M)
def bodyW (k : CallF) (n : Nat) (b : SL) : Env → Mem → Res Out := fun env M => exs k n b env M
section
variable {k : CallF} {n : Nat} {env : Env} {M : Mem}
theorem evF_disp {es : EL} {p : Nat} : evF k (.disp es p) env M = match evs k es env M with
    | some (ds, M') => if ds.length ≤ Lim then some (ds, M') else none
    | none => none := by first | rfl | (rw [evF]; rfl) | rw [evF]
theorem evF_listOf {a : E} {p : Nat} : evF k (.listOf a p) env M = match ev k a env M with
    | some (d, M1) => match lseq M1 d with
      | some xs => some (xs, M1)
      | none => none
    | none => none := by first | rfl | (rw [evF]; rfl) | rw [evF]
theorem evF_lc {tg : G} {it : It} {ifs : EL} {elt : E} {p : Nat} : evF k (.lc tg it ifs elt p) env M = match evIt k it env M with
    | some ((ds, gr), M1) => lcLoop gr (turnE k tg ifs elt env) ds [] M1
    | none => none := by first | rfl | (rw [evF]; rfl) | rw [evF]
theorem ex_for {g : G} {it : It} {b : SL} {p : Nat} : ex k n (.for_ g it b p) env M = match evIt k it env M with
    | some ((ds, gr), M1) => forLoop gr (turnS k n g b) ds env M1
    | none => none := by first | rfl | (rw [ex]; rfl) | rw [ex]
theorem ex_for_it {g : G} {it : It} {b : SL} {p : Nat} {ds : List D} {gr : Grd} {M1 : Mem} (h : evIt k it env M = some ((ds, gr), M1)) : ex k n (.for_ g it b p) env M = forLoop gr (turnS k n g b) ds env M1 := by rw [ex_for, h]
theorem ex_whl {c : E} {b : SL} {p : Nat} : ex k n (.whl c b p) env M = whileLoop (testW k c) (bodyW k n b) n env M := by first | rfl | (rw [ex]; rfl) | rw [ex]
theorem ex_asg {g : G} {e : E} {p : Nat} : ex k n (.asg g e p) env M = match ev k e env M with
    | some (d, M1) => match put g d env with
      | some env' => some (.nx env', M1)
      | none => none
    | none => none := by first | rfl | (rw [ex]; rfl) | rw [ex]
theorem ex_par {i j : Nat} {a b : E} {p : Nat} : ex k n (.par i j a b p) env M = match ev k a env M with
    | some (x, M1) => match ev k b env M1 with
      | some (y, M2) => if i < env.length ∧ j < env.length then some (.nx ((env.set i (some x)).set j (some y)), M2) else none
      | none => none
    | none => none := by first | rfl | (rw [ex]; rfl) | rw [ex]
theorem ex_ex {e : E} {p : Nat} : ex k n (.ex e p) env M = match ev k e env M with
    | some (_, M1) => some (.nx env, M1)
    | none => none := by first | rfl | (rw [ex]; rfl) | rw [ex]
theorem ex_iff {c : E} {a b : SL} {p : Nat} : ex k n (.iff c a b p) env M = match tru (ev k c env M) with
    | some (true, M1) => exs k n a env M1
    | some (false, M1) => exs k n b env M1
    | none => none := by first | rfl | (rw [ex]; rfl) | rw [ex]
theorem ex_ret {e : E} {p : Nat} : ex k n (.ret e p) env M = match ev k e env M with
    | some (d, M1) => some (.rt d, M1)
    | none => none := by first | rfl | (rw [ex]; rfl) | rw [ex]
theorem ex_par_ok {i j : Nat} {a b : E} {p : Nat} {x y : D} {M1 M2 : Mem} (h1 : ev k a env M = some (x, M1)) (h2 : ev k b env M1 = some (y, M2)) (hi : i < env.length) (hj : j < env.length) : ex k n (.par i j a b p) env M = some (.nx ((env.set i (some x)).set j (some y)), M2) := by
  rw [ex_par, h1]; simp only; rw [h2]; simp only; rw [if_pos ⟨hi, hj⟩]
theorem ex_asg_ok {g : G} {e : E} {p : Nat} {d : D} {M1 : Mem} {env' : Env} (h : ev k e env M = some (d, M1)) (hp : put g d env = some env') : ex k n (.asg g e p) env M = some (.nx env', M1) := by
  rw [ex_asg, h]; simp only; rw [hp]
theorem ex_ret_ok {e : E} {p : Nat} {d : D} {M1 : Mem} (h : ev k e env M = some (d, M1)) : ex k n (.ret e p) env M = some (.rt d, M1) := by
  rw [ex_ret, h]
theorem ex_ex_ok {e : E} {p : Nat} {d : D} {M1 : Mem} (h : ev k e env M = some (d, M1)) : ex k n (.ex e p) env M = some (.nx env, M1) := by
  rw [ex_ex, h]
theorem ex_iff_t {c : E} {a b : SL} {p : Nat} {M1 : Mem} (h : tru (ev k c env M) = some (true, M1)) : ex k n (.iff c a b p) env M = exs k n a env M1 := by
  rw [ex_iff, h]
theorem ex_iff_f {c : E} {a b : SL} {p : Nat} {M1 : Mem} (h : tru (ev k c env M) = some (false, M1)) : ex k n (.iff c a b p) env M = exs k n b env M1 := by
  rw [ex_iff, h]
theorem exs_nil : exs k n .nil env M = some (.nx env, M) := by rw [exs]
theorem ev_call_ok {f : Nat} {es : EL} {p : Nat} {ds : List D} {M1 : Mem} {r : Res D} (h : evs k es env M = some (ds, M1)) (hc : k f ds M1 = r) : ev k (.call f es p) env M = r := by
  rw [ev, h]; exact hc
theorem ev_callk_ok {f : Nat} {es : EL} {ks : KL} {p : Nat} {ds more : List D} {kd : List (Nat × D)} {M1 M2 : Mem} {r : Res D} (h : evs k es env M = some (ds, M1)) (h2 : evks k ks env M1 = some (kd, M2)) (h3 : (List.range kd.length).mapM (fun i => kd.lookup (ds.length + i)) = some more) (hc : k f (ds ++ more) M2 = r) : ev k (.callk f es ks p) env M = r := by
  rw [ev, h]; simp only; rw [h2]; simp only; rw [h3]; exact hc
theorem evs_nil : evs k .nil env M = some ([], M) := by rw [evs]
theorem evs_cons_ok {e : E} {es : EL} {d : D} {ds : List D} {M1 M2 : Mem} (h : ev k e env M = some (d, M1)) (h2 : evs k es env M1 = some (ds, M2)) : evs k (.cons e es) env M = some (d :: ds, M2) := by
  rw [evs, h]; simp only; rw [h2]
theorem evks_nil : evks k .nil env M = some ([], M) := by rw [evks]
theorem evks_cons_ok {i : Nat} {e : E} {p : Nat} {ks : KL} {d : D} {ds : List (Nat × D)} {M1 M2 : Mem} (h : ev k e env M = some (d, M1)) (h2 : evks k ks env M1 = some (ds, M2)) : evks k (.cons i e p ks) env M = some ((i, d) :: ds, M2) := by
  rw [evks, h]; simp only; rw [h2]
theorem ev_loc_ok {i p : Nat} {d : D} (h : env[i]? = some (some d)) : ev k (.loc i p) env M = some (d, M) := by
  rw [ev, h]
theorem ev_bin_ok {o : Bop} {a b : E} {p : Nat} {x y z : D} {M1 M2 : Mem} (h1 : ev k a env M = some (x, M1)) (h2 : ev k b env M1 = some (y, M2)) (h3 : opBin M2 o x y = some z) : ev k (.bin o a b p) env M = some (z, M2) := by
  rw [ev, h1]; simp only; rw [h2]; simp only [ofD, h3, Option.map_some]
theorem ev_cmp_ok {o : Cop} {a b : E} {p : Nat} {x y : D} {z : Bool} {M1 M2 : Mem} (h1 : ev k a env M = some (x, M1)) (h2 : ev k b env M1 = some (y, M2)) (h3 : opCmp M2 o x y = some z) : ev k (.cmp o a b p) env M = some (.bl z, M2) := by
  rw [ev, h1]; simp only; rw [h2]; simp only [ofB, h3, Option.map_some]
theorem ev_tup_ok {es : EL} {p : Nat} {ds : List D} {M1 : Mem} (h : evs k es env M = some (ds, M1)) (hl : ds.length ≤ Lim) : ev k (.tup es p) env M = some (.tup ds, M1) := by
  rw [ev, h]; simp only; rw [if_pos hl]
theorem ev_disp_ok {es : EL} {p : Nat} {ds : List D} {M1 : Mem} (h : evs k es env M = some (ds, M1)) (hl : ds.length ≤ Lim) : ev k (.inl (.disp es p)) env M = some (.lst ds, M1) := by
  rw [ev, evF_disp, h]; simp only; rw [if_pos hl]
theorem ev_cdisp_ok {es : EL} {p : Nat} {ds : List D} {M1 : Mem} (h : evs k es env M = some (ds, M1)) (hl : ds.length ≤ Lim) : ev k (.cel (.disp es p)) env M = some (.cell M1.S.length, { M1 with S := M1.S ++ [.lst ds] }) := by
  rw [ev, evF_disp, h]; simp only; rw [if_pos hl]; rfl
theorem ev_lc_ok {tg : G} {it : It} {ifs : EL} {elt : E} {p : Nat} {ds rs : List D} {gr : Grd} {M1 M2 : Mem} (h1 : evIt k it env M = some ((ds, gr), M1)) (h2 : lcLoop gr (turnE k tg ifs elt env) ds [] M1 = some (rs, M2)) : ev k (.inl (.lc tg it ifs elt p)) env M = some (.lst rs, M2) := by
  rw [ev, evF_lc, h1]; simp only; rw [h2]
theorem ev_listOf_ok {a : E} {p : Nat} {d : D} {xs : List D} {M1 : Mem} (h : ev k a env M = some (d, M1)) (h2 : lseq M1 d = some xs) : ev k (.inl (.listOf a p)) env M = some (.lst xs, M1) := by
  rw [ev, evF_listOf, h]; simp only; rw [h2]
theorem ev_idx_ok {a i : E} {p : Nat} {x y z : D} {M1 M2 : Mem} (h1 : ev k a env M = some (x, M1)) (h2 : ev k i env M1 = some (y, M2)) (h3 : idxD M2 x y = some z) : ev k (.idx a i p) env M = some (z, M2) := by
  rw [ev, h1]; simp only; rw [h2]; simp only [ofD, h3, Option.map_some]
theorem tru_not_ok {a : E} {p : Nat} {v : Bool} {M1 : Mem} (h : tru (ev k a env M) = some (v, M1)) : tru (ev k (.nott a p) env M) = some (!v, M1) := by
  rw [ev, h]; rfl
theorem tru_bl {e : E} {v : Bool} {M1 : Mem} (h : ev k e env M = some (.bl v, M1)) : tru (ev k e env M) = some (v, M1) := by
  rw [h]; rfl
theorem bool_or1 {e : E} {es : EL} {e2 : E} {p : Nat} {M1 : Mem} {r : Res Bool} (h : tru (ev k e env M) = some (false, M1)) (h2 : tru (evBool k false (.cons e2 es) env M1) = r) : tru (evBool k false (.cons e (.cons e2 es)) env M) = r := by
  rw [evBool]
  cases he : ev k e env M with
  | none => rw [he] at h; cases h
  | some q =>
    obtain ⟨d, M2⟩ := q
    rw [he] at h
    simp only [tru] at h
    cases ht : truth M2 d with
    | none => rw [ht] at h; cases h
    | some v =>
      rw [ht] at h
      cases h
      simp only [ht]
      exact h2
theorem bool_last {w : Bool} {e : E} : evBool k w (.cons e .nil) env M = ev k e env M := by rw [evBool]
theorem ev_bool {w : Bool} {es : EL} {p : Nat} : ev k (.bool w es p) env M = evBool k w es env M := by rw [ev]
theorem exs_nx {s : S} {ss : SL} {env' : Env} {M' : Mem} (h : ex k n s env M = some (.nx env', M')) : exs k n (.cons s ss) env M = exs k n ss env' M' := by rw [exs, h]
theorem exs_rt {s : S} {ss : SL} {d : D} {M' : Mem} (h : ex k n s env M = some (.rt d, M')) : exs k n (.cons s ss) env M = some (.rt d, M') := by rw [exs, h]
theorem ex_pass {p : Nat} : ex k n (.pass p) env M = some (.nx env, M) := by first | rfl | (rw [ex]; rfl) | rw [ex]
end
/-- what is known of the stream, with room for b draws more -/
structure Bud (b : Nat) (s : Strm) : Prop where
  c0 : 0 ≤ s.cnt
  c1 : s.cnt + b ≤ 2 ^ 40
  m0 : 0 ≤ s.mix
  m1 : s.mix < 2 ^ 31
theorem Bud.mono {a b : Nat} {s : Strm} (h : Bud b s) (l : a ≤ b) : Bud a s := ⟨h.c0, by have := h.c1; omega, h.m0, h.m1⟩
theorem Bud.fit {b : Nat} {s : Strm} (h : Bud (b + 1) s) : s.fit = true := by
  obtain ⟨h1, h2, h3, h4⟩ := h
  simp only [Strm.fit, Bool.and_eq_true, decide_eq_true_eq]
  exact ⟨⟨⟨h1, by omega⟩, h3⟩, h4⟩
theorem drawF_bud {b : Nat} {s : Strm} {m : Int} (h : Bud (b + 1) s) (h0 : 0 < m) : 0 ≤ (drawF s m).1 ∧ (drawF s m).1 < m ∧ Bud b (drawF s m).2 := by
  obtain ⟨h1, h2, h3, h4⟩ := h
  obtain ⟨q0, q1⟩ := drawCells_mix s.cells s.big s.mix h3 h4
  unfold drawF
  simp only
  split
  · exact ⟨Int.emod_nonneg _ (by omega), Int.emod_lt_of_pos _ h0, ⟨by simp only; omega, by simp only; omega, q0, q1⟩⟩
  · exact ⟨Int.emod_nonneg _ (by omega), Int.emod_lt_of_pos _ h0, ⟨by simp only; omega, by simp only; omega, q0, q1⟩⟩
/-- the ids under which the helpers stand -/
structure Hs (tbl : Nat → Option Ent) : Prop where
  stream : tbl 11 = some .stream
  draw : tbl 12 = some .draw
section
variable {tbl : Nat → Option Ent} {n k : Nat} {S : List C}
theorem stream_spec (h : tbl 11 = some .stream) {ns : List Int} (hl : ns.length ≤ 63) : ∃ s, callN tbl n (k + 1) 11 [.scr ns] ⟨S, none⟩ = some (.strm, ⟨S, some s⟩) ∧ Bud (2 ^ 40) s := by
  refine ⟨⟨ns, 0, 0, 17⟩, ?_, ⟨Int.le_refl 0, by show (0 : Int) + ((2 ^ 40 : Nat) : Int) ≤ 2 ^ 40; decide, by show (0 : Int) ≤ 17; decide, by show (17 : Int) < 2 ^ 31; decide⟩⟩
  simp only [callN, h]
  rw [if_pos (by show ns.length ≤ 16777216; omega)]
theorem draw_spec (h : tbl 12 = some .draw) {b : Nat} {s : Strm} {m : Int} (hb : Bud (b + 1) s) (h0 : 0 < m) (h1 : m < 1073741824) : ∃ r s', callN tbl n (k + 1) 12 [.strm, .int m] ⟨S, some s⟩ = some (.int r, ⟨S, some s'⟩) ∧ 0 ≤ r ∧ r < m ∧ Bud b s' := by
  obtain ⟨q0, q1, q2⟩ := drawF_bud hb h0
  refine ⟨(drawF s m).1, (drawF s m).2, ?_, q0, q1, q2⟩
  simp only [callN, h]
  rw [if_pos ⟨h0, h1, hb.fit⟩]
theorem trim_same {S : List C} {d : D} {M : Mem} (h : M.S = S) : trim S d M = (d, M) := by
  unfold trim; rw [if_pos (by rw [h])]
/-- a function of the table by its body -/
theorem call_ret {f : Nat} {fn : Fn} {ds : List D} {M : Mem} {d : D} {M' : Mem} (t : tbl f = some (.code fn)) (hl : ds.length = fn.np) (h : exs (callN tbl n k) n fn.body (ds.map some ++ List.replicate (fn.ns - ds.length) none) M = some (.rt d, M')) (hS : M'.S = M.S) : callN tbl n (k + 1) f ds M = some (d, M') := by
  simp only [callN, t]
  rw [if_pos hl, h]
  simp only
  rw [trim_same hS]
theorem call_nx {f : Nat} {fn : Fn} {ds : List D} {M : Mem} {e : Env} {M' : Mem} (t : tbl f = some (.code fn)) (hl : ds.length = fn.np) (h : exs (callN tbl n k) n fn.body (ds.map some ++ List.replicate (fn.ns - ds.length) none) M = some (.nx e, M')) (hS : M'.S.length = M.S.length) : callN tbl n (k + 1) f ds M = some (.non, M') := by
  simp only [callN, t]
  rw [if_pos hl, h]
  simp only [trim, hS, if_true]
/-! ### comprehensions -/
inductive All2 {α β : Type} (P : α → β → Prop) : List α → List β → Prop
  | nil : All2 P [] []
  | cons {a : α} {b : β} {as : List α} {bs : List β} : P a b → All2 P as bs → All2 P (a :: as) (b :: bs)
/-- each turn makes an item; the stream alone changes -/
theorem lc_draws {g : Grd} {turn : D → Mem → Res (Option D)} {P : D → D → Prop} {c : Nat} (hg : ∀ st, gok g ⟨S, st⟩ = true) (ht : ∀ d b s, Bud (b + c) s → ∃ y s', turn d ⟨S, some s⟩ = some (some y, ⟨S, some s'⟩) ∧ P d y ∧ Bud b s') :
    ∀ (ds acc : List D) (b : Nat) (s : Strm), acc.length + ds.length ≤ Lim → Bud (b + c * ds.length) s → ∃ ys s', lcLoop g turn ds acc ⟨S, some s⟩ = some (acc ++ ys, ⟨S, some s'⟩) ∧ All2 P ds ys ∧ Bud b s'
  | [], acc, b, s, hl, hb => ⟨[], s, by simp [lcLoop, hg], .nil, by simpa using hb⟩
  | d :: ds, acc, b, s, hl, hb => by
    have hb' : Bud ((b + c * ds.length) + c) s := by
      refine hb.mono (Nat.le_of_eq ?_)
      rw [List.length_cons, Nat.mul_succ]; omega
    obtain ⟨y, s1, e1, p1, b1⟩ := ht d _ s hb'
    obtain ⟨ys, s2, e2, p2, b2⟩ := lc_draws hg ht ds (acc ++ [y]) b s1 (by simp at hl ⊢; omega) b1
    refine ⟨y :: ys, s2, ?_, .cons p1 p2, b2⟩
    have hlt : acc.length < Lim := by simp at hl; omega
    rw [lcLoop, if_pos (hg _), e1]
    simp only
    rw [if_pos hlt, e2, List.append_assoc]; rfl
/-- nothing changes -/
theorem lc_pure {g : Grd} {turn : D → Mem → Res (Option D)} {M : Mem} (f : D → Option D) (hg : gok g M = true) : ∀ (ds acc : List D), (∀ d ∈ ds, turn d M = some (f d, M)) → acc.length + ds.length ≤ Lim → lcLoop g turn ds acc M = some (acc ++ ds.filterMap f, M)
  | [], acc, ht, hl => by simp [lcLoop, hg]
  | d :: ds, acc, ht, hl => by
    have h1 := ht d (by simp)
    have h2 : ∀ x ∈ ds, turn x M = some (f x, M) := fun x hx => ht x (by simp [hx])
    have hlt : acc.length < Lim := by simp at hl; omega
    rw [lcLoop, if_pos hg, h1]
    cases hf : f d with
    | none => simp only; rw [lc_pure f hg ds acc h2 (by simp at hl; omega), List.filterMap_cons, hf]
    | some y =>
      simp only
      rw [if_pos hlt, lc_pure f hg ds (acc ++ [y]) h2 (by simp at hl ⊢; omega), List.filterMap_cons, hf, List.append_assoc]; rfl
abbrev lints (l : List Int) : List D := l.map .int
theorem range_len (j : Int) : (rangeD 0 j).length = j.toNat := by simp [rangeD]
theorem forall2_len {α β : Type} {P : α → β → Prop} : ∀ {xs : List α} {ys : List β}, All2 P xs ys → xs.length = ys.length
  | _, _, .nil => rfl
  | _, _, .cons _ r => by simp [forall2_len r]
theorem word_spec (h : tbl 12 = some .draw) (t : tbl 18 = some (.code f_law_word)) {b : Nat} {s : Strm} {many most : Int} (h0 : 0 < many) (h1 : many < 1073741824) (h2 : 0 ≤ most) (h3 : most < 1000000) (hb : Bud (b + most.toNat + 1) s) :
    ∃ l s', callN tbl n (k + 2) 18 [.strm, .int many, .int most] ⟨S, some s⟩ = some (.lst (lints l), ⟨S, some s'⟩) ∧ (l.length : Int) ≤ most ∧ (∀ x ∈ l, 0 ≤ x ∧ x < many) ∧ Bud b s' := by
  obtain ⟨r, s1, e1, r0, r1, b1⟩ := draw_spec (n := n) (k := k) (S := S) h hb (show 0 < most + 1 by omega) (by omega)
  have hb1 : Bud (b + 1 * (rangeD 0 r).length) s1 := b1.mono (by rw [range_len]; omega)
  have key := lc_draws (S := S) (g := []) (c := 1) (P := fun _ y => ∃ i : Int, y = .int i ∧ 0 ≤ i ∧ i < many) (turn := turnE (callN tbl n (k + 1)) (.name 3 6) .nil (.call 12 (.cons (.loc 0 7) (.cons (.loc 1 8) .nil)) 9) [some .strm, some (.int many), some (.int most), none]) (fun _ => rfl) (fun d b s hb => by
      obtain ⟨i, s', e, i0, i1, b'⟩ := draw_spec (n := n) (k := k) (S := S) h hb h0 h1
      refine ⟨.int i, s', ?_, ⟨i, rfl, i0, i1⟩, b'⟩
      simp [turnE, put, wipe, G.own, evIfs, ev, evs, e]) (rangeD 0 r) [] b s1 (by
      rw [range_len]; simp only [List.length_nil, Nat.zero_add]; show r.toNat ≤ 16777216; omega) hb1
  obtain ⟨ys, s2, e2, p2, b2⟩ := key
  have : ∃ l : List Int, ys = lints l ∧ ∀ x ∈ l, 0 ≤ x ∧ x < many := by
    clear e2 hb1
    generalize rangeD 0 r = ds at p2
    induction p2 with
    | nil => exact ⟨[], rfl, by simp⟩
    | cons p _ ih =>
      obtain ⟨i, rfl, i0, i1⟩ := p
      obtain ⟨l, rfl, hl⟩ := ih
      exact ⟨i :: l, rfl, by simp; exact ⟨⟨i0, i1⟩, fun a ha => hl a ha⟩⟩
  obtain ⟨l, rfl, hl⟩ := this
  refine ⟨l, s2, call_ret t rfl ?_ rfl, ?_, hl, b2⟩
  · have hop : ∀ M, opBin M .add (.int most) (.int 1) = some (.int (most + 1)) := fun M => by simp [opBin, intBin]
    have hin : in62 r = true := by simp only [in62, Bool.and_eq_true, decide_eq_true_eq]; omega
    simp [f_law_word, exs, ex_ret, ev, evF_lc, evIt, evs, ofD, hop, e1, hin, e2]
  · have := forall2_len p2
    rw [range_len, List.length_map] at this
    omega
end
/-! ### small facts -/
@[simp] theorem lim_1 : (1 : Nat) ≤ Lim := by decide
@[simp] theorem lim_2 : (2 : Nat) ≤ Lim := by decide
@[simp] theorem lim_3 : (3 : Nat) ≤ Lim := by decide
@[simp] theorem lim_4 : (4 : Nat) ≤ Lim := by decide
@[simp] theorem lim_5 : (5 : Nat) ≤ Lim := by decide
@[simp] theorem lim_6 : (6 : Nat) ≤ Lim := by decide
@[simp] theorem lim_7 : (7 : Nat) ≤ Lim := by decide
@[simp] theorem lim_8 : (8 : Nat) ≤ Lim := by decide
@[simp] theorem lim_9 : (9 : Nat) ≤ Lim := by decide
@[simp] theorem lim_10 : (10 : Nat) ≤ Lim := by decide
@[simp] theorem lim_11 : (11 : Nat) ≤ Lim := by decide
@[simp] theorem lim_12 : (12 : Nat) ≤ Lim := by decide
section
variable {M : Mem}
@[simp] theorem isi_non_int : isiD M .non (.ty .int) = some false := rfl
@[simp] theorem isi_non_bool : isiD M .non (.ty .bool) = some false := rfl
@[simp] theorem isi_non_str : isiD M .non (.ty .str) = some false := rfl
@[simp] theorem isi_non_list : isiD M .non (.ty .list) = some false := rfl
@[simp] theorem isi_non_tuple : isiD M .non (.ty .tuple) = some false := rfl
@[simp] theorem isi_non_dict : isiD M .non (.ty .dict) = some false := rfl
@[simp] theorem isi_non_lt : isiD M .non (.tup [.ty .list, .ty .tuple]) = some false := rfl
@[simp] theorem isi_non_ltd : isiD M .non (.tup [.ty .list, .ty .tuple, .ty .dict]) = some false := rfl
@[simp] theorem isi_non_ib : isiD M .non (.tup [.ty .int, .ty .bool]) = some false := rfl
@[simp] theorem isi_non_is : isiD M .non (.tup [.ty .int, .ty .str]) = some false := rfl
@[simp] theorem isi_non_td : isiD M .non (.tup [.ty .tuple, .ty .dict]) = some false := rfl
@[simp] theorem isi_non_ld : isiD M .non (.tup [.ty .list, .ty .dict]) = some false := rfl
@[simp] theorem isi_bl_int {b : Bool} : isiD M (.bl b) (.ty .int) = some true := rfl
@[simp] theorem isi_bl_bool {b : Bool} : isiD M (.bl b) (.ty .bool) = some true := rfl
@[simp] theorem isi_bl_str {b : Bool} : isiD M (.bl b) (.ty .str) = some false := rfl
@[simp] theorem isi_bl_list {b : Bool} : isiD M (.bl b) (.ty .list) = some false := rfl
@[simp] theorem isi_bl_tuple {b : Bool} : isiD M (.bl b) (.ty .tuple) = some false := rfl
@[simp] theorem isi_bl_dict {b : Bool} : isiD M (.bl b) (.ty .dict) = some false := rfl
@[simp] theorem isi_bl_lt {b : Bool} : isiD M (.bl b) (.tup [.ty .list, .ty .tuple]) = some false := rfl
@[simp] theorem isi_bl_ltd {b : Bool} : isiD M (.bl b) (.tup [.ty .list, .ty .tuple, .ty .dict]) = some false := rfl
@[simp] theorem isi_bl_ib {b : Bool} : isiD M (.bl b) (.tup [.ty .int, .ty .bool]) = some true := rfl
@[simp] theorem isi_bl_is {b : Bool} : isiD M (.bl b) (.tup [.ty .int, .ty .str]) = some true := rfl
@[simp] theorem isi_bl_td {b : Bool} : isiD M (.bl b) (.tup [.ty .tuple, .ty .dict]) = some false := rfl
@[simp] theorem isi_bl_ld {b : Bool} : isiD M (.bl b) (.tup [.ty .list, .ty .dict]) = some false := rfl
@[simp] theorem isi_int_int {i : Int} : isiD M (.int i) (.ty .int) = some true := rfl
@[simp] theorem isi_int_bool {i : Int} : isiD M (.int i) (.ty .bool) = some false := rfl
@[simp] theorem isi_int_str {i : Int} : isiD M (.int i) (.ty .str) = some false := rfl
@[simp] theorem isi_int_list {i : Int} : isiD M (.int i) (.ty .list) = some false := rfl
@[simp] theorem isi_int_tuple {i : Int} : isiD M (.int i) (.ty .tuple) = some false := rfl
@[simp] theorem isi_int_dict {i : Int} : isiD M (.int i) (.ty .dict) = some false := rfl
@[simp] theorem isi_int_lt {i : Int} : isiD M (.int i) (.tup [.ty .list, .ty .tuple]) = some false := rfl
@[simp] theorem isi_int_ltd {i : Int} : isiD M (.int i) (.tup [.ty .list, .ty .tuple, .ty .dict]) = some false := rfl
@[simp] theorem isi_int_ib {i : Int} : isiD M (.int i) (.tup [.ty .int, .ty .bool]) = some true := rfl
@[simp] theorem isi_int_is {i : Int} : isiD M (.int i) (.tup [.ty .int, .ty .str]) = some true := rfl
@[simp] theorem isi_int_td {i : Int} : isiD M (.int i) (.tup [.ty .tuple, .ty .dict]) = some false := rfl
@[simp] theorem isi_int_ld {i : Int} : isiD M (.int i) (.tup [.ty .list, .ty .dict]) = some false := rfl
@[simp] theorem isi_str_int {x : Str} : isiD M (.str x) (.ty .int) = some false := rfl
@[simp] theorem isi_str_bool {x : Str} : isiD M (.str x) (.ty .bool) = some false := rfl
@[simp] theorem isi_str_str {x : Str} : isiD M (.str x) (.ty .str) = some true := rfl
@[simp] theorem isi_str_list {x : Str} : isiD M (.str x) (.ty .list) = some false := rfl
@[simp] theorem isi_str_tuple {x : Str} : isiD M (.str x) (.ty .tuple) = some false := rfl
@[simp] theorem isi_str_dict {x : Str} : isiD M (.str x) (.ty .dict) = some false := rfl
@[simp] theorem isi_str_lt {x : Str} : isiD M (.str x) (.tup [.ty .list, .ty .tuple]) = some false := rfl
@[simp] theorem isi_str_ltd {x : Str} : isiD M (.str x) (.tup [.ty .list, .ty .tuple, .ty .dict]) = some false := rfl
@[simp] theorem isi_str_ib {x : Str} : isiD M (.str x) (.tup [.ty .int, .ty .bool]) = some false := rfl
@[simp] theorem isi_str_is {x : Str} : isiD M (.str x) (.tup [.ty .int, .ty .str]) = some true := rfl
@[simp] theorem isi_str_td {x : Str} : isiD M (.str x) (.tup [.ty .tuple, .ty .dict]) = some false := rfl
@[simp] theorem isi_str_ld {x : Str} : isiD M (.str x) (.tup [.ty .list, .ty .dict]) = some false := rfl
@[simp] theorem isi_tup_int {xs : List D} : isiD M (.tup xs) (.ty .int) = some false := rfl
@[simp] theorem isi_tup_bool {xs : List D} : isiD M (.tup xs) (.ty .bool) = some false := rfl
@[simp] theorem isi_tup_str {xs : List D} : isiD M (.tup xs) (.ty .str) = some false := rfl
@[simp] theorem isi_tup_list {xs : List D} : isiD M (.tup xs) (.ty .list) = some false := rfl
@[simp] theorem isi_tup_tuple {xs : List D} : isiD M (.tup xs) (.ty .tuple) = some true := rfl
@[simp] theorem isi_tup_dict {xs : List D} : isiD M (.tup xs) (.ty .dict) = some false := rfl
@[simp] theorem isi_tup_lt {xs : List D} : isiD M (.tup xs) (.tup [.ty .list, .ty .tuple]) = some true := rfl
@[simp] theorem isi_tup_ltd {xs : List D} : isiD M (.tup xs) (.tup [.ty .list, .ty .tuple, .ty .dict]) = some true := rfl
@[simp] theorem isi_tup_ib {xs : List D} : isiD M (.tup xs) (.tup [.ty .int, .ty .bool]) = some false := rfl
@[simp] theorem isi_tup_is {xs : List D} : isiD M (.tup xs) (.tup [.ty .int, .ty .str]) = some false := rfl
@[simp] theorem isi_tup_td {xs : List D} : isiD M (.tup xs) (.tup [.ty .tuple, .ty .dict]) = some true := rfl
@[simp] theorem isi_tup_ld {xs : List D} : isiD M (.tup xs) (.tup [.ty .list, .ty .dict]) = some false := rfl
@[simp] theorem isi_lst_int {xs : List D} : isiD M (.lst xs) (.ty .int) = some false := rfl
@[simp] theorem isi_lst_bool {xs : List D} : isiD M (.lst xs) (.ty .bool) = some false := rfl
@[simp] theorem isi_lst_str {xs : List D} : isiD M (.lst xs) (.ty .str) = some false := rfl
@[simp] theorem isi_lst_list {xs : List D} : isiD M (.lst xs) (.ty .list) = some true := rfl
@[simp] theorem isi_lst_tuple {xs : List D} : isiD M (.lst xs) (.ty .tuple) = some false := rfl
@[simp] theorem isi_lst_dict {xs : List D} : isiD M (.lst xs) (.ty .dict) = some false := rfl
@[simp] theorem isi_lst_lt {xs : List D} : isiD M (.lst xs) (.tup [.ty .list, .ty .tuple]) = some true := rfl
@[simp] theorem isi_lst_ltd {xs : List D} : isiD M (.lst xs) (.tup [.ty .list, .ty .tuple, .ty .dict]) = some true := rfl
@[simp] theorem isi_lst_ib {xs : List D} : isiD M (.lst xs) (.tup [.ty .int, .ty .bool]) = some false := rfl
@[simp] theorem isi_lst_is {xs : List D} : isiD M (.lst xs) (.tup [.ty .int, .ty .str]) = some false := rfl
@[simp] theorem isi_lst_td {xs : List D} : isiD M (.lst xs) (.tup [.ty .tuple, .ty .dict]) = some false := rfl
@[simp] theorem isi_lst_ld {xs : List D} : isiD M (.lst xs) (.tup [.ty .list, .ty .dict]) = some true := rfl
theorem eqD_int (i j : Int) : eqD M (.int i) (.int j) = some (i == j) := by
  simp [eqD, view, D.pure, D.py, SeqAt.shaped, PyData.canLay0, PyData.depth, PyData.eqv]
theorem eqD_bl (i j : Bool) : eqD M (.bl i) (.bl j) = some (i == j) := by
  simp [eqD, view, D.pure, D.py, SeqAt.shaped, PyData.canLay0, PyData.depth, PyData.eqv]
theorem eqD_str {x : Str} (h : PyData.canLay0 (.str x) = true) : eqD M (.str x) (.str x) = some true := by
  simp [eqD, view, D.pure, D.py, SeqAt.shaped, h, PyData.depth, PyData.eqv]
/-! ### data seen through the cells -/
mutual
inductive Sees (M : Mem) : D → D → Prop
  | non : Sees M .non .non
  | bl (b : Bool) : Sees M (.bl b) (.bl b)
  | int (i : Int) : Sees M (.int i) (.int i)
  | str (x : Str) : PyData.canLay0 (.str x) = true → Sees M (.str x) (.str x)
  | tup {xs ts : List D} : SeesL M xs ts → ts.length ≤ Lim → Sees M (.tup xs) (.tup ts)
  | lst {xs ts : List D} : SeesL M xs ts → ts.length ≤ Lim → Sees M (.lst xs) (.lst ts)
  | cell {c : Nat} {xs ts : List D} : M.S[c]? = some (.lst xs) → SeesL M xs ts → ts.length ≤ Lim → Sees M (.cell c) (.lst ts)
inductive SeesL (M : Mem) : List D → List D → Prop
  | nil : SeesL M [] []
  | cons {x t : D} {xs ts : List D} : Sees M x t → SeesL M xs ts → SeesL M (x :: xs) (t :: ts)
end
theorem SeesL.len : ∀ {xs ts : List D}, SeesL M xs ts → xs.length = ts.length
  | _, _, .nil => rfl
  | _, _, .cons _ r => by simp [r.len]
theorem seesL_ints (l : List Int) : SeesL M (lints l) (lints l) := by
  induction l with
  | nil => exact .nil
  | cons a l ih => exact .cons (.int a) ih
mutual
def D.hgt : D → Nat
  | .tup xs => D.hgts xs + 1
  | .lst xs => D.hgts xs + 1
  | _ => 0
def D.hgts : List D → Nat
  | [] => 0
  | x :: xs => max (D.hgt x) (D.hgts xs)
end
theorem hgts_ints (l : List Int) : D.hgts (lints l) = 0 := by
  induction l with
  | nil => rfl
  | cons a l ih => simp [D.hgts, D.hgt, ih]
/-- a list, as it is seen -/
structure LookL (M : Mem) (x : D) (xs : List D) (ts : List D) : Prop where
  isl : isiD M x (.ty .list) = some true
  ist : isiD M x (.ty .tuple) = some false
  islt : isiD M x (.tup [.ty .list, .ty .tuple]) = some true
  isd : isiD M x (.ty .dict) = some false
  len : lenD M x = some ts.length
  walk : ∃ g, walkOf M x = some (xs, g) ∧ gok g M = true
  tup : isTup x = false
  see : SeesL M xs ts
theorem Sees.list {x : D} {ts : List D} (h : Sees M x (.lst ts)) : ∃ xs, LookL M x xs ts := by
  cases h with
  | lst r hl => exact ⟨_, rfl, rfl, rfl, rfl, by simp [lenD, seqOf, listOf, r.len], ⟨[], rfl, rfl⟩, rfl, r⟩
  | @cell c xs ts e r hl => exact ⟨xs, by simp [isiD, isiOne, tyOf, e, isTy], by simp [isiD, isiOne, tyOf, e, isTy], by simp [isiD, tysOf, tyOf, e, isTy], by simp [isiD, isiOne, tyOf, e, isTy], by simp [lenD, e, r.len], ⟨[(c, xs)], by simp [walkOf, e], by simp [gok, e, beqs_refl]⟩, rfl, r⟩
structure LookT (M : Mem) (x : D) (xs : List D) (ts : List D) : Prop where
  eq : x = .tup xs
  see : SeesL M xs ts
theorem Sees.tuple {x : D} {ts : List D} (h : Sees M x (.tup ts)) : ∃ xs, x = .tup xs ∧ SeesL M xs ts := by
  cases h with
  | tup r hl => exact ⟨_, rfl, r⟩
theorem Sees.short {x : D} {ts : List D} (h : Sees M x (.lst ts) ∨ Sees M x (.tup ts)) : ts.length ≤ Lim := by
  rcases h with h | h
  · cases h with
    | lst r hl => exact hl
    | cell e r hl => exact hl
  · cases h with
    | tup r hl => exact hl
theorem zip_len2 : ∀ {xs ys : List D}, xs.length = ys.length → (zipD xs ys).length = xs.length
  | [], [], _ => rfl
  | [], _ :: _, h => by simp at h
  | _ :: _, [], h => by simp at h
  | x :: xs, y :: ys, h => by
    have h' : xs.length = ys.length := by simpa using h
    simp [zipD, zip_len2 h']
theorem bools_true : ∀ l : List D, bools (l.map fun _ => .bl true) = some (l.map fun _ => true)
  | [] => rfl
  | a :: l => by simp [bools, bools_true l]
end
section
variable {tbl : Nat → Option Ent} {n : Nat} {M : Mem}
theorem same_all {k : Nat} {env : Env} (hE : env.length = 4) {xs ys : List D} (h : ∀ d ∈ zipD xs ys, ∃ x y, d = .tup [x, y] ∧ callN tbl n k 14 [x, y] M = some (.bl true, M)) {g : Grd} (hg : gok g M = true) (hl : (zipD xs ys).length ≤ Lim) :
    lcLoop g (turnE (callN tbl n k) (.tup (.cons (.name 2 31) (.cons (.name 3 32) .nil)) 33) .nil (.call 14 (.cons (.loc 2 34) (.cons (.loc 3 35) .nil)) 36) env) (zipD xs ys) [] M = some ((zipD xs ys).map fun _ => .bl true, M) := by
  match env, hE with
  | [a, b, c, e], _ =>
    have := lc_pure (g := g) (turn := turnE (callN tbl n k) (.tup (.cons (.name 2 31) (.cons (.name 3 32) .nil)) 33) .nil (.call 14 (.cons (.loc 2 34) (.cons (.loc 3 35) .nil)) 36) [a, b, c, e]) (M := M) (fun _ => some (.bl true)) hg (zipD xs ys) [] (fun d hd => by
      obtain ⟨x, y, rfl, e1⟩ := h d hd
      simp [turnE, put, puts, wipe, G.own, GL.own, evIfs, ev, evs, e1]) (by simpa using hl)
    rw [this]
    simp
mutual
theorem same_spec (t0 : tbl 14 = some (.code f_law_same)) : ∀ (t : D) (k : Nat) (x y : D), Sees M x t → Sees M y t → t.hgt ≤ k → callN tbl n (k + 1) 14 [x, y] M = some (.bl true, M)
  | .non, k, x, y, hx, hy, hh => by
    cases hx; cases hy
    refine call_ret t0 rfl ?_ rfl
    simp [f_law_same, exs, ex_iff, ex_ret, ev, evs, evBool, ofB, tru, truth, opCmp, eqD_bl]
  | .bl b, k, x, y, hx, hy, hh => by
    cases hx; cases hy
    refine call_ret t0 rfl ?_ rfl
    simp [f_law_same, exs, ex_iff, ex_ret, ev, evs, evBool, ofB, tru, truth, opCmp, eqD_bl]
  | .int b, k, x, y, hx, hy, hh => by
    cases hx; cases hy
    refine call_ret t0 rfl ?_ rfl
    simp [f_law_same, exs, ex_iff, ex_ret, ev, evs, evBool, ofB, tru, truth, opCmp, eqD_bl, eqD_int]
  | .str b, k, x, y, hx, hy, hh => by
    cases hx with
    | str _ hs =>
      cases hy
      refine call_ret t0 rfl ?_ rfl
      simp [f_law_same, exs, ex_iff, ex_ret, ev, evs, evBool, ofB, tru, truth, opCmp, eqD_bl, eqD_str hs]
  | .lst ts, k, x, y, hx, hy, hh => by
    obtain ⟨xs, lx⟩ := hx.list
    obtain ⟨ys, ly⟩ := hy.list
    simp only [D.hgt] at hh
    match k, hh with
    | k + 1, hh =>
      have hall := same_specs t0 ts k xs ys lx.see ly.see (by omega)
      obtain ⟨g1, w1, k1⟩ := lx.walk
      obtain ⟨g2, w2, k2⟩ := ly.walk
      have hz : (zipD xs ys).length = ts.length := by rw [zip_len2 (lx.see.len.trans ly.see.len.symm), lx.see.len]
      have hlc := same_all (env := [some x, some y, none, none]) rfl hall (g := g1 ++ g2) (by rw [gok_append, k1, k2]; rfl) (by rw [hz]; exact Sees.short (.inl hx))
      refine call_ret t0 rfl ?_ rfl
      simp [f_law_same, exs, ex_iff, ex_ret, ev, evs, evBool, evF_lc, evIt, lx.isl, lx.ist, lx.islt, lx.len, lx.tup, ly.isl, ly.ist, ly.islt, ly.len, ly.tup, ofB, ofD, tru, truth, opCmp, eqD_bl, eqD_int, w1, w2, hlc, listOf, bools_true]
  | .tup ts, k, x, y, hx, hy, hh => by
    obtain ⟨xs, rfl, sx⟩ := hx.tuple
    obtain ⟨ys, rfl, sy⟩ := hy.tuple
    simp only [D.hgt] at hh
    match k, hh with
    | k + 1, hh =>
      have hall := same_specs t0 ts k xs ys sx sy (by omega)
      have hz : (zipD xs ys).length = ts.length := by rw [zip_len2 (sx.len.trans sy.len.symm), sx.len]
      have hlc := same_all (env := [some (.tup xs), some (.tup ys), none, none]) rfl hall (g := []) rfl (by rw [hz]; exact Sees.short (.inr hx))
      refine call_ret t0 rfl ?_ rfl
      simp [f_law_same, exs, ex_iff, ex_ret, ev, evs, evBool, evF_lc, evIt, lenD, seqOf, sx.len, sy.len, isTup, walkOf, ofB, ofD, tru, truth, opCmp, eqD_bl, eqD_int, hlc, listOf, bools_true]
  | .dic _ _, k, x, y, hx, hy, hh => by cases hx
  | .ty _, k, x, y, hx, hy, hh => by cases hx
  | .cell _, k, x, y, hx, hy, hh => by cases hx
  | .strm, k, x, y, hx, hy, hh => by cases hx
  | .scr _, k, x, y, hx, hy, hh => by cases hx
  | .rng _ _, k, x, y, hx, hy, hh => by cases hx
theorem same_specs (t0 : tbl 14 = some (.code f_law_same)) : ∀ (ts : List D) (k : Nat) (xs ys : List D), SeesL M xs ts → SeesL M ys ts → D.hgts ts ≤ k → ∀ d ∈ zipD xs ys, ∃ x y, d = .tup [x, y] ∧ callN tbl n (k + 1) 14 [x, y] M = some (.bl true, M)
  | [], k, xs, ys, hx, hy, hh, d, hd => by
    cases hx; cases hy; simp [zipD] at hd
  | t :: ts, k, xs, ys, hx, hy, hh, d, hd => by
    cases hx with
    | cons h1 r1 =>
      cases hy with
      | cons h2 r2 =>
        simp only [D.hgts] at hh
        simp only [zipD, List.mem_cons] at hd
        rcases hd with rfl | hd
        · exact ⟨_, _, rfl, same_spec t0 t k _ _ h1 h2 (by omega)⟩
        · exact same_specs t0 ts k _ _ r1 r2 (by omega) d hd
end
/-! ### copies, loose copies -/
mutual
/-- data without cells -/
def D.tree : D → Bool
  | .non => true
  | .bl _ => true
  | .int _ => true
  | .str _ => true
  | .tup xs => decide (xs.length ≤ Lim) && D.trees xs
  | .lst xs => decide (xs.length ≤ Lim) && D.trees xs
  | _ => false
def D.trees : List D → Bool
  | [] => true
  | x :: xs => D.tree x && D.trees xs
end
theorem trees_ints (l : List Int) : D.trees (lints l) = true := by
  induction l with
  | nil => rfl
  | cons a l ih => simp [D.trees, D.tree, ih]
theorem trees_mem : ∀ {xs : List D} {x : D}, D.trees xs = true → x ∈ xs → D.tree x = true
  | a :: l, x, h, hx => by
    simp only [D.trees, Bool.and_eq_true] at h
    rcases List.mem_cons.mp hx with rfl | hx
    · exact h.1
    · exact trees_mem h.2 hx
theorem filterMap_some (xs : List D) : xs.filterMap (fun d => some d) = xs := by
  induction xs with
  | nil => rfl
  | cons a l ih => rw [List.filterMap_cons, ih]
mutual
theorem copied_spec (t0 : tbl 16 = some (.code f_law_copied)) : ∀ (t : D) (k : Nat), t.tree = true → t.hgt ≤ k → callN tbl n (k + 1) 16 [t] M = some (t, M)
  | .non, k, h, hh => call_ret t0 rfl (by simp [f_law_copied, exs, ex_iff, ex_asg, ex_ret, ev, evs, ofB, tru, truth, put]) rfl
  | .bl b, k, h, hh => call_ret t0 rfl (by simp [f_law_copied, exs, ex_iff, ex_asg, ex_ret, ev, evs, ofB, tru, truth, put]) rfl
  | .int b, k, h, hh => call_ret t0 rfl (by simp [f_law_copied, exs, ex_iff, ex_asg, ex_ret, ev, evs, ofB, tru, truth, put]) rfl
  | .str b, k, h, hh => call_ret t0 rfl (by simp [f_law_copied, exs, ex_iff, ex_asg, ex_ret, ev, evs, ofB, tru, truth, put]) rfl
  | .lst ts, k, h, hh => by
    simp only [D.tree, Bool.and_eq_true, decide_eq_true_eq] at h
    simp only [D.hgt] at hh
    match k, hh with
    | k + 1, hh =>
      have hlc := lc_pure (g := []) (turn := turnE (callN tbl n (k + 1)) (.name 3 13) .nil (.call 16 (.cons (.loc 3 14) .nil) 15) [some (.lst ts), none, none, none]) (M := M) (fun d => some d) rfl ts [] (fun d hd => by
        have := copied_specs t0 ts k h.2 (by omega) d hd
        simp [turnE, put, wipe, G.own, evIfs, ev, evs, this]) (by simpa using h.1)
      rw [filterMap_some, List.nil_append] at hlc
      exact call_ret t0 rfl (by simp [f_law_copied, exs, ex_iff, ex_asg, ex_ret, ev, evs, evF_lc, evIt, walkOf, hlc, ofB, tru, truth, put]) rfl
  | .tup ts, k, h, hh => by
    simp only [D.tree, Bool.and_eq_true, decide_eq_true_eq] at h
    simp only [D.hgt] at hh
    match k, hh with
    | k + 1, hh =>
      have hlc := lc_pure (g := []) (turn := turnE (callN tbl n (k + 1)) (.name 3 13) .nil (.call 16 (.cons (.loc 3 14) .nil) 15) [some (.tup ts), none, none, none]) (M := M) (fun d => some d) rfl ts [] (fun d hd => by
        have := copied_specs t0 ts k h.2 (by omega) d hd
        simp [turnE, put, wipe, G.own, evIfs, ev, evs, this]) (by simpa using h.1)
      rw [filterMap_some, List.nil_append] at hlc
      exact call_ret t0 rfl (by simp [f_law_copied, exs, ex_iff, ex_asg, ex_ret, ev, evs, evF_lc, evIt, walkOf, hlc, ofB, ofD, seqOf, listOf, tru, truth, put]) rfl
  | .dic _ _, k, h, hh => by simp [D.tree] at h
  | .ty _, k, h, hh => by simp [D.tree] at h
  | .cell _, k, h, hh => by simp [D.tree] at h
  | .strm, k, h, hh => by simp [D.tree] at h
  | .scr _, k, h, hh => by simp [D.tree] at h
  | .rng _ _, k, h, hh => by simp [D.tree] at h
theorem copied_specs (t0 : tbl 16 = some (.code f_law_copied)) : ∀ (ts : List D) (k : Nat), D.trees ts = true → D.hgts ts ≤ k → ∀ d ∈ ts, callN tbl n (k + 1) 16 [d] M = some (d, M)
  | [], k, h, hh, d, hd => by cases hd
  | t :: ts, k, h, hh, d, hd => by
    simp only [D.trees, Bool.and_eq_true] at h
    simp only [D.hgts] at hh
    rcases List.mem_cons.mp hd with hd | hd
    · rw [hd]; exact copied_spec t0 t k h.1 (by omega)
    · exact copied_specs t0 ts k h.2 (by omega) d hd
end
mutual
/-- the same with lists and tuples anew -/
inductive Loose : D → D → Prop
  | non : Loose .non .non
  | bl (b : Bool) : Loose (.bl b) (.bl b)
  | int (i : Int) : Loose (.int i) (.int i)
  | str (x : Str) : Loose (.str x) (.str x)
  | ll {xs ys : List D} : Looses xs ys → Loose (.lst xs) (.lst ys)
  | lt {xs ys : List D} : Looses xs ys → Loose (.lst xs) (.tup ys)
  | tl {xs ys : List D} : Looses xs ys → Loose (.tup xs) (.lst ys)
  | tt {xs ys : List D} : Looses xs ys → Loose (.tup xs) (.tup ys)
inductive Looses : List D → List D → Prop
  | nil : Looses [] []
  | cons {x y : D} {xs ys : List D} : Loose x y → Looses xs ys → Looses (x :: xs) (y :: ys)
end
mutual
/-- how many draws a loose copy takes -/
def D.cost : D → Nat
  | .tup xs => D.costs xs + 1
  | .lst xs => D.costs xs + 1
  | _ => 0
def D.costs : List D → Nat
  | [] => 0
  | x :: xs => D.cost x + D.costs xs
end
theorem costs_ints (l : List Int) : D.costs (lints l) = 0 := by
  induction l with
  | nil => rfl
  | cons a l ih => simp [D.costs, D.cost, ih]
theorem looses_ints {l : List Int} {ys : List D} (h : Looses (lints l) ys) : ys = lints l := by
  induction l generalizing ys with
  | nil => cases h; rfl
  | cons a l ih =>
    cases h with
    | cons h1 r => cases h1; rw [ih r]; rfl
theorem Looses.len : ∀ {xs ys : List D}, Looses xs ys → xs.length = ys.length
  | _, _, .nil => rfl
  | _, _, .cons _ r => by simp [r.len]
section
variable {S : List C}
theorem loose_tail {k : Nat} (hd : tbl 12 = some .draw) {b : Nat} {s : Strm} (hb : Bud (b + 1) s) (x : D) (ys : List D) (u : Option D) : ∃ r s', exs (callN tbl n (k + 1)) n (.cons (.ret (.ife (.cmp .eq (.call 12 (.cons (.loc 0 17) (.cons (.cint 2 18) .nil)) 19) (.cint 0 20) 21) (.tupOf (.loc 2 22) 23) (.loc 2 24) 25) 26) .nil) [some .strm, some x, some (.lst ys), u] ⟨S, some s⟩ = some (.rt r, ⟨S, some s'⟩) ∧ (r = .lst ys ∨ r = .tup ys) ∧ Bud b s' := by
  obtain ⟨r, s', e, r0, r1, b'⟩ := draw_spec (n := n) (k := k) (S := S) hd hb (show (0 : Int) < 2 by decide) (by decide)
  by_cases hr : r = 0
  · subst hr
    exact ⟨.tup ys, s', by simp [exs, ex_ret, ev, evs, e, opCmp, eqD_int, ofB, ofD, tru, truth, seqOf, listOf], .inr rfl, b'⟩
  · have hr' : (r == 0) = false := by simpa using hr
    exact ⟨.lst ys, s', by simp [exs, ex_ret, ev, evs, e, opCmp, eqD_int, ofB, ofD, tru, truth, hr'], .inl rfl, b'⟩
mutual
theorem loose_spec (hd : tbl 12 = some .draw) (t0 : tbl 17 = some (.code f_law_loose)) : ∀ (t : D) (k : Nat) (b : Nat) (s : Strm), t.tree = true → t.hgt ≤ k → Bud (b + t.cost) s → ∃ r s', callN tbl n (k + 1) 17 [.strm, t] ⟨S, some s⟩ = some (r, ⟨S, some s'⟩) ∧ Loose t r ∧ Bud b s'
  | .non, k, b, s, h, hh, hb => ⟨_, s, call_ret t0 rfl (by simp [f_law_loose, exs, ex_iff, ex_asg, ex_ret, ev, evs, ofB, tru, truth, put]) rfl, .non, hb⟩
  | .bl v, k, b, s, h, hh, hb => ⟨_, s, call_ret t0 rfl (by simp [f_law_loose, exs, ex_iff, ex_asg, ex_ret, ev, evs, ofB, tru, truth, put]) rfl, .bl v, hb⟩
  | .int v, k, b, s, h, hh, hb => ⟨_, s, call_ret t0 rfl (by simp [f_law_loose, exs, ex_iff, ex_asg, ex_ret, ev, evs, ofB, tru, truth, put]) rfl, .int v, hb⟩
  | .str v, k, b, s, h, hh, hb => ⟨_, s, call_ret t0 rfl (by simp [f_law_loose, exs, ex_iff, ex_asg, ex_ret, ev, evs, ofB, tru, truth, put]) rfl, .str v, hb⟩
  | .lst ts, k, b, s, h, hh, hb => by
    simp only [D.tree, Bool.and_eq_true, decide_eq_true_eq] at h
    simp only [D.hgt] at hh
    simp only [D.cost] at hb
    match k, hh with
    | k + 1, hh =>
      obtain ⟨ys, s1, e1, l1, b1⟩ := loose_specs hd t0 ts k (b + 1) s h.2 (by omega) (hb.mono (by omega)) [] [some .strm, some (.lst ts), none, none] rfl rfl (by simpa using h.1)
      obtain ⟨r, s2, e2, hr, b2⟩ := loose_tail (n := n) (k := k) (S := S) hd b1 (.lst ts) ys none
      refine ⟨r, s2, call_ret t0 rfl ?_ rfl, ?_, b2⟩
      · rw [List.nil_append] at e1
        simp [f_law_loose, exs, ex_iff, ex_asg, ev, evs, evF_lc, evIt, walkOf, e1, ofB, tru, truth, put]
        simpa [exs] using e2
      · rcases hr with rfl | rfl
        · exact .ll l1
        · exact .lt l1
  | .tup ts, k, b, s, h, hh, hb => by
    simp only [D.tree, Bool.and_eq_true, decide_eq_true_eq] at h
    simp only [D.hgt] at hh
    simp only [D.cost] at hb
    match k, hh with
    | k + 1, hh =>
      obtain ⟨ys, s1, e1, l1, b1⟩ := loose_specs hd t0 ts k (b + 1) s h.2 (by omega) (hb.mono (by omega)) [] [some .strm, some (.tup ts), none, none] rfl rfl (by simpa using h.1)
      obtain ⟨r, s2, e2, hr, b2⟩ := loose_tail (n := n) (k := k) (S := S) hd b1 (.tup ts) ys none
      refine ⟨r, s2, call_ret t0 rfl ?_ rfl, ?_, b2⟩
      · rw [List.nil_append] at e1
        simp [f_law_loose, exs, ex_iff, ex_asg, ev, evs, evF_lc, evIt, walkOf, e1, ofB, tru, truth, put]
        simpa [exs] using e2
      · rcases hr with rfl | rfl
        · exact .tl l1
        · exact .tt l1
  | .dic _ _, k, b, s, h, hh, hb => by simp [D.tree] at h
  | .ty _, k, b, s, h, hh, hb => by simp [D.tree] at h
  | .cell _, k, b, s, h, hh, hb => by simp [D.tree] at h
  | .strm, k, b, s, h, hh, hb => by simp [D.tree] at h
  | .scr _, k, b, s, h, hh, hb => by simp [D.tree] at h
  | .rng _ _, k, b, s, h, hh, hb => by simp [D.tree] at h
theorem loose_specs (hd : tbl 12 = some .draw) (t0 : tbl 17 = some (.code f_law_loose)) : ∀ (ts : List D) (k : Nat) (b : Nat) (s : Strm), D.trees ts = true → D.hgts ts ≤ k → Bud (b + D.costs ts) s → ∀ (acc : List D) (env : Env), env.length = 4 → env[0]? = some (some .strm) → acc.length + ts.length ≤ Lim → ∃ ys s',
    lcLoop [] (turnE (callN tbl n (k + 1)) (.name 3 11) .nil (.call 17 (.cons (.loc 0 12) (.cons (.loc 3 13) .nil)) 14) env) ts acc ⟨S, some s⟩ = some (acc ++ ys, ⟨S, some s'⟩) ∧ Looses ts ys ∧ Bud b s'
  | [], k, b, s, h, hh, hb, acc, env, h1, h2, h3 => ⟨[], s, by simp [lcLoop, gok], .nil, by simpa [D.costs] using hb⟩
  | t :: ts, k, b, s, h, hh, hb, acc, env, h1, h2, h3 => by
    simp only [D.trees, Bool.and_eq_true] at h
    simp only [D.hgts] at hh
    simp only [D.costs] at hb
    obtain ⟨y, s1, e1, l1, b1⟩ := loose_spec hd t0 t k (b + D.costs ts) s h.1 (by omega) (hb.mono (by omega))
    obtain ⟨ys, s2, e2, l2, b2⟩ := loose_specs hd t0 ts k b s1 h.2 (by omega) b1 (acc ++ [y]) env h1 h2 (by simp at h3 ⊢; omega)
    have hlt : acc.length < Lim := by simp at h3; omega
    refine ⟨y :: ys, s2, ?_, .cons l1 l2, b2⟩
    have e3 : turnE (callN tbl n (k + 1)) (.name 3 11) .nil (.call 17 (.cons (.loc 0 12) (.cons (.loc 3 13) .nil)) 14) env t ⟨S, some s⟩ = some (some y, ⟨S, some s1⟩) := by
      match env, h1, h2 with
      | [a, b, c, d], _, h2 =>
        simp at h2
        subst h2
        simp [turnE, put, wipe, G.own, evIfs, ev, evs, e1]
    rw [lcLoop, if_pos (show gok [] _ = true from rfl), e3]
    simp only
    rw [if_pos hlt, e2, List.append_assoc]; rfl
end
/-- a draw of things that stand in a list -/
theorem pick_spec (hd : tbl 12 = some .draw) (t0 : tbl 13 = some (.code f_law_pick)) {k b : Nat} {s : Strm} {xs : List D} (h0 : 0 < xs.length) (h1 : xs.length < 1073741824) (hb : Bud (b + 1) s) : ∃ (i : Nat) (d : D) (s' : Strm), callN tbl n (k + 2) 13 [.strm, .lst xs] ⟨S, some s⟩ = some (d, ⟨S, some s'⟩) ∧ xs[i]? = some d ∧ Bud b s' := by
  obtain ⟨r, s', e, r0, r1, b'⟩ := draw_spec (n := n) (k := k) (S := S) hd hb (show 0 < (xs.length : Int) by omega) (by omega)
  have hi : r.toNat < xs.length := by omega
  refine ⟨r.toNat, xs[r.toNat], s', call_ret t0 rfl ?_ rfl, List.getElem?_eq_getElem hi, b'⟩
  have ha : atD xs r = some xs[r.toNat] := by
    unfold atD ixOf
    rw [if_pos r0, if_pos r1]
    exact List.getElem?_eq_getElem hi
  simp [f_law_pick, exs, ex_ret, ev, evs, lenD, seqOf, listOf, ofD, e, idxD, ha]
end
end
end Ev

set_option autoImplicit false
set_option linter.all false
set_option maxRecDepth 100000
set_option maxHeartbeats 1000000
/-! Ev: what is told is spoilt: lists of cells by ranges. -/
namespace Ev
open PySem H
def leafB : D → Bool
  | .non => true
  | .bl _ => true
  | .int _ => true
  | .str _ => true
  | _ => false
mutual
/-- the cells of the data lie in the range, what stands in a cell below it -/
inductive Rng (M : Mem) : Nat → Nat → Nat → D → Prop
  | leaf {h lo hi : Nat} {d : D} : leafB d = true → lo ≤ hi → Rng M h lo hi d
  | tup {h lo hi : Nat} {xs : List D} : RngL M h lo hi xs → Rng M (h + 1) lo hi (.tup xs)
  | cell {h lo hi c : Nat} {xs : List D} : M.S[c]? = some (.lst xs) → xs.length < Lim → RngL M h lo c xs → c < hi → Rng M (h + 1) lo hi (.cell c)
inductive RngL (M : Mem) : Nat → Nat → Nat → List D → Prop
  | nil {h lo hi : Nat} : lo ≤ hi → RngL M h lo hi []
  | cons {h lo mid hi : Nat} {x : D} {xs : List D} : Rng M h lo mid x → RngL M h mid hi xs → RngL M h lo hi (x :: xs)
end
section
variable {M M' : Mem}
mutual
theorem Rng.le : ∀ {h lo hi : Nat} {d : D}, Rng M h lo hi d → lo ≤ hi
  | _, _, _, _, .leaf _ h => h
  | _, _, _, _, .tup r => r.le
  | _, _, _, _, .cell _ _ r h => Nat.le_of_lt (Nat.lt_of_le_of_lt r.le h)
theorem RngL.le : ∀ {h lo hi : Nat} {d : List D}, RngL M h lo hi d → lo ≤ hi
  | _, _, _, _, .nil h => h
  | _, _, _, _, .cons a r => Nat.le_trans a.le r.le
end
mutual
theorem Rng.same : ∀ {h lo hi : Nat} {d : D}, Rng M h lo hi d → (∀ c, lo ≤ c → c < hi → M'.S[c]? = M.S[c]?) → Rng M' h lo hi d
  | _, _, _, _, .leaf a h, _ => .leaf a h
  | _, _, _, _, .tup r, e => .tup (r.same e)
  | _, _, _, _, .cell a l r h, e => .cell ((e _ r.le h).trans a) l (r.same fun c h1 h2 => e c h1 (Nat.lt_trans h2 h)) h
theorem RngL.same : ∀ {h lo hi : Nat} {d : List D}, RngL M h lo hi d → (∀ c, lo ≤ c → c < hi → M'.S[c]? = M.S[c]?) → RngL M' h lo hi d
  | _, _, _, _, .nil h, _ => .nil h
  | _, _, _, _, .cons a r, e => .cons (a.same fun c h1 h2 => e c h1 (Nat.lt_of_lt_of_le h2 r.le)) (r.same fun c h1 h2 => e c (Nat.le_trans a.le h1) h2)
end
/-- only cells of the range differ -/
structure Frm (lo hi : Nat) (M M' : Mem) : Prop where
  st : M'.st = M.st
  len : M'.S.length = M.S.length
  out : ∀ c, c < lo ∨ hi ≤ c → M'.S[c]? = M.S[c]?
theorem Frm.refl (lo hi : Nat) (M : Mem) : Frm lo hi M M := ⟨rfl, rfl, fun _ _ => rfl⟩
theorem rngL_ints (h lo hi : Nat) (hl : lo ≤ hi) (l : List Int) : RngL M h lo hi (lints l) := by
  induction l with
  | nil => exact .nil hl
  | cons a l ih => exact .cons (.leaf rfl (Nat.le_refl lo)) ih
end
section
variable {tbl : Nat → Option Ent} {n : Nat}
abbrev spTurn (k : CallF) (n : Nat) : D → Env → Mem → Res Out := turnS k n (.name 1 6) (.cons (.ex (.call 15 (.cons (.loc 1 7) .nil) 8) 9) .nil)
theorem spoil_list {k h : Nat} (one : ∀ (d : D) (lo hi : Nat) (M : Mem), Rng M h lo hi d → ∃ M', callN tbl n k 15 [d] M = some (.non, M') ∧ Frm lo hi M M') {g : Grd} : ∀ (xs : List D) (lo hi : Nat) (M : Mem) (a : Option D) (b : Option D), RngL M h lo hi xs → (∀ M', Frm lo hi M M' → gok g M' = true) →
    ∃ b' M', forLoop g (spTurn (callN tbl n k) n) xs [a, b] M = some (.nx [a, b'], M') ∧ Frm lo hi M M'
  | [], lo, hi, M, a, b, r, hg => ⟨b, M, by simp [forLoop, hg M (Frm.refl _ _ _)], Frm.refl _ _ _⟩
  | x :: xs, lo, hi, M, a, b, r, hg => by
    cases r with
    | cons r1 r2 =>
      rename_i mid
      obtain ⟨M1, e1, f1⟩ := one x lo mid M r1
      have r2' : RngL M1 h mid hi xs := r2.same fun c h1 h2 => f1.out c (.inr h1)
      have hg' : ∀ M', Frm mid hi M1 M' → gok g M' = true := fun M' f => hg M' ⟨f.st.trans f1.st, f.len.trans f1.len, fun c hc => by
        have m1 := r1.le
        have m2 := r2.le
        rcases hc with hc | hc
        · rw [f.out c (.inl (by omega)), f1.out c (.inl hc)]
        · rw [f.out c (.inr hc), f1.out c (.inr (by omega))]⟩
      obtain ⟨b', M2, e2, f2⟩ := spoil_list one xs mid hi M1 a (some x) r2' hg'
      have m1 := r1.le
      have m2 := r2.le
      refine ⟨b', M2, ?_, ⟨f2.st.trans f1.st, f2.len.trans f1.len, fun c hc => ?_⟩⟩
      · rw [forLoop, if_pos (hg M (Frm.refl _ _ _))]
        have t : spTurn (callN tbl n k) n x [a, b] M = some (.nx [a, some x], M1) := by
          simp [spTurn, turnS, put, exs, ex_ex, ev, evs, e1]
        rw [t]
        exact e2
      · rcases hc with hc | hc
        · rw [f2.out c (.inl (by omega)), f1.out c (.inl hc)]
        · rw [f2.out c (.inr hc), f1.out c (.inr (by omega))]
theorem spoil_spec (t0 : tbl 15 = some (.code f_law_spoilt)) : ∀ (h : Nat) (k : Nat) (d : D) (lo hi : Nat) (M : Mem), h ≤ k → Rng M h lo hi d → ∃ M', callN tbl n (k + 1) 15 [d] M = some (.non, M') ∧ Frm lo hi M M' := by
  have leaf : ∀ (k : Nat) (d : D) (M : Mem), leafB d = true → callN tbl n (k + 1) 15 [d] M = some (.non, M) := fun k d M hd => by
    cases d with
    | non => exact call_nx (e := [some .non, none]) t0 rfl (by simp [f_law_spoilt, exs, ex_iff, ev, evs, ofB, tru, truth]) rfl
    | bl v => exact call_nx (e := [some (.bl v), none]) t0 rfl (by simp [f_law_spoilt, exs, ex_iff, ev, evs, ofB, tru, truth]) rfl
    | int v => exact call_nx (e := [some (.int v), none]) t0 rfl (by simp [f_law_spoilt, exs, ex_iff, ev, evs, ofB, tru, truth]) rfl
    | str v => exact call_nx (e := [some (.str v), none]) t0 rfl (by simp [f_law_spoilt, exs, ex_iff, ev, evs, ofB, tru, truth]) rfl
    | _ => cases hd
  intro h
  induction h with
  | zero =>
    intro k d lo hi M hk r
    cases r with
    | leaf a b => exact ⟨M, leaf k d M a, Frm.refl _ _ _⟩
  | succ h ih =>
    intro k d lo hi M hk r
    match k, hk with
    | k + 1, hk =>
      cases r with
      | leaf a b => exact ⟨M, leaf _ d M a, Frm.refl _ _ _⟩
      | tup r =>
        rename_i xs
        obtain ⟨b', M', e, f⟩ := spoil_list (n := n) (k := k + 1) (g := []) (fun d lo hi M r => ih k d lo hi M (by omega) r) xs lo hi M (some (.tup xs)) none r (fun _ _ => rfl)
        refine ⟨M', call_nx (e := [some (.tup xs), b']) t0 rfl ?_ f.len, f⟩
        simp only [spTurn] at e
        simp [f_law_spoilt, exs, ex_iff, ex_for, evIt, ev, evs, ofB, tru, truth, walkOf, e]
      | cell a l r hc =>
        rename_i c xs
        have g0 : ∀ M', Frm lo c M M' → M'.S[c]? = some (.lst xs) := fun M' f => (f.out c (.inr (Nat.le_refl c))).trans a
        obtain ⟨b', M', e, f⟩ := spoil_list (n := n) (k := k + 1) (g := [(c, xs)]) (fun d lo hi M r => ih k d lo hi M (by omega) r) xs lo c M (some (.cell c)) none r (fun M' f => by simp [gok, g0 M' f, beqs_refl])
        have a' := g0 M' f
        have i1 : ∀ M, M.S[c]? = some (.lst xs) → isiD M (.cell c) (.tup [.ty .list, .ty .tuple]) = some true := fun M a => by simp [isiD, tysOf, tyOf, a, isTy]
        have i2 : ∀ M, M.S[c]? = some (.lst xs) → isiD M (.cell c) (.ty .list) = some true := fun M a => by simp [isiD, isiOne, tyOf, a, isTy]
        have le := r.le
        refine ⟨setC c (.lst (xs ++ [.str "late"])) M', call_nx (e := [some (.cell c), b']) t0 rfl ?_ (by simp [setC, f.len]), ⟨f.st, by simp [setC, f.len], fun c' hc' => ?_⟩⟩
        · simp only [spTurn] at e
          simp [f_law_spoilt, exs, ex_iff, ex_ex, ex_for, evIt, ev, evs, ofB, tru, truth, walkOf, i1 M a, i1 M' a', i2 M' a', a, a', e, l]
        · have hne : c' ≠ c := by omega
          show (M'.S.set c _)[c']? = _
          rw [List.getElem?_set_ne (Ne.symm hne)]
          exact f.out c' (by omega)
end
end Ev

set_option autoImplicit false
set_option linter.all false
set_option maxRecDepth 100000
set_option maxHeartbeats 1000000
/-! Ev: words: lists of whole numbers. -/
namespace Ev
open PySem
namespace H
/-- 0:thing -/
def f_is_list : Fn := ⟨1, 1, (.cons (.ret (.isi (.loc 0 0) (.tup (.cons (.tyn .list 1) (.cons (.tyn .tuple 2) .nil)) 3) 4) 5) .nil)⟩
/-- 0:thing -/
def f_is_whole : Fn := ⟨1, 1, (.cons (.ret (.bool true (.cons (.isi (.loc 0 0) (.tyn .int 1) 2) (.cons (.nott (.isi (.loc 0 3) (.tyn .bool 4) 5) 6) .nil)) 7) 8) .nil)⟩
/-- 0:thing -/
def f_is_number : Fn := ⟨1, 1, (.cons (.ret (.bool true (.cons (.call 2 (.cons (.loc 0 0) .nil) 1) (.cons (.cmp .ge (.loc 0 2) (.cint 0 3) 4) .nil)) 5) 6) .nil)⟩
/-- 0:thing 1:letter -/
def f_kept_word : Fn := ⟨1, 2, (.cons (.iff (.bool false (.cons (.nott (.call 1 (.cons (.loc 0 0) .nil) 1) 2) (.cons (.nott (.allOf (.inl (.lc (.name 1 4) (.val (.loc 0 3)) .nil (.call 3 (.cons (.loc 1 5) .nil) 6) 7)) 8) 9) .nil)) 10) (.cons (.ret (.cnon 11) 12) .nil) .nil 13) (.cons (.ret (.tupOf (.loc 0 14) 15) 16) .nil))⟩
/-- 0:word 1:kept -/
def f_need_word : Fn := ⟨1, 2, (.cons (.asg (.name 1 0) (.call 4 (.cons (.loc 0 1) .nil) 2) 3) (.cons (.iff (.cmp .is (.loc 1 4) (.cnon 5) 6) (.cons (.nev 7) .nil) .nil 8) (.cons (.ret (.loc 1 9) 10) .nil)))⟩
end H
open H
section
variable {M : Mem}
abbrev W (l : List Int) : D := .lst (lints l)
abbrev Tp (l : List Int) : D := .tup (lints l)
theorem eqvAll_ints : ∀ a b : List Int, PyData.eqvAll (a.map .int) (b.map .int) = (a == b)
  | [], [] => rfl
  | [], _ :: _ => rfl
  | _ :: _, [] => rfl
  | x :: a, y :: b => by
    simp only [List.map_cons, PyData.eqvAll, PyData.eqv, eqvAll_ints a b]
    rfl
theorem view_W (l : List Int) : view M (W l) = some (W l) := by simp [view, D.pure, pures_ints]
theorem view_Tp (l : List Int) : view M (Tp l) = some (Tp l) := by simp [view, D.pure, pures_ints]
theorem shaped_tints (l : List Int) : SeqAt.shaped (.tuple (l.map PyData.int)) = true := by
  simp [SeqAt.shaped, PyData.canLay0, lay_ints, PyData.depth, depth_ints]
theorem eqD_W (a b : List Int) : eqD M (W a) (W b) = some (a == b) := by
  simp [eqD, view_W, D.py, pys_ints, shaped_ints, PyData.eqv, eqvAll_ints]
theorem eqD_Tp (a b : List Int) : eqD M (Tp a) (Tp b) = some (a == b) := by
  simp [eqD, view_Tp, D.py, pys_ints, shaped_tints, PyData.eqv, eqvAll_ints]
theorem eqD_W0 (a : List Int) : eqD M (W a) (.lst []) = some (a == []) := eqD_W a []
/-- n copies -/
def reps (a : List Int) (n : Nat) : List Int := (List.replicate n a).flatten
theorem reps_len (a : List Int) (n : Nat) : (reps a n).length = n * a.length := by simp [reps]
theorem rep_ints (a : List Int) (n : Nat) : rep (lints a) n = lints (reps a n) := by
  simp [rep, reps, List.map_flatten, List.map_replicate]
theorem add_W (a b : List Int) (h : a.length + b.length ≤ Lim) : opBin M .add (W a) (W b) = some (W (a ++ b)) := by
  simp [opBin, listOf, h]
theorem mul_W (a : List Int) (n : Int) (h0 : n < 2 ^ 63) (h1 : -(2 ^ 63) ≤ n) (h : a.length * n.toNat ≤ Lim) : opBin M .mul (W a) (.int n) = some (W (reps a n.toNat)) := by
  simp only [opBin, listOf, List.length_map]
  rw [if_pos ⟨h0, h1, h⟩, rep_ints]
theorem mul_Tp (a : List Int) (n : Int) (h0 : n < 2 ^ 63) (h1 : -(2 ^ 63) ≤ n) (h : a.length * n.toNat ≤ Lim) : opBin M .mul (Tp a) (.int n) = some (Tp (reps a n.toNat)) := by
  simp only [opBin, List.length_map]
  rw [if_pos ⟨h0, h1, h⟩, rep_ints]
theorem cut_map {α β : Type} (f : α → β) (l : List α) (lo hi : Option Int) : cut (l.map f) lo hi = (cut l lo hi).map f := by simp [cut]
theorem cut_to {α : Type} (l : List α) {i : Int} (h : 0 ≤ i) : cut l none (some i) = l.take i.toNat := by
  have : ¬ i < 0 := by omega
  simp only [cut, sliceIx, this, if_false, List.drop_zero, Nat.sub_zero]
  rw [List.take_eq_take_iff]
  omega
theorem cut_from {α : Type} (l : List α) {i : Int} (h : 0 ≤ i) : cut l (some i) none = l.drop i.toNat := by
  have : ¬ i < 0 := by omega
  simp only [cut, sliceIx, this, if_false]
  by_cases hi : i.toNat ≤ l.length
  · rw [Nat.min_eq_left hi]
    exact List.take_of_length_le (by simp)
  · rw [Nat.min_eq_right (by omega), List.drop_eq_nil_of_le (Nat.le_refl _), List.drop_eq_nil_of_le (by omega)]; simp
theorem slc_to (l : List Int) {i : Int} (h : 0 ≤ i) : slcD M (W l) none (some i) = some (W (l.take i.toNat)) := by
  simp [slcD, listOf, cut_map, cut_to l h]
theorem slc_from (l : List Int) {i : Int} (h : 0 ≤ i) : slcD M (W l) (some i) none = some (W (l.drop i.toNat)) := by
  simp [slcD, listOf, cut_map, cut_from l h]
theorem slcT_to (l : List Int) {i : Int} (h : 0 ≤ i) : slcD M (Tp l) none (some i) = some (Tp (l.take i.toNat)) := by
  simp [slcD, cut_map, cut_to l h]
theorem slcT_from (l : List Int) {i : Int} (h : 0 ≤ i) : slcD M (Tp l) (some i) none = some (Tp (l.drop i.toNat)) := by
  simp [slcD, cut_map, cut_from l h]
theorem len_W (l : List Int) : lenD M (W l) = some l.length := by simp [lenD, seqOf, listOf]
theorem len_Tp (l : List Int) : lenD M (Tp l) = some l.length := by simp [lenD, seqOf]
@[simp] theorem opBin_add_int (i j : Int) : opBin M .add (.int i) (.int j) = some (.int (i + j)) := rfl
@[simp] theorem opBin_sub_int (i j : Int) : opBin M .sub (.int i) (.int j) = some (.int (i - j)) := rfl
theorem opBin_fdiv_int (i j : Int) (h0 : 0 < j) (h1 : j < 1073741824) : opBin M .fdiv (.int i) (.int j) = some (.int (i / j)) := by simp [opBin, intBin, h0, h1]
theorem opBin_mod_int (i j : Int) (h0 : 0 < j) : opBin M .mod (.int i) (.int j) = some (.int (i % j)) := by simp [opBin, intBin, h0]
theorem opBin_mul_int (i j : Int) (h0 : -(2 ^ 64) < j) (h1 : j < 2 ^ 64) : opBin M .mul (.int i) (.int j) = some (.int (i * j)) := by
  have hm : mulOk i j = true := by
    unfold mulOk
    simp only [Bool.or_eq_true, decide_eq_true_eq]; exact .inr ⟨h0, h1⟩
  simp [opBin, intBin, hm]
/-- a word's letters -/
def Letters (l : List Int) : Prop := ∀ x ∈ l, 0 ≤ x
/-- a word as a list or as a tuple -/
def IsWord (d : D) (l : List Int) : Prop := d = W l ∨ d = Tp l
end
section
variable {tbl : Nat → Option Ent} {n : Nat} {M : Mem}
structure Words (tbl : Nat → Option Ent) : Prop where
  is_list : tbl 1 = some (.code f_is_list)
  is_whole : tbl 2 = some (.code f_is_whole)
  is_number : tbl 3 = some (.code f_is_number)
  kept_word : tbl 4 = some (.code f_kept_word)
theorem is_list_spec (t : tbl 1 = some (.code f_is_list)) {k : Nat} {d : D} {b : Bool} (h : isiD M d (.tup [.ty .list, .ty .tuple]) = some b) : callN tbl n (k + 1) 1 [d] M = some (.bl b, M) :=
  call_ret t rfl (by simp [f_is_list, exs, ex_ret, ev, evs, h, ofB]) rfl
theorem is_whole_int (t : tbl 2 = some (.code f_is_whole)) {k : Nat} {i : Int} : callN tbl n (k + 1) 2 [.int i] M = some (.bl true, M) :=
  call_ret t rfl (by simp [f_is_whole, exs, ex_ret, ev, evs, evBool, ofB, tru, truth]) rfl
theorem is_number_int (w : Words tbl) {k : Nat} {i : Int} : callN tbl n (k + 2) 3 [.int i] M = some (.bl (decide (0 ≤ i)), M) :=
  call_ret w.is_number rfl (by simp [f_is_number, exs, ex_ret, ev, evs, evBool, ofB, tru, truth, is_whole_int w.is_whole, opCmp]) rfl
def posD : D → Option D
  | .int i => some (.bl (decide (0 ≤ i)))
  | _ => some .non
theorem map_true {l : List Int} (h : Letters l) : (lints l).filterMap posD = (lints l).map fun _ => D.bl true := by
  induction l with
  | nil => rfl
  | cons a l ih =>
    have h0 : 0 ≤ a := h a (by simp)
    have := ih fun x hx => h x (by simp [hx])
    simp only [List.map_cons, List.filterMap_cons, this, posD, h0, decide_true]
theorem kept_spec (w : Words tbl) {k : Nat} {d : D} {l : List Int} (hd : IsWord d l) (hl : l.length ≤ Lim) (h : Letters l) : callN tbl n (k + 3) 4 [d] M = some (Tp l, M) := by
  have hlc : ∀ d, lcLoop [] (turnE (callN tbl n (k + 2)) (.name 1 4) .nil (.call 3 (.cons (.loc 1 5) .nil) 6) [some d, none]) (lints l) [] M = some ((lints l).map fun _ => .bl true, M) := fun d => by
    have := lc_pure (g := []) (turn := turnE (callN tbl n (k + 2)) (.name 1 4) .nil (.call 3 (.cons (.loc 1 5) .nil) 6) [some d, none]) (M := M) posD rfl (lints l) [] (fun x hx => by
        obtain ⟨i, hi, rfl⟩ := List.mem_map.mp hx
        simp [posD, turnE, put, wipe, G.own, evIfs, ev, evs, is_number_int w]) (by simpa using hl)
    rw [this, map_true h, List.nil_append]
  have i1 : isiD M d (.tup [.ty .list, .ty .tuple]) = some true := by rcases hd with rfl | rfl <;> rfl
  have w1 : walkOf M d = some (lints l, []) := by rcases hd with rfl | rfl <;> rfl
  have s1 : seqOf M d = some (lints l) := by rcases hd with rfl | rfl <;> rfl
  obtain ⟨bl, hc, hb⟩ : ∃ bl, lcLoop [] (turnE (callN tbl n (k + 2)) (.name 1 4) .nil (.call 3 (.cons (.loc 1 5) .nil) 6) [some d, none]) (lints l) [] M = some (bl, M) ∧ (bools bl).map (fun bs => bs.all id) = some true := ⟨_, hlc d, by rw [bools_true]; simp⟩
  obtain ⟨bs, hb1, hb2⟩ := Option.map_eq_some_iff.mp hb
  refine call_ret w.kept_word rfl ?_ rfl
  rcases hd with rfl | rfl <;> simp [f_kept_word, exs, ex_iff, ex_ret, ev, evs, evBool, evF_lc, evIt, ofB, ofD, tru, truth, is_list_spec w.is_list i1, w1, s1, hc, listOf, hb1, hb2]
theorem need_spec (w : Words tbl) (t : tbl 6 = some (.code f_need_word)) {k : Nat} {d : D} {l : List Int} (hd : IsWord d l) (hl : l.length ≤ Lim) (h : Letters l) : callN tbl n (k + 4) 6 [d] M = some (Tp l, M) :=
  call_ret t rfl (by simp [f_need_word, exs, ex_iff, ex_asg, ex_ret, ev, evs, ofB, tru, truth, put, kept_spec w hd hl h, opCmp]) rfl
/-! ### a word drawn so that it repeats itself -/
variable {S : List C}
theorem bound_take {l : List Int} {m : Int} {i : Nat} (h : ∀ x ∈ l, 0 ≤ x ∧ x < m) : ∀ x ∈ l.take i, 0 ≤ x ∧ x < m := fun x hx => h x (List.mem_of_mem_take hx)
theorem bound_reps {l : List Int} {m : Int} {i : Nat} (h : ∀ x ∈ l, 0 ≤ x ∧ x < m) : ∀ x ∈ reps l i, 0 ≤ x ∧ x < m := fun x hx => by
  obtain ⟨a, ha, hx⟩ := List.mem_flatten.mp hx
  rw [List.eq_of_mem_replicate ha] at hx
  exact h x hx
theorem repeated_spec (hd : tbl 12 = some .draw) (hw : tbl 18 = some (.code f_law_word)) (t : tbl 20 = some (.code f_law_repeated)) {k b : Nat} {s : Strm} {letters most : Int} (h0 : 0 < letters) (h1 : letters < 1000) (m0 : 0 ≤ most) (m1 : most < 1000) (hb : Bud (b + 2000) s) :
    ∃ l s', callN tbl n (k + 3) 20 [.strm, .int letters, .int most] ⟨S, some s⟩ = some (W l, ⟨S, some s'⟩) ∧ (l.length : Int) ≤ most ∧ (∀ x ∈ l, 0 ≤ x ∧ x < letters) ∧ Bud b s' := by
  obtain ⟨root, s1, e1, l1, r1, b1⟩ := word_spec (n := n) (k := k) (S := S) (b := b + 1900) hd hw (many := letters) (most := 5) h0 (by omega) (by decide) (by decide) (hb.mono (by show b + 1900 + 5 + 1 ≤ b + 2000; omega))
  obtain ⟨way, s2, e2, w0, w1, b2⟩ := draw_spec (n := n) (k := k + 1) (S := S) (b := b + 1899) hd (b1.mono (by omega)) (show (0 : Int) < 4 by decide) (by decide)
  by_cases hw0 : way = 0
  · subst hw0
    obtain ⟨l, s3, e3, l3, r3, b3⟩ := word_spec (n := n) (k := k) (S := S) (b := b) hd hw (many := letters) (most := most) h0 (by omega) m0 (by omega) (b2.mono (by omega))
    refine ⟨l, s3, call_ret t rfl ?_ rfl, l3, r3, b3⟩
    simp [f_law_repeated, exs, ex_par, ex_iff, ex_ret, ev, evs, e1, e2, e3, opCmp, eqD_int, ofB, tru, truth]
  · have hw0' : (way == 0) = false := by simpa using hw0
    -- what is found first
    have hf : ∃ f s3, (∀ M', M' = (⟨S, some s2⟩ : Mem) → ev (callN tbl n (k + 2)) (.ife (.cmp .eq (.loc 4 19) (.cint 1 20) 21) (.slc (.bin .mul (.loc 3 22) (.cint 12 23) 24) .none (.some (.call 12 (.cons (.loc 0 25) (.cons (.bin .add (.loc 2 26) (.cint 1 27) 28) .nil)) 29)) 30) (.bin .mul (.loc 3 31) (.call 12 (.cons (.loc 0 32) (.cons (.cint 6 33) .nil)) 34) 35) 36)
        [some .strm, some (.int letters), some (.int most), some (W root), some (.int way), none, none] M' = some (W f, ⟨S, some s3⟩)) ∧ f.length ≤ 100 ∧ (∀ x ∈ f, 0 ≤ x ∧ x < letters) ∧ Bud (b + 1800) s3 := by
      by_cases h1w : way = 1
      · subst h1w
        obtain ⟨q, s3, e3, q0, q1, b3⟩ := draw_spec (n := n) (k := k + 1) (S := S) (b := b + 1800) hd (b2.mono (by omega)) (show (0 : Int) < most + 1 by omega) (by omega)
        refine ⟨(reps root 12).take q.toNat, s3, fun M' hM => ?_, ?_, bound_take (bound_reps r1), b3⟩
        · subst hM
          have hm : ∀ M : Mem, opBin M .mul (W root) (.int 12) = some (W (reps root 12)) := fun M => mul_W root 12 (by decide) (by decide) (by show root.length * 12 ≤ 16777216; omega)
          simp [ev, evs, evO, opCmp, eqD_int, ofB, ofD, tru, truth, e3, hm, slc_to _ q0]
        · rw [List.length_take, reps_len]; omega
      · have h1w' : (way == 1) = false := by simpa using h1w
        obtain ⟨q, s3, e3, q0, q1, b3⟩ := draw_spec (n := n) (k := k + 1) (S := S) (b := b + 1800) hd (b2.mono (by omega)) (show (0 : Int) < 6 by decide) (by decide)
        refine ⟨reps root q.toNat, s3, fun M' hM => ?_, ?_, bound_reps r1, b3⟩
        · subst hM
          have hq : root.length * q.toNat ≤ 5 * 5 := Nat.mul_le_mul (by omega) (by omega)
          have hm : ∀ M : Mem, opBin M .mul (W root) (.int q) = some (W (reps root q.toNat)) := fun M => mul_W root q (by omega) (by omega) (Nat.le_trans hq (by decide))
          simp [ev, evs, evO, opCmp, eqD_int, ofB, ofD, tru, truth, e3, hm, h1w']
        · have hq : q.toNat * root.length ≤ 5 * 5 := Nat.mul_le_mul (by omega) (by omega)
          rw [reps_len]; omega
    obtain ⟨f, s3, e3, lf, rf, b3⟩ := hf
    have e3 := e3 _ rfl
    have st1 : ∀ ss, exs (callN tbl n (k + 2)) n (.cons (.par 3 4 (.call 18 (.cons (.loc 0 0) (.cons (.loc 1 1) (.cons (.cint 5 2) .nil))) 3) (.call 12 (.cons (.loc 0 4) (.cons (.cint 4 5) .nil)) 6) 7) ss) [some .strm, some (.int letters), some (.int most), none, none, none, none] ⟨S, some s⟩ =
        exs (callN tbl n (k + 2)) n ss [some .strm, some (.int letters), some (.int most), some (W root), some (.int way), none, none] ⟨S, some s2⟩ := fun ss => exs_nx (by simp [ex_par, ev, evs, e1, e2])
    by_cases hc : (way == 3 && !(f == [])) = true
    · rw [Bool.and_eq_true] at hc
      obtain ⟨hc1, hc2⟩ := hc
      have fne : f ≠ [] := by
        intro z; rw [z] at hc2; cases hc2
      have fl : 0 < f.length := List.length_pos_iff.mpr fne
      obtain ⟨p, s4, e4, p0, p1, b4⟩ := draw_spec (n := n) (k := k + 1) (S := S) (b := b + 1700) hd (b3.mono (by omega)) (show 0 < (f.length : Int) by omega) (by omega)
      obtain ⟨v, s5, e5, v0, v1, b5⟩ := draw_spec (n := n) (k := k + 1) (S := S) (b := b) hd (b4.mono (by omega)) h0 (by omega)
      have a1 : ∀ M : Mem, opBin M .add (W (f.take p.toNat)) (W [v]) = some (W (f.take p.toNat ++ [v])) := fun M => add_W _ _ (by simp; show min _ _ + 1 ≤ 16777216; omega)
      have a2 : ∀ M : Mem, opBin M .add (W (f.take p.toNat ++ [v])) (W (f.drop (p + 1).toNat)) = some (W (f.take p.toNat ++ [v] ++ f.drop (p + 1).toNat)) := fun M => add_W _ _ (by simp; show min _ _ + 1 + (_ - _) ≤ 16777216; omega)
      have hp1 : 0 ≤ p + 1 := by omega
      refine ⟨(f.take p.toNat ++ [v] ++ f.drop (p + 1).toNat).take most.toNat, s5, call_ret t rfl ?_ rfl, ?_, bound_take fun x hx => ?_, b5⟩
      · refine (st1 _).trans ((exs_nx (env' := [some .strm, some (.int letters), some (.int most), some (W root), some (.int way), none, none]) (M' := ⟨S, some s2⟩) (by simp [ex_iff, ev, opCmp, eqD_int, ofB, tru, truth, hw0', exs])).trans ?_)
        refine (exs_nx (env' := [some .strm, some (.int letters), some (.int most), some (W root), some (.int way), some (W f), none]) (M' := ⟨S, some s3⟩) (by rw [ex_asg, e3]; rfl)).trans ?_
        refine (exs_nx (env' := [some .strm, some (.int letters), some (.int most), some (W root), some (.int way), some (W (f.take p.toNat ++ [v] ++ f.drop (p + 1).toNat)), some (.int p)]) (M' := ⟨S, some s5⟩) ?_).trans ?_
        · have c1 : tru (ev (callN tbl n (k + 2)) (.bool true (.cons (.cmp .eq (.loc 4 38) (.cint 3 39) 40) (.cons (.cmp .ne (.loc 5 41) (.inl (.disp .nil 42)) 43) .nil)) 44) [some .strm, some (.int letters), some (.int most), some (W root), some (.int way), some (W f), none] ⟨S, some s3⟩) = some (true, ⟨S, some s3⟩) := by
            have := eqD_W0 (M := ⟨S, some s3⟩) f
            simp [ev, evs, evBool, evF_disp, opCmp, eqD_int, this, ofB, tru, truth, hc1, fne]
          rw [ex_iff, c1]
          refine (exs_nx (env' := [some .strm, some (.int letters), some (.int most), some (W root), some (.int way), some (W f), some (.int p)]) (M' := ⟨S, some s4⟩) (by simp [ex_asg, put, ev, evs, len_W, ofD, e4])).trans ?_
          refine (exs_nx (env' := [some .strm, some (.int letters), some (.int most), some (W root), some (.int way), some (W (f.take p.toNat ++ [v] ++ f.drop (p + 1).toNat)), some (.int p)]) (M' := ⟨S, some s5⟩) ?_).trans (by rw [exs])
          have ea : ev (callN tbl n (k + 2)) (.slc (.loc 5 52) .none (.some (.loc 6 53)) 54) [some .strm, some (.int letters), some (.int most), some (W root), some (.int way), some (W f), some (.int p)] ⟨S, some s4⟩ = some (W (f.take p.toNat), ⟨S, some s4⟩) := by
            simp only [ev, evO, List.getElem?_cons_zero, List.getElem?_cons_succ, slc_to _ p0, ofD, Option.map_some]
          have eb : ev (callN tbl n (k + 2)) (.inl (.disp (.cons (.call 12 (.cons (.loc 0 55) (.cons (.loc 1 56) .nil)) 57) .nil) 58)) [some .strm, some (.int letters), some (.int most), some (W root), some (.int way), some (W f), some (.int p)] ⟨S, some s4⟩ = some (W [v], ⟨S, some s5⟩) := by
            simp [ev, evs, evF_disp, e5]
          have ec : ev (callN tbl n (k + 2)) (.slc (.loc 5 60) (.some (.bin .add (.loc 6 61) (.cint 1 62) 63)) .none 64) [some .strm, some (.int letters), some (.int most), some (W root), some (.int way), some (W f), some (.int p)] ⟨S, some s5⟩ = some (W (f.drop (p + 1).toNat), ⟨S, some s5⟩) := by
            simp only [ev, evO, List.getElem?_cons_zero, List.getElem?_cons_succ, opBin_add_int, slc_from _ hp1, ofD, Option.map_some]
          rw [ex_asg, ev, ev, ea]
          simp only
          rw [eb]
          simp only [a1, ofD, Option.map_some]
          rw [ec]
          simp only [a2, Option.map_some, put]
          rfl
        · refine exs_rt ?_
          rw [ex_ret]
          simp only [ev, evO, List.getElem?_cons_zero, List.getElem?_cons_succ, slc_to _ m0, ofD, Option.map_some]
      · rw [List.length_take]; omega
      · rw [List.mem_append, List.mem_append] at hx
        rcases hx with (hx | hx) | hx
        · exact rf x (List.mem_of_mem_take hx)
        · rw [List.mem_singleton] at hx; subst hx; exact ⟨v0, v1⟩
        · exact rf x (List.mem_of_mem_drop hx)
    · refine ⟨f.take most.toNat, s3, call_ret t rfl ?_ rfl, by rw [List.length_take]; omega, bound_take rf, b3.mono (by omega)⟩
      rw [Bool.not_eq_true] at hc
      refine (st1 _).trans ((exs_nx (env' := [some .strm, some (.int letters), some (.int most), some (W root), some (.int way), none, none]) (M' := ⟨S, some s2⟩) (by simp [ex_iff, ev, opCmp, eqD_int, ofB, tru, truth, hw0', exs])).trans ?_)
      refine (exs_nx (env' := [some .strm, some (.int letters), some (.int most), some (W root), some (.int way), some (W f), none]) (M' := ⟨S, some s3⟩) (by rw [ex_asg, e3]; rfl)).trans ?_
      have c1 : tru (ev (callN tbl n (k + 2)) (.bool true (.cons (.cmp .eq (.loc 4 38) (.cint 3 39) 40) (.cons (.cmp .ne (.loc 5 41) (.inl (.disp .nil 42)) 43) .nil)) 44) [some .strm, some (.int letters), some (.int most), some (W root), some (.int way), some (W f), none] ⟨S, some s3⟩) = some (false, ⟨S, some s3⟩) := by
        have := eqD_W0 (M := ⟨S, some s3⟩) f
        cases h3 : (way == 3) with
        | false => simp [ev, evs, evBool, evF_disp, opCmp, eqD_int, ofB, tru, truth, h3]
        | true =>
          rw [h3, Bool.true_and] at hc
          have hb : (f == []) = true := by
            cases hq : (f == []) with
            | true => rfl
            | false => rw [hq] at hc; cases hc
          rw [hb] at this
          simp [ev, evs, evBool, evF_disp, opCmp, eqD_int, this, ofB, tru, truth, h3]
      refine (exs_nx (env' := [some .strm, some (.int letters), some (.int most), some (W root), some (.int way), some (W f), none]) (M' := ⟨S, some s3⟩) (by rw [ex_iff, c1]; simp only [exs])).trans (exs_rt ?_)
      rw [ex_ret]
      simp only [ev, evO, List.getElem?_cons_zero, List.getElem?_cons_succ, slc_to _ m0, ofD, Option.map_some]
end
end Ev

set_option autoImplicit false
set_option linter.all false
set_option maxRecDepth 100000
set_option maxHeartbeats 1000000
/-! Ev: ranges, calls, what is seen of words. -/
namespace Ev
open PySem H
variable {tbl : Nat → Option Ent}
/-- a value with cells in it is handed on with its memory -/
theorem call_live {n k f : Nat} {fn : Fn} {ds : List D} {M : Mem} {d : D} {M' : Mem} (t : tbl f = some (.code fn)) (hl : ds.length = fn.np) (h : exs (callN tbl n k) n fn.body (ds.map some ++ List.replicate (fn.ns - ds.length) none) M = some (.rt d, M')) (hp : d.pure = false) : callN tbl n (k + 1) f ds M = some (d, M') := by
  simp only [callN, t]
  rw [if_pos hl, h]
  simp only [trim, hp, Bool.false_and, Bool.false_eq_true, if_false]
  split <;> rfl
section
variable {n : Nat} {M : Mem} {k : Nat} {d : D} {l : List Int}
theorem range_cons {i j : Int} (h : i < j) : rangeD i j = .int i :: rangeD (i + 1) j := by
  unfold rangeD
  have e : (j - i).toNat = (j - (i + 1)).toNat + 1 := by omega
  rw [e, List.range_succ_eq_map, List.map_cons, List.map_map]
  congr 1
  · simp
  · apply List.map_congr_left
    intro a _
    simp only [Function.comp]
    congr 1
    omega
theorem range_nil {i j : Int} (h : j ≤ i) : rangeD i j = [] := by
  unfold rangeD
  have e : (j - i).toNat = 0 := by omega
  rw [e]; rfl
theorem range_mem {i j : Int} {d : D} : d ∈ rangeD i j ↔ ∃ a, i ≤ a ∧ a < j ∧ d = .int a := by
  unfold rangeD
  rw [List.mem_map]
  constructor
  · rintro ⟨a, ha, rfl⟩
    rw [List.mem_range] at ha
    exact ⟨i + a, by omega, by omega, rfl⟩
  · rintro ⟨a, h1, h2, rfl⟩
    exact ⟨(a - i).toNat, by rw [List.mem_range]; omega, by congr 1; omega⟩
theorem range_split : ∀ (m : Nat) {i s j : Int}, (s - i).toNat = m → i ≤ s → s < j → rangeD i j = rangeD i s ++ .int s :: rangeD (s + 1) j
  | 0, i, s, j, e, h1, h2 => by
    have : i = s := by omega
    subst this
    rw [range_nil (Int.le_refl i), range_cons h2]; rfl
  | m + 1, i, s, j, e, h1, h2 => by
    have h3 : i < s := by omega
    rw [range_cons (show i < j by omega), range_cons h3, range_split m (i := i + 1) (by omega) (by omega) h2]; rfl
theorem range_length {i j : Int} : (rangeD i j).length = (j - i).toNat := by simp [rangeD]
theorem cdiv (a b : Nat) : (a : Int) / (b : Int) = ((a / b : Nat) : Int) := (Int.natCast_ediv a b).symm
theorem cmod (a b : Nat) : (a : Int) % (b : Int) = ((a % b : Nat) : Int) := (Int.natCast_emod a b).symm
theorem mul_int_l (i j : Int) (h0 : -(2 ^ 64) < i) (h1 : i < 2 ^ 64) : opBin M .mul (.int i) (.int j) = some (.int (i * j)) := by
  have hm : mulOk i j = true := by
    unfold mulOk
    simp only [Bool.or_eq_true, decide_eq_true_eq]; exact .inl ⟨h0, h1⟩
  simp [opBin, intBin, hm]
theorem beqd (a b : List Int) : (a == b) = decide (a = b) := by
  rw [Bool.eq_iff_iff]; simp
theorem sees_W {M : Mem} (l : List Int) (h : l.length ≤ Lim) : Sees M (W l) (W l) := .lst (seesL_ints l) (by simpa using h)
theorem sees_word {M : Mem} {w : List Int} {d : D} (hd : IsWord d w) (hl : w.length ≤ 60) : Sees M d d := by
  rcases hd with rfl | rfl
  · exact sees_W w (by show _ ≤ 16777216; omega)
  · exact .tup (seesL_ints w) (by simp; show _ ≤ 16777216; omega)
theorem hgt_word {w : List Int} {d : D} (hd : IsWord d w) : d.hgt ≤ 1 := by
  rcases hd with rfl | rfl <;> simp [D.hgt, hgts_ints]
theorem hgt_W (l : List Int) : D.hgt (W l) = 1 := by simp [D.hgt, hgts_ints]
theorem hgt_lst (xs : List D) : D.hgt (.lst xs) = D.hgts xs + 1 := rfl
theorem hgts_cons (x : D) (xs : List D) : D.hgts (x :: xs) = max (D.hgt x) (D.hgts xs) := rfl
theorem idx0 {M : Mem} (x y : D) : idxD M (.tup [x, y]) (.int 0) = some x := by simp [idxD, seqOf, atD, ixOf]
theorem call_trim {n k f : Nat} {fn : Fn} {ds : List D} {M : Mem} {d : D} {M' : Mem} (t : tbl f = some (.code fn)) (hl : ds.length = fn.np) (h : exs (callN tbl n k) n fn.body (ds.map some ++ List.replicate (fn.ns - ds.length) none) M = some (.rt d, M')) : callN tbl n (k + 1) f ds M = some (trim M.S d M') := by
  simp only [callN, t]
  rw [if_pos hl, h]
theorem trim_pure {S : List C} {d : D} {M : Mem} (h : d.pure = true) : some (trim S d M) = some (d, (trim S d M).2) := by
  unfold trim
  split
  · rfl
  · split <;> rfl
theorem evIt_val_ok {kk : CallF} {env : Env} {e : E} {xs : List D} {M1 : Mem} (h : ev kk e env M = some (.lst xs, M1)) : evIt kk (.val e) env M = some ((xs, []), M1) := by
  rw [evIt, h]; rfl
end
end Ev

set_option autoImplicit false
set_option linter.all false
set_option maxRecDepth 100000
set_option maxHeartbeats 1000000
/-! Ev: what holds behind a piece of text: for simp. -/
namespace Ev
open PySem
/-- it comes to an end, and what is wanted holds behind it -/
def Ok {α : Type} (r : Res α) (Q : α → Mem → Prop) : Prop := ∃ a M', r = some (a, M') ∧ Q a M'
section
variable {α : Type} {r : Res α} {Q Q' : α → Mem → Prop} {a : α} {M M' : Mem}
@[simp] theorem ok_some : Ok (some (a, M)) Q ↔ Q a M := by
  constructor
  · rintro ⟨b, M', e, q⟩; cases e; exact q
  · intro q; exact ⟨a, M, rfl, q⟩
@[simp] theorem ok_none : Ok (none : Res α) Q ↔ False := ⟨fun ⟨_, _, e, _⟩ => (nomatch e), False.elim⟩
theorem Ok.mono (h : Ok r Q) (i : ∀ a M', Q a M' → Q' a M') : Ok r Q' := let ⟨a, M', e, q⟩ := h; ⟨a, M', e, i a M' q⟩
theorem Ok.eq (h : Ok r fun b M' => b = a ∧ M' = M) : r = some (a, M) := by
  obtain ⟨b, M', e, rfl, rfl⟩ := h; exact e
theorem Ok.of (e : r = some (a, M)) (q : Q a M) : Ok r Q := ⟨a, M, e, q⟩
theorem ok_iff {β : Type} {r : Res α} {s : Res β} {f : α → Mem → Res β} {R : β → Mem → Prop} (h : s = match r with
    | some (a, M) => f a M
    | none => none) : Ok s R ↔ Ok r fun a M => Ok (f a M) R := by
  subst h
  cases r with
  | none => simp
  | some p => obtain ⟨a, M⟩ := p; simp
end
/-- it is told, and what is wanted holds of it -/
def Get {α : Type} (o : Option α) (P : α → Prop) : Prop := ∃ a, o = some a ∧ P a
@[simp] theorem get_some {α : Type} {a : α} {P : α → Prop} : Get (some a) P ↔ P a := by simp [Get]
@[simp] theorem get_none {α : Type} {P : α → Prop} : Get (none : Option α) P ↔ False := by simp [Get]
@[simp] theorem get_map {α β : Type} {o : Option α} {f : α → β} {P : β → Prop} : Get (o.map f) P ↔ Get o fun a => P (f a) := by cases o <;> simp
def OutP (Q : Out → Mem → Prop) (f : Env → Mem → Prop) : Out → Mem → Prop
  | .nx env, M => f env M
  | .rt d, M => Q (.rt d) M
  | .bk e, M => Q (.bk e) M
  | .ct e, M => Q (.ct e) M
@[simp] theorem outP_nx {Q : Out → Mem → Prop} {f : Env → Mem → Prop} {env : Env} {M : Mem} : OutP Q f (.nx env) M = f env M := rfl
@[simp] theorem outP_rt {Q : Out → Mem → Prop} {f : Env → Mem → Prop} {d : D} {M : Mem} : OutP Q f (.rt d) M = Q (.rt d) M := rfl
@[simp] theorem outP_bk {Q : Out → Mem → Prop} {f : Env → Mem → Prop} {d : Env} {M : Mem} : OutP Q f (.bk d) M = Q (.bk d) M := rfl
@[simp] theorem outP_ct {Q : Out → Mem → Prop} {f : Env → Mem → Prop} {d : Env} {M : Mem} : OutP Q f (.ct d) M = Q (.ct d) M := rfl
/-- how a value is walked: texts too -/
def walkX (M : Mem) : D → Option (List D × Grd)
  | .str x => if x.length ≤ Lim then some (x.cps.toList.map fun c => .str ⟨#[c]⟩, []) else none
  | .rng i j => if in62 i && in62 j then some (rangeD i j, []) else none
  | d => walkOf M d
@[simp] theorem walkX_lst {M : Mem} {xs : List D} : walkX M (.lst xs) = some (xs, []) := rfl
@[simp] theorem walkX_tup {M : Mem} {xs : List D} : walkX M (.tup xs) = some (xs, []) := rfl
/-- keywords' values in the parameters' order -/
def moreOf (n : Nat) (kd : List (Nat × D)) : Option (List D) := (List.range kd.length).mapM fun i => kd.lookup (n + i)
@[simp] theorem moreOf_0 {n : Nat} : moreOf n [] = some [] := rfl
@[simp] theorem moreOf_2a {d e : D} : moreOf 0 [(1, d), (0, e)] = some [e, d] := rfl
@[simp] theorem moreOf_2b {d e : D} : moreOf 0 [(0, d), (1, e)] = some [d, e] := rfl
@[simp] theorem moreOf_3a {a b c : D} : moreOf 0 [(2, a), (1, b), (0, c)] = some [c, b, a] := rfl
@[simp] theorem moreOf_3b {a b c : D} : moreOf 0 [(1, a), (2, b), (0, c)] = some [c, a, b] := rfl
@[simp] theorem moreOf_3c {a b c : D} : moreOf 0 [(0, a), (1, b), (2, c)] = some [a, b, c] := rfl
@[simp] theorem moreOf_3d {a b c : D} : moreOf 0 [(0, a), (2, b), (1, c)] = some [a, c, b] := rfl
@[simp] theorem moreOf_3e {a b c : D} : moreOf 0 [(1, a), (0, b), (2, c)] = some [b, a, c] := rfl
@[simp] theorem moreOf_3f {a b c : D} : moreOf 0 [(2, a), (0, b), (1, c)] = some [b, c, a] := rfl
@[simp] theorem moreOf_1 {n : Nat} {d : D} : moreOf n [(n, d)] = some [d] := by simp [moreOf, List.range_succ]
section
variable {k : CallF} {n : Nat} {env : Env} {M : Mem} {p : Nat} {Q : D → Mem → Prop} {QO : Out → Mem → Prop} {QB : Bool → Mem → Prop} {QL : List D → Mem → Prop}
@[simp] theorem ok_tru {r : Res D} : Ok (tru r) QB ↔ Ok r fun d M => Get (truth M d) fun b => QB b M := by
  cases r with
  | none => simp [tru]
  | some q =>
    obtain ⟨d, M⟩ := q
    simp only [tru, ok_some]
    cases truth M d with
    | none => simp
    | some b => simp
@[simp] theorem ok_ofD {o : Option D} : Ok (ofD o M) Q ↔ Get (o) fun z => Q z M := by
  cases o <;> simp [ofD]
@[simp] theorem ok_ofB {o : Option Bool} : Ok (ofB o M) Q ↔ Get (o) fun z => Q (.bl z) M := by
  cases o <;> simp [ofB]
@[simp] theorem ok_loc {i : Nat} : Ok (ev k (.loc i p) env M) Q ↔ ∃ d, env[i]? = some (some d) ∧ Q d M := by
  rw [ev]
  cases h : env[i]? with
  | none => simp
  | some o => cases o <;> simp
@[simp] theorem ok_cint {i : Int} : Ok (ev k (.cint i p) env M) Q ↔ Q (.int i) M := by rw [ev]; simp
@[simp] theorem ok_cstr {i : Str} : Ok (ev k (.cstr i p) env M) Q ↔ Q (.str i) M := by rw [ev]; simp
@[simp] theorem ok_cbl {i : Bool} : Ok (ev k (.cbl i p) env M) Q ↔ Q (.bl i) M := by rw [ev]; simp
@[simp] theorem ok_cnon : Ok (ev k (.cnon p) env M) Q ↔ Q .non M := by rw [ev]; simp
@[simp] theorem ok_tyn {t : Ty} : Ok (ev k (.tyn t p) env M) Q ↔ Q (.ty t) M := by rw [ev]; simp
@[simp] theorem ok_tup {es : EL} : Ok (ev k (.tup es p) env M) Q ↔ Ok (evs k es env M) fun ds M' => ds.length ≤ Lim ∧ Q (.tup ds) M' := by
  rw [ev]
  cases h : evs k es env M with
  | none => simp
  | some q =>
    obtain ⟨d, M1⟩ := q
    by_cases hl : d.length ≤ Lim <;> simp [hl]
@[simp] theorem ok_inl {f : FL} : Ok (ev k (.inl f) env M) Q ↔ Ok (evF k f env M) fun ds M' => Q (.lst ds) M' := by
  rw [ev]
  cases h : evF k f env M with
  | none => simp
  | some q =>
    obtain ⟨d, M1⟩ := q
    simp
@[simp] theorem ok_cel {f : FL} : Ok (ev k (.cel f) env M) Q ↔ Ok (evF k f env M) fun ds M' => Q (.cell M'.S.length) ⟨M'.S ++ [.lst ds], M'.st⟩ := by
  rw [ev]
  cases h : evF k f env M with
  | none => simp
  | some q =>
    obtain ⟨d, M1⟩ := q
    simp [allocC]
@[simp] theorem ok_bin {o : Bop} {a b : E} : Ok (ev k (.bin o a b p) env M) Q ↔ Ok (ev k a env M) fun x M1 => Ok (ev k b env M1) fun y M2 => Get (opBin M2 o x y) fun z => Q z M2 := by
  rw [ev]
  cases h : ev k a env M with
  | none => simp
  | some q =>
    obtain ⟨x, M1⟩ := q
    simp only [ok_some]
    cases h2 : ev k b env M1 with
    | none => simp
    | some q =>
      obtain ⟨y, M2⟩ := q
      simp
@[simp] theorem ok_cmp {o : Cop} {a b : E} : Ok (ev k (.cmp o a b p) env M) Q ↔ Ok (ev k a env M) fun x M1 => Ok (ev k b env M1) fun y M2 => Get (opCmp M2 o x y) fun z => Q (.bl z) M2 := by
  rw [ev]
  cases h : ev k a env M with
  | none => simp
  | some q =>
    obtain ⟨x, M1⟩ := q
    simp only [ok_some]
    cases h2 : ev k b env M1 with
    | none => simp
    | some q =>
      obtain ⟨y, M2⟩ := q
      simp
@[simp] theorem ok_idx {a b : E} : Ok (ev k (.idx a b p) env M) Q ↔ Ok (ev k a env M) fun x M1 => Ok (ev k b env M1) fun y M2 => Get (idxD M2 x y) fun z => Q z M2 := by
  rw [ev]
  cases h : ev k a env M with
  | none => simp
  | some q =>
    obtain ⟨x, M1⟩ := q
    simp only [ok_some]
    cases h2 : ev k b env M1 with
    | none => simp
    | some q =>
      obtain ⟨y, M2⟩ := q
      simp
@[simp] theorem ok_isi {a b : E} : Ok (ev k (.isi a b p) env M) Q ↔ Ok (ev k a env M) fun x M1 => Ok (ev k b env M1) fun y M2 => Get (isiD M2 x y) fun z => Q (.bl z) M2 := by
  rw [ev]
  cases h : ev k a env M with
  | none => simp
  | some q =>
    obtain ⟨x, M1⟩ := q
    simp only [ok_some]
    cases h2 : ev k b env M1 with
    | none => simp
    | some q =>
      obtain ⟨y, M2⟩ := q
      simp
@[simp] theorem ok_neg {a : E} : Ok (ev k (.neg a p) env M) Q ↔ Ok (ev k a env M) fun x M1 => ∃ i, x = .int i ∧ Q (.int (-i)) M1 := by
  rw [ev]
  cases h : ev k a env M with
  | none => simp
  | some q =>
    obtain ⟨d, M1⟩ := q
    cases d <;> simp
@[simp] theorem ok_nott {a : E} : Ok (ev k (.nott a p) env M) Q ↔ Ok (tru (ev k a env M)) fun b M1 => Q (.bl (!b)) M1 := by
  rw [ev]
  cases h : tru (ev k a env M) with
  | none => simp
  | some q =>
    obtain ⟨d, M1⟩ := q
    simp
@[simp] theorem ok_bool {w : Bool} {es : EL} : Ok (ev k (.bool w es p) env M) Q ↔ Ok (evBool k w es env M) Q := by rw [ev]
@[simp] theorem ok_bool1 {w : Bool} {e : E} : Ok (evBool k w (.cons e .nil) env M) Q ↔ Ok (ev k e env M) Q := by rw [evBool]
@[simp] theorem ok_bool2 {w : Bool} {e e' : E} {es : EL} : Ok (evBool k w (.cons e (.cons e' es)) env M) Q ↔ Ok (ev k e env M) fun d M1 => Get (truth M1 d) fun b => if b = w then Ok (evBool k w (.cons e' es) env M1) Q else Q d M1 := by
  rw [evBool]
  cases h : ev k e env M with
  | none => simp
  | some q =>
    obtain ⟨d, M1⟩ := q
    simp only [ok_some]
    cases truth M1 d with
    | none => simp
    | some b => by_cases hb : b = w <;> simp [hb]
@[simp] theorem ok_ife {c a b : E} : Ok (ev k (.ife c a b p) env M) Q ↔ Ok (tru (ev k c env M)) fun t M1 => if t = true then Ok (ev k a env M1) Q else Ok (ev k b env M1) Q := by
  rw [ev]
  cases h : tru (ev k c env M) with
  | none => simp
  | some q =>
    obtain ⟨t, M1⟩ := q
    cases t <;> simp
@[simp] theorem ok_chn {o o' : Cop} {a b c : E} : Ok (ev k (.chn o o' a b c p) env M) Q ↔ Ok (ev k a env M) fun x M1 => Ok (ev k b env M1) fun y M2 => Get (opCmp M2 o x y) fun z => if z = true then Ok (ev k c env M2) (fun u M3 => Get (opCmp M3 o' y u) fun z' => Q (.bl z') M3) else Q (.bl false) M2 := by
  rw [ev]
  cases ha : ev k a env M with
  | none => simp
  | some q =>
    obtain ⟨x, M1⟩ := q
    simp only [ok_some]
    cases hb : ev k b env M1 with
    | none => simp
    | some q =>
      obtain ⟨y, M2⟩ := q
      simp only [ok_some]
      cases hz : opCmp M2 o x y with
      | none => simp
      | some z =>
        cases z with
        | false => simp
        | true =>
          cases hc : ev k c env M2 with
          | none => simp
          | some q => obtain ⟨u, M3⟩ := q; simp
@[simp] theorem ok_call {f : Nat} {es : EL} : Ok (ev k (.call f es p) env M) Q ↔ Ok (evs k es env M) fun ds M1 => Ok (k f ds M1) Q := by
  rw [ev]
  cases h : evs k es env M with
  | none => simp
  | some q =>
    obtain ⟨d, M1⟩ := q
    simp
@[simp] theorem ok_callk {f : Nat} {es : EL} {ks : KL} : Ok (ev k (.callk f es ks p) env M) Q ↔ Ok (evs k es env M) fun ds M1 => Ok (evks k ks env M1) fun kd M2 => Get (moreOf ds.length kd) fun more => Ok (k f (ds ++ more) M2) Q := by
  rw [ev]
  cases ha : evs k es env M with
  | none => simp
  | some q =>
    obtain ⟨ds, M1⟩ := q
    simp only [ok_some]
    cases hb : evks k ks env M1 with
    | none => simp
    | some q =>
      obtain ⟨kd, M2⟩ := q
      simp only [ok_some]
      show Ok (match moreOf ds.length kd with
        | some more => k f (ds ++ more) M2
        | none => none) Q ↔ _
      cases moreOf ds.length kd <;> simp
@[simp] theorem ok_evs0 : Ok (evs k .nil env M) QL ↔ QL [] M := by rw [evs]; simp
@[simp] theorem ok_evs {e : E} {es : EL} : Ok (evs k (.cons e es) env M) QL ↔ Ok (ev k e env M) fun d M1 => Ok (evs k es env M1) fun ds M2 => QL (d :: ds) M2 := by
  rw [evs]
  cases ha : ev k e env M with
  | none => simp
  | some q =>
    obtain ⟨d, M1⟩ := q
    simp only [ok_some]
    cases hb : evs k es env M1 with
    | none => simp
    | some q => obtain ⟨ds, M2⟩ := q; simp
@[simp] theorem ok_evks0 {QK : List (Nat × D) → Mem → Prop} : Ok (evks k .nil env M) QK ↔ QK [] M := by rw [evks]; simp
@[simp] theorem ok_evks {QK : List (Nat × D) → Mem → Prop} {i : Nat} {e : E} {es : KL} : Ok (evks k (.cons i e p es) env M) QK ↔ Ok (ev k e env M) fun d M1 => Ok (evks k es env M1) fun ds M2 => QK ((i, d) :: ds) M2 := by
  rw [evks]
  cases ha : ev k e env M with
  | none => simp
  | some q =>
    obtain ⟨d, M1⟩ := q
    simp only [ok_some]
    cases hb : evks k es env M1 with
    | none => simp
    | some q => obtain ⟨ds, M2⟩ := q; simp
@[simp] theorem ok_len {a : E} : Ok (ev k (.len a p) env M) Q ↔ Ok (ev k a env M) fun d M1 => Get (lenD M1 d) fun m => Q (.int (m : Int)) M1 := by
  rw [ev]
  cases h : ev k a env M with
  | none => simp
  | some q =>
    obtain ⟨d, M1⟩ := q
    simp only [ok_some, ok_ofD]
    cases lenD M1 d <;> simp
@[simp] theorem ok_tupOf {a : E} : Ok (ev k (.tupOf a p) env M) Q ↔ Ok (ev k a env M) fun d M1 => Get (seqOf M1 d) fun xs => Q (.tup xs) M1 := by
  rw [ev]
  cases h : ev k a env M with
  | none => simp
  | some q =>
    obtain ⟨d, M1⟩ := q
    simp only [ok_some, ok_ofD]
    cases seqOf M1 d <;> simp
@[simp] theorem ok_intOf {a : E} : Ok (ev k (.intOf a p) env M) Q ↔ Ok (ev k a env M) fun d M1 => (∃ i, d = .int i ∧ Q (.int i) M1) ∨ (∃ b, d = .bl b ∧ Q (.int (if b = true then 1 else 0)) M1) := by
  rw [ev]
  cases h : ev k a env M with
  | none => simp
  | some q =>
    obtain ⟨d, M1⟩ := q
    cases d <;> simp
    rename_i b
    cases b <;> simp
@[simp] theorem ok_absOf {a : E} : Ok (ev k (.absOf a p) env M) Q ↔ Ok (ev k a env M) fun d M1 => ∃ i, d = .int i ∧ Q (.int (if i < 0 then -i else i)) M1 := by
  rw [ev]
  cases h : ev k a env M with
  | none => simp
  | some q =>
    obtain ⟨d, M1⟩ := q
    cases d <;> simp
@[simp] theorem ok_allOf {a : E} : Ok (ev k (.allOf a p) env M) Q ↔ Ok (ev k a env M) fun d M1 => Get (listOf M1 d) fun xs => Get (bools xs) fun bs => Q (.bl (bs.all id)) M1 := by
  rw [ev]
  cases h : ev k a env M with
  | none => simp
  | some q =>
    obtain ⟨d, M1⟩ := q
    simp only [ok_some]
    cases listOf M1 d with
    | none => simp
    | some xs => cases hb : bools xs <;> simp [ofB, hb]
@[simp] theorem ok_anyOf {a : E} : Ok (ev k (.anyOf a p) env M) Q ↔ Ok (ev k a env M) fun d M1 => Get (listOf M1 d) fun xs => Get (bools xs) fun bs => Q (.bl (bs.any id)) M1 := by
  rw [ev]
  cases h : ev k a env M with
  | none => simp
  | some q =>
    obtain ⟨d, M1⟩ := q
    simp only [ok_some]
    cases listOf M1 d with
    | none => simp
    | some xs => cases hb : bools xs <;> simp [ofB, hb]
@[simp] theorem ok_sumOf {a : E} : Ok (ev k (.sumOf a p) env M) Q ↔ Ok (ev k a env M) fun d M1 => Get (listOf M1 d) fun xs => Get (intsD xs) fun is => Q (.int is.sum) M1 := by
  rw [ev]
  cases h : ev k a env M with
  | none => simp
  | some q =>
    obtain ⟨d, M1⟩ := q
    simp only [ok_some]
    cases listOf M1 d with
    | none => simp
    | some xs => cases hb : intsD xs <;> simp [ofD, hb]
@[simp] theorem ok_rngV {a b : E} : Ok (ev k (.rngV a b p) env M) Q ↔ Ok (ev k a env M) fun x M1 => ∃ i, x = .int i ∧ Ok (ev k b env M1) fun y M2 => ∃ j, y = .int j ∧ (in62 i = true ∧ in62 j = true) ∧ Q (.rng i j) M2 := by
  rw [ev]
  cases h : ev k a env M with
  | none => simp
  | some q =>
    obtain ⟨d, M1⟩ := q
    cases d <;> simp
    cases h2 : ev k b env M1 with
    | none => simp
    | some q =>
      obtain ⟨d, M2⟩ := q
      cases d <;> simp
      rename_i i j
      by_cases c : in62 i = true ∧ in62 j = true
      · simp [c]
      · rw [if_neg c]; simp; exact fun a b => absurd ⟨a, b⟩ c
@[simp] theorem ok_celD : Ok (ev k (.celD p) env M) Q ↔ Q (.cell M.S.length) ⟨M.S ++ [.dic [] []], M.st⟩ := by
  rw [ev]; simp only [allocC, ok_some]
@[simp] theorem ok_rngV1 {a : E} : Ok (ev k (.rngV1 a p) env M) Q ↔ Ok (ev k a env M) fun x M1 => ∃ j, x = .int j ∧ in62 j = true ∧ Q (.rng 0 j) M1 := by
  rw [ev]
  cases h : ev k a env M with
  | none => simp
  | some q =>
    obtain ⟨d, M1⟩ := q
    cases d <;> simp
    rename_i j
    cases in62 j <;> simp
@[simp] theorem ok_max2 {a b : E} : Ok (ev k (.max2 a b p) env M) Q ↔ Ok (ev k a env M) fun x M1 => ∃ i, x = .int i ∧ Ok (ev k b env M1) fun y M2 => ∃ j, y = .int j ∧ Q (.int (if j > i then j else i)) M2 := by
  rw [ev]
  cases h : ev k a env M with
  | none => simp
  | some q =>
    obtain ⟨d, M1⟩ := q
    cases d <;> simp
    cases h2 : ev k b env M1 with
    | none => simp
    | some q =>
      obtain ⟨d, M2⟩ := q
      cases d <;> simp
@[simp] theorem ok_min2 {a b : E} : Ok (ev k (.min2 a b p) env M) Q ↔ Ok (ev k a env M) fun x M1 => ∃ i, x = .int i ∧ Ok (ev k b env M1) fun y M2 => ∃ j, y = .int j ∧ Q (.int (if j < i then j else i)) M2 := by
  rw [ev]
  cases h : ev k a env M with
  | none => simp
  | some q =>
    obtain ⟨d, M1⟩ := q
    cases d <;> simp
    cases h2 : ev k b env M1 with
    | none => simp
    | some q =>
      obtain ⟨d, M2⟩ := q
      cases d <;> simp
@[simp] theorem ok_slc {a : E} {lo hi : OE} : Ok (ev k (.slc a lo hi p) env M) Q ↔ Ok (ev k a env M) fun x M1 => Ok (evO k lo env M1) fun l M2 => Ok (evO k hi env M2) fun h M3 => Get (slcD M3 x l h) fun z => Q z M3 := by
  rw [ev]
  cases ha : ev k a env M with
  | none => simp
  | some q =>
    obtain ⟨x, M1⟩ := q
    simp only [ok_some]
    cases hb : evO k lo env M1 with
    | none => simp
    | some q =>
      obtain ⟨l, M2⟩ := q
      simp only [ok_some]
      cases hc : evO k hi env M2 with
      | none => simp
      | some q => obtain ⟨h, M3⟩ := q; simp
@[simp] theorem ok_evO0 {QI : Option Int → Mem → Prop} : Ok (evO k .none env M) QI ↔ QI none M := by rw [evO]; simp
@[simp] theorem ok_evO {QI : Option Int → Mem → Prop} {e : E} : Ok (evO k (.some e) env M) QI ↔ Ok (ev k e env M) fun d M1 => ∃ i, d = .int i ∧ QI (some i) M1 := by
  rw [evO]
  cases h : ev k e env M with
  | none => simp
  | some q =>
    obtain ⟨d, M1⟩ := q
    cases d <;> simp
@[simp] theorem ok_rev {a : E} : Ok (ev k (.rev a p) env M) Q ↔ Ok (ev k a env M) fun d M1 => Get (revD M1 d) fun z => Q z M1 := by
  rw [ev]
  cases h : ev k a env M with
  | none => simp
  | some q =>
    obtain ⟨d, M1⟩ := q
    simp
@[simp] theorem ok_idxOf {a e : E} : Ok (ev k (.idxOf a e p) env M) Q ↔ Ok (ev k a env M) fun d M1 => (∃ xs, listOf M1 d = some xs) ∧ Ok (ev k e env M1) fun y M2 => Get (fdxD M2 y d) fun z => Q z M2 := by
  rw [ev]
  cases h : ev k a env M with
  | none => simp
  | some q =>
    obtain ⟨d, M1⟩ := q
    simp only [ok_some]
    cases h1 : listOf M1 d with
    | none => simp
    | some xs =>
      simp
      cases h2 : ev k e env M1 with
      | none => simp
      | some q =>
        obtain ⟨y, M2⟩ := q
        simp only [ok_some, ok_ofD]
@[simp] theorem ok_app {a e : E} : Ok (ev k (.app a e p) env M) Q ↔ Ok (ev k a env M) fun d M1 => ∃ c, d = .cell c ∧ (∃ ys, M1.S[c]? = some (.lst ys)) ∧ Ok (ev k e env M1) fun y M2 => ∃ xs, M2.S[c]? = some (.lst xs) ∧ xs.length < Lim ∧ Q .non (setC c (.lst (xs ++ [y])) M2) := by
  rw [ev]
  cases h : ev k a env M with
  | none => simp
  | some q =>
    obtain ⟨d, M1⟩ := q
    cases d <;> simp
    rename_i c
    cases h1 : M1.S[c]? with
    | none => simp
    | some o =>
      cases o <;> simp
      cases h2 : ev k e env M1 with
      | none => simp
      | some q =>
        obtain ⟨y, M2⟩ := q
        simp
        cases h3 : M2.S[c]? with
        | none => simp
        | some o =>
          cases o <;> simp
          rename_i ys
          by_cases hl : ys.length < Lim <;> simp [hl]
@[simp] theorem ok_ext {a e : E} : Ok (ev k (.ext a e p) env M) Q ↔ Ok (ev k a env M) fun d M1 => ∃ c, d = .cell c ∧ (∃ ys, M1.S[c]? = some (.lst ys)) ∧ Ok (ev k e env M1) fun y M2 => Get (listOf M2 y) fun ys => ∃ xs, M2.S[c]? = some (.lst xs) ∧ xs.length + ys.length ≤ Lim ∧ Q .non (setC c (.lst (xs ++ ys)) M2) := by
  rw [ev]
  cases h : ev k a env M with
  | none => simp
  | some q =>
    obtain ⟨d, M1⟩ := q
    cases d <;> simp
    rename_i c
    cases h1 : M1.S[c]? with
    | none => simp
    | some o =>
      cases o <;> simp
      cases h2 : ev k e env M1 with
      | none => simp
      | some q =>
        obtain ⟨y, M2⟩ := q
        simp
        cases h4 : listOf M2 y with
        | none => simp
        | some ys =>
          simp
          cases h3 : M2.S[c]? with
          | none => simp
          | some o =>
            cases o <;> simp
            rename_i xs
            by_cases hl : xs.length + ys.length ≤ Lim <;> simp [hl]
@[simp] theorem ok_popAt {a e : E} : Ok (ev k (.popAt a e p) env M) Q ↔ Ok (ev k a env M) fun d M1 => ∃ c, d = .cell c ∧ (∃ ys, M1.S[c]? = some (.lst ys)) ∧ Ok (ev k e env M1) fun y M2 => ∃ i, y = .int i ∧ ∃ xs z, M2.S[c]? = some (.lst xs) ∧ (0 ≤ i ∧ i ≤ Lim) ∧ xs[i.toNat]? = some z ∧ Q z (setC c (.lst (xs.eraseIdx i.toNat)) M2) := by
  rw [ev]
  cases h : ev k a env M with
  | none => simp
  | some q =>
    obtain ⟨d, M1⟩ := q
    cases d <;> simp
    rename_i c
    cases h1 : M1.S[c]? with
    | none => simp
    | some o =>
      cases o <;> simp
      cases h2 : ev k e env M1 with
      | none => simp
      | some q =>
        obtain ⟨y, M2⟩ := q
        cases y <;> simp
        rename_i i
        cases h3 : M2.S[c]? with
        | none => simp
        | some o =>
          cases o <;> simp
          rename_i xs
          by_cases hl : 0 ≤ i
          · by_cases hm : i ≤ 16777216
            · simp only [hl, hm, true_and, if_true]
              cases h5 : xs[i.toNat]? with
              | none => simp
              | some z => simp
            · simp [hl, hm]
          · simp [hl]
@[simp] theorem ok_frz {a : E} : Ok (ev k (.frz a) env M) Q ↔ Ok (ev k a env M) fun d M1 => Ok (freeze d M1) Q := by
  rw [ev]
  cases h : ev k a env M with
  | none => simp
  | some q =>
    obtain ⟨d, M1⟩ := q
    simp
@[simp] theorem ok_disp {es : EL} : Ok (evF k (.disp es p) env M) QL ↔ Ok (evs k es env M) fun ds M' => ds.length ≤ Lim ∧ QL ds M' := by
  rw [evF_disp]
  cases h : evs k es env M with
  | none => simp
  | some q =>
    obtain ⟨d, M1⟩ := q
    by_cases hl : d.length ≤ Lim <;> simp [hl]
@[simp] theorem ok_listOf {a : E} : Ok (evF k (.listOf a p) env M) QL ↔ Ok (ev k a env M) fun d M1 => Get (lseq M1 d) fun xs => QL xs M1 := by
  rw [evF_listOf]
  cases h : ev k a env M with
  | none => simp
  | some q =>
    obtain ⟨d, M1⟩ := q
    simp only [ok_some]
    cases lseq M1 d <;> simp
@[simp] theorem ok_revL {a : E} : Ok (evF k (.revL a p) env M) QL ↔ Ok (ev k a env M) fun d M1 => Get (listOf M1 d) fun xs => QL xs.reverse M1 := by
  rw [evF]
  cases h : ev k a env M with
  | none => simp
  | some q =>
    obtain ⟨d, M1⟩ := q
    simp only [ok_some]
    cases listOf M1 d <;> simp
@[simp] theorem ok_addF {a b : E} : Ok (evF k (.add a b p) env M) QL ↔ Ok (ev k a env M) fun x M1 => Ok (ev k b env M1) fun y M2 => Get (listOf M2 x) fun xs => Get (listOf M2 y) fun ys => xs.length + ys.length ≤ Lim ∧ QL (xs ++ ys) M2 := by
  rw [evF]
  cases h : ev k a env M with
  | none => simp
  | some q =>
    obtain ⟨d, M1⟩ := q
    simp only [ok_some]
    cases h2 : ev k b env M1 with
    | none => simp
    | some q =>
      obtain ⟨d2, M2⟩ := q
      simp only [ok_some]
      cases h3 : listOf M2 d with
      | none => simp
      | some xs =>
        cases h4 : listOf M2 d2 with
        | none => simp
        | some ys => by_cases hl : xs.length + ys.length ≤ Lim <;> simp [hl]
theorem ok_repF0 {a b : E} : Ok (evF k (.repL a b p) env M) QL ↔ Ok (ev k a env M) fun x M1 => Ok (ev k b env M1) fun y M2 => ∃ n, y = .int n ∧ ∃ xs, listOf M2 x = some xs ∧ (n < 2 ^ 63 ∧ -(2 ^ 63) ≤ n ∧ xs.length * n.toNat ≤ Lim) ∧ QL (rep xs n.toNat) M2 := by
  rw [evF]
  cases h : ev k a env M with
  | none => exact ⟨fun q => (by simp at q), fun q => (by simp at q)⟩
  | some q =>
    obtain ⟨d, M1⟩ := q
    simp only [ok_some]
    cases h2 : ev k b env M1 with
    | none => exact ⟨fun q => (by simp at q), fun q => (by simp at q)⟩
    | some q =>
      obtain ⟨d2, M2⟩ := q
      simp only [ok_some]
      cases d2 with
      | int n =>
        simp only
        cases h3 : listOf M2 d with
        | none => exact ⟨fun q => (by simp at q), fun ⟨_, _, _, e, _⟩ => (by cases e)⟩
        | some xs =>
          simp only
          by_cases hl : n < 2 ^ 63 ∧ -(2 ^ 63) ≤ n ∧ xs.length * n.toNat ≤ Lim
          · rw [if_pos hl]
            simp only [ok_some]
            constructor
            · exact fun q => ⟨n, rfl, xs, rfl, hl, q⟩
            · rintro ⟨_, e1, _, e2, _, q⟩
              cases e1; cases e2; exact q
          · rw [if_neg hl]
            constructor
            · exact fun q => (by simp at q)
            · rintro ⟨_, e1, _, e2, h, q⟩
              cases e1; cases e2; exact absurd h hl
      | _ => exact ⟨fun q => (by simp at q), fun ⟨_, e, _⟩ => (by cases e)⟩
@[simp] theorem ok_repF {a b : E} : Ok (evF k (.repL a b p) env M) QL ↔ Ok (ev k a env M) fun x M1 => Ok (ev k b env M1) fun y M2 => ∃ n, y = .int n ∧ ∃ xs, listOf M2 x = some xs ∧ (n < 9223372036854775808 ∧ -9223372036854775808 ≤ n ∧ xs.length * n.toNat ≤ Lim) ∧ QL (rep xs n.toNat) M2 := ok_repF0
@[simp] theorem ok_slcF {a : E} {lo hi : OE} : Ok (evF k (.slc a lo hi p) env M) QL ↔ Ok (ev k a env M) fun x M1 => Ok (evO k lo env M1) fun l M2 => Ok (evO k hi env M2) fun h M3 => Get (listOf M3 x) fun xs => QL (cut xs l h) M3 := by
  rw [evF]
  cases ha : ev k a env M with
  | none => simp
  | some q =>
    obtain ⟨x, M1⟩ := q
    simp only [ok_some]
    cases hb : evO k lo env M1 with
    | none => simp
    | some q =>
      obtain ⟨l, M2⟩ := q
      simp only [ok_some]
      cases hc : evO k hi env M2 with
      | none => simp
      | some q =>
        obtain ⟨h, M3⟩ := q
        simp only [ok_some]
        cases listOf M3 x <;> simp
@[simp] theorem ok_lc {tg : G} {it : It} {ifs : EL} {elt : E} : Ok (evF k (.lc tg it ifs elt p) env M) QL ↔ Ok (evIt k it env M) fun q M1 => Ok (lcLoop q.2 (turnE k tg ifs elt env) q.1 [] M1) QL := by
  rw [evF_lc]
  cases h : evIt k it env M with
  | none => simp
  | some q => obtain ⟨⟨ds, gr⟩, M1⟩ := q; simp
@[simp] theorem ok_turn {tg : G} {ifs : EL} {elt : E} {d : D} {QO : Option D → Mem → Prop} : Ok (turnE k tg ifs elt env d M) QO ↔ Get (put tg d (wipe env (G.own tg))) fun env' => Ok (evIfs k ifs env' M) fun b M1 => if b = true then Ok (ev k elt env' M1) (fun y M2 => QO (some y) M2) else QO none M1 := by
  unfold turnE
  cases h : put tg d (wipe env (G.own tg)) with
  | none => simp
  | some env' =>
    simp only [get_some]
    cases h2 : evIfs k ifs env' M with
    | none => simp
    | some q =>
      obtain ⟨b, M1⟩ := q
      cases b with
      | false => simp
      | true =>
        simp only [ok_some, if_true]
        cases h3 : ev k elt env' M1 with
        | none => simp
        | some q => obtain ⟨y, M2⟩ := q; simp
@[simp] theorem ok_ifs0 : Ok (evIfs k .nil env M) QB ↔ QB true M := by rw [evIfs]; simp
@[simp] theorem ok_ifs {e : E} {es : EL} : Ok (evIfs k (.cons e es) env M) QB ↔ Ok (tru (ev k e env M)) fun b M1 => if b = true then Ok (evIfs k es env M1) QB else QB false M1 := by
  rw [evIfs]
  cases h : tru (ev k e env M) with
  | none => simp
  | some q =>
    obtain ⟨b, M1⟩ := q
    cases b <;> simp
variable {QI : List D × Grd → Mem → Prop}
@[simp] theorem ok_itval {e : E} : Ok (evIt k (.val e) env M) QI ↔ Ok (ev k e env M) fun d M1 => Get (walkX M1 d) fun w => QI w M1 := by
  rw [evIt]
  cases h : ev k e env M with
  | none => simp
  | some q =>
    obtain ⟨d, M1⟩ := q
    cases d with
    | str x =>
      simp only [walkX, ok_some]
      by_cases hl : x.length ≤ Lim <;> simp [hl]
    | rng i j =>
      simp only [walkX, ok_some]
      split <;> simp
    | _ => simp only [walkX, ok_some]; cases walkOf M1 _ <;> simp
@[simp] theorem ok_rng1 {b : E} : Ok (evIt k (.rng1 b p) env M) QI ↔ Ok (ev k b env M) fun d M1 => ∃ j, d = .int j ∧ in62 j = true ∧ QI (rangeD 0 j, []) M1 := by
  rw [evIt]
  cases h : ev k b env M with
  | none => simp
  | some q =>
    obtain ⟨d, M1⟩ := q
    cases d <;> simp
    rename_i i
    cases in62 i <;> simp
@[simp] theorem ok_rng2 {a b : E} : Ok (evIt k (.rng2 a b p) env M) QI ↔ Ok (ev k a env M) fun x M1 => ∃ i, x = .int i ∧ Ok (ev k b env M1) fun d M2 => ∃ j, d = .int j ∧ (in62 i = true ∧ in62 j = true) ∧ QI (rangeD i j, []) M2 := by
  rw [evIt]
  cases h : ev k a env M with
  | none => simp
  | some q =>
    obtain ⟨d, M1⟩ := q
    cases d <;> simp
    rename_i i
    cases h2 : ev k b env M1 with
    | none => simp
    | some q =>
      obtain ⟨d, M2⟩ := q
      cases d <;> simp
      rename_i j
      cases in62 i <;> cases in62 j <;> simp
@[simp] theorem ok_enum2 {e : E} : Ok (evIt k (.enum2 e p) env M) QI ↔ Ok (ev k e env M) fun d M1 => Get (walkOf M1 d) fun w => QI (enumD 0 w.1, w.2) M1 := by
  rw [evIt]
  cases h : ev k e env M with
  | none => simp
  | some q =>
    obtain ⟨d, M1⟩ := q
    simp only [ok_some]
    cases hw : walkOf M1 d with
    | none => simp
    | some w => simp
@[simp] theorem ok_enum {e : E} : Ok (evIt k (.enum e p) env M) QI ↔ Ok (ev k e env M) fun d M1 => Get (walkOf M1 d) fun w => isTup d = false ∧ QI (enumD 0 w.1, w.2) M1 := by
  rw [evIt]
  cases h : ev k e env M with
  | none => simp
  | some q =>
    obtain ⟨d, M1⟩ := q
    simp only [ok_some]
    cases hw : walkOf M1 d with
    | none => simp
    | some w =>
      obtain ⟨xs, g⟩ := w
      cases isTup d <;> simp
@[simp] theorem ok_zip {a b : E} : Ok (evIt k (.zip a b p) env M) QI ↔ Ok (ev k a env M) fun x M1 => Ok (ev k b env M1) fun y M2 => Get (walkOf M2 x) fun u => Get (walkOf M2 y) fun w => (isTup x = isTup y) ∧ QI (zipD u.1 w.1, u.2 ++ w.2) M2 := by
  rw [evIt]
  cases h : ev k a env M with
  | none => simp
  | some q =>
    obtain ⟨x, M1⟩ := q
    simp only [ok_some]
    cases h2 : ev k b env M1 with
    | none => simp
    | some q =>
      obtain ⟨y, M2⟩ := q
      simp only [ok_some]
      cases hx : walkOf M2 x with
      | none => simp
      | some u =>
        cases hy : walkOf M2 y with
        | none => simp
        | some w =>
          obtain ⟨xs, g⟩ := u
          obtain ⟨ys, g'⟩ := w
          by_cases hh : isTup x = isTup y <;> simp [hh]
@[simp] theorem ok_enumZip {a b : E} : Ok (evIt k (.enumZip a b p) env M) QI ↔ Ok (ev k a env M) fun x M1 => Ok (ev k b env M1) fun y M2 => Get (walkOf M2 x) fun u => Get (walkOf M2 y) fun w => (isTup x = true ∧ isTup y = true) ∧ QI (enumD 0 (zipD u.1 w.1), u.2 ++ w.2) M2 := by
  rw [evIt]
  cases h : ev k a env M with
  | none => simp
  | some q =>
    obtain ⟨x, M1⟩ := q
    simp only [ok_some]
    cases h2 : ev k b env M1 with
    | none => simp
    | some q =>
      obtain ⟨y, M2⟩ := q
      simp only [ok_some]
      cases hx : walkOf M2 x with
      | none => simp
      | some u =>
        cases hy : walkOf M2 y with
        | none => simp
        | some w =>
          obtain ⟨xs, g⟩ := u
          obtain ⟨ys, g'⟩ := w
          by_cases hh : isTup x = true ∧ isTup y = true
          · simp [hh]
          · have : (isTup x && isTup y) = false := by
              cases h1 : isTup x <;> cases h2 : isTup y <;> simp [h1, h2] at hh ⊢
            simp [this]; intro a b; exact absurd ⟨a, b⟩ hh
/-! ### statements -/
@[simp] theorem ok_exs0 : Ok (exs k n .nil env M) QO ↔ QO (.nx env) M := by rw [exs]; simp
/-- what comes next: looked into only where it is reached -/
def Then (k : CallF) (n : Nat) (ss : SL) (QO : Out → Mem → Prop) : Env → Mem → Prop := fun env M => Ok (exs k n ss env M) QO
@[simp] theorem then_ap {ss : SL} : Then k n ss QO env M = Ok (exs k n ss env M) QO := rfl
@[simp] theorem ok_exs {s : S} {ss : SL} : Ok (exs k n (.cons s ss) env M) QO ↔ Ok (ex k n s env M) (OutP QO (Then k n ss QO)) := by
  rw [exs]
  cases h : ex k n s env M with
  | none => simp
  | some q =>
    obtain ⟨o, M1⟩ := q
    cases o <;> simp
@[simp] theorem ok_asg {g : G} {e : E} : Ok (ex k n (.asg g e p) env M) QO ↔ Ok (ev k e env M) fun d M1 => Get (put g d env) fun env' => QO (.nx env') M1 := by
  rw [ex_asg]
  cases h : ev k e env M with
  | none => simp
  | some q =>
    obtain ⟨d, M1⟩ := q
    simp only [ok_some]
    cases put g d env <;> simp
@[simp] theorem ok_par {i j : Nat} {a b : E} : Ok (ex k n (.par i j a b p) env M) QO ↔ Ok (ev k a env M) fun x M1 => Ok (ev k b env M1) fun y M2 => (i < env.length ∧ j < env.length) ∧ QO (.nx ((env.set i (some x)).set j (some y))) M2 := by
  rw [ex_par]
  cases h : ev k a env M with
  | none => simp
  | some q =>
    obtain ⟨x, M1⟩ := q
    simp only [ok_some]
    cases h2 : ev k b env M1 with
    | none => simp
    | some q =>
      obtain ⟨y, M2⟩ := q
      simp only [ok_some]
      by_cases hh : i < env.length ∧ j < env.length <;> simp [hh]
@[simp] theorem ok_exx {e : E} : Ok (ex k n (.ex e p) env M) QO ↔ Ok (ev k e env M) fun _ M1 => QO (.nx env) M1 := by
  rw [ex_ex]
  cases h : ev k e env M with
  | none => simp
  | some q =>
    obtain ⟨d, M1⟩ := q
    simp
@[simp] theorem ok_iff_ {c : E} {a b : SL} : Ok (ex k n (.iff c a b p) env M) QO ↔ Ok (tru (ev k c env M)) fun t M1 => if t = true then Ok (exs k n a env M1) QO else Ok (exs k n b env M1) QO := by
  rw [ex_iff]
  cases h : tru (ev k c env M) with
  | none => simp
  | some q =>
    obtain ⟨t, M1⟩ := q
    cases t <;> simp
@[simp] theorem ok_ret {e : E} : Ok (ex k n (.ret e p) env M) QO ↔ Ok (ev k e env M) fun d M1 => QO (.rt d) M1 := by
  rw [ex_ret]
  cases h : ev k e env M with
  | none => simp
  | some q =>
    obtain ⟨d, M1⟩ := q
    simp
@[simp] theorem ok_pass : Ok (ex k n (.pass p) env M) QO ↔ QO (.nx env) M := by rw [ex]; simp
@[simp] theorem ok_brk : Ok (ex k n (.brk p) env M) QO ↔ QO (.bk env) M := by rw [ex]; simp
@[simp] theorem ok_cont : Ok (ex k n (.cont p) env M) QO ↔ QO (.ct env) M := by rw [ex]; simp
@[simp] theorem ok_for {g : G} {it : It} {b : SL} : Ok (ex k n (.for_ g it b p) env M) QO ↔ Ok (evIt k it env M) fun q M1 => Ok (forLoop q.2 (turnS k n g b) q.1 env M1) QO := by
  rw [ex_for]
  cases h : evIt k it env M with
  | none => simp
  | some q => obtain ⟨⟨ds, gr⟩, M1⟩ := q; simp
@[simp] theorem ok_whl {c : E} {b : SL} : Ok (ex k n (.whl c b p) env M) QO ↔ Ok (whileLoop (testW k c) (bodyW k n b) n env M) QO := by rw [ex_whl]
@[simp] theorem ok_turnS {g : G} {b : SL} {d : D} : Ok (turnS k n g b d env M) QO ↔ Get (put g d env) fun env' => Ok (exs k n b env' M) QO := by
  unfold turnS
  cases put g d env <;> simp
@[simp] theorem ok_testW {c : E} : Ok (testW k c env M) QB ↔ Ok (tru (ev k c env M)) QB := Iff.rfl
@[simp] theorem ok_bodyW {b : SL} : Ok (bodyW k n b env M) QO ↔ Ok (exs k n b env M) QO := Iff.rfl
@[simp] theorem ok_aug {i : Nat} {o : Bop} {e : E} : Ok (ex k n (.aug i o e p) env M) QO ↔ ∃ x, env[i]? = some (some (.int x)) ∧ Ok (ev k e env M) fun d M1 => ∃ y, d = .int y ∧ ((∃ h : o = .add, QO (.nx (env.set i (some (.int (x + y))))) M1) ∨ (∃ h : o = .sub, QO (.nx (env.set i (some (.int (x - y))))) M1)) := by
  rw [ex]
  cases h : env[i]? with
  | none => simp
  | some q =>
    cases q with
    | none => simp
    | some d =>
      cases d <;> simp
      rename_i x
      cases h2 : ev k e env M with
      | none => simp
      | some q =>
        obtain ⟨d, M1⟩ := q
        cases d <;> simp
        cases o <;> simp
@[simp] theorem ok_subD {o i e : E} : Ok (ex k n (.subD o i e p) env M) QO ↔ Ok (ev k e env M) fun d M1 => Ok (ev k o env M1) fun x M2 => ∃ c, x = .cell c ∧ Ok (ev k i env M2) fun y M3 => ∃ ks vs, M3.S[c]? = some (.dic ks vs) ∧ keyB y = true ∧ ks.length < Lim ∧ QO (.nx env) (setC c (.dic (putDk ks y) (putDw ks vs y d)) M3) := by
  rw [ex]
  cases h : ev k e env M with
  | none => simp
  | some q =>
    obtain ⟨d, M1⟩ := q
    simp only [ok_some]
    cases h2 : ev k o env M1 with
    | none => simp
    | some q =>
      obtain ⟨x, M2⟩ := q
      cases x <;> simp
      rename_i c
      cases h3 : ev k i env M2 with
      | none => simp
      | some q =>
        obtain ⟨y, M3⟩ := q
        simp only [ok_some]
        cases h4 : M3.S[c]? with
        | none => simp
        | some o =>
          cases o <;> simp
          rename_i ks vs
          by_cases hb : keyB y = true ∧ ks.length < Lim
          · rw [if_pos hb]; simp only [ok_some]; constructor
            · exact fun q => ⟨ks, vs, ⟨rfl, rfl⟩, hb.1, hb.2, q⟩
            · rintro ⟨_, _, ⟨rfl, rfl⟩, _, _, q⟩; exact q
          · rw [if_neg hb]; simp; exact fun a b => absurd ⟨a, b⟩ hb
@[simp] theorem ok_sub {o i e : E} : Ok (ex k n (.sub o i e p) env M) QO ↔ Ok (ev k e env M) fun d M1 => Ok (ev k o env M1) fun x M2 => ∃ c, x = .cell c ∧ Ok (ev k i env M2) fun y M3 => ∃ j, y = .int j ∧ ∃ xs m, M3.S[c]? = some (.lst xs) ∧ ixOf xs.length j = some m ∧ QO (.nx env) (setC c (.lst (xs.set m d)) M3) := by
  rw [ex]
  cases h : ev k e env M with
  | none => simp
  | some q =>
    obtain ⟨d, M1⟩ := q
    simp only [ok_some]
    cases h2 : ev k o env M1 with
    | none => simp
    | some q =>
      obtain ⟨x, M2⟩ := q
      cases x <;> simp
      rename_i c
      cases h3 : ev k i env M2 with
      | none => simp
      | some q =>
        obtain ⟨y, M3⟩ := q
        cases y <;> simp
        rename_i j
        cases h4 : M3.S[c]? with
        | none => simp
        | some o =>
          cases o <;> simp
          rename_i xs
          cases h5 : ixOf xs.length j <;> simp
end
end Ev

set_option autoImplicit false
set_option linter.all false
set_option maxRecDepth 100000
set_option maxHeartbeats 1000000
/-! Ev: loops, calls, lists or tuples. -/
namespace Ev
open PySem
theorem le_lim {n : Nat} (h : n ≤ 1000000) : n ≤ Lim := by show n ≤ 16777216; omega
theorem lt_lim {n : Nat} (h : n < 1000000) : n < Lim := by show n < 16777216; omega
/-! ### calls -/
section
variable {tbl : Nat → Option Ent} {n k f : Nat} {fn : Fn} {ds : List D} {M : Mem} {Q : D → Mem → Prop}
/-- what a body hands back -/
def Bk (Q : D → Mem → Prop) : Out → Mem → Prop
  | .rt d, M => Q d M
  | .nx _, M => Q .non M
  | _, _ => False
@[simp] theorem bk_rt {d : D} {M : Mem} : Bk Q (.rt d) M = Q d M := rfl
@[simp] theorem bk_nx {e : Env} {M : Mem} : Bk Q (.nx e) M = Q .non M := rfl
theorem ok_code (t : tbl f = some (.code fn)) (hl : ds.length = fn.np) (h : Ok (exs (callN tbl n k) n fn.body (ds.map some ++ List.replicate (fn.ns - ds.length) none) M) (Bk fun d M' => Q (trim M.S d M').1 (trim M.S d M').2)) : Ok (callN tbl n (k + 1) f ds M) Q := by
  obtain ⟨o, M', e, q⟩ := h
  simp only [callN, t]
  rw [if_pos hl, e]
  cases o with
  | rt d => exact ⟨_, _, rfl, q⟩
  | nx e => exact ⟨_, _, rfl, q⟩
  | bk _ => exact q.elim
  | ct _ => exact q.elim
/-- nothing is left in the memory -/
theorem call_eq {d : D} (t : tbl f = some (.code fn)) (hl : ds.length = fn.np) (h : Ok (exs (callN tbl n k) n fn.body (ds.map some ++ List.replicate (fn.ns - ds.length) none) M) (Bk fun r M' => r = d ∧ M' = M)) : callN tbl n (k + 1) f ds M = some (d, M) := by
  refine (ok_code t hl (h.mono fun o M' q => ?_)).eq
  have key : ∀ r, (r = d ∧ M' = M) → (trim M.S r M').1 = d ∧ (trim M.S r M').2 = M := by
    rintro r ⟨rfl, rfl⟩
    rw [trim_same rfl]; exact ⟨rfl, rfl⟩
  cases o with
  | rt r => exact key r q
  | nx e => exact key .non q
  | bk _ => exact q.elim
  | ct _ => exact q.elim
/-- a live list comes -/
theorem call_eqL {d : D} {M1 : Mem} (t : tbl f = some (.code fn)) (hl : ds.length = fn.np) (hp : d.pure = false) (h : Ok (exs (callN tbl n k) n fn.body (ds.map some ++ List.replicate (fn.ns - ds.length) none) M) (Bk fun r M' => r = d ∧ M' = M1)) : callN tbl n (k + 1) f ds M = some (d, M1) := by
  refine (ok_code t hl (h.mono fun o M' q => ?_)).eq
  have key : ∀ r, (r = d ∧ M' = M1) → (trim M.S r M').1 = d ∧ (trim M.S r M').2 = M1 := by
    rintro r ⟨rfl, rfl⟩
    simp only [trim, hp, Bool.false_and, Bool.false_eq_true, if_false]
    split <;> exact ⟨rfl, rfl⟩
  cases o with
  | rt r => exact key r q
  | nx e => exact key .non q
  | bk _ => exact q.elim
  | ct _ => exact q.elim
end
/-! ### loops -/
section
variable {M : Mem} {Q : List D → Mem → Prop}
theorem ok_lcp {α : Type} {gr : Grd} {turn : D → Mem → Res (Option D)} (xs : List α) (g : α → D) (f : α → Option D) (hg : gok gr M = true) (h : ∀ x ∈ xs, Ok (turn (g x) M) fun o M' => o = f x ∧ M' = M) (hl : xs.length ≤ Lim) (q : Q (xs.filterMap f) M) : Ok (lcLoop gr turn (xs.map g) [] M) Q := by
  have key : ∀ (ys : List α) (acc : List D), (∀ x ∈ ys, Ok (turn (g x) M) fun o M' => o = f x ∧ M' = M) → acc.length + ys.length ≤ Lim → lcLoop gr turn (ys.map g) acc M = some (acc ++ ys.filterMap f, M) := by
    intro ys
    induction ys with
    | nil => intro acc _ _; simp [lcLoop, hg]
    | cons y ys ih =>
      intro acc h hl
      have e := (h y (by simp)).eq
      have h' : ∀ x ∈ ys, Ok (turn (g x) M) fun o M' => o = f x ∧ M' = M := fun x hx => h x (by simp [hx])
      rw [List.map_cons, lcLoop, if_pos hg, e]
      have hl2 : acc.length + ys.length + 1 ≤ Lim := by simpa [Nat.add_assoc] using hl
      cases hf : f y with
      | none => simp only; rw [ih acc h' (by omega), List.filterMap_cons, hf]
      | some z =>
        simp only
        rw [if_pos (by omega), ih (acc ++ [z]) h' (by simp; omega), List.filterMap_cons, hf, List.append_assoc]; rfl
  exact .of (key xs [] h (by simpa using hl)) (by simpa using q)
/-- each element comes -/
theorem ok_lcm {α : Type} {gr : Grd} {turn : D → Mem → Res (Option D)} (xs : List α) (g : α → D) (f : α → D) (hg : gok gr M = true) (h : ∀ x ∈ xs, Ok (turn (g x) M) fun o M' => o = some (f x) ∧ M' = M) (hl : xs.length ≤ Lim) (q : Q (xs.map f) M) : Ok (lcLoop gr turn (xs.map g) [] M) Q := by
  refine ok_lcp xs g (fun x => some (f x)) hg h hl ?_
  have e : xs.filterMap (fun x => some (f x)) = xs.map f := by
    induction xs with
    | nil => rfl
    | cons x xs ih => simp
  rw [e]; exact q
/-- those that are picked come -/
theorem ok_lcf {α : Type} {gr : Grd} {turn : D → Mem → Res (Option D)} (xs : List α) (g : α → D) (p : α → Bool) (f : α → D) (hg : gok gr M = true) (h : ∀ x ∈ xs, Ok (turn (g x) M) fun o M' => o = (if p x then some (f x) else none) ∧ M' = M) (hl : xs.length ≤ Lim) (q : Q ((xs.filter p).map f) M) : Ok (lcLoop gr turn (xs.map g) [] M) Q := by
  refine ok_lcp xs g (fun x => if p x then some (f x) else none) hg h hl ?_
  have e : xs.filterMap (fun x => if p x then some (f x) else none) = (xs.filter p).map f := by
    clear q h hl
    induction xs with
    | nil => rfl
    | cons x xs ih =>
      cases hp : p x with
      | true => rw [List.filterMap_cons_some (b := f x) (by simp [hp]), List.filter_cons_of_pos hp, ih]; rfl
      | false => rw [List.filterMap_cons_none (by simp [hp]), List.filter_cons_of_neg (by simp [hp]), ih]
  rw [e]; exact q
end
/-- a for loop by what holds of what is left -/
theorem ok_forI {α : Type} {gr : Grd} {turn : D → Env → Mem → Res Out} {Q : Out → Mem → Prop} (g : α → D) (I : List α → Env → Mem → Prop) (hg : ∀ xs env M, I xs env M → gok gr M = true)
    (step : ∀ x xs env M, I (x :: xs) env M → Ok (turn (g x) env M) fun o M' => match o with
      | .nx env' => I xs env' M'
      | .ct env' => I xs env' M'
      | .bk env' => Q (.nx env') M'
      | .rt d => Q (.rt d) M')
    (fin : ∀ env M, I [] env M → Q (.nx env) M) : ∀ (xs : List α) (env : Env) (M : Mem), I xs env M → Ok (forLoop gr turn (xs.map g) env M) Q
  | [], env, M, h => by
    rw [List.map_nil, forLoop, if_pos (hg _ _ _ h)]
    simpa using fin env M h
  | x :: xs, env, M, h => by
    rw [List.map_cons, forLoop, if_pos (hg _ _ _ h)]
    obtain ⟨o, M', e, q⟩ := step x xs env M h
    rw [e]
    cases o with
    | nx env' => exact ok_forI g I hg step fin xs env' M' q
    | ct env' => exact ok_forI g I hg step fin xs env' M' q
    | bk env' => simpa using q
    | rt d => simpa using q
/-- a while loop by what holds, and by what falls -/
theorem ok_whileI {test : Env → Mem → Res Bool} {body : Env → Mem → Res Out} {Q : Out → Mem → Prop} (I : Nat → Env → Mem → Prop)
    (step : ∀ m env M, I m env M → Ok (test env M) fun b M1 => if b = true then 0 < m ∧ Ok (body env M1) (fun o M' => match o with
      | .nx env' => I (m - 1) env' M'
      | .ct env' => I (m - 1) env' M'
      | .bk env' => Q (.nx env') M'
      | .rt d => Q (.rt d) M') else Q (.nx env) M1) : ∀ (n m : Nat) (env : Env) (M : Mem), m < n → I m env M → Ok (whileLoop test body n env M) Q
  | 0, m, env, M, hm, h => by omega
  | n + 1, m, env, M, hm, h => by
    rw [whileLoop]
    obtain ⟨b, M1, e, q⟩ := step m env M h
    rw [e]
    cases b with
    | false => simpa using q
    | true =>
      simp only [if_true] at q
      obtain ⟨hp, o, M', e2, q⟩ := q
      simp only [e2]
      cases o with
      | nx env' => exact ok_whileI I step n (m - 1) env' M' (by omega) q
      | ct env' => exact ok_whileI I step n (m - 1) env' M' (by omega) q
      | bk env' => simpa using q
      | rt d => simpa using q
/-! ### ranges over numbers from 0 on -/
theorem range_to (n : Nat) : rangeD 0 (n : Int) = (List.range n).map fun (i : Nat) => D.int (i : Int) := by
  unfold rangeD
  simp
theorem range_ft (a b : Nat) : rangeD (a : Int) (b : Int) = (List.range' a (b - a)).map fun (i : Nat) => D.int (i : Int) := by
  unfold rangeD
  rw [List.range'_eq_map_range, List.map_map]
  have e : ((b : Int) - (a : Int)).toNat = b - a := by omega
  rw [e]
  apply List.map_congr_left
  intro x _
  simp
theorem in62_nat {n : Nat} (h : n < 2 ^ 62) : in62 (n : Int) = true := by
  simp only [in62, Bool.and_eq_true, decide_eq_true_eq]; omega
/-! ### a list or a tuple -/
def Sq (b : Bool) (xs : List D) : D := if b then .tup xs else .lst xs
abbrev WT (b : Bool) (l : List Int) : D := Sq b (lints l)
section
variable {b : Bool} {xs : List D} {M : Mem}
@[simp] theorem sq_true : Sq true xs = .tup xs := rfl
@[simp] theorem sq_false : Sq false xs = .lst xs := rfl
theorem isWord_iff {d : D} {l : List Int} : IsWord d l ↔ ∃ b, d = WT b l := by
  constructor
  · rintro (rfl | rfl)
    · exact ⟨false, rfl⟩
    · exact ⟨true, rfl⟩
  · rintro ⟨b, rfl⟩
    cases b
    · exact .inl rfl
    · exact .inr rfl
theorem isWord_WT (b : Bool) (l : List Int) : IsWord (WT b l) l := isWord_iff.mpr ⟨b, rfl⟩
@[simp] theorem seqOf_sq : seqOf M (Sq b xs) = some xs := by cases b <;> rfl
@[simp] theorem lseq_sq : lseq M (Sq b xs) = some xs := by cases b <;> rfl
@[simp] theorem seqOf_tup : seqOf M (.tup xs) = some xs := rfl
@[simp] theorem seqOf_lst : seqOf M (.lst xs) = some xs := rfl
@[simp] theorem lseq_tup : lseq M (.tup xs) = some xs := rfl
@[simp] theorem lseq_lst : lseq M (.lst xs) = some xs := rfl
@[simp] theorem listOf_lst : listOf M (.lst xs) = some xs := rfl
@[simp] theorem lenD_sq : lenD M (Sq b xs) = some xs.length := by cases b <;> rfl
@[simp] theorem lenD_tup : lenD M (.tup xs) = some xs.length := rfl
@[simp] theorem lenD_lst : lenD M (.lst xs) = some xs.length := rfl
@[simp] theorem walkOf_lst : walkOf M (.lst xs) = some (xs, []) := rfl
@[simp] theorem walkOf_tup : walkOf M (.tup xs) = some (xs, []) := rfl
@[simp] theorem walkOf_sq : walkOf M (Sq b xs) = some (xs, []) := by cases b <;> rfl
@[simp] theorem walkX_sq : walkX M (Sq b xs) = some (xs, []) := by cases b <;> rfl
@[simp] theorem isi_sq_lt : isiD M (Sq b xs) (.tup [.ty .list, .ty .tuple]) = some true := by cases b <;> rfl
@[simp] theorem isi_sq_list : isiD M (Sq b xs) (.ty .list) = some (!b) := by cases b <;> rfl
@[simp] theorem isi_sq_tuple : isiD M (Sq b xs) (.ty .tuple) = some b := by cases b <;> rfl
@[simp] theorem isi_sq_dict : isiD M (Sq b xs) (.ty .dict) = some false := by cases b <;> rfl
@[simp] theorem truth_bl {v : Bool} : truth M (.bl v) = some v := rfl
@[simp] theorem truth_lst : truth M (.lst xs) = some (!xs.isEmpty) := rfl
@[simp] theorem truth_tup : truth M (.tup xs) = some (!xs.isEmpty) := rfl
@[simp] theorem truth_non : truth M .non = some false := rfl
@[simp] theorem truth_int {i : Int} : truth M (.int i) = some (i != 0) := rfl
@[simp] theorem gok_nil : gok [] M = true := rfl
@[simp] theorem put_name {i p : Nat} {d : D} {env : Env} : put (.name i p) d env = if i < env.length then some (env.set i (some d)) else none := rfl
@[simp] theorem put_tup {gs : GL} {p : Nat} {ds : List D} {env : Env} : put (.tup gs p) (.tup ds) env = puts gs ds env := rfl
@[simp] theorem put_lst {gs : GL} {p : Nat} {ds : List D} {env : Env} : put (.tup gs p) (.lst ds) env = puts gs ds env := rfl
@[simp] theorem puts_nil {env : Env} : puts .nil [] env = some env := rfl
@[simp] theorem puts_cons {g : G} {gs : GL} {d : D} {ds : List D} {env : Env} : puts (.cons g gs) (d :: ds) env = match put g d env with
    | some env' => puts gs ds env'
    | none => none := rfl
@[simp] theorem own_name {i p : Nat} : G.own (.name i p) = [i] := by rw [G.own]
@[simp] theorem own_tup {gs : GL} {p : Nat} : G.own (.tup gs p) = GL.own gs := by rw [G.own]
@[simp] theorem own_nil : GL.own .nil = [] := by rw [GL.own]
@[simp] theorem own_cons {g : G} {gs : GL} : GL.own (.cons g gs) = G.own g ++ GL.own gs := by rw [GL.own]
@[simp] theorem wipe_nil {env : Env} : wipe env [] = env := rfl
@[simp] theorem wipe_cons {env : Env} {v : Nat} {vs : List Nat} : wipe env (v :: vs) = (wipe env vs).set v none := rfl
@[simp] theorem cmp_eq {x y : D} : opCmp M .eq x y = eqD M x y := rfl
@[simp] theorem cmp_ne {x y : D} : opCmp M .ne x y = (eqD M x y).map (!·) := rfl
@[simp] theorem cmp_lt {i j : Int} : opCmp M .lt (.int i) (.int j) = some (decide (i < j)) := rfl
@[simp] theorem cmp_le {i j : Int} : opCmp M .le (.int i) (.int j) = some (decide (i ≤ j)) := rfl
@[simp] theorem cmp_gt {i j : Int} : opCmp M .gt (.int i) (.int j) = some (decide (j < i)) := rfl
@[simp] theorem cmp_ge {i j : Int} : opCmp M .ge (.int i) (.int j) = some (decide (j ≤ i)) := rfl
@[simp] theorem eqD_int2 (i j : Int) : eqD M (.int i) (.int j) = some (i == j) := eqD_int i j
@[simp] theorem eqD_bl2 (i j : Bool) : eqD M (.bl i) (.bl j) = some (i == j) := eqD_bl i j
@[simp] theorem add_int {i j : Int} : opBin M .add (.int i) (.int j) = some (.int (i + j)) := by simp [opBin, intBin]
@[simp] theorem sub_int {i j : Int} : opBin M .sub (.int i) (.int j) = some (.int (i - j)) := by simp [opBin, intBin]
end
end Ev

set_option autoImplicit false
set_option linter.all false
set_option maxRecDepth 100000
set_option maxHeartbeats 1000000
/-! Ev: draws, copies, sameness, spoiling: for simp. -/
namespace Ev
open PySem H
section
variable {tbl : Nat → Option Ent} {n k b : Nat} {S : List C} {s : Strm} {Q : D → Mem → Prop}
theorem ok_draw (h : tbl 12 = some .draw) {m : Int} (hb : Bud (b + 1) s) (h0 : 0 < m) (h1 : m < 1073741824) (q : ∀ (r : Nat) s', (r : Int) < m → Bud b s' → Q (.int (r : Int)) ⟨S, some s'⟩) : Ok (callN tbl n (k + 1) 12 [.strm, .int m] ⟨S, some s⟩) Q := by
  obtain ⟨r, s', e, r0, r1, hb'⟩ := draw_spec (n := n) (k := k) (S := S) h hb h0 h1
  obtain ⟨u, rfl⟩ : ∃ u : Nat, r = (u : Int) := ⟨r.toNat, by omega⟩
  exact .of e (q u s' r1 hb')
theorem ok_pick (h : tbl 12 = some .draw) (t : tbl 13 = some (.code f_law_pick)) {xs : List D} (hb : Bud (b + 1) s) (h0 : 0 < xs.length) (h1 : xs.length < 1073741824) (q : ∀ d s', d ∈ xs → Bud b s' → Q d ⟨S, some s'⟩) : Ok (callN tbl n (k + 2) 13 [.strm, .lst xs] ⟨S, some s⟩) Q := by
  obtain ⟨i, d, s', e, hd, hb'⟩ := pick_spec (n := n) (k := k) (S := S) h t h0 h1 hb
  exact .of e (q d s' (List.mem_of_getElem? hd) hb')
/-- the letters lie below a number -/
def Below (l : List Int) (m : Int) : Prop := ∀ x ∈ l, 0 ≤ x ∧ x < m
theorem Below.letters {l : List Int} {m : Int} (h : Below l m) : Letters l := fun x hx => (h x hx).1
theorem ok_word (h : tbl 12 = some .draw) (t : tbl 18 = some (.code f_law_word)) {many most : Int} (h0 : 0 < many) (h1 : many < 1073741824) (h2 : 0 ≤ most) (h3 : most < 1000000) (hb : Bud (b + most.toNat + 1) s) (q : ∀ l s', (l.length : Int) ≤ most → Below l many → Bud b s' → Q (W l) ⟨S, some s'⟩) : Ok (callN tbl n (k + 2) 18 [.strm, .int many, .int most] ⟨S, some s⟩) Q := by
  obtain ⟨l, s', e, hl, hx, hb'⟩ := word_spec (n := n) (k := k) (S := S) h t h0 h1 h2 h3 hb
  exact .of e (q l s' hl hx hb')
theorem ok_repeated (h : tbl 12 = some .draw) (hw : tbl 18 = some (.code f_law_word)) (t : tbl 20 = some (.code f_law_repeated)) {letters most : Int} (h0 : 0 < letters) (h1 : letters < 1000) (m0 : 0 ≤ most) (m1 : most < 1000) (hb : Bud (b + 2000) s) (q : ∀ l s', (l.length : Int) ≤ most → Below l letters → Bud b s' → Q (W l) ⟨S, some s'⟩) : Ok (callN tbl n (k + 3) 20 [.strm, .int letters, .int most] ⟨S, some s⟩) Q := by
  obtain ⟨l, s', e, hl, hx, hb'⟩ := repeated_spec (n := n) (k := k) (S := S) h hw t h0 h1 m0 m1 hb
  exact .of e (q l s' hl hx hb')
/-! ### loose copies -/
theorem ok_loose (h : tbl 12 = some .draw) (t0 : tbl 17 = some (.code f_law_loose)) {t : D} (ht : t.tree = true) (hh : t.hgt ≤ k) (hb : Bud (b + t.cost) s) (q : ∀ r s', Loose t r → Bud b s' → Q r ⟨S, some s'⟩) : Ok (callN tbl n (k + 1) 17 [.strm, t] ⟨S, some s⟩) Q := by
  obtain ⟨r, s', e, hl, hb'⟩ := loose_spec (n := n) (S := S) h t0 t k b s ht hh hb
  exact .of e (q r s' hl hb')
@[simp] theorem hgts_lints (l : List Int) : D.hgts (lints l) = 0 := hgts_ints l
@[simp] theorem costs_lints (l : List Int) : D.costs (lints l) = 0 := costs_ints l
@[simp] theorem trees_lints (l : List Int) (h : l.length ≤ 1000000) : D.trees (lints l) = true := trees_ints l
theorem Loose.lst {xs : List D} {r : D} (h : Loose (.lst xs) r) : ∃ b ys, r = Sq b ys ∧ Looses xs ys := by
  cases h with
  | ll h => exact ⟨false, _, rfl, h⟩
  | lt h => exact ⟨true, _, rfl, h⟩
theorem Loose.tup {xs : List D} {r : D} (h : Loose (.tup xs) r) : ∃ b ys, r = Sq b ys ∧ Looses xs ys := by
  cases h with
  | tl h => exact ⟨false, _, rfl, h⟩
  | tt h => exact ⟨true, _, rfl, h⟩
theorem Looses.cons' {x : D} {xs ys : List D} (h : Looses (x :: xs) ys) : ∃ z zs, ys = z :: zs ∧ Loose x z ∧ Looses xs zs := by
  cases h with
  | cons h1 h2 => exact ⟨_, _, rfl, h1, h2⟩
theorem Looses.nil' {ys : List D} (h : Looses [] ys) : ys = [] := by
  cases h; rfl
theorem Loose.int' {i : Int} {r : D} (h : Loose (.int i) r) : r = .int i := by cases h; rfl
theorem Loose.word {l : List Int} {r : D} (h : Loose (W l) r) : ∃ b, r = WT b l := by
  obtain ⟨b, ys, rfl, h2⟩ := h.lst
  rw [looses_ints h2]; exact ⟨b, rfl⟩
theorem ok_looseW (h : tbl 12 = some .draw) (t0 : tbl 17 = some (.code f_law_loose)) {l : List Int} (hl : l.length ≤ 1000) (hb : Bud (b + 1) s) (q : ∀ c s', Bud b s' → Q (WT c l) ⟨S, some s'⟩) : Ok (callN tbl n (k + 2) 17 [.strm, W l] ⟨S, some s⟩) Q := by
  refine ok_loose (b := b) h t0 (by simp [D.tree, trees_ints]; show _ ≤ 16777216; omega) (by simp [D.hgt]) (by simpa [D.cost] using hb) fun r s' hr hb' => ?_
  obtain ⟨c, rfl⟩ := hr.word
  exact q c s' hb'
end
/-! ### trees -/
@[simp] theorem tree_sq {b : Bool} {xs : List D} : (Sq b xs).tree = (decide (xs.length ≤ Lim) && D.trees xs) := by cases b <;> simp [D.tree]
@[simp] theorem hgt_sq {b : Bool} {xs : List D} : (Sq b xs).hgt = D.hgts xs + 1 := by cases b <;> simp [D.hgt]
@[simp] theorem cost_sq {b : Bool} {xs : List D} : (Sq b xs).cost = D.costs xs + 1 := by cases b <;> simp [D.cost]
@[simp] theorem trees_lints' (l : List Int) : D.trees (lints l) = true := trees_ints l
@[simp] theorem tree_lst {xs : List D} : (D.lst xs).tree = (decide (xs.length ≤ Lim) && D.trees xs) := by simp [D.tree]
@[simp] theorem tree_tup {xs : List D} : (D.tup xs).tree = (decide (xs.length ≤ Lim) && D.trees xs) := by simp [D.tree]
@[simp] theorem tree_int {i : Int} : (D.int i).tree = true := rfl
@[simp] theorem tree_bl {i : Bool} : (D.bl i).tree = true := rfl
@[simp] theorem tree_non : D.non.tree = true := rfl
@[simp] theorem tree_str {x : Str} : (D.str x).tree = true := rfl
@[simp] theorem trees_nil : D.trees [] = true := rfl
@[simp] theorem trees_cons {x : D} {xs : List D} : D.trees (x :: xs) = (x.tree && D.trees xs) := rfl
@[simp] theorem hgt_lst' {xs : List D} : (D.lst xs).hgt = D.hgts xs + 1 := by simp [D.hgt]
@[simp] theorem hgt_tup' {xs : List D} : (D.tup xs).hgt = D.hgts xs + 1 := by simp [D.hgt]
@[simp] theorem hgt_int {i : Int} : (D.int i).hgt = 0 := rfl
@[simp] theorem hgt_bl {i : Bool} : (D.bl i).hgt = 0 := rfl
@[simp] theorem hgt_non : D.non.hgt = 0 := rfl
@[simp] theorem hgt_str {x : Str} : (D.str x).hgt = 0 := rfl
@[simp] theorem hgts_nil : D.hgts [] = 0 := rfl
@[simp] theorem hgts_cons' {x : D} {xs : List D} : D.hgts (x :: xs) = max x.hgt (D.hgts xs) := rfl
@[simp] theorem cost_lst' {xs : List D} : (D.lst xs).cost = D.costs xs + 1 := by simp [D.cost]
@[simp] theorem cost_tup' {xs : List D} : (D.tup xs).cost = D.costs xs + 1 := by simp [D.cost]
@[simp] theorem cost_int {i : Int} : (D.int i).cost = 0 := rfl
@[simp] theorem cost_bl {i : Bool} : (D.bl i).cost = 0 := rfl
@[simp] theorem cost_non : D.non.cost = 0 := rfl
@[simp] theorem cost_str {x : Str} : (D.str x).cost = 0 := rfl
@[simp] theorem costs_nil : D.costs [] = 0 := rfl
@[simp] theorem costs_cons' {x : D} {xs : List D} : D.costs (x :: xs) = x.cost + D.costs xs := rfl
@[simp] theorem trees_app {xs ys : List D} : D.trees (xs ++ ys) = (D.trees xs && D.trees ys) := by
  induction xs with
  | nil => simp
  | cons x xs ih => simp [ih, Bool.and_assoc]
@[simp] theorem hgts_app {xs ys : List D} : D.hgts (xs ++ ys) = max (D.hgts xs) (D.hgts ys) := by
  induction xs with
  | nil => simp
  | cons x xs ih => simp [ih, Nat.max_assoc]
@[simp] theorem costs_app {xs ys : List D} : D.costs (xs ++ ys) = D.costs xs + D.costs ys := by
  induction xs with
  | nil => simp
  | cons x xs ih => simp [ih, Nat.add_assoc]
/-! texts of signs that a tree may have -/
mutual
def D.strs : D → Bool
  | .str x => PyData.canLay0 (.str x)
  | .tup xs => D.strss xs
  | .lst xs => D.strss xs
  | _ => true
def D.strss : List D → Bool
  | [] => true
  | x :: xs => D.strs x && D.strss xs
end
@[simp] theorem strss_lints (l : List Int) : D.strss (lints l) = true := by
  induction l with
  | nil => rfl
  | cons a l ih => simp [D.strss, D.strs, ih]
@[simp] theorem strs_lst {xs : List D} : (D.lst xs).strs = D.strss xs := by simp [D.strs]
@[simp] theorem strs_tup {xs : List D} : (D.tup xs).strs = D.strss xs := by simp [D.strs]
@[simp] theorem strs_int {i : Int} : (D.int i).strs = true := rfl
@[simp] theorem strs_bl {i : Bool} : (D.bl i).strs = true := rfl
@[simp] theorem strs_non : D.non.strs = true := rfl
@[simp] theorem strss_nil : D.strss [] = true := rfl
@[simp] theorem strss_cons {x : D} {xs : List D} : D.strss (x :: xs) = (x.strs && D.strss xs) := rfl
@[simp] theorem strs_sq {b : Bool} {xs : List D} : (Sq b xs).strs = D.strss xs := by cases b <;> simp
@[simp] theorem trees_takei (p : Nat) (l : List Int) : D.trees (List.take p (List.map D.int l)) = true := by rw [← List.map_take]; exact trees_ints _
@[simp] theorem trees_dropi (p : Nat) (l : List Int) : D.trees (List.drop p (List.map D.int l)) = true := by rw [← List.map_drop]; exact trees_ints _
@[simp] theorem hgts_takei (p : Nat) (l : List Int) : D.hgts (List.take p (List.map D.int l)) = 0 := by rw [← List.map_take]; exact hgts_ints _
@[simp] theorem hgts_dropi (p : Nat) (l : List Int) : D.hgts (List.drop p (List.map D.int l)) = 0 := by rw [← List.map_drop]; exact hgts_ints _
@[simp] theorem costs_takei (p : Nat) (l : List Int) : D.costs (List.take p (List.map D.int l)) = 0 := by rw [← List.map_take]; exact costs_ints _
@[simp] theorem costs_dropi (p : Nat) (l : List Int) : D.costs (List.drop p (List.map D.int l)) = 0 := by rw [← List.map_drop]; exact costs_ints _
mutual
theorem sees_tree {M : Mem} : ∀ (t : D), t.tree = true → t.strs = true → Sees M t t
  | .non, _, _ => .non
  | .bl b, _, _ => .bl b
  | .int i, _, _ => .int i
  | .str x, _, h => .str x h
  | .lst xs, h, g => by
    simp only [tree_lst, Bool.and_eq_true, decide_eq_true_eq] at h
    exact .lst (sees_trees xs h.2 (by simpa using g)) h.1
  | .tup xs, h, g => by
    simp only [tree_tup, Bool.and_eq_true, decide_eq_true_eq] at h
    exact .tup (sees_trees xs h.2 (by simpa using g)) h.1
  | .dic _ _, h, _ => by simp [D.tree] at h
  | .ty _, h, _ => by simp [D.tree] at h
  | .cell _, h, _ => by simp [D.tree] at h
  | .strm, h, _ => by simp [D.tree] at h
  | .scr _, h, _ => by simp [D.tree] at h
  | .rng _ _, h, _ => by simp [D.tree] at h
theorem sees_trees {M : Mem} : ∀ (ts : List D), D.trees ts = true → D.strss ts = true → SeesL M ts ts
  | [], _, _ => .nil
  | t :: ts, h, g => by
    simp only [trees_cons, strss_cons, Bool.and_eq_true] at h g
    exact .cons (sees_tree t h.1 g.1) (sees_trees ts h.2 g.2)
end
section
variable {tbl : Nat → Option Ent} {n k b : Nat} {M : Mem} {Q : D → Mem → Prop}
theorem copied_eq (t0 : tbl 16 = some (.code f_law_copied)) {t : D} (ht : t.tree = true) (hh : t.hgt ≤ k) : callN tbl n (k + 1) 16 [t] M = some (t, M) := copied_spec t0 t k ht hh
theorem same_eq (t0 : tbl 14 = some (.code f_law_same)) {t : D} (ht : t.tree = true) (hs : t.strs = true) (hh : t.hgt ≤ k) : callN tbl n (k + 1) 14 [t, t] M = some (.bl true, M) := same_spec t0 t k t t (sees_tree t ht hs) (sees_tree t ht hs) hh
end
/-! ### live things: made since, seen as a tree -/
/-- what was there stays, more comes -/
def Xt (S S' : List C) : Prop := ∃ l, S' = S ++ l
theorem Xt.refl (S : List C) : Xt S S := ⟨[], by simp⟩
theorem Xt.trans {S S1 S2 : List C} (a : Xt S S1) (b : Xt S1 S2) : Xt S S2 := by
  obtain ⟨l, rfl⟩ := a
  obtain ⟨l', rfl⟩ := b
  exact ⟨l ++ l', by simp⟩
theorem Xt.len {S S' : List C} (a : Xt S S') : S.length ≤ S'.length := by
  obtain ⟨l, rfl⟩ := a; simp
theorem Xt.get {S S' : List C} (a : Xt S S') {c : Nat} (h : c < S.length) : S'[c]? = S[c]? := by
  obtain ⟨l, rfl⟩ := a
  rw [List.getElem?_append_left h]
theorem Xt.snoc (S : List C) (c : C) : Xt S (S ++ [c]) := ⟨[c], rfl⟩
mutual
theorem Sees.more {S S' : List C} {st st' : Option Strm} (a : ∀ c, c < S.length → S'[c]? = S[c]?) : ∀ {d t : D}, Sees ⟨S, st⟩ d t → Sees ⟨S', st'⟩ d t
  | _, _, .non => .non
  | _, _, .bl b => .bl b
  | _, _, .int i => .int i
  | _, _, .str x h => .str x h
  | _, _, .tup r h => .tup (SeesL.more a r) h
  | _, _, .lst r h => .lst (SeesL.more a r) h
  | _, _, .cell e r h => .cell (by
      have e' : S[_]? = some _ := e
      have hl := (List.getElem?_eq_some_iff.mp e').1
      show S'[_]? = some _
      rw [a _ hl]; exact e) (SeesL.more a r) h
theorem SeesL.more {S S' : List C} {st st' : Option Strm} (a : ∀ c, c < S.length → S'[c]? = S[c]?) : ∀ {d t : List D}, SeesL ⟨S, st⟩ d t → SeesL ⟨S', st'⟩ d t
  | _, _, .nil => .nil
  | _, _, .cons h r => .cons (Sees.more a h) (SeesL.more a r)
end
structure Lv (lo : Nat) (S : List C) (d t : D) : Prop where
  see : ∀ st, Sees ⟨S, st⟩ d t
  rng : ∀ st, Rng ⟨S, st⟩ t.hgt lo S.length d
structure LvL (lo : Nat) (S : List C) (ds ts : List D) : Prop where
  see : ∀ st, SeesL ⟨S, st⟩ ds ts
  rng : ∀ st, RngL ⟨S, st⟩ (D.hgts ts) lo S.length ds
mutual
theorem Rng.hi {M : Mem} : ∀ {h h' lo hi hi' : Nat} {d : D}, Rng M h lo hi d → h ≤ h' → hi ≤ hi' → Rng M h' lo hi' d
  | _, _, _, _, _, _, .leaf a l, _, g => .leaf a (Nat.le_trans l g)
  | _, _ + 1, _, _, _, _, .tup r, e, g => .tup (RngL.hi r (by omega) g)
  | _, 0, _, _, _, _, .tup r, e, g => by omega
  | _, _ + 1, _, _, _, _, .cell a l r h, e, g => .cell a l (RngL.hi r (by omega) (Nat.le_refl _)) (by omega)
  | _, 0, _, _, _, _, .cell a l r h, e, g => by omega
theorem RngL.hi {M : Mem} : ∀ {h h' lo hi hi' : Nat} {d : List D}, RngL M h lo hi d → h ≤ h' → hi ≤ hi' → RngL M h' lo hi' d
  | _, _, _, _, _, _, .nil l, _, g => .nil (Nat.le_trans l g)
  | _, _, _, _, _, _, .cons a r, e, g => .cons (Rng.hi a e (Nat.le_refl _)) (RngL.hi r e g)
end
theorem Lv.more {lo : Nat} {S S' : List C} {d t : D} (v : Lv lo S d t) (x : Xt S S') : Lv lo S' d t :=
  ⟨fun st => (v.see st).more fun c h => x.get h, fun st => ((v.rng st).same fun c h1 h2 => x.get h2).hi (Nat.le_refl _) x.len⟩
theorem LvL.more {lo : Nat} {S S' : List C} {d t : List D} (v : LvL lo S d t) (x : Xt S S') : LvL lo S' d t :=
  ⟨fun st => (v.see st).more fun c h => x.get h, fun st => ((v.rng st).same fun c h1 h2 => x.get h2).hi (Nat.le_refl _) x.len⟩
/-- leaves -/
theorem Lv.leaf {lo : Nat} {S : List C} {d : D} (h : leafB d = true) (hs : d.strs = true) (hl : lo ≤ S.length) : Lv lo S d d := by
  refine ⟨fun st => sees_tree d ?_ hs, fun st => .leaf h hl⟩
  cases d <;> first | rfl | cases h
theorem Lv.int {lo : Nat} {S : List C} (i : Int) (hl : lo ≤ S.length) : Lv lo S (.int i) (.int i) := .leaf rfl rfl hl
theorem Lv.bl {lo : Nat} {S : List C} (i : Bool) (hl : lo ≤ S.length) : Lv lo S (.bl i) (.bl i) := .leaf rfl rfl hl
theorem Lv.non {lo : Nat} {S : List C} (hl : lo ≤ S.length) : Lv lo S .non .non := .leaf rfl rfl hl
theorem LvL.nil {lo : Nat} {S : List C} (hl : lo ≤ S.length) : LvL lo S [] [] := ⟨fun _ => .nil, fun _ => .nil hl⟩
theorem LvL.cons {lo : Nat} {S : List C} {d t : D} {ds ts : List D} {S0 : List C} (v : Lv lo S0 d t) (x : Xt S0 S) (r : LvL S0.length S ds ts) : LvL lo S (d :: ds) (t :: ts) :=
  ⟨fun st => .cons ((v.more x).see st) (r.see st), fun st => .cons (((v.rng st).same fun c h1 h2 => x.get h2).hi (Nat.le_max_left _ _) (Nat.le_refl _)) ((r.rng st).hi (Nat.le_max_right _ _) (Nat.le_refl _))⟩
theorem LvL.ints {lo : Nat} {S : List C} (l : List Int) (hl : lo ≤ S.length) : LvL lo S (lints l) (lints l) := ⟨fun _ => seesL_ints l, fun _ => rngL_ints _ _ _ hl l⟩
theorem LvL.tup {lo : Nat} {S : List C} {ds ts : List D} (v : LvL lo S ds ts) (h : ts.length ≤ Lim) : Lv lo S (.tup ds) (.tup ts) :=
  ⟨fun st => .tup (v.see st) h, fun st => by rw [hgt_tup']; exact .tup (v.rng st)⟩
/-- a new list of them -/
theorem LvL.cell {lo : Nat} {S : List C} {ds ts : List D} (v : LvL lo S ds ts) (h : ts.length < Lim) : Lv lo (S ++ [.lst ds]) (.cell S.length) (.lst ts) := by
  have e : (S ++ [C.lst ds])[S.length]? = some (.lst ds) := by simp
  refine ⟨fun st => .cell e ((v.more (Xt.snoc S _)).see st) (Nat.le_of_lt h), fun st => ?_⟩
  rw [hgt_lst']
  have hl : ds.length = ts.length := (v.see none).len
  exact .cell e (by omega) ((v.rng st).same fun c h1 h2 => (Xt.snoc S _).get h2) (by simp)
/-- new things come, seen as t -/
def Live (r : Mem → Res D) (t : D) : Prop := ∀ S st, ∃ d S', r ⟨S, st⟩ = some (d, ⟨S', st⟩) ∧ Xt S S' ∧ Lv S.length S' d t
theorem Live.ok {r : Mem → Res D} {t : D} (h : Live r t) {S : List C} {st : Option Strm} {Q : D → Mem → Prop} (q : ∀ d S', Xt S S' → Lv S.length S' d t → Q d ⟨S', st⟩) : Ok (r ⟨S, st⟩) Q := by
  obtain ⟨d, S', e, x, v⟩ := h S st
  exact .of e (q d S' x v)
theorem Live.of {r : Mem → Res D} {t : D} (h : ∀ S st, Ok (r ⟨S, st⟩) fun d M' => M'.st = st ∧ Xt S M'.S ∧ Lv S.length M'.S d t) : Live r t := fun S st => by
  obtain ⟨d, ⟨S', st'⟩, e, rfl, x, v⟩ := h S st
  exact ⟨d, S', e, x, v⟩
/-- a list of leaves, new -/
theorem Live.cell {r : Mem → Res D} {ds : List D} (h : ∀ S st, r ⟨S, st⟩ = some (.cell S.length, ⟨S ++ [.lst ds], st⟩)) (hl : ds.length < Lim) (v : ∀ lo S, lo ≤ S.length → LvL lo S ds ds) : Live r (.lst ds) := fun S st =>
  ⟨_, _, h S st, Xt.snoc S _, (v S.length S (Nat.le_refl _)).cell hl⟩
section
variable {tbl : Nat → Option Ent} {n k lo : Nat} {S : List C} {st : Option Strm} {Q : D → Mem → Prop} {d t : D}
theorem Lv.same (v : Lv lo S d t) (t0 : tbl 14 = some (.code f_law_same)) (hh : t.hgt ≤ k) (ht : t.tree = true) (hs : t.strs = true) : callN tbl n (k + 1) 14 [d, t] ⟨S, st⟩ = some (.bl true, ⟨S, st⟩) :=
  same_spec t0 t k d t (v.see st) (sees_tree t ht hs) hh
theorem Lv.spoil (v : Lv lo S d t) (t0 : tbl 15 = some (.code f_law_spoilt)) (hh : t.hgt ≤ k) (q : ∀ S', S'.length = S.length → (∀ c, c < lo → S'[c]? = S[c]?) → Q .non ⟨S', st⟩) : Ok (callN tbl n (k + 1) 15 [d] ⟨S, st⟩) Q := by
  obtain ⟨M', e, f⟩ := spoil_spec (n := n) t0 t.hgt k d lo S.length ⟨S, st⟩ hh (v.rng st)
  obtain ⟨S', st'⟩ := M'
  obtain ⟨f1, f2, f3⟩ := f
  have f1 : st' = st := f1
  subst f1
  exact .of e (q S' f2 fun c h => f3 c (.inl h))
end
mutual
theorem Sees.still {M M' : Mem} : ∀ {d t : D}, d.pure = true → Sees M d t → Sees M' d t
  | _, _, _, .non => .non
  | _, _, _, .bl b => .bl b
  | _, _, _, .int i => .int i
  | _, _, _, .str x h => .str x h
  | _, _, p, .tup r h => .tup (SeesL.still (by simpa [D.pure] using p) r) h
  | _, _, p, .lst r h => .lst (SeesL.still (by simpa [D.pure] using p) r) h
  | _, _, p, .cell _ _ _ => by simp [D.pure] at p
theorem SeesL.still {M M' : Mem} : ∀ {d t : List D}, D.pures d = true → SeesL M d t → SeesL M' d t
  | _, _, _, .nil => .nil
  | _, _, p, .cons h r => .cons (Sees.still (by simp [D.pures] at p; exact p.1) h) (SeesL.still (by simp [D.pures] at p; exact p.2) r)
end
mutual
theorem Rng.still {M M' : Mem} {l0 : Nat} : ∀ {h lo hi : Nat} {d : D}, d.pure = true → Rng M h lo hi d → Rng M' h l0 l0 d
  | _, _, _, _, _, .leaf a _ => .leaf a (Nat.le_refl _)
  | _, _, _, _, p, .tup r => .tup (RngL.still (by simpa [D.pure] using p) r)
  | _, _, _, _, p, .cell _ _ _ _ => by simp [D.pure] at p
theorem RngL.still {M M' : Mem} {l0 : Nat} : ∀ {h lo hi : Nat} {d : List D}, D.pures d = true → RngL M h lo hi d → RngL M' h l0 l0 d
  | _, _, _, _, _, .nil _ => .nil (Nat.le_refl _)
  | _, _, _, _, p, .cons a r => .cons (Rng.still (by simp [D.pures] at p; exact p.1) a) (RngL.still (by simp [D.pures] at p; exact p.2) r)
end
/-- a function that leaves the lists alone -/
theorem ok_codeS {tbl : Nat → Option Ent} {n k f : Nat} {fn : Fn} {ds : List D} {M : Mem} {Q : D → Mem → Prop} (t : tbl f = some (.code fn)) (hl : ds.length = fn.np) (h : Ok (exs (callN tbl n k) n fn.body (ds.map some ++ List.replicate (fn.ns - ds.length) none) M) (Bk fun d M' => M'.S = M.S ∧ Q d M')) : Ok (callN tbl n (k + 1) f ds M) Q := by
  refine ok_code t hl (h.mono fun o M' q => ?_)
  have key : ∀ r, (M'.S = M.S ∧ Q r M') → Q (trim M.S r M').1 (trim M.S r M').2 := by
    rintro r ⟨h1, h2⟩
    rw [trim_same h1]; exact h2
  cases o with
  | rt r => exact key r q
  | nx e => exact key .non q
  | bk _ => exact q.elim
  | ct _ => exact q.elim
/-- a function that hands on new things -/
theorem live_call {tbl : Nat → Option Ent} {n k f : Nat} {fn : Fn} {ds : List D} {t : D} (t0 : tbl f = some (.code fn)) (hl : ds.length = fn.np)
    (h : ∀ S st, Ok (exs (callN tbl n k) n fn.body (ds.map some ++ List.replicate (fn.ns - ds.length) none) ⟨S, st⟩) (Bk fun d M' => M'.st = st ∧ Xt S M'.S ∧ Lv S.length M'.S d t)) : Live (callN tbl n (k + 1) f ds) t := by
  refine .of fun S st => ok_code t0 hl ((h S st).mono fun o M' q => ?_)
  have key : ∀ r, (M'.st = st ∧ Xt S M'.S ∧ Lv S.length M'.S r t) → (trim S r M').2.st = st ∧ Xt S (trim S r M').2.S ∧ Lv S.length (trim S r M').2.S (trim S r M').1 t := by
    rintro r ⟨h1, h2, h3⟩
    unfold trim
    split
    · exact ⟨h1, h2, h3⟩
    · split
      · rename_i hb
        rw [Bool.and_eq_true] at hb
        exact ⟨h1, Xt.refl S, fun st => Sees.still hb.1 (h3.see st), fun st => Rng.still hb.1 (h3.rng st)⟩
      · exact ⟨h1, h2, h3⟩
  cases o with
  | rt r => exact key r q
  | nx e => exact key .non q
  | bk _ => exact q.elim
  | ct _ => exact q.elim
/-- .. by another one's -/
theorem Live.back {r : Mem → Res D} {t : D} (h : Live r t) {S : List C} {st : Option Strm} : Ok (r ⟨S, st⟩) fun d M' => M'.st = st ∧ Xt S M'.S ∧ Lv S.length M'.S d t := h.ok fun d S' x v => ⟨rfl, x, v⟩
end Ev

set_option autoImplicit false
set_option linter.all false
set_option maxRecDepth 100000
set_option maxHeartbeats 1000000
/-! Ev: lists of places; words. -/
namespace Ev
open PySem H
/-- a list of numbers from 0 on -/
def nl (l : List Nat) : List D := l.map fun (t : Nat) => D.int (t : Int)
theorem nl_lints (l : List Nat) : nl l = lints (l.map fun (t : Nat) => (t : Int)) := by simp [nl, Function.comp_def]
@[simp] theorem nl_len (l : List Nat) : (nl l).length = l.length := by simp [nl]
@[simp] theorem nl_trees (l : List Nat) : D.trees (nl l) = true := by rw [nl_lints]; exact trees_ints _
@[simp] theorem nl_hgts (l : List Nat) : D.hgts (nl l) = 0 := by rw [nl_lints]; exact hgts_ints _
@[simp] theorem nl_costs (l : List Nat) : D.costs (nl l) = 0 := by rw [nl_lints]; exact costs_ints _
@[simp] theorem nl_strss (l : List Nat) : D.strss (nl l) = true := by rw [nl_lints]; exact strss_lints _
@[simp] theorem nl_nil : nl [] = [] := rfl
@[simp] theorem nl_rev (l : List Nat) : (nl l).reverse = nl l.reverse := by simp [nl]
theorem nl_inj {a b : List Nat} : (a.map fun (t : Nat) => (t : Int)) = (b.map fun (t : Nat) => (t : Int)) ↔ a = b := by
  constructor
  · intro h
    exact List.map_inj_right (fun x y e => by omega) |>.mp h
  · rintro rfl; rfl
theorem LvL.nls {lo : Nat} {S : List C} (l : List Nat) (hl : lo ≤ S.length) : LvL lo S (nl l) (nl l) := by rw [nl_lints]; exact .ints _ hl
section
variable {M : Mem}
theorem eqD_nl (a b : List Nat) : eqD M (.lst (nl a)) (.lst (nl b)) = some (decide (a = b)) := by
  rw [nl_lints, nl_lints, eqD_W, beqd]
  simp only [nl_inj]
@[simp] theorem eqD_W' (a b : List Int) : eqD M (W a) (W b) = some (decide (a = b)) := by rw [eqD_W, beqd]
@[simp] theorem eqD_Tp' (a b : List Int) : eqD M (Tp a) (Tp b) = some (decide (a = b)) := by rw [eqD_Tp, beqd]
@[simp] theorem eqD_W00 (a : List Int) : eqD M (W a) (.lst []) = some (decide (a = [])) := eqD_W' a []
/-! slices -/
@[simp] theorem slT_from (l : List Int) (t : Nat) : slcD M (Tp l) (some (t : Int)) none = some (Tp (l.drop t)) := by
  rw [slcT_from l (by omega), Int.toNat_natCast]
@[simp] theorem slT_to (l : List Int) (t : Nat) : slcD M (Tp l) none (some (t : Int)) = some (Tp (l.take t)) := by
  rw [slcT_to l (by omega), Int.toNat_natCast]
@[simp] theorem sl_from (l : List Int) (t : Nat) : slcD M (W l) (some (t : Int)) none = some (W (l.drop t)) := by
  rw [slc_from l (by omega), Int.toNat_natCast]
@[simp] theorem sl_to (l : List Int) (t : Nat) : slcD M (W l) none (some (t : Int)) = some (W (l.take t)) := by
  rw [slc_to l (by omega), Int.toNat_natCast]
theorem idx_Wn (l : List Int) {i : Nat} (h : i < l.length) : idxD M (W l) (.int (i : Int)) = some (.int (l[i]?.getD 0)) := by
  simp only [idxD, seqOf_lst, atD, ixOf, List.length_map]
  rw [if_pos (by omega), if_pos (by omega)]
  simp [h]
theorem idx_Tn (l : List Int) {i : Nat} (h : i < l.length) : idxD M (Tp l) (.int (i : Int)) = some (.int (l[i]?.getD 0)) := by
  simp only [idxD, seqOf_tup, atD, ixOf, List.length_map]
  rw [if_pos (by omega), if_pos (by omega)]
  simp [h]
theorem add_W' (a b : List Int) (h : a.length + b.length ≤ 1000000) : opBin M .add (W a) (W b) = some (W (a ++ b)) := add_W a b (by show _ ≤ 16777216; omega)
theorem add_T' (a b : List Int) (h : a.length + b.length ≤ 1000000) : opBin M .add (Tp a) (Tp b) = some (Tp (a ++ b)) := by
  have hl : a.length + b.length ≤ Lim := by show _ ≤ 16777216; omega
  simp [opBin]; omega
end
section
variable {M : Mem}
theorem cut_toM {α : Type} (l : List α) : cut l none (some (-1)) = l.take (l.length - 1) := by
  simp only [cut, sliceIx]
  rw [if_pos (by decide)]
  simp only [List.drop_zero, Nat.sub_zero]
  congr 1
  omega
theorem cut_fromM {α : Type} (l : List α) : cut l (some (-1)) none = l.drop (l.length - 1) := by
  simp only [cut, sliceIx]
  rw [if_pos (by decide), show ((-1 : Int) + (l.length : Int)).toNat = l.length - 1 by omega]
  apply List.take_of_length_le
  simp
@[simp] theorem slT_toM (l : List Int) : slcD M (Tp l) none (some (-1)) = some (Tp (l.take (l.length - 1))) := by simp [slcD, cut_map, cut_toM]
@[simp] theorem slT_fromM (l : List Int) : slcD M (Tp l) (some (-1)) none = some (Tp (l.drop (l.length - 1))) := by simp [slcD, cut_map, cut_fromM]
@[simp] theorem sl_toM (l : List Int) : slcD M (W l) none (some (-1)) = some (W (l.take (l.length - 1))) := by simp [slcD, cut_map, cut_toM]
@[simp] theorem sl_fromM (l : List Int) : slcD M (W l) (some (-1)) none = some (W (l.drop (l.length - 1))) := by simp [slcD, cut_map, cut_fromM]
theorem idx_WM (l : List Int) (h : l ≠ []) : idxD M (W l) (.int (-1)) = some (.int (l[l.length - 1]?.getD 0)) := by
  have hl := List.length_pos_iff.mpr h
  simp only [idxD, seqOf_lst, atD, ixOf, List.length_map]
  rw [if_neg (by decide), if_pos (by omega), show ((-1 : Int) + (l.length : Int)).toNat = l.length - 1 by omega]
  simp [show l.length - 1 < l.length by omega]
theorem idx_TM (l : List Int) (h : l ≠ []) : idxD M (Tp l) (.int (-1)) = some (.int (l[l.length - 1]?.getD 0)) := by
  have hl := List.length_pos_iff.mpr h
  simp only [idxD, seqOf_tup, atD, ixOf, List.length_map]
  rw [if_neg (by decide), if_pos (by omega), show ((-1 : Int) + (l.length : Int)).toNat = l.length - 1 by omega]
  simp [show l.length - 1 < l.length by omega]
@[simp] theorem idx_sq0 {b : Bool} {x : D} {xs : List D} : idxD M (Sq b (x :: xs)) (.int 0) = some x := by cases b <;> simp [idxD, atD, ixOf]
@[simp] theorem idx_sq1 {b : Bool} {x y : D} {xs : List D} : idxD M (Sq b (x :: y :: xs)) (.int 1) = some y := by
  cases b <;> (simp [idxD, atD, ixOf]; rw [if_pos (by omega)]; rfl)
@[simp] theorem idx_t0 {x : D} {xs : List D} : idxD M (.tup (x :: xs)) (.int 0) = some x := idx_sq0 (b := true)
@[simp] theorem idx_t1 {x y : D} {xs : List D} : idxD M (.tup (x :: y :: xs)) (.int 1) = some y := idx_sq1 (b := true)
@[simp] theorem idx_l0 {x : D} {xs : List D} : idxD M (.lst (x :: xs)) (.int 0) = some x := idx_sq0 (b := false)
@[simp] theorem idx_l1 {x y : D} {xs : List D} : idxD M (.lst (x :: y :: xs)) (.int 1) = some y := idx_sq1 (b := false)
end
@[simp] theorem bools_map {α : Type} (xs : List α) (p : α → Bool) : bools (xs.map fun x => D.bl (p x)) = some (xs.map p) := by
  induction xs with
  | nil => rfl
  | cons x xs ih => simp [bools, ih]
theorem isW (l : List Int) : IsWord (W l) l := .inl rfl
theorem isT (l : List Int) : IsWord (Tp l) l := .inr rfl
@[simp] theorem is_bl {M : Mem} {a c : Bool} : opCmp M .is (.bl a) (.bl c) = some (decide (a = c)) := rfl
@[simp] theorem isnot_bl {M : Mem} {a c : Bool} : opCmp M .isnot (.bl a) (.bl c) = some (!decide (a = c)) := rfl
@[simp] theorem is_tup_non {M : Mem} {xs : List D} : opCmp M .is (.tup xs) .non = some false := rfl
@[simp] theorem isnot_tup_non {M : Mem} {xs : List D} : opCmp M .isnot (.tup xs) .non = some true := rfl
@[simp] theorem is_non_non {M : Mem} : opCmp M .is .non .non = some true := rfl
@[simp] theorem isnot_non_non {M : Mem} : opCmp M .isnot .non .non = some false := rfl
@[simp] theorem revD_tup {M : Mem} {xs : List D} : revD M (.tup xs) = some (.tup xs.reverse) := rfl
@[simp] theorem revD_lst {M : Mem} {xs : List D} : revD M (.lst xs) = some (.lst xs.reverse) := rfl
@[simp] theorem trim_fst {S : List C} {d : D} {M : Mem} : (trim S d M).1 = d := by
  unfold trim
  split
  · rfl
  · split <;> rfl
/-- the law's own call, by its body -/
theorem law_ok {tbl : Nat → Option Ent} {f : Nat} {fn : Fn} {ns : List Int} (t : tbl f = some (.code fn)) (hl : 1 = fn.np) (h : Ok (exs (callN tbl 2000 40) 2000 fn.body ([some (.scr ns)] ++ List.replicate (fn.ns - 1) none) ⟨[], none⟩) (Bk fun d _ => d = .bl true)) : ∃ M', callN tbl 2000 (40 + 1) f [.scr ns] ⟨[], none⟩ = some (.bl true, M') := by
  have : Ok (callN tbl 2000 (40 + 1) f [.scr ns] ⟨[], none⟩) fun d _ => d = .bl true := ok_code t hl (h.mono fun o M' q => by
    cases o with
    | rt r => simpa using q
    | nx e => simp at q
    | bk _ => exact q.elim
    | ct _ => exact q.elim)
  obtain ⟨d, M', e, rfl⟩ := this
  exact ⟨M', e⟩
theorem ok_stream {tbl : Nat → Option Ent} {n k : Nat} {S : List C} {Q : D → Mem → Prop} (h : tbl 11 = some .stream) {ns : List Int} (hl : ns.length ≤ 63) (q : ∀ s, Bud (2 ^ 40) s → Q .strm ⟨S, some s⟩) : Ok (callN tbl n (k + 1) 11 [.scr ns] ⟨S, none⟩) Q := by
  obtain ⟨s, e, hb⟩ := stream_spec (n := n) (k := k) (S := S) h hl
  exact .of e (q s hb)
@[simp] theorem in62_1 : in62 1 = true := by decide
@[simp] theorem in62_0 : in62 0 = true := by decide
theorem in62_s {n : Nat} (h : n < 1000000) : in62 ((n : Int) + 1) = true := in62_nat (n := n + 1) (by omega)
theorem in62_n {n : Nat} (h : n < 1000000) : in62 (n : Int) = true := in62_nat (by omega)
theorem range_1 (n : Nat) : rangeD 1 ((n : Int) + 1) = (List.range' 1 n).map fun (i : Nat) => D.int (i : Int) := range_ft 1 (n + 1)
theorem range_num (n : Nat) : rangeD 0 (n : Int) = (List.range n).map fun (i : Nat) => D.int (i : Int) := range_to n
section
variable {k : CallF} {p : Nat} {env : Env} {M : Mem} {Q : D → Mem → Prop} {QP : List (D × D) → Mem → Prop}
@[simp] theorem ok_dsp {ps : PL} : Ok (ev k (.dsp ps p) env M) Q ↔ Ok (evPs k ps env M) fun kv M' => (keysOk (kv.map (·.1)) = true ∧ kv.length ≤ 15) ∧ Q (.dic (kv.map (·.1)) (kv.map (·.2))) M' := by
  rw [ev]
  cases h : evPs k ps env M with
  | none => simp
  | some q =>
    obtain ⟨kv, M1⟩ := q
    simp only [ok_some]
    by_cases hk : keysOk (kv.map (·.1)) = true
    · by_cases hl : kv.length ≤ 15 <;> simp [hk, hl]
    · simp [hk]
@[simp] theorem ok_ps0 : Ok (evPs k .nil env M) QP ↔ QP [] M := by rw [evPs]; simp
@[simp] theorem ok_ps {a v : E} {ps : PL} : Ok (evPs k (.cons a v ps) env M) QP ↔ Ok (ev k a env M) fun x M1 => Ok (ev k v env M1) fun y M2 => Ok (evPs k ps env M2) fun kv M3 => QP ((x, y) :: kv) M3 := by
  rw [evPs]
  cases h : ev k a env M with
  | none => simp
  | some q =>
    obtain ⟨x, M1⟩ := q
    simp only [ok_some]
    cases h2 : ev k v env M1 with
    | none => simp
    | some q =>
      obtain ⟨y, M2⟩ := q
      simp only [ok_some]
      cases h3 : evPs k ps env M2 with
      | none => simp
      | some q => obtain ⟨kv, M3⟩ := q; simp
@[simp] theorem keys_nil : keysOk [] = true := rfl
@[simp] theorem keys_int {i : Int} : keysOk [.int i] = true := rfl
end
end Ev

set_option autoImplicit false
set_option linter.all false
set_option maxRecDepth 100000
set_option maxHeartbeats 1000000
/-! Ev: what is a word, of any object. -/
namespace Ev
open PySem H
/-- an object as laws hand it -/
def objB : D → Bool
  | .non => true
  | .bl _ => true
  | .int _ => true
  | .str _ => true
  | .tup _ => true
  | .lst _ => true
  | .dic _ _ => true
  | _ => false
def numB : D → Bool
  | .int i => decide (0 ≤ i)
  | _ => false
def f_is_word : Fn := ⟨1, 1, (.cons (.ret (.cmp .isnot (.call 4 (.cons (.loc 0 0) .nil) 1) (.cnon 2) 3) 4) .nil)⟩
@[simp] theorem isi_dic_int {M : Mem} {ks vs : List D} : isiD M (.dic ks vs) (.ty .int) = some false := rfl
@[simp] theorem isi_dic_bool {M : Mem} {ks vs : List D} : isiD M (.dic ks vs) (.ty .bool) = some false := rfl
@[simp] theorem isi_dic_str {M : Mem} {ks vs : List D} : isiD M (.dic ks vs) (.ty .str) = some false := rfl
@[simp] theorem isi_dic_list {M : Mem} {ks vs : List D} : isiD M (.dic ks vs) (.ty .list) = some false := rfl
@[simp] theorem isi_dic_tuple {M : Mem} {ks vs : List D} : isiD M (.dic ks vs) (.ty .tuple) = some false := rfl
@[simp] theorem isi_dic_dict {M : Mem} {ks vs : List D} : isiD M (.dic ks vs) (.ty .dict) = some true := rfl
@[simp] theorem isi_dic_lt {M : Mem} {ks vs : List D} : isiD M (.dic ks vs) (.tup [.ty .list, .ty .tuple]) = some false := rfl
section
variable {tbl : Nat → Option Ent} {n k : Nat} {M : Mem}
def wholeB : D → Bool
  | .int _ => true
  | _ => false
def listB : D → Bool
  | .lst _ => true
  | .tup _ => true
  | _ => false
theorem is_list_any (t : tbl 1 = some (.code f_is_list)) {d : D} (h : objB d = true) : callN tbl n (k + 1) 1 [d] M = some (.bl (listB d), M) := by
  refine call_eq t rfl ?_
  cases d <;> first | (simp [f_is_list, listB]; done) | (simp [objB] at h)
theorem is_whole_any (t : tbl 2 = some (.code f_is_whole)) {d : D} (h : objB d = true) : callN tbl n (k + 1) 2 [d] M = some (.bl (wholeB d), M) := by
  refine call_eq t rfl ?_
  cases d <;> first | (simp [f_is_whole, wholeB]; done) | (simp [objB] at h)
theorem is_number_any (w : Words tbl) {d : D} (h : objB d = true) : callN tbl n (k + 2) 3 [d] M = some (.bl (numB d), M) := by
  refine call_eq w.is_number rfl ?_
  have e := is_whole_any (n := n) (k := k) (M := M) w.is_whole h
  cases d with
  | int i => simp [f_is_number, e, wholeB, numB]
  | non => simp [f_is_number, e, wholeB, numB]
  | bl b => simp [f_is_number, e, wholeB, numB]
  | str b => simp [f_is_number, e, wholeB, numB]
  | lst b => simp [f_is_number, e, wholeB, numB]
  | tup b => simp [f_is_number, e, wholeB, numB]
  | dic b c => simp [f_is_number, e, wholeB, numB]
  | _ => simp [objB] at h
def objsB : List D → Bool := fun xs => xs.all objB
/-- any object as a word -/
def keptB : D → D
  | .lst xs => if xs.all numB then .tup xs else .non
  | .tup xs => if xs.all numB then .tup xs else .non
  | _ => .non
theorem kept_any (w : Words tbl) {d : D} (h : objB d = true) (hx : ∀ xs, (d = .lst xs ∨ d = .tup xs) → xs.length ≤ 1000000 ∧ ∀ x ∈ xs, objB x = true) : callN tbl n (k + 3) 4 [d] M = some (keptB d, M) := by
  refine call_eq w.kept_word rfl ?_
  have key : ∀ (d : D) (xs : List D), (d = .lst xs ∨ d = .tup xs) → xs.length ≤ 1000000 → (∀ x ∈ xs, objB x = true) → Ok (exs (callN tbl n (k + 2)) n f_kept_word.body [some d, none] M) (Bk fun r M' => r = keptB d ∧ M' = M) := by
    intro d xs hd hl ho
    have e1 : ∀ M, walkX M d = some (xs, []) := fun M => by rcases hd with rfl | rfl <;> rfl
    have e2 : ∀ M, seqOf M d = some xs := fun M => by rcases hd with rfl | rfl <;> rfl
    have e3 : objB d = true := by rcases hd with rfl | rfl <;> rfl
    have e4 : listB d = true := by rcases hd with rfl | rfl <;> rfl
    have e5 : keptB d = if xs.all numB then .tup xs else .non := by rcases hd with rfl | rfl <;> rfl
    simp [f_kept_word, is_list_any w.is_list e3, e4, e1]
    rw [show xs = xs.map fun x => x by simp]
    refine ok_lcm xs (fun x => x) (fun x => .bl (numB x)) rfl (fun x hx => by simp [is_number_any w (ho x hx)]) (le_lim hl) ?_
    rw [e5]
    cases hb : xs.all numB with
    | true =>
      have : ¬ ∃ x ∈ xs, numB x = false := by
        rintro ⟨x, h1, h2⟩
        rw [List.all_eq_true] at hb
        rw [hb x h1] at h2; cases h2
      simp [this, e2, hb]
    | false =>
      have : ∃ x ∈ xs, numB x = false := by simpa using hb
      simp [this]
  have e := is_list_any (n := n) (k := k + 1) (M := M) w.is_list h
  cases d with
  | lst xs => exact key _ xs (.inl rfl) (hx xs (.inl rfl)).1 (hx xs (.inl rfl)).2
  | tup xs => exact key _ xs (.inr rfl) (hx xs (.inr rfl)).1 (hx xs (.inr rfl)).2
  | non => simp [f_kept_word, e, listB, keptB]
  | bl v => simp [f_kept_word, e, listB, keptB]
  | int v => simp [f_kept_word, e, listB, keptB]
  | str v => simp [f_kept_word, e, listB, keptB]
  | dic ks vs => simp [f_kept_word, e, listB, keptB]
  | _ => simp [objB] at h
def wordB : D → Bool
  | .lst xs => xs.all numB
  | .tup xs => xs.all numB
  | _ => false
theorem is_word_any (w : Words tbl) (t : tbl 5 = some (.code f_is_word)) {d : D} (h : objB d = true) (hx : ∀ xs, (d = .lst xs ∨ d = .tup xs) → xs.length ≤ 1000000 ∧ ∀ x ∈ xs, objB x = true) : callN tbl n (k + 4) 5 [d] M = some (.bl (wordB d), M) := by
  refine call_eq t rfl ?_
  have e : opCmp M .isnot (keptB d) .non = some (wordB d) := by
    cases d with
    | lst xs => cases hb : xs.all numB <;> simp [keptB, wordB, hb]
    | tup xs => cases hb : xs.all numB <;> simp [keptB, wordB, hb]
    | _ => rfl
  simp [f_is_word, kept_any w h hx, e]
theorem numB_ints (l : List Int) (h : Letters l) : (lints l).all numB = true := by
  simp only [List.all_eq_true, List.mem_map]
  rintro _ ⟨x, hx, rfl⟩
  simpa [numB] using h x hx
theorem objB_ints (l : List Int) : ∀ x ∈ lints l, objB x = true := fun x hx => by
  obtain ⟨i, _, rfl⟩ := List.mem_map.mp hx; rfl
theorem is_word_eq (w : Words tbl) (t : tbl 5 = some (.code f_is_word)) {d : D} {l : List Int} (hd : IsWord d l) (hl : l.length ≤ 1000) (h : Letters l) : callN tbl n (k + 4) 5 [d] M = some (.bl true, M) := by
  have e : wordB d = true := by rcases hd with rfl | rfl <;> exact numB_ints l h
  rw [← e]
  refine is_word_any w t (by rcases hd with rfl | rfl <;> rfl) fun xs hxs => ?_
  have : xs = lints l := by
    rcases hd with rfl | rfl <;> rcases hxs with h | h <;> cases h <;> rfl
  subst this
  exact ⟨by simp; omega, objB_ints l⟩
theorem add_lst {xs ys : List D} (h : xs.length + ys.length ≤ 1000000) : opBin M .add (.lst xs) (.lst ys) = some (.lst (xs ++ ys)) := by
  have hl : xs.length + ys.length ≤ Lim := le_lim h
  simp only [opBin, listOf_lst]
  rw [if_pos hl]
end
theorem loose_num : ∀ {x y : D}, Loose x y → numB y = numB x ∧ objB y = true
  | _, _, .non => ⟨rfl, rfl⟩
  | _, _, .bl b => ⟨rfl, rfl⟩
  | _, _, .int i => ⟨rfl, rfl⟩
  | _, _, .str x => ⟨rfl, rfl⟩
  | _, _, .ll h => ⟨rfl, rfl⟩
  | _, _, .lt h => ⟨rfl, rfl⟩
  | _, _, .tl h => ⟨rfl, rfl⟩
  | _, _, .tt h => ⟨rfl, rfl⟩
theorem looses_num : ∀ {xs ys : List D}, Looses xs ys → ys.all numB = xs.all numB ∧ (∀ y ∈ ys, objB y = true)
  | _, _, .nil => ⟨rfl, by simp⟩
  | _, _, .cons h r => by
    obtain ⟨h1, h2⟩ := loose_num h
    obtain ⟨h3, h4⟩ := looses_num r
    refine ⟨by rw [List.all_cons, List.all_cons, h1, h3], fun y hy => ?_⟩
    rcases List.mem_cons.mp hy with rfl | hy
    · exact h2
    · exact h4 y hy
/-- a loose copy of a list in which something is no letter -/
theorem no_word {tbl : Nat → Option Ent} {n k : Nat} {M : Mem} (w : Words tbl) (t : tbl 5 = some (.code f_is_word)) {xs : List D} {r : D} (h : Loose (.lst xs) r) (hl : xs.length ≤ 1000000) (hx : xs.all numB = false) : callN tbl n (k + 4) 5 [r] M = some (.bl false, M) := by
  obtain ⟨b, ys, rfl, hh⟩ := h.lst
  obtain ⟨h1, h2⟩ := looses_num hh
  have e : wordB (Sq b ys) = false := by cases b <;> (simp only [sq_true, sq_false, wordB]; rw [h1, hx])
  rw [← e]
  refine is_word_any w t (by cases b <;> rfl) fun zs hz => ?_
  have : zs = ys := by cases b <;> rcases hz with h | h <;> cases h <;> rfl
  subst this
  exact ⟨by rw [← hh.len]; exact hl, h2⟩
/-- an object, or a list of such -/
def plainB : D → Bool
  | .lst xs => decide (xs.length ≤ 1000000) && xs.all objB
  | .tup xs => decide (xs.length ≤ 1000000) && xs.all objB
  | d => objB d
theorem plain_obj {d : D} (h : plainB d = true) : objB d = true := by
  cases d <;> first | rfl | (simp [plainB, objB] at h)
theorem plain_items {d : D} (h : plainB d = true) : ∀ xs, (d = .lst xs ∨ d = .tup xs) → xs.length ≤ 1000000 ∧ ∀ x ∈ xs, objB x = true := by
  rintro xs (rfl | rfl) <;> (simp only [plainB, Bool.and_eq_true, decide_eq_true_eq, List.all_eq_true] at h; exact h)
theorem kept_anyB {tbl : Nat → Option Ent} {n k : Nat} {M : Mem} (w : Words tbl) {d : D} (h : plainB d = true) : callN tbl n (k + 3) 4 [d] M = some (keptB d, M) := kept_any w (plain_obj h) (plain_items h)
theorem is_word_anyB {tbl : Nat → Option Ent} {n k : Nat} {M : Mem} (w : Words tbl) (t : tbl 5 = some (.code f_is_word)) {d : D} (h : plainB d = true) : callN tbl n (k + 4) 5 [d] M = some (.bl (wordB d), M) := is_word_any w t (plain_obj h) (plain_items h)
namespace H
def f_is_row : Fn := ⟨2, 2, (.cons (.ret (.bool true (.cons (.call 1 (.cons (.loc 0 0) .nil) 1) (.cons (.cmp .eq (.len (.loc 0 2) 3) (.loc 1 4) 5) .nil)) 6) 7) .nil)⟩
end H
def rowB : D → Nat → Bool
  | .lst xs, m => decide (xs.length = m)
  | .tup xs, m => decide (xs.length = m)
  | _, _ => false
theorem is_row_any {tbl : Nat → Option Ent} {n k : Nat} {M : Mem} (t1 : tbl 1 = some (.code f_is_list)) (t : tbl 59 = some (.code f_is_row)) {d : D} (h : objB d = true) {m : Nat} : callN tbl n (k + 2) 59 [d, .int (m : Int)] M = some (.bl (rowB d m), M) := by
  refine call_eq t rfl ?_
  have e := is_list_any (n := n) (k := k) (M := M) t1 h
  cases d with
  | lst xs =>
    by_cases c : xs.length = m
    · simp [f_is_row, e, listB, rowB, c]
    · simp [f_is_row, e, listB, rowB, c]; omega
  | tup xs =>
    by_cases c : xs.length = m
    · simp [f_is_row, e, listB, rowB, c]
    · simp [f_is_row, e, listB, rowB, c]; omega
  | non => simp [f_is_row, e, listB, rowB]
  | bl v => simp [f_is_row, e, listB, rowB]
  | int v => simp [f_is_row, e, listB, rowB]
  | str v => simp [f_is_row, e, listB, rowB]
  | dic ks vs => simp [f_is_row, e, listB, rowB]
  | _ => simp [objB] at h
theorem add_nilW {M : Mem} (l : List Int) (h : l.length ≤ 1000) : opBin M .add (W l) (.lst []) = some (W l) := by
  have e := add_lst (M := M) (xs := lints l) (ys := []) (by simp; omega)
  rw [List.append_nil] at e; exact e
@[simp] theorem lim_val : Lim = 16777216 := rfl
end Ev

set_option autoImplicit false
set_option linter.all false
set_option maxRecDepth 100000
set_option maxHeartbeats 1000000
/-! Ev: the order of data; sorted, min, max. -/
namespace Ev
open PySem H
section
variable {k : CallF} {n p : Nat} {env : Env} {M : Mem} {Q : D → Mem → Prop} {QL : List D → Mem → Prop} {QO : Out → Mem → Prop}
@[simp] theorem ok_minL {a : E} : Ok (ev k (.minL a p) env M) Q ↔ Ok (ev k a env M) fun d M1 => Get ((seqOf M1 d).bind leastD) fun r => Q r M1 := by
  rw [ev]
  cases ev k a env M with
  | none => simp
  | some q =>
    obtain ⟨d, M1⟩ := q
    cases h : (seqOf M1 d).bind leastD <;> simp [ofD, h]
@[simp] theorem ok_maxL {a : E} : Ok (ev k (.maxL a p) env M) Q ↔ Ok (ev k a env M) fun d M1 => Get ((seqOf M1 d).bind greatD) fun r => Q r M1 := by
  rw [ev]
  cases ev k a env M with
  | none => simp
  | some q =>
    obtain ⟨d, M1⟩ := q
    cases h : (seqOf M1 d).bind greatD <;> simp [ofD, h]
@[simp] theorem ok_srt {a : E} : Ok (evF k (.srt a p) env M) QL ↔ Ok (ev k a env M) fun d M1 => Get ((listOf M1 d).bind sortD) fun xs => QL xs M1 := by
  rw [evF]
  cases ev k a env M with
  | none => simp
  | some q =>
    obtain ⟨d, M1⟩ := q
    simp only [ok_some]
    cases h : (listOf M1 d).bind sortD <;> simp
@[simp] theorem ok_srtS {f : FL} : Ok (evF k (.srtS f p) env M) QL ↔ Ok (evF k f env M) fun xs M1 => Get (setT xs) fun ys => QL ys M1 := by
  rw [evF]
  cases evF k f env M with
  | none => simp
  | some q =>
    obtain ⟨xs, M1⟩ := q
    simp only [ok_some]
    cases setT xs <;> simp
@[simp] theorem ok_srtC {a : E} : Ok (evF k (.srtC a p) env M) QL ↔ Ok (ev k a env M) fun d M1 => Get ((listOf M1 d).bind (sortC M1)) fun xs => QL xs M1 := by
  rw [evF]
  cases ev k a env M with
  | none => simp
  | some q =>
    obtain ⟨d, M1⟩ := q
    simp only [ok_some]
    cases h : (listOf M1 d).bind (sortC M1) <;> simp
@[simp] theorem ok_par3 {i j l : Nat} {a b c : E} : Ok (ex k n (.par3 i j l a b c p) env M) QO ↔ Ok (ev k a env M) fun x M1 => Ok (ev k b env M1) fun y M2 => Ok (ev k c env M2) fun z M3 => (i < env.length ∧ j < env.length ∧ l < env.length) ∧ QO (.nx (((env.set i (some x)).set j (some y)).set l (some z))) M3 := by
  rw [ex]
  cases ev k a env M with
  | none => simp
  | some q =>
    obtain ⟨x, M1⟩ := q
    simp only [ok_some]
    cases ev k b env M1 with
    | none => simp
    | some q =>
      obtain ⟨y, M2⟩ := q
      simp only [ok_some]
      cases ev k c env M2 with
      | none => simp
      | some q =>
        obtain ⟨z, M3⟩ := q
        simp only [ok_some]
        by_cases h : i < env.length ∧ j < env.length ∧ l < env.length
        · simp [h]
        · simp only [if_neg h, ok_none, false_iff]
          exact fun z => h z.1
end
theorem pures_lints (l : List Int) : D.pures (lints l) = true := by
  induction l with
  | nil => rfl
  | cons a l ih => simp [D.pures, D.pure, ih]
theorem pys_lints (l : List Int) : D.pys (lints l) = l.map .int := by
  induction l with
  | nil => rfl
  | cons a l ih => simp [D.pys, D.py, ih]
theorem py_W (l : List Int) : (W l).py = .list (l.map .int) := by simp only [D.py, pys_lints]
theorem py_Tp (l : List Int) : (Tp l).py = .tuple (l.map .int) := by simp only [D.py, pys_lints]
theorem layA_ints (l : List Int) : PyData.canLayAll0 (l.map .int) = true := by
  induction l with
  | nil => simp [PyData.canLayAll0]
  | cons a l ih => simp [PyData.canLayAll0, PyData.canLay0, ih]
theorem dep_ints (l : List Int) : PyData.depthAll (l.map .int) = 0 := PySem.W.depth_ints l
@[simp] theorem okData_W (l : List Int) : okData (W l) = true := by
  unfold okData
  rw [py_W]
  simp [PyData.canLay0, PyData.depth, layA_ints, dep_ints]
@[simp] theorem okData_Tp (l : List Int) : okData (Tp l) = true := by
  unfold okData
  rw [py_Tp]
  simp [PyData.canLay0, PyData.depth, layA_ints, dep_ints]
@[simp] theorem okData_int (i : Int) : okData (.int i) = true := by simp [okData, D.py, PyData.canLay0, PyData.depth]
@[simp] theorem alike_W (a b : List Int) : alikeB (W a) (W b) = true := by
  unfold alikeB
  rw [py_W, py_W, PySem.W.alike]
  exact PySem.W.alike_ints a b
@[simp] theorem alike_Tp (a b : List Int) : alikeB (Tp a) (Tp b) = true := by
  unfold alikeB
  rw [py_Tp, py_Tp, PySem.W.alike]
  exact PySem.W.alike_ints a b
@[simp] theorem alike_int (a b : Int) : alikeB (.int a) (.int b) = true := by simp [alikeB, D.py, PySem.W.alike]
theorem dLt_W (a b : List Int) : dLt (W a) (W b) = decide (a < b) := by
  unfold dLt
  rw [py_W, py_W, PySem.W.dataLt_list]
  exact PySem.W.dataLt_ints a b
theorem dLt_Tp (a b : List Int) : dLt (Tp a) (Tp b) = decide (a < b) := by
  unfold dLt
  rw [py_Tp, py_Tp, PySem.W.dataLt_tuple]
  exact PySem.W.dataLt_ints a b
theorem dLt_int (a b : Int) : dLt (.int a) (.int b) = decide (a < b) := by
  unfold dLt
  exact PySem.W.dataLt_int a b
theorem ord_W {M : Mem} {f : D → D → Bool} (a b : List Int) : ordD M f (W a) (W b) = some (f (W a) (W b)) := by
  have h : ∀ l : List Int, view M (W l) = some (W l) := fun l => by simp [view, D.pure, pures_lints]
  simp [ordD, h, D.notNon]
theorem ord_Tp {M : Mem} {f : D → D → Bool} (a b : List Int) : ordD M f (Tp a) (Tp b) = some (f (Tp a) (Tp b)) := by
  have h : ∀ l : List Int, view M (Tp l) = some (Tp l) := fun l => by simp [view, D.pure, pures_lints]
  simp [ordD, h, D.notNon]
section
variable {M : Mem} (a b : List Int)
@[simp] theorem cmp_ltW : opCmp M .lt (W a) (W b) = some (decide (a < b)) := (ord_W a b).trans (by rw [dLt_W])
@[simp] theorem cmp_leW : opCmp M .le (W a) (W b) = some (!decide (b < a)) := (ord_W a b).trans (by rw [dLt_W])
@[simp] theorem cmp_gtW : opCmp M .gt (W a) (W b) = some (decide (b < a)) := (ord_W a b).trans (by rw [dLt_W])
@[simp] theorem cmp_geW : opCmp M .ge (W a) (W b) = some (!decide (a < b)) := (ord_W a b).trans (by rw [dLt_W])
@[simp] theorem cmp_ltT : opCmp M .lt (Tp a) (Tp b) = some (decide (a < b)) := (ord_Tp a b).trans (by rw [dLt_Tp])
@[simp] theorem cmp_leT : opCmp M .le (Tp a) (Tp b) = some (!decide (b < a)) := (ord_Tp a b).trans (by rw [dLt_Tp])
@[simp] theorem cmp_gtT : opCmp M .gt (Tp a) (Tp b) = some (decide (b < a)) := (ord_Tp a b).trans (by rw [dLt_Tp])
@[simp] theorem cmp_geT : opCmp M .ge (Tp a) (Tp b) = some (!decide (a < b)) := (ord_Tp a b).trans (by rw [dLt_Tp])
end
/-- words, ascending -/
def sortW (ls : List (List Int)) : List (List Int) := ls.mergeSort fun a b => !decide (b < a)
def sortI (ls : List Int) : List Int := ls.mergeSort fun a b => !decide (b < a)
theorem sortD_W (ls : List (List Int)) (h : ls.length ≤ 1000000) : sortD (ls.map fun l => W l) = some ((sortW ls).map fun l => W l) := by
  unfold sortD
  have h1 : (ls.map fun l => W l).all okData = true := by simp [-List.map_map]
  have h2 : alikes (ls.map fun l => W l) = true := by simp [alikes]
  have h3 : (ls.map fun l => W l).all D.noTup = true := by simp [D.noTup]
  have h4 : (ls.map fun l => W l).length ≤ Lim := by rw [List.length_map]; exact le_lim h
  rw [h1, h2, h3, if_pos (by simp [h4]; simpa using h4)]
  congr 1
  exact (List.map_mergeSort fun a _ b _ => by unfold dLe; rw [dLt_W]).symm
theorem sortD_T (ls : List (List Int)) (h : ls.length ≤ 1000000) (hne : ∀ l ∈ ls, l ≠ []) : sortD (ls.map fun l => Tp l) = some ((sortW ls).map fun l => Tp l) := by
  unfold sortD
  have h1 : (ls.map fun l => Tp l).all okData = true := by simp [-List.map_map]
  have h2 : alikes (ls.map fun l => Tp l) = true := by simp [alikes]
  have h3 : (ls.map fun l => Tp l).all D.tupNe = true := by
    rw [List.all_eq_true]
    intro x hx
    obtain ⟨l, hl, rfl⟩ := List.mem_map.mp hx
    cases l with
    | nil => exact absurd rfl (hne _ hl)
    | cons a l => rfl
  have h4 : (ls.map fun l => Tp l).length ≤ Lim := by rw [List.length_map]; exact le_lim h
  rw [h1, h2, h3, if_pos (by simp [h4]; simpa using h4)]
  congr 1
  exact (List.map_mergeSort fun a _ b _ => by unfold dLe; rw [dLt_Tp]).symm
theorem sortD_I (ls : List Int) (h : ls.length ≤ 1000000) : sortD (lints ls) = some (lints (sortI ls)) := by
  unfold sortD
  have h1 : (lints ls).all okData = true := by simp
  have h2 : alikes (lints ls) = true := by simp [alikes]
  have h3 : (lints ls).all D.noTup = true := by simp [D.noTup]
  have h4 : (lints ls).length ≤ Lim := by rw [List.length_map]; exact le_lim h
  rw [h1, h2, h3, if_pos (by simp [h4]; simpa using h4)]
  congr 1
  exact (List.map_mergeSort fun a _ b _ => by unfold dLe; rw [dLt_int]).symm
/-- the least, the first of several -/
def minW (x : List Int) (ls : List (List Int)) : List Int := ls.foldl (fun a y => if y < a then y else a) x
theorem fold_map {α β : Type} (g : α → β) (f : β → β → Bool) (f' : α → α → Bool) (h : ∀ a b, f (g a) (g b) = f' a b) : ∀ (ls : List α) (x : α), (ls.map g).foldl (fun a y => if f y a = true then y else a) (g x) = g (ls.foldl (fun a y => if f' y a = true then y else a) x)
  | [], x => rfl
  | y :: ls, x => by
    simp only [List.map_cons, List.foldl_cons]
    rw [h]
    by_cases c : f' y x = true
    · rw [if_pos c, if_pos c]; exact fold_map g f f' h ls y
    · rw [if_neg c, if_neg c]; exact fold_map g f f' h ls x
theorem leastD_W (x : List Int) (ls : List (List Int)) : leastD ((x :: ls).map fun l => W l) = some (W (minW x ls)) := by
  rw [List.map_cons]
  simp only [leastD]
  rw [if_pos (by simp [alikes, D.notNon])]
  congr 1
  rw [fold_map (fun l : List Int => W l) dLt (fun a b => decide (a < b)) dLt_W]
  simp [minW]
theorem leastD_T (x : List Int) (ls : List (List Int)) : leastD ((x :: ls).map fun l => Tp l) = some (Tp (minW x ls)) := by
  rw [List.map_cons]
  simp only [leastD]
  rw [if_pos (by simp [alikes, D.notNon])]
  congr 1
  rw [fold_map (fun l : List Int => Tp l) dLt (fun a b => decide (a < b)) dLt_Tp]
  simp [minW]
theorem foldI_min (ls : List Int) : ∀ x : Int, ls.foldl (fun a y => if decide (y < a) = true then y else a) x = ls.foldl min x := by
  induction ls with
  | nil => intro x; rfl
  | cons y ls ih =>
    intro x
    rw [List.foldl_cons, List.foldl_cons, ih]
    congr 1
    simp only [decide_eq_true_eq]
    omega
theorem foldI_max (ls : List Int) : ∀ x : Int, ls.foldl (fun a y => if decide (a < y) = true then y else a) x = ls.foldl max x := by
  induction ls with
  | nil => intro x; rfl
  | cons y ls ih =>
    intro x
    rw [List.foldl_cons, List.foldl_cons, ih]
    congr 1
    simp only [decide_eq_true_eq]
    omega
theorem leastD_I (x : Int) (ls : List Int) : leastD (lints (x :: ls)) = some (.int (ls.foldl min x)) := by
  rw [show lints (x :: ls) = .int x :: lints ls from rfl]
  simp only [leastD]
  rw [if_pos (by simp [alikes, D.notNon])]
  congr 1
  rw [fold_map D.int dLt (fun a b => decide (a < b)) dLt_int, foldI_min]
theorem greatD_I (x : Int) (ls : List Int) : greatD (lints (x :: ls)) = some (.int (ls.foldl max x)) := by
  rw [show lints (x :: ls) = .int x :: lints ls from rfl]
  simp only [greatD]
  rw [if_pos (by simp [alikes, D.notNon])]
  congr 1
  rw [fold_map D.int (fun y a => dLt a y) (fun y a => decide (a < y)) (fun a b => dLt_int b a), foldI_max]
end Ev

set_option autoImplicit false
set_option linter.all false
set_option maxRecDepth 100000
set_option maxHeartbeats 1000000
/-! Ev: == of any trees, of live lists of trees. -/
namespace Ev
open PySem H
mutual
theorem tree_pure : ∀ (d : D), d.tree = true → d.pure = true
  | .non, _ => rfl
  | .bl _, _ => rfl
  | .int _, _ => rfl
  | .str _, _ => rfl
  | .tup xs, h => by
    simp only [tree_tup, Bool.and_eq_true] at h
    simpa [D.pure] using trees_pures xs h.2
  | .lst xs, h => by
    simp only [tree_lst, Bool.and_eq_true] at h
    simpa [D.pure] using trees_pures xs h.2
  | .ty _, h => by simp [D.tree] at h
  | .dic _ _, h => by simp [D.tree] at h
  | .cell _, h => by simp [D.tree] at h
  | .strm, h => by simp [D.tree] at h
  | .scr _, h => by simp [D.tree] at h
  | .rng _ _, h => by simp [D.tree] at h
theorem trees_pures : ∀ (xs : List D), D.trees xs = true → D.pures xs = true
  | [], _ => rfl
  | x :: xs, h => by
    simp only [trees_cons, Bool.and_eq_true] at h
    simp [D.pures, tree_pure x h.1, trees_pures xs h.2]
end
mutual
theorem tree_lay : ∀ (d : D), d.tree = true → d.strs = true → PyData.canLay0 d.py = true ∧ d.py.depth ≤ d.hgt
  | .non, _, _ => by simp [D.py, PyData.canLay0, PyData.depth]
  | .bl _, _, _ => by simp [D.py, PyData.canLay0, PyData.depth]
  | .int _, _, _ => by simp [D.py, PyData.canLay0, PyData.depth]
  | .str _, _, g => ⟨g, by simp [D.py, PyData.depth]⟩
  | .tup xs, h, g => by
    simp only [tree_tup, Bool.and_eq_true] at h
    obtain ⟨a, b⟩ := trees_lay xs h.2 (by simpa using g)
    rw [hgt_tup']
    simp only [D.py, PyData.canLay0, PyData.depth]
    exact ⟨a, by omega⟩
  | .lst xs, h, g => by
    simp only [tree_lst, Bool.and_eq_true] at h
    obtain ⟨a, b⟩ := trees_lay xs h.2 (by simpa using g)
    rw [hgt_lst']
    simp only [D.py, PyData.canLay0, PyData.depth]
    exact ⟨a, by omega⟩
  | .ty _, h, _ => by simp [D.tree] at h
  | .dic _ _, h, _ => by simp [D.tree] at h
  | .cell _, h, _ => by simp [D.tree] at h
  | .strm, h, _ => by simp [D.tree] at h
  | .scr _, h, _ => by simp [D.tree] at h
  | .rng _ _, h, _ => by simp [D.tree] at h
theorem trees_lay : ∀ (xs : List D), D.trees xs = true → D.strss xs = true → PyData.canLayAll0 (D.pys xs) = true ∧ PyData.depthAll (D.pys xs) ≤ D.hgts xs
  | [], _, _ => by simp [D.pys, PyData.canLayAll0, PyData.depthAll]
  | x :: xs, h, g => by
    simp only [trees_cons, strss_cons, Bool.and_eq_true] at h g
    obtain ⟨a, b⟩ := tree_lay x h.1 g.1
    obtain ⟨c, d⟩ := trees_lay xs h.2 g.2
    simp only [D.pys, PyData.canLayAll0, PyData.depthAll, Bool.and_eq_true, hgts_cons']
    exact ⟨⟨a, c⟩, by omega⟩
end
section
variable {M : Mem}
theorem eqD_tree {a b : D} (ha : a.tree = true) (sa : a.strs = true) (ga : a.hgt ≤ 60) (hb : b.tree = true) (sb : b.strs = true) (gb : b.hgt ≤ 60) : eqD M a b = some (PyData.eqv a.py b.py) := by
  obtain ⟨a1, a2⟩ := tree_lay a ha sa
  obtain ⟨b1, b2⟩ := tree_lay b hb sb
  have va : view M a = some a := by simp [view, tree_pure a ha]
  have vb : view M b = some b := by simp [view, tree_pure b hb]
  have s1 : SeqAt.shaped a.py = true := by simp only [SeqAt.shaped, Bool.and_eq_true, decide_eq_true_eq]; exact ⟨a1, by omega⟩
  have s2 : SeqAt.shaped b.py = true := by simp only [SeqAt.shaped, Bool.and_eq_true, decide_eq_true_eq]; exact ⟨b1, by omega⟩
  simp only [eqD, va, vb, s1, s2, Bool.and_self, if_true]
theorem deref_treeN : ∀ (m : Nat) (d : D), d.tree = true → d.hgt < m → deref M m d = some d := by
  intro m
  induction m with
  | zero => intro d _ h; omega
  | succ m ih =>
    have lists : ∀ xs : List D, D.trees xs = true → D.hgts xs < m → derefs M m xs = some xs := by
      intro xs
      induction xs with
      | nil => intro _ _; rw [derefs]
      | cons x xs ih2 =>
        intro h g
        simp only [trees_cons, Bool.and_eq_true] at h
        simp only [hgts_cons'] at g
        rw [derefs, ih x h.1 (by omega), ih2 h.2 (by omega)]
    have lists0 : ∀ xs : List D, D.trees xs = true → D.hgts xs + 1 < m + 1 → derefs M m xs = some xs := fun xs h g => lists xs h (by omega)
    intro d h g
    cases d with
    | non => rw [deref]
    | bl b => rw [deref]
    | int b => rw [deref]
    | str b => rw [deref]
    | tup xs =>
      simp only [tree_tup, Bool.and_eq_true] at h
      rw [hgt_tup'] at g
      rw [deref, lists0 xs h.2 g]; rfl
    | lst xs =>
      simp only [tree_lst, Bool.and_eq_true] at h
      rw [hgt_lst'] at g
      rw [deref, lists0 xs h.2 g]; rfl
    | _ => simp [D.tree] at h
/-- a live list of trees is seen as it stands -/
theorem view_cell {c : Nat} {xs : List D} (hc : M.S[c]? = some (.lst xs)) (ht : D.trees xs = true) (hh : D.hgts xs ≤ 60) : view M (.cell c) = some (.lst xs) := by
  have hm : ∀ (m : Nat) (xs : List D), D.trees xs = true → D.hgts xs < m → derefs M m xs = some xs := fun m xs => by
    induction xs with
    | nil => intro _ _; rw [derefs]
    | cons x xs ih2 =>
      intro h g
      simp only [trees_cons, Bool.and_eq_true] at h
      simp only [hgts_cons'] at g
      rw [derefs, deref_treeN m x h.1 (by omega), ih2 h.2 (by omega)]
  have hp : (D.cell c).pure = false := rfl
  simp only [view, hp, Bool.false_eq_true, if_false]
  rw [deref, hc]
  simp only
  rw [hm 63 xs ht (by omega)]
  rfl
theorem eqD_cell {c : Nat} {xs : List D} (hc : M.S[c]? = some (.lst xs)) (ht : D.trees xs = true) (hh : D.hgts xs ≤ 60) (y : D) : eqD M (.cell c) y = eqD M (.lst xs) y := by
  have e : view M (.lst xs) = some (.lst xs) := by simp [view, D.pure, trees_pures xs ht]
  simp only [eqD, view_cell hc ht hh, e]
end
/-! what == says, by the kinds -/
@[simp] theorem eqv_W (a b : List Int) : PyData.eqv (W a).py (W b).py = decide (a = b) := by
  rw [py_W, py_W, PyData.eqv, eqvAll_ints, beqd]
@[simp] theorem eqv_Tp (a b : List Int) : PyData.eqv (Tp a).py (Tp b).py = decide (a = b) := by
  rw [py_Tp, py_Tp, PyData.eqv, eqvAll_ints, beqd]
theorem eqv_tup (a b : List D) : PyData.eqv (D.tup a).py (D.tup b).py = PyData.eqvAll (D.pys a) (D.pys b) := by simp [D.py, PyData.eqv]
theorem eqv_lst (a b : List D) : PyData.eqv (D.lst a).py (D.lst b).py = PyData.eqvAll (D.pys a) (D.pys b) := by simp [D.py, PyData.eqv]
theorem eqvAll_cons (a b : D) (as bs : List D) : PyData.eqvAll (D.pys (a :: as)) (D.pys (b :: bs)) = (PyData.eqv a.py b.py && PyData.eqvAll (D.pys as) (D.pys bs)) := by simp [D.pys, PyData.eqvAll]
theorem eqvAll_map {α : Type} (g : α → D) (h : ∀ x y, PyData.eqv (g x).py (g y).py = true ↔ x = y) : ∀ a b : List α, PyData.eqvAll (D.pys (a.map g)) (D.pys (b.map g)) = true ↔ a = b
  | [], [] => by simp [D.pys, PyData.eqvAll]
  | [], _ :: _ => by simp [D.pys, PyData.eqvAll]
  | _ :: _, [] => by simp [D.pys, PyData.eqvAll]
  | x :: a, y :: b => by
    rw [List.map_cons, List.map_cons, eqvAll_cons, Bool.and_eq_true, h, eqvAll_map g h a b]
    simp
theorem trees_W (ls : List (List Int)) (h : ∀ l ∈ ls, l.length ≤ 1000000) : D.trees (ls.map fun l => W l) = true := by
  induction ls with
  | nil => rfl
  | cons l ls ih =>
    have := h l (by simp)
    rw [List.map_cons, trees_cons, ih fun x hx => h x (by simp [hx])]
    simp
    omega
theorem trees_Tp (ls : List (List Int)) (h : ∀ l ∈ ls, l.length ≤ 1000000) : D.trees (ls.map fun l => Tp l) = true := by
  induction ls with
  | nil => rfl
  | cons l ls ih =>
    have := h l (by simp)
    rw [List.map_cons, trees_cons, ih fun x hx => h x (by simp [hx])]
    simp
    omega
theorem hgts_W (ls : List (List Int)) : D.hgts (ls.map fun l => W l) ≤ 1 := by
  induction ls with
  | nil => simp
  | cons l ls ih => rw [List.map_cons, hgts_cons']; simp; omega
theorem hgts_Tp (ls : List (List Int)) : D.hgts (ls.map fun l => Tp l) ≤ 1 := by
  induction ls with
  | nil => simp
  | cons l ls ih => rw [List.map_cons, hgts_cons']; simp; omega
theorem strss_W (ls : List (List Int)) : D.strss (ls.map fun l => W l) = true := by
  induction ls with
  | nil => rfl
  | cons l ls ih => rw [List.map_cons, strss_cons, ih]; simp
theorem strss_Tp (ls : List (List Int)) : D.strss (ls.map fun l => Tp l) = true := by
  induction ls with
  | nil => rfl
  | cons l ls ih => rw [List.map_cons, strss_cons, ih]; simp
theorem costs_W (ls : List (List Int)) : D.costs (ls.map fun l => W l) = ls.length := by
  induction ls with
  | nil => rfl
  | cons l ls ih => rw [List.map_cons, costs_cons', ih]; simp; omega
/-- lists of words -/
theorem eqD_Ws {M : Mem} (a b : List (List Int)) (ha : ∀ l ∈ a, l.length ≤ 1000000) (hb : ∀ l ∈ b, l.length ≤ 1000000) (la : a.length ≤ 1000000) (lb : b.length ≤ 1000000) : eqD M (.lst (a.map fun l => W l)) (.lst (b.map fun l => W l)) = some (decide (a = b)) := by
  have h1 := hgts_W a
  have h2 := hgts_W b
  rw [eqD_tree (by rw [tree_lst, trees_W a ha]; simp; omega) (by rw [strs_lst, strss_W]) (by rw [hgt_lst']; omega) (by rw [tree_lst, trees_W b hb]; simp; omega) (by rw [strs_lst, strss_W]) (by rw [hgt_lst']; omega), eqv_lst]
  congr 1
  rw [Bool.eq_iff_iff, eqvAll_map (fun l : List Int => W l) (fun x y => by rw [eqv_W]; simp) a b]
  simp
end Ev

set_option autoImplicit false
set_option linter.all false
set_option maxRecDepth 100000
set_option maxHeartbeats 1000000
/-! Ev: lists of new things; the greatest of numbers. -/
namespace Ev
open PySem H
/-- a test that does not hold and leaves all as it was -/
theorem ok_if_no {kk : CallF} {nn pp : Nat} {env : Env} {M : Mem} {QO : Out → Mem → Prop} {c : E} {a b : SL} (h : Ok (tru (ev kk c env M)) fun t M1 => t = false ∧ M1 = M) (q : Ok (exs kk nn b env M) QO) : Ok (ex kk nn (.iff c a b pp) env M) QO := by
  rw [ok_iff_]
  exact h.mono fun t M1 z => by
    obtain ⟨rfl, rfl⟩ := z
    simpa using q
/-- only what is handed back is looked at -/
def Rt (Q : Out → Mem → Prop) : Out → Mem → Prop
  | .rt d, M => Q (.rt d) M
  | _, _ => False
@[simp] theorem rt_rt {Q : Out → Mem → Prop} {d : D} {M : Mem} : Rt Q (.rt d) M = Q (.rt d) M := rfl
/-- a test that holds, and hands back -/
theorem ok_if_ret {kk : CallF} {nn pp : Nat} {env : Env} {M : Mem} {QO : Out → Mem → Prop} {F : Env → Mem → Prop} {c : E} {a b : SL} (h : Ok (tru (ev kk c env M)) fun t M1 => t = true ∧ M1 = M) (q : Ok (exs kk nn a env M) (Rt QO)) : Ok (ex kk nn (.iff c a b pp) env M) (OutP QO F) := by
  rw [ok_iff_]
  exact h.mono fun t M1 z => by
    obtain ⟨rfl, rfl⟩ := z
    simp only [if_true]
    exact q.mono fun o M' z => by cases o <;> first | exact z | exact z.elim
/-- a test that holds -/
theorem ok_if_yes {kk : CallF} {nn pp : Nat} {env : Env} {M : Mem} {QO : Out → Mem → Prop} {c : E} {a b : SL} (h : Ok (tru (ev kk c env M)) fun t M1 => t = true ∧ M1 = M) (q : Ok (exs kk nn a env M) QO) : Ok (ex kk nn (.iff c a b pp) env M) QO := by
  rw [ok_iff_]
  exact h.mono fun t M1 z => by
    obtain ⟨rfl, rfl⟩ := z
    simpa using q
/-- a list of new things, each by a turn -/
theorem ok_lcL {α : Type} {turn : D → Mem → Res (Option D)} (xs : List α) (g t : α → D) (h : ∀ x ∈ xs, ∀ S st, Ok (turn (g x) ⟨S, st⟩) fun o M' => ∃ d, o = some d ∧ M'.st = st ∧ Xt S M'.S ∧ Lv S.length M'.S d (t x)) (hl : xs.length ≤ 1000000) {S : List C} {st : Option Strm} {Q : List D → Mem → Prop} (q : ∀ ds S', Xt S S' → LvL S.length S' ds (xs.map t) → Q ds ⟨S', st⟩) : Ok (lcLoop [] turn (xs.map g) [] ⟨S, st⟩) Q := by
  have key : ∀ (ys : List α) (acc : List D) (S : List C), (∀ x ∈ ys, ∀ S st, Ok (turn (g x) ⟨S, st⟩) fun o M' => ∃ d, o = some d ∧ M'.st = st ∧ Xt S M'.S ∧ Lv S.length M'.S d (t x)) → acc.length + ys.length ≤ 1000000 → ∃ ds S', lcLoop [] turn (ys.map g) acc ⟨S, st⟩ = some (acc ++ ds, ⟨S', st⟩) ∧ Xt S S' ∧ LvL S.length S' ds (ys.map t) := by
    intro ys
    induction ys with
    | nil =>
      intro acc S _ _
      exact ⟨[], S, by simp [lcLoop], Xt.refl S, .nil (Nat.le_refl _)⟩
    | cons y ys ih =>
      intro acc S h hl
      obtain ⟨o, ⟨S1, st1⟩, e, d, rfl, e2, x1, v1⟩ := h y (by simp) S st
      have e2 : st1 = st := e2
      subst e2
      simp only [List.length_cons] at hl
      obtain ⟨ds, S2, e3, x2, v2⟩ := ih (acc ++ [d]) S1 (fun x hx => h x (by simp [hx])) (by simp; omega)
      refine ⟨d :: ds, S2, ?_, x1.trans x2, LvL.cons v1 x2 v2⟩
      rw [List.map_cons, lcLoop, if_pos (show gok [] _ = true from rfl), e]
      simp only
      have hlim : acc.length < Lim := lt_lim (by omega)
      rw [if_pos hlim, e3, List.append_assoc]; rfl
  obtain ⟨ds, S', e, x, v⟩ := key xs [] S h (by simpa using hl)
  exact .of (by simpa using e) (q ds S' x v)
/-- a comprehension by what holds of what is left and of what came -/
theorem ok_lcI {α : Type} {gr : Grd} {turn : D → Mem → Res (Option D)} {Q : List D → Mem → Prop} (g : α → D) (I : List α → List D → Mem → Prop) (hg : ∀ xs acc M, I xs acc M → gok gr M = true)
    (step : ∀ x xs acc M, I (x :: xs) acc M → Ok (turn (g x) M) fun o M' => match o with
      | some y => acc.length < Lim ∧ I xs (acc ++ [y]) M'
      | none => I xs acc M')
    (fin : ∀ acc M, I [] acc M → Q acc M) : ∀ (xs : List α) (acc : List D) (M : Mem), I xs acc M → Ok (lcLoop gr turn (xs.map g) acc M) Q
  | [], acc, M, h => by
    rw [List.map_nil, lcLoop, if_pos (hg _ _ _ h)]
    simpa using fin acc M h
  | x :: xs, acc, M, h => by
    rw [List.map_cons, lcLoop, if_pos (hg _ _ _ h)]
    obtain ⟨o, M', e, q⟩ := step x xs acc M h
    rw [e]
    cases o with
    | none => exact ok_lcI g I hg step fin xs acc M' q
    | some y =>
      simp only
      rw [if_pos q.1]
      exact ok_lcI g I hg step fin xs (acc ++ [y]) M' q.2
theorem foldl_max_eq : ∀ (xs : List Int) (x g : Int), g ∈ x :: xs → (∀ y ∈ x :: xs, y ≤ g) → xs.foldl max x = g
  | [], x, g, h, _ => by simp at h; simp [h]
  | y :: xs, x, g, h, hu => by
    rw [List.foldl_cons]
    have hx := hu x (by simp)
    have hy := hu y (by simp)
    refine foldl_max_eq xs (max x y) g ?_ fun z hz => ?_
    · rcases List.mem_cons.mp h with h | h
      · subst h; rw [Int.max_eq_left hy]; simp
      · rcases List.mem_cons.mp h with h | h
        · subst h; rw [Int.max_eq_right hx]; simp
        · simp [h]
    · rcases List.mem_cons.mp hz with h | h
      · subst h; omega
      · exact hu z (by simp [h])
theorem foldl_min_eq : ∀ (xs : List Int) (x g : Int), g ∈ x :: xs → (∀ y ∈ x :: xs, g ≤ y) → xs.foldl min x = g
  | [], x, g, h, _ => by simp at h; simp [h]
  | y :: xs, x, g, h, hu => by
    rw [List.foldl_cons]
    have hx := hu x (by simp)
    have hy := hu y (by simp)
    refine foldl_min_eq xs (min x y) g ?_ fun z hz => ?_
    · rcases List.mem_cons.mp h with h | h
      · subst h; rw [Int.min_eq_left hy]; simp
      · rcases List.mem_cons.mp h with h | h
        · subst h; rw [Int.min_eq_right hx]; simp
        · simp [h]
    · rcases List.mem_cons.mp hz with h | h
      · subst h; omega
      · exact hu z (by simp [h])
theorem greatD_nat {fs : List Nat} {g : Nat} (h : g ∈ fs) (hu : ∀ m ∈ fs, m ≤ g) : greatD (fs.map fun (i : Nat) => D.int (i : Int)) = some (.int (g : Int)) := by
  cases fs with
  | nil => cases h
  | cons x xs =>
    have e : ((x :: xs).map fun (i : Nat) => D.int (i : Int)) = lints ((x : Int) :: xs.map fun (i : Nat) => (i : Int)) := by simp [Function.comp_def]
    rw [e, greatD_I, foldl_max_eq _ _ (g : Int)]
    · rcases List.mem_cons.mp h with h | h
      · subst h; simp
      · exact List.mem_cons.mpr (.inr (List.mem_map.mpr ⟨g, h, rfl⟩))
    · intro y hy
      rcases List.mem_cons.mp hy with h | h
      · subst h; have := hu x (by simp); omega
      · obtain ⟨m, hm, rfl⟩ := List.mem_map.mp h
        have := hu m (by simp [hm]); omega
theorem leastD_nat {fs : List Nat} {g : Nat} (h : g ∈ fs) (hu : ∀ m ∈ fs, g ≤ m) : leastD (fs.map fun (i : Nat) => D.int (i : Int)) = some (.int (g : Int)) := by
  cases fs with
  | nil => cases h
  | cons x xs =>
    have e : ((x :: xs).map fun (i : Nat) => D.int (i : Int)) = lints ((x : Int) :: xs.map fun (i : Nat) => (i : Int)) := by simp [Function.comp_def]
    rw [e, leastD_I, foldl_min_eq _ _ (g : Int)]
    · rcases List.mem_cons.mp h with h | h
      · subst h; simp
      · exact List.mem_cons.mpr (.inr (List.mem_map.mpr ⟨g, h, rfl⟩))
    · intro y hy
      rcases List.mem_cons.mp hy with h | h
      · subst h; have := hu x (by simp); omega
      · obtain ⟨m, hm, rfl⟩ := List.mem_map.mp h
        have := hu m (by simp [hm]); omega
end Ev

set_option autoImplicit false
set_option linter.all false
set_option maxRecDepth 100000
set_option maxHeartbeats 1000000
/-! Ev: copies of live things. -/
namespace Ev
open PySem H
theorem SeesL.pairs {M : Mem} : ∀ {xs ts : List D}, SeesL M xs ts → ∃ ps : List (D × D), xs = ps.map Prod.fst ∧ ts = ps.map Prod.snd ∧ ∀ p ∈ ps, Sees M p.1 p.2
  | _, _, .nil => ⟨[], rfl, rfl, fun _ h => by cases h⟩
  | _, _, .cons h r => by
    obtain ⟨ps, rfl, rfl, hp⟩ := r.pairs
    exact ⟨(_, _) :: ps, rfl, rfl, fun p hm => by
      rcases List.mem_cons.mp hm with h' | h'
      · subst h'; exact h
      · exact hp p h'⟩
section
variable {tbl : Nat → Option Ent} {n k : Nat} {M : Mem}
theorem hgts_mem : ∀ {ps : List (D × D)} {p : D × D}, p ∈ ps → p.2.hgt ≤ D.hgts (ps.map Prod.snd)
  | q :: ps, p, h => by
    rw [List.map_cons, hgts_cons']
    rcases List.mem_cons.mp h with h | h
    · subst h; omega
    · have := hgts_mem h; omega
/-- a copy of what is seen as a tree is the tree -/
theorem copied_sees (t0 : tbl 16 = some (.code f_law_copied)) : ∀ (k : Nat) {d t : D}, Sees M d t → t.hgt ≤ k → callN tbl n (k + 1) 16 [d] M = some (t, M) := by
  intro k
  induction k with
  | zero =>
    intro d t h hh
    cases h with
    | non => exact call_eq t0 rfl (by simp [f_law_copied, isiD, isiOne, tyOf, isTy, tysOf])
    | bl b => exact call_eq t0 rfl (by simp [f_law_copied, isiD, isiOne, tyOf, isTy, tysOf])
    | int b => exact call_eq t0 rfl (by simp [f_law_copied, isiD, isiOne, tyOf, isTy, tysOf])
    | str b _ => exact call_eq t0 rfl (by simp [f_law_copied, isiD, isiOne, tyOf, isTy, tysOf])
    | tup r h => simp at hh
    | lst r h => simp at hh
    | cell e r h => simp at hh
  | succ k ih =>
    intro d t h hh
    have lists : ∀ {xs ts : List D} {Q : List D → Mem → Prop} {g : Grd} (env : Env), env.length = 4 → SeesL M xs ts → D.hgts ts ≤ k → ts.length ≤ Lim → gok g M = true → Q ts M → Ok (lcLoop g (turnE (callN tbl n (k + 1)) (.name 3 13) .nil (.call 16 (.cons (.loc 3 14) .nil) 15) env) xs [] M) Q := by
      intro xs ts Q g env he hs hg hl hgo q
      obtain ⟨ps, rfl, rfl, hp⟩ := hs.pairs
      match env, he with
      | [a, b, c, e], _ =>
        refine ok_lcm ps Prod.fst Prod.snd hgo (fun p hm => ?_) (by simpa using hl) q
        have e1 := ih (hp p hm) (Nat.le_trans (hgts_mem hm) hg)
        simp [e1]
    cases h with
    | non => exact call_eq t0 rfl (by simp [f_law_copied, isiD, isiOne, tyOf, isTy, tysOf])
    | bl b => exact call_eq t0 rfl (by simp [f_law_copied, isiD, isiOne, tyOf, isTy, tysOf])
    | int b => exact call_eq t0 rfl (by simp [f_law_copied, isiD, isiOne, tyOf, isTy, tysOf])
    | str b _ => exact call_eq t0 rfl (by simp [f_law_copied, isiD, isiOne, tyOf, isTy, tysOf])
    | tup r h =>
      rw [hgt_tup'] at hh
      refine call_eq t0 rfl ?_
      simp [f_law_copied, isiD, isiOne, tyOf, isTy, tysOf]
      exact lists _ rfl r (by omega) h rfl (by simp)
    | lst r h =>
      rw [hgt_lst'] at hh
      refine call_eq t0 rfl ?_
      simp [f_law_copied, isiD, isiOne, tyOf, isTy, tysOf]
      exact lists _ rfl r (by omega) h rfl (by simp)
    | @cell c xs ts e r h =>
      rw [hgt_lst'] at hh
      refine call_eq t0 rfl ?_
      simp [f_law_copied, isiD, isiOne, tyOf, isTy, tysOf, e, walkX, walkOf]
      exact lists _ rfl r (by omega) h (by simp [gok, e, beqs_refl]) (by simp [e])
end
theorem Lv.copied {tbl : Nat → Option Ent} {n k lo : Nat} {S : List C} {st : Option Strm} {d t : D} (v : Lv lo S d t) (t0 : tbl 16 = some (.code f_law_copied)) (hh : t.hgt ≤ k) : callN tbl n (k + 1) 16 [d] ⟨S, st⟩ = some (t, ⟨S, st⟩) := copied_sees t0 k (v.see st) hh

/-- a thing is spoilt: nothing else is -/
theorem rng_spoil {tbl : Nat → Option Ent} {n k h lo hi : Nat} {S : List C} {st : Option Strm} {d : D} {Q : D → Mem → Prop} (r : Rng ⟨S, st⟩ h lo hi d) (t0 : tbl 15 = some (.code f_law_spoilt)) (hh : h ≤ k) (q : ∀ S', S'.length = S.length → (∀ c, (c < lo ∨ hi ≤ c) → S'[c]? = S[c]?) → Q .non ⟨S', st⟩) : Ok (callN tbl n (k + 1) 15 [d] ⟨S, st⟩) Q := by
  obtain ⟨M', e, f⟩ := spoil_spec (n := n) t0 h k d lo hi ⟨S, st⟩ hh r
  obtain ⟨S', st'⟩ := M'
  obtain ⟨f1, f2, f3⟩ := f
  have f1 : st' = st := f1
  subst f1
  exact .of e (q S' f2 f3)
/-- whatever lists a call leaves -/
theorem ok_codeT {tbl : Nat → Option Ent} {n k f : Nat} {fn : Fn} {ds : List D} {M : Mem} {Q : D → Mem → Prop} (t : tbl f = some (.code fn)) (hl : ds.length = fn.np) (h : Ok (exs (callN tbl n k) n fn.body (ds.map some ++ List.replicate (fn.ns - ds.length) none) M) (Bk fun d M' => ∀ S', Q d ⟨S', M'.st⟩)) : Ok (callN tbl n (k + 1) f ds M) Q := by
  refine ok_code t hl (h.mono fun o M' q => ?_)
  have key : ∀ r, (∀ S', Q r ⟨S', M'.st⟩) → Q (trim M.S r M').1 (trim M.S r M').2 := by
    rintro r h1
    unfold trim
    split
    · exact h1 M'.S
    · split
      · exact h1 M.S
      · exact h1 M'.S
  cases o with
  | rt r => exact key r q
  | nx e => exact key .non q
  | bk _ => exact q.elim
  | ct _ => exact q.elim
end Ev

set_option autoImplicit false
set_option linter.all false
set_option maxRecDepth 100000
set_option maxHeartbeats 1000000
/-! Ev: live things by the set of their cells, in whatever order. -/
namespace Ev
open PySem H
mutual
/-- d is seen as t; its cells are these, each once -/
inductive Tre (S : List C) : Nat → D → D → List Nat → Prop
  | leaf {h : Nat} {d : D} : leafB d = true → d.strs = true → Tre S h d d []
  | tup {h : Nat} {xs ts : List D} {fp : List Nat} : TreL S h xs ts fp → ts.length ≤ Lim → Tre S (h + 1) (.tup xs) (.tup ts) fp
  | cell {h c : Nat} {xs ts : List D} {fp : List Nat} : S[c]? = some (.lst xs) → TreL S h xs ts fp → c ∉ fp → ts.length < Lim → Tre S (h + 1) (.cell c) (.lst ts) (c :: fp)
inductive TreL (S : List C) : Nat → List D → List D → List Nat → Prop
  | nil {h : Nat} : TreL S h [] [] []
  | cons {h : Nat} {x t : D} {xs ts : List D} {f g : List Nat} : Tre S h x t f → TreL S h xs ts g → (∀ c ∈ f, c ∉ g) → TreL S h (x :: xs) (t :: ts) (f ++ g)
end
section
variable {S S' : List C}
mutual
theorem Tre.same : ∀ {h : Nat} {d t : D} {fp : List Nat}, Tre S h d t fp → (∀ c ∈ fp, S'[c]? = S[c]?) → Tre S' h d t fp
  | _, _, _, _, .leaf a b, _ => .leaf a b
  | _, _, _, _, .tup r l, e => .tup (r.same e) l
  | _, _, _, _, .cell a r n l, e => .cell ((e _ (by simp)).trans a) (r.same fun c hc => e c (by simp [hc])) n l
theorem TreL.same : ∀ {h : Nat} {d t : List D} {fp : List Nat}, TreL S h d t fp → (∀ c ∈ fp, S'[c]? = S[c]?) → TreL S' h d t fp
  | _, _, _, _, .nil, _ => .nil
  | _, _, _, _, .cons a r n, e => .cons (a.same fun c hc => e c (by simp [hc])) (r.same fun c hc => e c (by simp [hc])) n
end
mutual
theorem Tre.lt : ∀ {h : Nat} {d t : D} {fp : List Nat}, Tre S h d t fp → ∀ c ∈ fp, c < S.length
  | _, _, _, _, .leaf _ _, c, hc => by cases hc
  | _, _, _, _, .tup r _, c, hc => r.lt c hc
  | _, _, _, _, .cell a r _ _, c, hc => by
    rcases List.mem_cons.mp hc with rfl | hc
    · exact (List.getElem?_eq_some_iff.mp a).1
    · exact r.lt c hc
theorem TreL.lt : ∀ {h : Nat} {d t : List D} {fp : List Nat}, TreL S h d t fp → ∀ c ∈ fp, c < S.length
  | _, _, _, _, .nil, c, hc => by cases hc
  | _, _, _, _, .cons a r _, c, hc => (List.mem_append.mp hc).elim (a.lt c) (r.lt c)
end
mutual
theorem Tre.hi : ∀ {h h' : Nat} {d t : D} {fp : List Nat}, Tre S h d t fp → h ≤ h' → Tre S h' d t fp
  | _, _, _, _, _, .leaf a b, _ => .leaf a b
  | _, _ + 1, _, _, _, .tup r l, e => .tup (r.hi (by omega)) l
  | _, 0, _, _, _, .tup r l, e => by omega
  | _, _ + 1, _, _, _, .cell a r n l, e => .cell a (r.hi (by omega)) n l
  | _, 0, _, _, _, .cell a r n l, e => by omega
theorem TreL.hi : ∀ {h h' : Nat} {d t : List D} {fp : List Nat}, TreL S h d t fp → h ≤ h' → TreL S h' d t fp
  | _, _, _, _, _, .nil, _ => .nil
  | _, _, _, _, _, .cons a r n, e => .cons (a.hi e) (r.hi e) n
end
theorem sees_leaf {M : Mem} {d : D} (a : leafB d = true) (b : d.strs = true) : Sees M d d := sees_tree d (by cases d <;> first | rfl | cases a) b
mutual
theorem Tre.see {st : Option Strm} : ∀ {h : Nat} {d t : D} {fp : List Nat}, Tre S h d t fp → Sees ⟨S, st⟩ d t
  | _, _, _, _, .leaf a b => sees_leaf a b
  | _, _, _, _, .tup r l => .tup r.see l
  | _, _, _, _, .cell a r _ l => .cell a r.see (Nat.le_of_lt l)
theorem TreL.see {st : Option Strm} : ∀ {h : Nat} {d t : List D} {fp : List Nat}, TreL S h d t fp → SeesL ⟨S, st⟩ d t
  | _, _, _, _, .nil => .nil
  | _, _, _, _, .cons a r _ => .cons a.see r.see
end
theorem leaf_sees {M : Mem} {d t : D} (a : leafB d = true) (s : Sees M d t) : t = d ∧ d.strs = true := by
  cases s <;> first | exact ⟨rfl, rfl⟩ | (exact ⟨rfl, by simpa [D.strs] using ‹_›⟩) | cases a
mutual
theorem tre_of {st : Option Strm} : ∀ {h lo hi : Nat} {d t : D}, Rng ⟨S, st⟩ h lo hi d → Sees ⟨S, st⟩ d t → ∃ fp, Tre S h d t fp ∧ ∀ c ∈ fp, lo ≤ c ∧ c < hi
  | _, _, _, _, _, .leaf a _, s => by
    obtain ⟨rfl, hs⟩ := leaf_sees a s
    exact ⟨[], .leaf a hs, fun c hc => by cases hc⟩
  | _, _, _, _, _, .tup r, .tup s l => by
    obtain ⟨fp, h1, h2⟩ := treL_of r s
    exact ⟨fp, .tup h1 l, h2⟩
  | _, _, _, _, _, .cell (c := c) a l r hc, .cell a' s l' => by
    have e := a.symm.trans a'
    cases e
    obtain ⟨fp, h1, h2⟩ := treL_of r s
    refine ⟨c :: fp, .cell a h1 (fun z => Nat.lt_irrefl _ (h2 c z).2) (by rw [← s.len]; exact l), fun c' hc' => ?_⟩
    rcases List.mem_cons.mp hc' with rfl | hc'
    · exact ⟨r.le, hc⟩
    · exact ⟨(h2 c' hc').1, Nat.lt_trans (h2 c' hc').2 hc⟩
theorem treL_of {st : Option Strm} : ∀ {h lo hi : Nat} {d t : List D}, RngL ⟨S, st⟩ h lo hi d → SeesL ⟨S, st⟩ d t → ∃ fp, TreL S h d t fp ∧ ∀ c ∈ fp, lo ≤ c ∧ c < hi
  | _, _, _, _, _, .nil _, .nil => ⟨[], .nil, fun c hc => by cases hc⟩
  | _, _, _, _, _, .cons a r, .cons b s => by
    obtain ⟨f, h1, h2⟩ := tre_of a b
    obtain ⟨g, h3, h4⟩ := treL_of r s
    refine ⟨f ++ g, .cons h1 h3 fun c hc z => ?_, fun c hc => ?_⟩
    · have := (h2 c hc).2; have := (h4 c z).1; omega
    · rcases List.mem_append.mp hc with hc | hc
      · exact ⟨(h2 c hc).1, Nat.lt_of_lt_of_le (h2 c hc).2 r.le⟩
      · exact ⟨Nat.le_trans a.le (h4 c hc).1, (h4 c hc).2⟩
end
end
/-! ### spoiling -/
section
variable {tbl : Nat → Option Ent} {n : Nat}
/-- only these cells differ -/
structure Frf (fp : List Nat) (M M' : Mem) : Prop where
  st : M'.st = M.st
  len : M'.S.length = M.S.length
  out : ∀ c, c ∉ fp → M'.S[c]? = M.S[c]?
theorem Frf.refl (fp : List Nat) (M : Mem) : Frf fp M M := ⟨rfl, rfl, fun _ _ => rfl⟩
theorem spoil_listF {k h : Nat} (one : ∀ (d t : D) (fp : List Nat) (M : Mem), Tre M.S h d t fp → ∃ M', callN tbl n k 15 [d] M = some (.non, M') ∧ Frf fp M M') {g : Grd} : ∀ (xs ts : List D) (fp : List Nat) (M : Mem) (a : Option D) (b : Option D), TreL M.S h xs ts fp → (∀ M', Frf fp M M' → gok g M' = true) →
    ∃ b' M', forLoop g (spTurn (callN tbl n k) n) xs [a, b] M = some (.nx [a, b'], M') ∧ Frf fp M M'
  | [], _, fp, M, a, b, r, hg => ⟨b, M, by simp [forLoop, hg M (Frf.refl _ _)], Frf.refl _ _⟩
  | x :: xs, ts, fp, M, a, b, r, hg => by
    cases r with
    | @cons _ _ t _ ts f f2 r1 r2 dj =>
      obtain ⟨M1, e1, f1⟩ := one x t f M r1
      have r2' : TreL M1.S h xs ts f2 := r2.same fun c hc => f1.out c fun z => dj c z hc
      have hg' : ∀ M', Frf f2 M1 M' → gok g M' = true := fun M' q => hg M' ⟨q.st.trans f1.st, q.len.trans f1.len, fun c hc => by
        rw [List.mem_append, not_or] at hc
        rw [q.out c hc.2, f1.out c hc.1]⟩
      obtain ⟨b', M2, e2, q2⟩ := spoil_listF one xs ts f2 M1 a (some x) r2' hg'
      refine ⟨b', M2, ?_, ⟨q2.st.trans f1.st, q2.len.trans f1.len, fun c hc => ?_⟩⟩
      · rw [forLoop, if_pos (hg M (Frf.refl _ _))]
        have t : spTurn (callN tbl n k) n x [a, b] M = some (.nx [a, some x], M1) := by
          simp [spTurn, turnS, put, exs, ex_ex, ev, evs, e1]
        rw [t]
        exact e2
      · rw [List.mem_append, not_or] at hc
        rw [q2.out c hc.2, f1.out c hc.1]
theorem spoil_tre (t0 : tbl 15 = some (.code f_law_spoilt)) : ∀ (h : Nat) (k : Nat) (d t : D) (fp : List Nat) (M : Mem), h ≤ k → Tre M.S h d t fp → ∃ M', callN tbl n (k + 1) 15 [d] M = some (.non, M') ∧ Frf fp M M' := by
  have leaf : ∀ (k : Nat) (d : D) (M : Mem), leafB d = true → callN tbl n (k + 1) 15 [d] M = some (.non, M) := fun k d M hd => by
    cases d with
    | non => exact call_nx (e := [some .non, none]) t0 rfl (by simp [f_law_spoilt, exs, ex_iff, ev, evs, ofB, tru, truth]) rfl
    | bl v => exact call_nx (e := [some (.bl v), none]) t0 rfl (by simp [f_law_spoilt, exs, ex_iff, ev, evs, ofB, tru, truth]) rfl
    | int v => exact call_nx (e := [some (.int v), none]) t0 rfl (by simp [f_law_spoilt, exs, ex_iff, ev, evs, ofB, tru, truth]) rfl
    | str v => exact call_nx (e := [some (.str v), none]) t0 rfl (by simp [f_law_spoilt, exs, ex_iff, ev, evs, ofB, tru, truth]) rfl
    | _ => cases hd
  intro h
  induction h with
  | zero =>
    intro k d t fp M hk r
    cases r with
    | leaf a b => exact ⟨M, leaf k d M a, Frf.refl _ _⟩
  | succ h ih =>
    intro k d t fp M hk r
    match k, hk with
    | k + 1, hk =>
      cases r with
      | leaf a b => exact ⟨M, leaf _ d M a, Frf.refl _ _⟩
      | @tup _ xs ts _ r l =>
        obtain ⟨b', M', e, f⟩ := spoil_listF (n := n) (k := k + 1) (g := []) (fun d t fp M r => ih k d t fp M (by omega) r) xs ts fp M (some (.tup xs)) none r (fun _ _ => rfl)
        refine ⟨M', call_nx (e := [some (.tup xs), b']) t0 rfl ?_ f.len, f⟩
        simp only [spTurn] at e
        simp [f_law_spoilt, exs, ex_iff, ex_for, evIt, ev, evs, ofB, tru, truth, walkOf, e]
      | @cell _ c xs ts fp a r hc l =>
        have g0 : ∀ M', Frf fp M M' → M'.S[c]? = some (.lst xs) := fun M' f => (f.out c hc).trans a
        obtain ⟨b', M', e, f⟩ := spoil_listF (n := n) (k := k + 1) (g := [(c, xs)]) (fun d t fp M r => ih k d t fp M (by omega) r) xs ts fp M (some (.cell c)) none r (fun M' f => by simp [gok, g0 M' f, beqs_refl])
        have a' := g0 M' f
        have l' : xs.length < Lim := by rw [(r.see (st := none)).len]; exact l
        have i1 : ∀ M, M.S[c]? = some (.lst xs) → isiD M (.cell c) (.tup [.ty .list, .ty .tuple]) = some true := fun M a => by simp [isiD, tysOf, tyOf, a, isTy]
        have i2 : ∀ M, M.S[c]? = some (.lst xs) → isiD M (.cell c) (.ty .list) = some true := fun M a => by simp [isiD, isiOne, tyOf, a, isTy]
        refine ⟨setC c (.lst (xs ++ [.str "late"])) M', call_nx (e := [some (.cell c), b']) t0 rfl ?_ (by simp [setC, f.len]), ⟨f.st, by simp [setC, f.len], fun c' hc' => ?_⟩⟩
        · simp only [spTurn] at e
          simp [f_law_spoilt, exs, ex_iff, ex_ex, ex_for, evIt, ev, evs, ofB, tru, truth, walkOf, i1 M a, i1 M' a', i2 M' a', a, a', e, l']
        · rw [List.mem_cons, not_or] at hc'
          show (M'.S.set c _)[c']? = _
          rw [List.getElem?_set_ne (Ne.symm hc'.1)]
          exact f.out c' hc'.2
end
/-! ### live things -/
def Lw (lo : Nat) (S : List C) (d t : D) : Prop := ∃ fp, Tre S t.hgt d t fp ∧ ∀ c ∈ fp, lo ≤ c
def LwL (lo : Nat) (S : List C) (ds ts : List D) : Prop := ∃ fp, TreL S (D.hgts ts) ds ts fp ∧ ∀ c ∈ fp, lo ≤ c
section
variable {lo : Nat} {S S' : List C} {d t : D} {ds ts : List D}
theorem Lv.lw (v : Lv lo S d t) : Lw lo S d t := by
  obtain ⟨fp, h1, h2⟩ := tre_of (v.rng none) (v.see none)
  exact ⟨fp, h1, fun c hc => (h2 c hc).1⟩
theorem LvL.lw (v : LvL lo S ds ts) : LwL lo S ds ts := by
  obtain ⟨fp, h1, h2⟩ := treL_of (v.rng none) (v.see none)
  exact ⟨fp, h1, fun c hc => (h2 c hc).1⟩
theorem Lw.see (v : Lw lo S d t) (st : Option Strm) : Sees ⟨S, st⟩ d t := let ⟨_, h, _⟩ := v; h.see
theorem LwL.see (v : LwL lo S ds ts) (st : Option Strm) : SeesL ⟨S, st⟩ ds ts := let ⟨_, h, _⟩ := v; h.see
theorem Lw.low {lo' : Nat} (v : Lw lo S d t) (h : lo' ≤ lo) : Lw lo' S d t := let ⟨fp, h1, h2⟩ := v; ⟨fp, h1, fun c hc => Nat.le_trans h (h2 c hc)⟩
theorem LwL.low {lo' : Nat} (v : LwL lo S ds ts) (h : lo' ≤ lo) : LwL lo' S ds ts := let ⟨fp, h1, h2⟩ := v; ⟨fp, h1, fun c hc => Nat.le_trans h (h2 c hc)⟩
/-- what stands from lo on is alike -/
theorem Lw.keep (v : Lw lo S d t) (h : ∀ c, lo ≤ c → c < S.length → S'[c]? = S[c]?) : Lw lo S' d t := let ⟨fp, h1, h2⟩ := v; ⟨fp, h1.same fun c hc => h c (h2 c hc) (h1.lt c hc), h2⟩
theorem LwL.keep (v : LwL lo S ds ts) (h : ∀ c, lo ≤ c → c < S.length → S'[c]? = S[c]?) : LwL lo S' ds ts := let ⟨fp, h1, h2⟩ := v; ⟨fp, h1.same fun c hc => h c (h2 c hc) (h1.lt c hc), h2⟩
theorem Lw.more (v : Lw lo S d t) (x : Xt S S') : Lw lo S' d t := v.keep fun c _ h => x.get h
theorem LwL.more (v : LwL lo S ds ts) (x : Xt S S') : LwL lo S' ds ts := v.keep fun c _ h => x.get h
theorem LwL.set {c0 : Nat} {o : C} (v : LwL lo S ds ts) (h : c0 < lo) : LwL lo (S.set c0 o) ds ts := v.keep fun c h1 _ => List.getElem?_set_ne (by omega)
theorem Lw.set {c0 : Nat} {o : C} (v : Lw lo S d t) (h : c0 < lo) : Lw lo (S.set c0 o) d t := v.keep fun c h1 _ => List.getElem?_set_ne (by omega)
theorem LwL.nil : LwL lo S [] [] := ⟨[], .nil, fun c hc => by cases hc⟩
theorem Lw.leaf (a : leafB d = true) (b : d.strs = true) : Lw lo S d d := ⟨[], .leaf a b, fun c hc => by cases hc⟩
theorem LwL.cons {S0 : List C} (v : Lw lo S0 d t) (x : Xt S0 S) (r : LwL S0.length S ds ts) (hl : lo ≤ S0.length) : LwL lo S (d :: ds) (t :: ts) := by
  obtain ⟨f, h1, h2⟩ := v
  obtain ⟨g, h3, h4⟩ := r
  refine ⟨f ++ g, .cons ((h1.same fun c hc => x.get (h1.lt c hc)).hi (Nat.le_max_left _ _)) (h3.hi (Nat.le_max_right _ _)) fun c hc z => ?_, fun c hc => ?_⟩
  · have := h1.lt c hc; have := h4 c z; omega
  · rcases List.mem_append.mp hc with hc | hc
    · exact h2 c hc
    · exact Nat.le_trans hl (h4 c hc)
theorem treL_snoc : ∀ {h : Nat} {ds ts : List D} {f g : List Nat}, TreL S h ds ts f → Tre S h d t g → (∀ c ∈ g, c ∉ f) → ∃ fg, TreL S h (ds ++ [d]) (ts ++ [t]) fg ∧ ∀ c, c ∈ fg ↔ c ∈ f ∨ c ∈ g
  | _, _, _, _, g, .nil, b, _ => ⟨g ++ [], .cons b .nil (fun c hc z => by cases z), fun c => by simp⟩
  | _, _, _, _, g, .cons (f := f) (g := f2) a r n, b, dj => by
    obtain ⟨fg, h1, h2⟩ := treL_snoc r b fun c hc z => dj c hc (by simp [z])
    refine ⟨f ++ fg, .cons a h1 fun c hc z => ?_, fun c => ?_⟩
    · rcases (h2 c).1 z with z | z
      · exact n c hc z
      · exact dj c z (by simp [hc])
    · rw [List.mem_append, h2, List.mem_append, or_assoc]
theorem hgts_snoc (ts : List D) (t : D) : D.hgts (ts ++ [t]) = max (D.hgts ts) t.hgt := by
  induction ts with
  | nil => simp [D.hgts]
  | cons x ts ih => simp only [List.cons_append, D.hgts, ih, Nat.max_assoc]
/-- one more at the end -/
theorem LwL.snoc (v : LwL lo S ds ts) (x : Xt S S') (u : Lw S.length S' d t) (hl : lo ≤ S.length) : LwL lo S' (ds ++ [d]) (ts ++ [t]) := by
  obtain ⟨f, h1, h2⟩ := v
  obtain ⟨g, h3, h4⟩ := u
  obtain ⟨fg, h5, h6⟩ := treL_snoc (S := S') (h := max (D.hgts ts) t.hgt) ((h1.same fun c hc => x.get (h1.lt c hc)).hi (Nat.le_max_left _ _)) (h3.hi (Nat.le_max_right _ _)) (fun c hc z => by have := h1.lt c z; have := h4 c hc; omega)
  refine ⟨fg, by rw [hgts_snoc]; exact h5, fun c hc => ?_⟩
  rcases (h6 c).1 hc with z | z
  · exact h2 c z
  · exact Nat.le_trans hl (h4 c z)
theorem LwL.tup (v : LwL lo S ds ts) (h : ts.length ≤ Lim) : Lw lo S (.tup ds) (.tup ts) := let ⟨fp, h1, h2⟩ := v; ⟨fp, by rw [hgt_tup']; exact .tup h1 h, h2⟩
/-- a list of them, wherever it stands -/
theorem LwL.at {c : Nat} {lo' : Nat} (v : LwL lo S ds ts) (hc : S[c]? = some (.lst ds)) (h : ts.length < Lim) (h1 : c < lo) (h2 : lo' ≤ c) : Lw lo' S (.cell c) (.lst ts) := by
  obtain ⟨fp, h3, h4⟩ := v
  refine ⟨c :: fp, by rw [hgt_lst']; exact .cell hc h3 (fun z => by have := h4 c z; omega) h, fun c' hc' => ?_⟩
  rcases List.mem_cons.mp hc' with rfl | hc'
  · exact h2
  · exact Nat.le_trans (by omega) (h4 c' hc')
theorem LwL.cell (v : LwL lo S ds ts) (h : ts.length < Lim) (hl : lo ≤ S.length) : Lw lo (S ++ [.lst ds]) (.cell S.length) (.lst ts) := by
  obtain ⟨fp, h3, h4⟩ := v
  have h5 := h3.same (S' := S ++ [.lst ds]) fun c hc => (Xt.snoc S _).get (h3.lt c hc)
  refine ⟨S.length :: fp, by rw [hgt_lst']; exact .cell (by simp) h5 (fun z => by have := h3.lt _ z; omega) h, fun c' hc' => ?_⟩
  rcases List.mem_cons.mp hc' with rfl | hc'
  · exact hl
  · exact h4 c' hc'
theorem Lw.word (l : List Int) (h : l.length ≤ 100000) (hl : lo ≤ S.length) : Lw lo (S ++ [.lst (lints l)]) (.cell S.length) (W l) := ((LvL.ints l hl).lw).cell (lt_lim (by simp; omega)) hl
theorem Lw.same {tbl : Nat → Option Ent} {n k : Nat} {st : Option Strm} (v : Lw lo S d t) (t0 : tbl 14 = some (.code f_law_same)) (hh : t.hgt ≤ k) (ht : t.tree = true) (hs : t.strs = true) : callN tbl n (k + 1) 14 [d, t] ⟨S, st⟩ = some (.bl true, ⟨S, st⟩) :=
  same_spec t0 t k d t (v.see st) (sees_tree t ht hs) hh
theorem Lw.copied {tbl : Nat → Option Ent} {n k : Nat} {st : Option Strm} (v : Lw lo S d t) (t0 : tbl 16 = some (.code f_law_copied)) (hh : t.hgt ≤ k) : callN tbl n (k + 1) 16 [d] ⟨S, st⟩ = some (t, ⟨S, st⟩) := copied_sees t0 k (v.see st) hh
theorem Lw.spoil {tbl : Nat → Option Ent} {n k : Nat} {st : Option Strm} {Q : D → Mem → Prop} (v : Lw lo S d t) (t0 : tbl 15 = some (.code f_law_spoilt)) (hh : t.hgt ≤ k) (q : ∀ S', S'.length = S.length → (∀ c, c < lo → S'[c]? = S[c]?) → Q .non ⟨S', st⟩) : Ok (callN tbl n (k + 1) 15 [d] ⟨S, st⟩) Q := by
  obtain ⟨fp, h1, h2⟩ := v
  obtain ⟨⟨S', st'⟩, e, f⟩ := spoil_tre (n := n) t0 t.hgt k d t fp ⟨S, st⟩ hh h1
  have f1 : st' = st := f.st
  subst f1
  exact .of e (q S' f.len fun c h => f.out c fun z => by have := h2 c z; omega)
end
mutual
theorem Tre.still {S S' : List C} : ∀ {h : Nat} {d t : D} {fp : List Nat}, d.pure = true → Tre S h d t fp → fp = []
  | _, _, _, _, _, .leaf _ _ => rfl
  | _, _, _, _, p, .tup r l => TreL.still (S' := S') (by simpa [D.pure] using p) r
  | _, _, _, _, p, .cell _ _ _ _ => by simp [D.pure] at p
theorem TreL.still {S S' : List C} : ∀ {h : Nat} {d t : List D} {fp : List Nat}, D.pures d = true → TreL S h d t fp → fp = []
  | _, _, _, _, _, .nil => rfl
  | _, _, _, _, p, .cons a r _ => by
    simp [D.pures] at p
    rw [Tre.still (S' := S') p.1 a, TreL.still (S' := S') p.2 r]; rfl
end
/-- new things come, seen as t -/
def LiveW (r : Mem → Res D) (t : D) : Prop := ∀ S st, ∃ d S', r ⟨S, st⟩ = some (d, ⟨S', st⟩) ∧ Xt S S' ∧ Lw S.length S' d t
theorem Live.w {r : Mem → Res D} {t : D} (h : Live r t) : LiveW r t := fun S st => let ⟨d, S', e, x, v⟩ := h S st; ⟨d, S', e, x, v.lw⟩
theorem LiveW.ok {r : Mem → Res D} {t : D} (h : LiveW r t) {S : List C} {st : Option Strm} {Q : D → Mem → Prop} (q : ∀ d S', Xt S S' → Lw S.length S' d t → Q d ⟨S', st⟩) : Ok (r ⟨S, st⟩) Q := by
  obtain ⟨d, S', e, x, v⟩ := h S st
  exact .of e (q d S' x v)
theorem LiveW.back {r : Mem → Res D} {t : D} (h : LiveW r t) {S : List C} {st : Option Strm} : Ok (r ⟨S, st⟩) fun d M' => M'.st = st ∧ Xt S M'.S ∧ Lw S.length M'.S d t := h.ok fun d S' x v => ⟨rfl, x, v⟩
theorem liveW_call {tbl : Nat → Option Ent} {n k f : Nat} {fn : Fn} {ds : List D} {t : D} (t0 : tbl f = some (.code fn)) (hl : ds.length = fn.np)
    (h : ∀ S st, Ok (exs (callN tbl n k) n fn.body (ds.map some ++ List.replicate (fn.ns - ds.length) none) ⟨S, st⟩) (Bk fun d M' => M'.st = st ∧ Xt S M'.S ∧ Lw S.length M'.S d t)) : LiveW (callN tbl n (k + 1) f ds) t := by
  intro S st
  have : Ok (callN tbl n (k + 1) f ds ⟨S, st⟩) fun d M' => M'.st = st ∧ Xt S M'.S ∧ Lw S.length M'.S d t := by
    refine ok_code t0 hl ((h S st).mono fun o M' q => ?_)
    have key : ∀ r, (M'.st = st ∧ Xt S M'.S ∧ Lw S.length M'.S r t) → (trim S r M').2.st = st ∧ Xt S (trim S r M').2.S ∧ Lw S.length (trim S r M').2.S (trim S r M').1 t := by
      rintro r ⟨h1, h2, h3⟩
      unfold trim
      split
      · exact ⟨h1, h2, h3⟩
      · split
        · rename_i hb
          rw [Bool.and_eq_true] at hb
          obtain ⟨fp, h4, h5⟩ := h3
          have e := Tre.still (S' := S) hb.1 h4
          subst e
          exact ⟨h1, Xt.refl S, [], h4.same (fun c hc => by cases hc), h5⟩
        · exact ⟨h1, h2, h3⟩
    cases o with
    | rt r => exact key r q
    | nx e => exact key .non q
    | bk _ => exact q.elim
    | ct _ => exact q.elim
  obtain ⟨d, ⟨S', st'⟩, e, rfl, x, v⟩ := this
  exact ⟨d, S', e, x, v⟩
/-- a list of new things, each by a turn -/
theorem ok_lcLw {α : Type} {turn : D → Mem → Res (Option D)} (xs : List α) (g t : α → D) (h : ∀ x ∈ xs, ∀ S st, Ok (turn (g x) ⟨S, st⟩) fun o M' => ∃ d, o = some d ∧ M'.st = st ∧ Xt S M'.S ∧ Lw S.length M'.S d (t x)) (hl : xs.length ≤ 1000000) {S : List C} {st : Option Strm} {Q : List D → Mem → Prop} (q : ∀ ds S', Xt S S' → LwL S.length S' ds (xs.map t) → Q ds ⟨S', st⟩) : Ok (lcLoop [] turn (xs.map g) [] ⟨S, st⟩) Q := by
  have key : ∀ (ys : List α) (acc : List D) (S : List C), (∀ x ∈ ys, ∀ S st, Ok (turn (g x) ⟨S, st⟩) fun o M' => ∃ d, o = some d ∧ M'.st = st ∧ Xt S M'.S ∧ Lw S.length M'.S d (t x)) → acc.length + ys.length ≤ 1000000 → ∃ ds S', lcLoop [] turn (ys.map g) acc ⟨S, st⟩ = some (acc ++ ds, ⟨S', st⟩) ∧ Xt S S' ∧ LwL S.length S' ds (ys.map t) := by
    intro ys
    induction ys with
    | nil =>
      intro acc S _ _
      exact ⟨[], S, by simp [lcLoop], Xt.refl S, .nil⟩
    | cons y ys ih =>
      intro acc S h hl
      obtain ⟨o, ⟨S1, st1⟩, e, d, rfl, e2, x1, v1⟩ := h y (by simp) S st
      have e2 : st1 = st := e2
      subst e2
      simp only [List.length_cons] at hl
      obtain ⟨ds, S2, e3, x2, v2⟩ := ih (acc ++ [d]) S1 (fun x hx => h x (by simp [hx])) (by simp; omega)
      refine ⟨d :: ds, S2, ?_, x1.trans x2, LwL.cons v1 x2 v2 x1.len⟩
      rw [List.map_cons, lcLoop, if_pos (show gok [] _ = true from rfl), e]
      simp only
      rw [if_pos (lt_lim (by omega) : acc.length < Lim), e3, List.append_assoc]; rfl
  obtain ⟨ds, S', e, x, v⟩ := key xs [] S h (by simpa using hl)
  exact .of (by simpa using e) (q ds S' x v)
end Ev

set_option autoImplicit false
set_option linter.all false
set_option maxRecDepth 100000
set_option maxHeartbeats 1000000
/-! Ev: `in` of trees; lists compared with the empty one. -/
namespace Ev
open PySem H
section
variable {M : Mem}
theorem eqD_nilL {xs : List D} (h : (D.lst xs).tree = true) (s : (D.lst xs).strs = true) (g : (D.lst xs).hgt ≤ 60) : eqD M (.lst xs) (.lst []) = some (decide (xs = [])) := by
  rw [eqD_tree h s g rfl rfl (by decide), eqv_lst]
  cases xs <;> simp [D.pys, PyData.eqvAll]
theorem shaped_tree {a : D} (h : a.tree = true) (s : a.strs = true) (g : a.hgt ≤ 60) : SeqAt.shaped a.py = true := by
  obtain ⟨a1, a2⟩ := tree_lay a h s
  simp only [SeqAt.shaped, Bool.and_eq_true, decide_eq_true_eq]; exact ⟨a1, by omega⟩
theorem inD_tree {a : D} {xs : List D} (ha : a.tree = true) (sa : a.strs = true) (ga : a.hgt ≤ 60) (h : (D.lst xs).tree = true) (s : (D.lst xs).strs = true) (g : (D.lst xs).hgt ≤ 60) : inD M a xs = some (xs.any fun y => PyData.eqv y.py a.py) := by
  have va : view M a = some a := by simp [view, tree_pure a ha]
  have vb : view M (.lst xs) = some (.lst xs) := by simp [view, tree_pure _ h]
  simp only [inD, va, vb, shaped_tree ha sa ga, shaped_tree h s g, Bool.and_self, if_true]
theorem eqv_Wb (a b : List Int) : PyData.eqv (W a).py (W b).py = decide (a = b) := by rw [eqv_W]
theorem eqv_Tpb (a b : List Int) : PyData.eqv (Tp a).py (Tp b).py = decide (a = b) := by rw [eqv_Tp]
theorem any_mem (ls : List (List Int)) (a : List Int) (f : List Int → Bool) (h : ∀ x, f x = decide (x = a)) : ls.any f = decide (a ∈ ls) := by
  rw [Bool.eq_iff_iff, List.any_eq_true]
  simp only [h, decide_eq_true_eq]
  exact ⟨fun ⟨x, hx, e⟩ => e ▸ hx, fun hx => ⟨a, hx, rfl⟩⟩
theorem in_Ws (a : List Int) (ls : List (List Int)) (ha : a.length ≤ 1000000) (hl : ∀ l ∈ ls, l.length ≤ 1000000) (n : ls.length ≤ 1000000) : inD M (W a) (ls.map fun l => W l) = some (decide (a ∈ ls)) := by
  have h1 := hgts_W ls
  rw [inD_tree (by simp; omega) (by simp) (by simp) (by rw [tree_lst, trees_W ls hl]; simp; omega) (by rw [strs_lst, strss_W]) (by rw [hgt_lst']; omega), List.any_map]
  congr 1
  exact any_mem ls a _ fun x => eqv_Wb x a
theorem in_Ts (a : List Int) (ls : List (List Int)) (ha : a.length ≤ 1000000) (hl : ∀ l ∈ ls, l.length ≤ 1000000) (n : ls.length ≤ 1000000) : inD M (Tp a) (ls.map fun l => Tp l) = some (decide (a ∈ ls)) := by
  have h1 := hgts_Tp ls
  rw [inD_tree (by simp; omega) (by simp) (by simp) (by rw [tree_lst, trees_Tp ls hl]; simp; omega) (by rw [strs_lst, strss_Tp]) (by rw [hgt_lst']; omega), List.any_map]
  congr 1
  exact any_mem ls a _ fun x => eqv_Tpb x a
/-- a word in a list of words -/
theorem cmp_inW (a : List Int) (ls : List (List Int)) (ha : a.length ≤ 1000000) (hl : ∀ l ∈ ls, l.length ≤ 1000000) (n : ls.length ≤ 1000000) : opCmp M .in_ (W a) (.lst (ls.map fun l => W l)) = some (decide (a ∈ ls)) := in_Ws a ls ha hl n
theorem cmp_notinW (a : List Int) (ls : List (List Int)) (ha : a.length ≤ 1000000) (hl : ∀ l ∈ ls, l.length ≤ 1000000) (n : ls.length ≤ 1000000) : opCmp M .notin (W a) (.lst (ls.map fun l => W l)) = some (!decide (a ∈ ls)) := by
  show (inD M (W a) (ls.map fun l => W l)).map (!·) = _
  rw [in_Ws a ls ha hl n]; rfl
theorem cmp_inT (a : List Int) (ls : List (List Int)) (ha : a.length ≤ 1000000) (hl : ∀ l ∈ ls, l.length ≤ 1000000) (n : ls.length ≤ 1000000) : opCmp M .in_ (Tp a) (.lst (ls.map fun l => Tp l)) = some (decide (a ∈ ls)) := in_Ts a ls ha hl n
theorem cmp_notinT (a : List Int) (ls : List (List Int)) (ha : a.length ≤ 1000000) (hl : ∀ l ∈ ls, l.length ≤ 1000000) (n : ls.length ≤ 1000000) : opCmp M .notin (Tp a) (.lst (ls.map fun l => Tp l)) = some (!decide (a ∈ ls)) := by
  show (inD M (Tp a) (ls.map fun l => Tp l)).map (!·) = _
  rw [in_Ts a ls ha hl n]; rfl
end
end Ev

set_option autoImplicit false
set_option linter.all false
set_option maxRecDepth 100000
set_option maxHeartbeats 1000000
/-! k02: whole roots, in plain lists. -/
namespace Ev
open PySem
theorem reps_succ (a : List Int) (k : Nat) : reps a (k + 1) = a ++ reps a k := by simp [reps, List.replicate_succ]
theorem reps_get (a : List Int) : ∀ (k i : Nat), i < k * a.length → (reps a k)[i]? = a[i % a.length]?
  | 0, i, h => by simp at h
  | k + 1, i, h => by
    rw [reps_succ]
    by_cases hi : i < a.length
    · rw [List.getElem?_append_left hi, Nat.mod_eq_of_lt hi]
    · have h2 : i - a.length < k * a.length := by rw [Nat.succ_mul] at h; omega
      rw [List.getElem?_append_right (by omega), reps_get a k _ h2, ← Nat.mod_eq_sub_mod (by omega)]
/-- the word is a whole power of its first t letters -/
def Per (l : List Int) (t : Nat) : Prop := t ∣ l.length ∧ ∀ i, i < l.length → l[i]? = l[i % t]?
theorem per_reps {l : List Int} {t : Nat} (h1 : 1 ≤ t) (h2 : t ≤ l.length) (hd : t ∣ l.length) : reps (l.take t) (l.length / t) = l ↔ ∀ i, i < l.length → l[i]? = l[i % t]? := by
  have hl : (l.take t).length = t := by rw [List.length_take]; omega
  have hm : l.length / t * t = l.length := Nat.div_mul_cancel hd
  have get : ∀ i, i < l.length → (reps (l.take t) (l.length / t))[i]? = l[i % t]? := fun i hi => by
    rw [reps_get _ _ _ (by rw [hl, hm]; exact hi), hl, List.getElem?_take_of_lt (Nat.mod_lt _ (by omega))]
  constructor
  · intro h i hi
    rw [← get i hi, h]
  · intro h
    apply List.ext_getElem?
    intro i
    by_cases hi : i < l.length
    · rw [get i hi, h i hi]
    · rw [List.getElem?_eq_none (by rw [reps_len, hl, hm]; omega), List.getElem?_eq_none (by omega)]
structure IsRoot (l : List Int) (s : Nat) : Prop where
  pos : 1 ≤ s
  le : s ≤ l.length
  per : Per l s
  least : ∀ t, 1 ≤ t → t < s → ¬ Per l t
theorem per_len (l : List Int) : Per l l.length := ⟨Nat.dvd_refl _, fun i hi => by rw [Nat.mod_eq_of_lt hi]⟩
theorem root_ex {l : List Int} (h : l ≠ []) : ∃ s, IsRoot l s := by
  have hl : 1 ≤ l.length := List.length_pos_iff.mpr h
  have key : ∀ n, (∃ t, 1 ≤ t ∧ t ≤ n ∧ Per l t) → ∃ s, 1 ≤ s ∧ s ≤ n ∧ Per l s ∧ ∀ t, 1 ≤ t → t < s → ¬ Per l t := by
    intro n
    induction n with
    | zero => rintro ⟨t, h1, h2, _⟩; omega
    | succ n ih =>
      rintro ⟨t, h1, h2, h3⟩
      by_cases hx : ∃ t, 1 ≤ t ∧ t ≤ n ∧ Per l t
      · obtain ⟨s, a, b, c, d⟩ := ih hx
        exact ⟨s, a, by omega, c, d⟩
      · have ht : t = n + 1 := by
          by_cases q : t ≤ n
          · exact absurd ⟨t, h1, q, h3⟩ hx
          · omega
        subst ht
        exact ⟨n + 1, h1, h2, h3, fun u u1 u2 u3 => hx ⟨u, u1, by omega, u3⟩⟩
  obtain ⟨s, a, b, c, d⟩ := key l.length ⟨l.length, hl, Nat.le_refl _, per_len l⟩
  exact ⟨s, a, b, c, d⟩
/-- two periods of an endless word have their greatest common divisor as one, too -/
theorem gcd_per {α : Type} {f : Nat → α} {s t : Nat} (hs : 0 < s) (ht : 0 < t) (h1 : ∀ i, f (i + s) = f i) (h2 : ∀ i, f (i + t) = f i) : ∀ i, f (i + Nat.gcd s t) = f i := by
  induction s, t using Nat.gcd.induction with
  | H0 n => exact absurd hs (Nat.lt_irrefl 0)
  | H1 m n hm ih =>
    have h1s : ∀ i k, f (i + k * m) = f i := fun i k => by
      induction k with
      | zero => simp
      | succ k ihk => rw [Nat.succ_mul, ← Nat.add_assoc, h1, ihk]
    by_cases h0 : n % m = 0
    · rw [Nat.gcd_rec, h0, Nat.gcd_zero_left]; exact h1
    · rw [Nat.gcd_rec]
      refine ih (by omega) hm (fun i => ?_) h1
      have e : n = n % m + n / m * m := by rw [Nat.mul_comm]; exact (Nat.mod_add_div n m).symm
      have := h2 i
      rw [e, ← Nat.add_assoc, h1s] at this
      exact this
theorem per_word {l : List Int} {t : Nat} (h0 : 0 < l.length) (hp : Per l t) : ∀ i, l[(i + t) % l.length]? = l[i % l.length]? := fun i => by
  obtain ⟨⟨c, hc⟩, h⟩ := hp
  have a : ∀ j, l[j % l.length]? = l[j % t]? := fun j => by
    rw [h _ (Nat.mod_lt _ h0), hc, Nat.mod_mul_right_mod]
  rw [a, a, Nat.add_mod_right]
theorem word_per {l : List Int} {t : Nat} (h0 : 0 < l.length) (hd : t ∣ l.length) (h : ∀ i, l[(i + t) % l.length]? = l[i % l.length]?) : Per l t := by
  refine ⟨hd, fun i hi => ?_⟩
  have key : ∀ k j, l[(j + k * t) % l.length]? = l[j % l.length]? := fun k => by
    induction k with
    | zero => simp
    | succ k ih => intro j; rw [Nat.succ_mul, ← Nat.add_assoc, h, ih]
  have e := key (i / t) (i % t)
  rw [show i % t + i / t * t = i by rw [Nat.mul_comm]; exact Nat.mod_add_div i t] at e
  rw [Nat.mod_eq_of_lt hi] at e
  rw [e, Nat.mod_eq_of_lt (Nat.lt_of_le_of_lt (Nat.mod_le _ _) hi)]
theorem per_gcd {l : List Int} {s t : Nat} (h0 : 0 < l.length) (hs : 1 ≤ s) (ht : 1 ≤ t) (h1 : Per l s) (h2 : Per l t) : Per l (Nat.gcd s t) :=
  word_per h0 (Nat.dvd_trans (Nat.gcd_dvd_left s t) h1.1) (gcd_per (f := fun i => l[i % l.length]?) hs ht (per_word h0 h1) (per_word h0 h2))
/-- a word's powers have its root -/
theorem root_reps {w : List Int} {s c : Nat} (h : IsRoot w s) (hc : 1 ≤ c) : IsRoot (reps w c) s := by
  have hw : 0 < w.length := Nat.lt_of_lt_of_le h.pos h.le
  have hl : (reps w c).length = c * w.length := reps_len w c
  have hle : w.length ≤ c * w.length := Nat.le_mul_of_pos_left _ hc
  have h0 : 0 < (reps w c).length := by rw [hl]; omega
  have get : ∀ i, (reps w c)[i % (c * w.length)]? = w[i % w.length]? := fun i => by
    rw [reps_get w c _ (Nat.mod_lt _ (by omega)), Nat.mod_mul_left_mod]
  have up : ∀ t, Per w t → Per (reps w c) t := fun t ht => word_per h0 (by rw [hl]; exact Nat.dvd_trans ht.1 (Nat.dvd_mul_left _ _)) fun i => by
    rw [hl, get, get]
    exact per_word hw ht i
  refine ⟨h.pos, by have := h.le; rw [hl]; omega, up s h.per, fun t t1 t2 ht => ?_⟩
  have hg := per_gcd h0 h.pos t1 (up s h.per) ht
  have gd : Nat.gcd s t ∣ s := Nat.gcd_dvd_left s t
  have gp : 1 ≤ Nat.gcd s t := Nat.gcd_pos_of_pos_left _ h.pos
  have gw : Per w (Nat.gcd s t) := word_per hw (Nat.dvd_trans gd h.per.1) fun i => by
    have := per_word h0 hg i
    rwa [hl, get, get] at this
  have glt : Nat.gcd s t < s := Nat.lt_of_le_of_lt (Nat.le_of_dvd t1 (Nat.gcd_dvd_right s t)) t2
  exact h.least _ gp glt gw
theorem take_reps {w : List Int} {s c : Nat} (h : s ≤ w.length) (hc : 1 ≤ c) : (reps w c).take s = w.take s := by
  match c, hc with
  | c + 1, _ => rw [reps_succ, List.take_append_of_le_length h]
end Ev

set_option autoImplicit false
set_option linter.all false
set_option maxRecDepth 100000
set_option maxHeartbeats 1000000
/-! Ev: roots, rests, by any table. -/
namespace Ev
open PySem H
namespace H
def f_root_pair : Fn := ⟨1, 2, (.cons (.for_ (.name 1 6) (.rng2 (.cint 1 0) (.bin .add (.len (.loc 0 1) 2) (.cint 1 3) 4) 5) (.cons (.iff (.bool true (.cons (.cmp .eq (.bin .mod (.len (.loc 0 7) 8) (.loc 1 9) 10) (.cint 0 11) 12) (.cons (.cmp .eq (.bin .mul (.slc (.loc 0 13) .none (.some (.loc 1 14)) 15) (.bin .fdiv (.len (.loc 0 16) 17) (.loc 1 18) 19) 20) (.loc 0 21) 22) .nil)) 23) (.cons (.ret (.tup (.cons (.slc (.loc 0 24) .none (.some (.loc 1 25)) 26) (.cons (.bin .fdiv (.len (.loc 0 27) 28) (.loc 1 29) 30) .nil)) 31) 32) .nil) .nil 33) .nil) 34) (.cons (.ret (.tup (.cons (.loc 0 35) (.cons (.cint 1 36) .nil)) 37) 38) .nil))⟩
def f_law_root : Fn := ⟨1, 2, (.cons (.asg (.name 1 0) (.cint 1 1) 2) (.cons (.whl (.bool false (.cons (.cmp .ne (.len (.loc 0 3) 4) (.bin .mul (.intOf (.bin .fdiv (.len (.loc 0 5) 6) (.loc 1 7) 8) 9) (.loc 1 10) 11) 12) (.cons (.cmp .ne (.bin .mul (.inl (.listOf (.slc (.loc 0 13) .none (.some (.loc 1 14)) 15) 16)) (.intOf (.bin .fdiv (.len (.loc 0 17) 18) (.loc 1 19) 20) 21) 22) (.inl (.listOf (.loc 0 23) 24)) 25) .nil)) 26) (.cons (.asg (.name 1 27) (.bin .add (.loc 1 28) (.cint 1 29) 30) 31) .nil) 32) (.cons (.ret (.tup (.cons (.inl (.listOf (.slc (.loc 0 33) .none (.some (.loc 1 34)) 35) 36)) (.cons (.intOf (.bin .fdiv (.len (.loc 0 37) 38) (.loc 1 39) 40) 41) .nil)) 42) 43) .nil)))⟩
def f_law_rest : Fn := ⟨2, 2, (.cons (.ret (.bin .sub (.intOf (.loc 0 0) 1) (.bin .mul (.loc 1 2) (.bin .fdiv (.intOf (.loc 0 3) 4) (.loc 1 5) 6) 7) 8) 9) .nil)⟩
end H
section
variable {M : Mem}
theorem mod_nat (a b : Nat) (h : 0 < b) : opBin M .mod (.int (a : Int)) (.int (b : Int)) = some (.int ((a % b : Nat) : Int)) := by
  rw [opBin_mod_int _ _ (by omega), cmod]
theorem fdiv_nat (a b : Nat) (h : 0 < b) (h2 : b < 1073741824) : opBin M .fdiv (.int (a : Int)) (.int (b : Int)) = some (.int ((a / b : Nat) : Int)) := by
  rw [opBin_fdiv_int _ _ (by omega) (by omega), cdiv]
theorem mul_nat (a b : Nat) (h : b < 1000000000) : opBin M .mul (.int (a : Int)) (.int (b : Int)) = some (.int ((a * b : Nat) : Int)) := by
  rw [opBin_mul_int _ _ (by omega) (by omega)]; simp
theorem mulW_nat (l : List Int) (m : Nat) (h : l.length * m ≤ 1000000) (h2 : m ≤ 1000000) : opBin M .mul (W l) (.int (m : Int)) = some (W (reps l m)) := by
  have := mul_W (M := M) l (m : Int) (by omega) (by omega) (by rw [Int.toNat_natCast]; exact le_lim h)
  rwa [Int.toNat_natCast] at this
theorem mulT_nat (l : List Int) (m : Nat) (h : l.length * m ≤ 1000000) (h2 : m ≤ 1000000) : opBin M .mul (Tp l) (.int (m : Int)) = some (Tp (reps l m)) := by
  have := mul_Tp (M := M) l (m : Int) (by omega) (by omega) (by rw [Int.toNat_natCast]; exact le_lim h)
  rwa [Int.toNat_natCast] at this
end
/-- the size divides, and the power is the word -/
theorem per_test {l : List Int} {t : Nat} (h1 : 1 ≤ t) (h2 : t ≤ l.length) : (l.length % t = 0 ∧ reps (l.take t) (l.length / t) = l) ↔ Per l t := by
  constructor
  · rintro ⟨a, b⟩
    have hd := Nat.dvd_of_mod_eq_zero a
    exact ⟨hd, (per_reps h1 h2 hd).mp b⟩
  · rintro ⟨hd, b⟩
    exact ⟨Nat.mod_eq_zero_of_dvd hd, (per_reps h1 h2 hd).mpr b⟩
section
variable {tbl : Nat → Option Ent} {n k : Nat} {M : Mem} {l : List Int} {s : Nat}
theorem take_mul (l : List Int) (t : Nat) : (l.take t).length * (l.length / t) ≤ l.length := by
  have h1 : (l.take t).length ≤ t := by rw [List.length_take]; omega
  exact Nat.le_trans (Nat.mul_le_mul_right _ h1) (Nat.mul_div_le _ _)
theorem root_pair_eq (t : tbl 24 = some (.code f_root_pair)) (h : IsRoot l s) (hl : l.length ≤ 1000) : callN tbl n (k + 1) 24 [Tp l] M = some (.tup [Tp (l.take s), .int ((l.length / s : Nat) : Int)], M) := by
  have hp := h.pos
  have hs := h.le
  refine call_eq t rfl ?_
  simp [-Int.natCast_ediv, -Int.natCast_emod, -Int.natCast_mul, -List.map_take, -List.map_drop, f_root_pair, in62_s (show l.length < 1000000 by omega), range_1]
  refine ok_forI (fun (i : Nat) => D.int (i : Int)) (fun xs env M' => M' = M ∧ (∃ a, env = [some (Tp l), a]) ∧ ∃ t, 1 ≤ t ∧ t ≤ s ∧ xs = List.range' t (l.length + 1 - t)) (fun _ _ _ _ => rfl) (fun x xs env M' h' => ?_) (fun env M' h' => ?_) (List.range' 1 l.length) _ _ ⟨rfl, ⟨_, rfl⟩, 1, by omega, by omega, by simp⟩
  · obtain ⟨rfl, ⟨a, rfl⟩, t, t1, t2, e⟩ := h'
    rw [show l.length + 1 - t = (l.length - t) + 1 by omega, List.range'_succ] at e
    obtain ⟨rfl, rfl⟩ := List.cons.inj e
    have m := take_mul l x
    have d := Nat.div_le_self l.length x
    simp [-Int.natCast_ediv, -Int.natCast_emod, -Int.natCast_mul, -List.map_take, -List.map_drop, mod_nat (M := M') l.length x (by omega), fdiv_nat (M := M') l.length x (by omega) (by omega), mulT_nat (M := M') (l.take x) (l.length / x) (by omega) (by omega)]
    by_cases hx : x = s
    · subst hx
      obtain ⟨p1, p2⟩ := (per_test h.pos h.le).mpr h.per
      simp [-Int.natCast_ediv, -Int.natCast_emod, -Int.natCast_mul, -List.map_take, -List.map_drop, p1, p2]
    · have np := h.least x t1 (by omega)
      rw [← per_test t1 (by omega)] at np
      by_cases p1 : l.length % x = 0
      · have p2 : ¬ reps (l.take x) (l.length / x) = l := fun z => np ⟨p1, z⟩
        simp [-Int.natCast_ediv, -Int.natCast_emod, -Int.natCast_mul, -List.map_take, -List.map_drop, p1, p2]
        exact ⟨x + 1, by omega, by omega, by omega, .inr rfl⟩
      · simp [-Int.natCast_ediv, -Int.natCast_emod, -Int.natCast_mul, -List.map_take, -List.map_drop, p1]
        exact ⟨x + 1, by omega, by omega, by omega, .inr rfl⟩
  · obtain ⟨_, _, t, t1, t2, e⟩ := h'
    rw [show l.length + 1 - t = (l.length - t) + 1 by omega, List.range'_succ] at e
    cases e
theorem law_root_eq (t : tbl 26 = some (.code f_law_root)) (h : IsRoot l s) (hl : l.length ≤ 1000) (hn : 1000 < n) : callN tbl n (k + 1) 26 [W l] M = some (.tup [W (l.take s), .int ((l.length / s : Nat) : Int)], M) := by
  have hp := h.pos
  have hs := h.le
  refine call_eq t rfl ?_
  simp [-Int.natCast_ediv, -Int.natCast_emod, -Int.natCast_mul, -List.map_take, -List.map_drop, f_law_root]
  refine ok_whileI (fun m env M' => M' = M ∧ ∃ t, 1 ≤ t ∧ t ≤ s ∧ m = s - t ∧ env = [some (W l), some (.int (t : Int))]) (fun m env M' h' => ?_) n (s - 1) _ _ (by omega) ⟨rfl, 1, by omega, by omega, rfl, rfl⟩
  obtain ⟨rfl, t, t1, t2, rfl, rfl⟩ := h'
  have m := take_mul l t
  have d := Nat.div_le_self l.length t
  have hm := Nat.mod_add_div l.length t
  rw [Nat.mul_comm] at hm
  simp [-Int.natCast_ediv, -Int.natCast_emod, -Int.natCast_mul, -List.map_take, -List.map_drop, fdiv_nat (M := M') l.length t (by omega) (by omega), mul_nat (M := M') (l.length / t) t (by omega), mulW_nat (M := M') (l.take t) (l.length / t) (by omega) (by omega)]
  have c : ((l.length : Int) = ((l.length / t * t : Nat) : Int)) ↔ l.length % t = 0 := by omega
  by_cases hx : t = s
  · subst hx
    obtain ⟨p1, p2⟩ := (per_test h.pos h.le).mpr h.per
    simp [-Int.natCast_ediv, -Int.natCast_emod, -Int.natCast_mul, -List.map_take, -List.map_drop, c.mpr p1, p2]
  · have np := h.least t t1 (by omega)
    rw [← per_test t1 (by omega)] at np
    by_cases p1 : l.length % t = 0
    · have p2 : ¬ reps (l.take t) (l.length / t) = l := fun z => np ⟨p1, z⟩
      simp [-Int.natCast_ediv, -Int.natCast_emod, -Int.natCast_mul, -List.map_take, -List.map_drop, c.mpr p1, p2]
      exact ⟨by omega, t + 1, by omega, by omega, by omega, by simp⟩
    · have p1' : ¬ (l.length : Int) = ((l.length / t * t : Nat) : Int) := fun z => p1 (c.mp z)
      simp [-Int.natCast_ediv, -Int.natCast_emod, -Int.natCast_mul, -List.map_take, -List.map_drop, p1']
      exact ⟨by omega, t + 1, by omega, by omega, by omega, by simp⟩
theorem law_rest_eq (t0 : tbl 27 = some (.code f_law_rest)) {a t : Nat} (h1 : 1 ≤ t) (h2 : t ≤ 1000000) : callN tbl n (k + 1) 27 [.int (a : Int), .int (t : Int)] M = some (.int ((a % t : Nat) : Int), M) := by
  refine call_eq t0 rfl ?_
  have hm := Nat.mod_add_div a t
  have e : (a : Int) - (t : Int) * ((a / t : Nat) : Int) = ((a % t : Nat) : Int) := by
    rw [← Int.natCast_mul]; omega
  simp [-Int.natCast_ediv, -Int.natCast_emod, -Int.natCast_mul, -List.map_take, -List.map_drop, f_law_rest, fdiv_nat a t (by omega) (by omega), mul_int_l (t : Int) ((a / t : Nat) : Int) (by omega) (by omega)]
  exact e
end
end Ev

set_option autoImplicit false
set_option linter.all false
set_option maxRecDepth 100000
set_option maxHeartbeats 1000000
/-! Endless words, in plain lists. -/
namespace Ev
open PySem
/-- the last letter to the front -/
def rotR (t : List Int) : List Int := t.drop (t.length - 1) ++ t.take (t.length - 1)
def lst0 (l : List Int) : Int := l[l.length - 1]?.getD 0
/-- letters of the lead that the round has, too, taken off -/
def strip : Nat → List Int → List Int → List Int × List Int
  | 0, l, t => (l, t)
  | m + 1, l, t => if l ≠ [] ∧ lst0 l = lst0 t then strip m (l.take (l.length - 1)) (rotR t) else (l, t)
/-- the letter at an index -/
def eAt (l t : List Int) (i : Nat) : Int := if i < l.length then l[i]?.getD 0 else t[(i - l.length) % t.length]?.getD 0
theorem rotR_len (t : List Int) : (rotR t).length = t.length := by
  simp [rotR]
theorem eAt_rot {l t : List Int} (hl : l ≠ []) (ht : t ≠ []) (h : lst0 l = lst0 t) (i : Nat) : eAt (l.take (l.length - 1)) (rotR t) i = eAt l t i := by
  have h1 := List.length_pos_iff.mpr hl
  have h2 := List.length_pos_iff.mpr ht
  unfold eAt
  rw [rotR_len]
  simp only [List.length_take]
  rw [show min (l.length - 1) l.length = l.length - 1 by omega]
  have rot0 : (rotR t)[0]?.getD 0 = lst0 t := by
    unfold rotR lst0
    rw [List.getElem?_append_left (by simp; omega), List.getElem?_drop]; rfl
  have rotS : ∀ j, j < t.length - 1 → (rotR t)[j + 1]?.getD 0 = t[j]?.getD 0 := fun j hj => by
    unfold rotR
    rw [List.getElem?_append_right (by simp; omega), List.getElem?_take_of_lt (by simp; omega)]
    congr 2
    simp; omega
  by_cases c1 : i < l.length - 1
  · rw [if_pos c1, if_pos (by omega), List.getElem?_take_of_lt c1]
  · rw [if_neg c1]
    by_cases c2 : i < l.length
    · rw [if_pos c2, show i - (l.length - 1) = 0 by omega, Nat.zero_mod, rot0, ← h]
      unfold lst0
      rw [show i = l.length - 1 by omega]
    · rw [if_neg c2, show i - (l.length - 1) = (i - l.length) + 1 by omega]
      generalize i - l.length = j
      have hm := Nat.mod_lt j h2
      by_cases c3 : j % t.length = t.length - 1
      · have e : (j + 1) % t.length = 0 := by
          rw [Nat.add_mod, c3]
          by_cases c4 : t.length = 1
          · rw [c4, Nat.mod_one]
          · rw [Nat.mod_eq_of_lt (show 1 < t.length by omega), show t.length - 1 + 1 = t.length by omega, Nat.mod_self]
        rw [e, rot0, c3]; rfl
      · have e : (j + 1) % t.length = j % t.length + 1 := by
          rw [Nat.add_mod, Nat.mod_eq_of_lt (show 1 < t.length by omega), Nat.mod_eq_of_lt (by omega)]
        rw [e, rotS _ (by omega)]
theorem eAt_strip : ∀ (m : Nat) (l t : List Int), t ≠ [] → ∀ i, eAt (strip m l t).1 (strip m l t).2 i = eAt l t i
  | 0, l, t, ht, i => rfl
  | m + 1, l, t, ht, i => by
    unfold strip
    by_cases h : l ≠ [] ∧ lst0 l = lst0 t
    · rw [if_pos h, eAt_strip m _ _ (by
        intro z
        have := rotR_len t
        rw [z] at this
        exact ht (List.length_eq_zero_iff.mp this.symm)), eAt_rot h.1 ht h.2]
    · rw [if_neg h]
theorem eAt_root {l t : List Int} {s : Nat} (h : IsRoot t s) (i : Nat) : eAt l (t.take s) i = eAt l t i := by
  have hp := h.pos
  have hs := h.le
  unfold eAt
  by_cases c : i < l.length
  · rw [if_pos c, if_pos c]
  · rw [if_neg c, if_neg c]
    generalize i - l.length = j
    rw [List.length_take, show min s t.length = s by omega, List.getElem?_take_of_lt (Nat.mod_lt _ hp)]
    have := h.per.2 (j % t.length) (Nat.mod_lt _ (by omega))
    rw [this, Nat.mod_mod_of_dvd _ h.per.1]
/-- its plain form, s the size of its round's root -/
def plainE (l t : List Int) (s : Nat) : List Int × List Int := strip l.length l (t.take s)
theorem eAt_plain {l t : List Int} {s : Nat} (h : IsRoot t s) (i : Nat) : eAt (plainE l t s).1 (plainE l t s).2 i = eAt l t i := by
  have hp := h.pos
  have hs := h.le
  unfold plainE
  rw [eAt_strip _ _ _ (by intro z; have := congrArg List.length z; rw [List.length_take, List.length_nil] at this; omega), eAt_root h]
theorem strip_len : ∀ (m : Nat) (l t : List Int), (strip m l t).1.length ≤ l.length ∧ (strip m l t).2.length = t.length
  | 0, l, t => ⟨Nat.le_refl _, rfl⟩
  | m + 1, l, t => by
    unfold strip
    by_cases h : l ≠ [] ∧ lst0 l = lst0 t
    · rw [if_pos h]
      obtain ⟨h1, h2⟩ := strip_len m (l.take (l.length - 1)) (rotR t)
      rw [rotR_len] at h2
      exact ⟨Nat.le_trans h1 (by simp), h2⟩
    · rw [if_neg h]; exact ⟨Nat.le_refl _, rfl⟩
theorem strip_letters : ∀ (m : Nat) (l t : List Int), Letters l → Letters t → Letters (strip m l t).1 ∧ Letters (strip m l t).2
  | 0, l, t, a, b => ⟨a, b⟩
  | m + 1, l, t, a, b => by
    unfold strip
    by_cases h : l ≠ [] ∧ lst0 l = lst0 t
    · rw [if_pos h]
      refine strip_letters m _ _ (fun x hx => a x (List.mem_of_mem_take hx)) fun x hx => ?_
      unfold rotR at hx
      rcases List.mem_append.mp hx with hx | hx
      · exact b x (List.mem_of_mem_drop hx)
      · exact b x (List.mem_of_mem_take hx)
    · rw [if_neg h]; exact ⟨a, b⟩
end Ev

set_option autoImplicit false
set_option linter.all false
set_option maxRecDepth 100000
set_option maxHeartbeats 1000000
/-! Endless words in plain lists: one plain form. -/
namespace Ev
open PySem
/-- the size of the root -/
noncomputable def rsz (t : List Int) : Nat := open Classical in if h : t ≠ [] then Classical.choose (root_ex h) else 0
theorem rsz_root {t : List Int} (h : t ≠ []) : IsRoot t (rsz t) := by
  unfold rsz
  rw [dif_pos h]
  exact Classical.choose_spec (root_ex h)
theorem root_uniq {t : List Int} {s s' : Nat} (h : IsRoot t s) (h' : IsRoot t s') : s = s' := by
  rcases Nat.lt_trichotomy s s' with c | c | c
  · exact absurd h.per (h'.least s h.pos c)
  · exact c
  · exact absurd h'.per (h.least s' h'.pos c)
noncomputable def plainC (l t : List Int) : List Int × List Int := plainE l t (rsz t)
theorem plain_rsz {t : List Int} {s : Nat} (l : List Int) (h : IsRoot t s) : plainE l t s = plainC l t := by
  have hn : t ≠ [] := by
    rintro rfl
    have := h.pos
    have := h.le
    simp at this; omega
  unfold plainC
  rw [root_uniq h (rsz_root hn)]
/-- a round that is no power, a lead that ends otherwise -/
structure Plain (l t : List Int) : Prop where
  root : IsRoot t t.length
  last : l = [] ∨ lst0 l ≠ lst0 t
theorem Plain.tn {l t : List Int} (h : Plain l t) : t ≠ [] := by
  rintro rfl
  have := h.root.pos
  simp at this
theorem rotR_get {t : List Int} (h : t ≠ []) (j : Nat) : (rotR t)[j % t.length]? = t[(j + (t.length - 1)) % t.length]? := by
  have hp := List.length_pos_iff.mpr h
  have hm := Nat.mod_lt j hp
  rw [← Nat.mod_add_mod]
  generalize j % t.length = i at hm
  unfold rotR
  by_cases c : i = 0
  · subst c
    rw [List.getElem?_append_left (by simp; omega), List.getElem?_drop, Nat.mod_eq_of_lt (by omega)]
    congr 1; omega
  · rw [List.getElem?_append_right (by simp; omega), List.getElem?_take_of_lt (by simp; omega)]
    have e : (i + (t.length - 1)) % t.length = i - 1 := by
      rw [show i + (t.length - 1) = (i - 1) + t.length by omega, Nat.add_mod_right, Nat.mod_eq_of_lt (by omega)]
    rw [e]
    congr 1
    simp; omega
theorem rotR_root {t : List Int} (h : IsRoot t t.length) : IsRoot (rotR t) (rotR t).length := by
  have hp := h.pos
  have hn : t ≠ [] := List.length_pos_iff.mp hp
  refine ⟨by rw [rotR_len]; exact hp, Nat.le_refl _, per_len _, fun d d1 d2 hd => ?_⟩
  rw [rotR_len] at d2
  refine h.least d d1 d2 ?_
  have hq : d ∣ t.length := by have := hd.1; rwa [rotR_len] at this
  have w := per_word (by rw [rotR_len]; exact hp) hd
  rw [rotR_len] at w
  refine word_per hp hq fun i => ?_
  have a := w (i + 1)
  rw [rotR_get hn, rotR_get hn] at a
  rw [show i + 1 + d + (t.length - 1) = (i + d) + t.length by omega, show i + 1 + (t.length - 1) = i + t.length by omega, Nat.add_mod_right, Nat.add_mod_right] at a
  exact a
theorem strip_plain : ∀ (m : Nat) (l t : List Int), l.length ≤ m → IsRoot t t.length → Plain (strip m l t).1 (strip m l t).2
  | 0, l, t, hl, h => ⟨h, .inl (show l = [] from List.length_eq_zero_iff.mp (by omega))⟩
  | m + 1, l, t, hl, h => by
    unfold strip
    by_cases c : l ≠ [] ∧ lst0 l = lst0 t
    · rw [if_pos c]
      exact strip_plain m _ _ (by simp; omega) (rotR_root h)
    · rw [if_neg c]
      refine ⟨h, ?_⟩
      by_cases e : l = []
      · exact .inl e
      · exact .inr fun z => c ⟨e, z⟩
theorem take_root {t : List Int} {s : Nat} (h : IsRoot t s) : IsRoot (t.take s) (t.take s).length := by
  have hp := h.pos
  have hs := h.le
  have hl : (t.take s).length = s := by simp; omega
  refine ⟨by omega, Nat.le_refl _, per_len _, fun d d1 d2 hd => ?_⟩
  rw [hl] at d2
  refine h.least d d1 d2 ⟨Nat.dvd_trans (by have := hd.1; rwa [hl] at this) h.per.1, fun i hi => ?_⟩
  have a := h.per.2 i hi
  have b := hd.2 (i % s) (by rw [hl]; exact Nat.mod_lt _ hp)
  have m1 := Nat.mod_lt i hp
  have m2 : i % s % d < s := Nat.lt_of_le_of_lt (Nat.mod_le _ _) m1
  rw [List.getElem?_take_of_lt m1, List.getElem?_take_of_lt m2] at b
  rw [a, b, Nat.mod_mod_of_dvd _ (by have := hd.1; rwa [hl] at this)]
theorem plainC_plain {t : List Int} (l : List Int) (h : t ≠ []) : Plain (plainC l t).1 (plainC l t).2 := strip_plain _ _ _ (Nat.le_refl _) (take_root (rsz_root h))
theorem eAt_plainC {t : List Int} (l : List Int) (h : t ≠ []) (i : Nat) : eAt (plainC l t).1 (plainC l t).2 i = eAt l t i := eAt_plain (rsz_root h) i
theorem eAt_per (l : List Int) {t : List Int} (i : Nat) (h : l.length ≤ i) : eAt l t (i + t.length) = eAt l t i := by
  unfold eAt
  rw [if_neg (by omega), if_neg (by omega), show i + t.length - l.length = (i - l.length) + t.length by omega, Nat.add_mod_right]
theorem eAt_per_mul (l : List Int) {t : List Int} (k i : Nat) (h : l.length ≤ i) : eAt l t (i + t.length * k) = eAt l t i := by
  induction k with
  | zero => rfl
  | succ k ih =>
    rw [Nat.mul_succ, ← Nat.add_assoc, eAt_per l _ (by omega), ih]
/-- any period from anywhere on is a multiple of a plain round's length -/
theorem plain_dvd {l t : List Int} (h : Plain l t) {N p : Nat} (hp : 0 < p) (hq : ∀ i, N ≤ i → eAt l t (i + p) = eAt l t i) : t.length ∣ p := by
  have ht := h.root.pos
  let B := l.length + t.length * N
  have hB : N ≤ B := Nat.le_trans (Nat.le_mul_of_pos_left N ht) (Nat.le_add_left _ _)
  let g : Nat → Int := fun i => eAt l t (B + i)
  have g1 : ∀ i, g (i + t.length) = g i := fun i => by
    show eAt l t (B + (i + t.length)) = eAt l t (B + i)
    rw [← Nat.add_assoc]
    exact eAt_per l _ (by show l.length ≤ l.length + t.length * N + i; omega)
  have g2 : ∀ i, g (i + p) = g i := fun i => by
    show eAt l t (B + (i + p)) = eAt l t (B + i)
    rw [← Nat.add_assoc]
    exact hq _ (by omega)
  have gd := gcd_per ht hp g1 g2
  have gv : ∀ i, g i = t[i % t.length]?.getD 0 := fun i => by
    show eAt l t (B + i) = _
    have e : B + i = (l.length + i) + t.length * N := by show l.length + t.length * N + i = _; omega
    rw [e, eAt_per_mul l _ _ (by omega)]
    unfold eAt
    rw [if_neg (by omega), show l.length + i - l.length = i by omega]
  have hd : Nat.gcd t.length p ∣ t.length := Nat.gcd_dvd_left _ _
  have d0 : 0 < Nat.gcd t.length p := Nat.gcd_pos_of_pos_left _ ht
  have hle := Nat.le_of_dvd ht hd
  by_cases c : Nat.gcd t.length p = t.length
  · rw [← c]; exact Nat.gcd_dvd_right _ _
  · refine absurd (word_per ht hd fun i => ?_) (h.root.least _ d0 (by omega))
    have a := gd i
    rw [gv, gv] at a
    have m1 := Nat.mod_lt (i + Nat.gcd t.length p) ht
    have m2 := Nat.mod_lt i ht
    rw [List.getElem?_eq_getElem m1, List.getElem?_eq_getElem m2] at a ⊢
    simpa using a
theorem eAt_last_lead {l t : List Int} (h : l ≠ []) : eAt l t (l.length - 1) = lst0 l := by
  have := List.length_pos_iff.mpr h
  unfold eAt lst0
  rw [if_pos (by omega)]
theorem eAt_last_turn {l t : List Int} (ht : t ≠ []) (h : l ≠ []) : eAt l t (l.length - 1 + t.length) = lst0 t := by
  have := List.length_pos_iff.mpr h
  have := List.length_pos_iff.mpr ht
  unfold eAt lst0
  rw [if_neg (by omega), show l.length - 1 + t.length - l.length = t.length - 1 by omega, Nat.mod_eq_of_lt (by omega)]
/-- the same letters, the same plain form -/
theorem plain_uniq {l t l' t' : List Int} (h : Plain l t) (h' : Plain l' t') (e : ∀ i, eAt l t i = eAt l' t' i) : l = l' ∧ t = t' := by
  have ht := h.root.pos
  have ht' := h'.root.pos
  have d1 : t.length ∣ t'.length := plain_dvd h ht' (N := l'.length) fun i hi => by rw [e, e]; exact eAt_per l' i hi
  have d2 : t'.length ∣ t.length := plain_dvd h' ht (N := l.length) fun i hi => by rw [← e, ← e]; exact eAt_per l i hi
  have et : t.length = t'.length := Nat.dvd_antisymm d1 d2
  have no : ∀ {l t l' t' : List Int}, Plain l t → Plain l' t' → (∀ i, eAt l t i = eAt l' t' i) → t.length = t'.length → ¬ l.length < l'.length := by
    intro l t l' t' h h' e et c
    have hn : l' ≠ [] := by rintro rfl; simp at c
    rcases h'.last with z | z
    · exact hn z
    · refine z ?_
      rw [← eAt_last_lead (t := t') hn, ← eAt_last_turn h'.tn hn, ← e, ← e, ← et]
      exact (eAt_per l _ (by omega)).symm
  have el : l.length = l'.length := by
    have a := no h h' e et
    have b := no h' h (fun i => (e i).symm) et.symm
    omega
  constructor
  · refine List.ext_getElem el fun i h1 h2 => ?_
    have a := e i
    unfold eAt at a
    rw [if_pos h1, if_pos h2, List.getElem?_eq_getElem h1, List.getElem?_eq_getElem h2] at a
    simpa using a
  · refine List.ext_getElem et fun i h1 h2 => ?_
    have a := e (l.length + i)
    unfold eAt at a
    rw [if_neg (by omega), if_neg (by omega), show l.length + i - l.length = i by omega, show l.length + i - l'.length = i by omega, Nat.mod_eq_of_lt h1, Nat.mod_eq_of_lt h2, List.getElem?_eq_getElem h1, List.getElem?_eq_getElem h2] at a
    simpa using a
theorem plainC_uniq {l t l' t' : List Int} (ht : t ≠ []) (ht' : t' ≠ []) (e : ∀ i, eAt l t i = eAt l' t' i) : plainC l t = plainC l' t' := by
  obtain ⟨a, b⟩ := plain_uniq (plainC_plain l ht) (plainC_plain l' ht') fun i => by rw [eAt_plainC l ht, eAt_plainC l' ht', e]
  exact Prod.ext a b
/-! ### from an index on -/
def fromL (l : List Int) (i : Nat) : List Int := l.drop i
def fromT (l t : List Int) (i : Nat) : List Int := if i ≤ l.length then t else t.drop ((i - l.length) % t.length) ++ t.take ((i - l.length) % t.length)
theorem turn_get {t : List Int} (ht : t ≠ []) {r : Nat} (hr : r < t.length) (j : Nat) : (t.drop r ++ t.take r)[j % t.length]? = t[(r + j) % t.length]? := by
  have hp := List.length_pos_iff.mpr ht
  have hm := Nat.mod_lt j hp
  rw [show (r + j) % t.length = (r + j % t.length) % t.length by rw [Nat.add_mod_mod]]
  generalize j % t.length = i at hm
  by_cases c : i < t.length - r
  · rw [List.getElem?_append_left (by simp; omega), List.getElem?_drop, Nat.mod_eq_of_lt (by omega)]
  · rw [List.getElem?_append_right (by simp; omega), List.getElem?_take_of_lt (by simp; omega)]
    rw [show r + i = (r + i - t.length) + t.length by omega, Nat.add_mod_right, Nat.mod_eq_of_lt (by omega)]
    congr 1
    simp; omega
theorem fromT_len {l t : List Int} (ht : t ≠ []) (i : Nat) : (fromT l t i).length = t.length := by
  have hp := List.length_pos_iff.mpr ht
  unfold fromT
  split
  · rfl
  · have := Nat.mod_lt (i - l.length) hp
    simp; omega
theorem fromT_ne {l t : List Int} (ht : t ≠ []) (i : Nat) : fromT l t i ≠ [] := by
  have hp := List.length_pos_iff.mpr ht
  have := fromT_len (l := l) ht i
  intro z
  rw [z] at this
  simp at this; omega
theorem eAt_from {l t : List Int} (ht : t ≠ []) (i j : Nat) : eAt (fromL l i) (fromT l t i) j = eAt l t (i + j) := by
  have hp := List.length_pos_iff.mpr ht
  have hlen := fromT_len (l := l) ht i
  unfold eAt
  rw [hlen]
  unfold fromL fromT
  rw [List.length_drop]
  by_cases c : i ≤ l.length
  · rw [if_pos c]
    by_cases c2 : j < l.length - i
    · rw [if_pos c2, if_pos (by omega), List.getElem?_drop]
    · rw [if_neg c2, if_neg (by omega), show j - (l.length - i) = i + j - l.length by omega]
  · rw [if_neg c, if_neg (by omega), if_neg (by omega), show l.length - i = 0 by omega, Nat.sub_zero]
    rw [turn_get ht (Nat.mod_lt _ hp), Nat.mod_add_mod]
    congr 3
    omega
noncomputable def fromC (l t : List Int) (i : Nat) : List Int × List Int := plainC (fromL l i) (fromT l t i)
theorem from_plain {l t : List Int} (ht : t ≠ []) (i : Nat) : fromC (plainC l t).1 (plainC l t).2 i = fromC l t i := by
  have hp := (plainC_plain l ht).tn
  refine plainC_uniq (fromT_ne hp i) (fromT_ne ht i) fun j => ?_
  rw [eAt_from hp, eAt_from ht, eAt_plainC l ht]
/-! ### the order -/
def mostE (a b : List Int × List Int) : Nat := max a.1.length b.1.length + a.2.length + b.2.length
def apartE (a b : List Int × List Int) : Option Nat := (List.range (mostE a b)).find? fun i => decide (eAt a.1 a.2 i ≠ eAt b.1 b.2 i)
def lessE (a b : List Int × List Int) : Bool := match apartE a b with
  | some i => decide (eAt a.1 a.2 i < eAt b.1 b.2 i)
  | none => false
theorem apart_self (a : List Int × List Int) : apartE a a = none := by
  unfold apartE
  rw [List.find?_eq_none]
  simp
theorem less_self (a : List Int × List Int) : lessE a a = false := by
  unfold lessE
  rw [apart_self]
/-! ### turns -/
def turnsL (t : List Int) : List (List Int) := (List.range (max 1 t.length)).map fun i => t.drop i ++ t.take i
def minT (t : List Int) : List Int := minW t ((List.range' 1 (t.length - 1)).map fun i => t.drop i ++ t.take i)
theorem turns_cons (t : List Int) : turnsL t = t :: (List.range' 1 (t.length - 1)).map fun i => t.drop i ++ t.take i := by
  unfold turnsL
  rw [List.range_eq_range', show max 1 t.length = (t.length - 1) + 1 by omega, List.range'_succ]
  simp
/-- each once, next to one another -/
def uniqW (ls : List (List Int)) : List (List Int) := ls.foldl (fun acc x => if acc = [] ∨ acc.getLastD [] ≠ x then acc ++ [x] else acc) []
theorem uniq_go (ls : List (List Int)) : ∀ acc : List (List Int), (∀ x ∈ ls.foldl (fun acc x => if acc = [] ∨ acc.getLastD [] ≠ x then acc ++ [x] else acc) acc, x ∈ acc ∨ x ∈ ls) ∧ (acc ≠ [] → (ls.foldl (fun acc x => if acc = [] ∨ acc.getLastD [] ≠ x then acc ++ [x] else acc) acc)[0]? = acc[0]?) ∧ (ls.foldl (fun acc x => if acc = [] ∨ acc.getLastD [] ≠ x then acc ++ [x] else acc) acc).length ≤ acc.length + ls.length := by
  induction ls with
  | nil => intro acc; simp
  | cons y ls ih =>
    intro acc
    rw [List.foldl_cons]
    by_cases c : acc = [] ∨ acc.getLastD [] ≠ y
    · rw [if_pos c]
      obtain ⟨h1, h2, h3⟩ := ih (acc ++ [y])
      refine ⟨fun x hx => ?_, fun hn => ?_, by simp at h3 ⊢; omega⟩
      · rcases h1 x hx with h | h
        · rcases List.mem_append.mp h with h | h
          · exact .inl h
          · simp at h; subst h; simp
        · simp [h]
      · rw [h2 (by simp), List.getElem?_append_left (List.length_pos_iff.mpr hn)]
    · rw [if_neg c]
      obtain ⟨h1, h2, h3⟩ := ih acc
      exact ⟨fun x hx => (h1 x hx).elim .inl fun h => .inr (by simp [h]), h2, by rw [List.length_cons]; omega⟩
theorem uniq_mem {ls : List (List Int)} {x : List Int} (h : x ∈ uniqW ls) : x ∈ ls := by
  rcases (uniq_go ls []).1 x h with h | h
  · simp at h
  · exact h
theorem uniq_len (ls : List (List Int)) : (uniqW ls).length ≤ ls.length := by
  have := (uniq_go ls []).2.2
  rw [List.length_nil, Nat.zero_add] at this
  exact this
theorem uniq_head (y : List Int) (ls : List (List Int)) : (uniqW (y :: ls))[0]? = some y := by
  show ((y :: ls).foldl _ [])[0]? = _
  rw [List.foldl_cons, if_pos (.inl rfl)]
  rw [(uniq_go ls ([] ++ [y])).2.1 (by simp)]
  rfl
theorem lt_asymmL {a b : List Int} (h : a < b) : ¬ b < a := fun h' => List.lt_irrefl a (List.lt_trans h h')
theorem minW_le : ∀ (ls : List (List Int)) (x : List Int), (minW x ls ∈ x :: ls) ∧ ∀ y ∈ x :: ls, ¬ y < minW x ls
  | [], x => ⟨by simp [minW], fun y hy => by simp at hy; subst hy; exact List.lt_irrefl _⟩
  | z :: ls, x => by
    have e : minW x (z :: ls) = minW (if z < x then z else x) ls := rfl
    rw [e]
    obtain ⟨h1, h2⟩ := minW_le ls (if z < x then z else x)
    constructor
    · rcases List.mem_cons.mp h1 with h | h
      · rw [h]; split <;> simp
      · simp [h]
    · intro y hy
      by_cases c : z < x
      · rw [if_pos c] at h2 ⊢
        rcases List.mem_cons.mp hy with rfl | hy
        · intro w
          exact h2 z (by simp) (List.lt_trans c w)
        · exact h2 y hy
      · rw [if_neg c] at h2 ⊢
        rcases List.mem_cons.mp hy with rfl | hy
        · exact h2 y (by simp)
        · rcases List.mem_cons.mp hy with rfl | hy
          · intro w
            have hx := h2 x (by simp)
            -- y < m, not x < m: then y < x
            have : y < x := by
              rcases Classical.em (minW x ls < x) with q | q
              · exact List.lt_trans w q
              · have : minW x ls = x := List.le_antisymm hx q
                rw [this] at w; exact w
            exact c this
          · exact h2 y (by simp [hy])
theorem sortW_head {x : List Int} {ls : List (List Int)} : (sortW (x :: ls))[0]? = some (minW x ls) := by
  have hp : (sortW (x :: ls)).Perm (x :: ls) := List.mergeSort_perm _ _
  have hs : (sortW (x :: ls)).Pairwise fun a b => (!decide (b < a)) = true := by
    apply List.pairwise_mergeSort
    · intro a b c h1 h2
      simp only [Bool.not_eq_true', decide_eq_false_iff_not] at h1 h2 ⊢
      exact List.le_trans (l₁ := a) (l₂ := b) (l₃ := c) h1 h2
    · intro a b
      simp only [Bool.or_eq_true, Bool.not_eq_true', decide_eq_false_iff_not]
      exact List.le_total a b
  obtain ⟨m1, m2⟩ := minW_le ls x
  cases hc : sortW (x :: ls) with
  | nil => rw [hc] at hp; exact absurd hp.length_eq (by simp)
  | cons y ys =>
    rw [hc] at hp hs
    have hy : y ∈ x :: ls := hp.mem_iff.mp (by simp)
    have hm : minW x ls ∈ y :: ys := hp.mem_iff.mpr m1
    have a : ¬ minW x ls < y := by
      rcases List.mem_cons.mp hm with h | h
      · rw [h]; exact List.lt_irrefl _
      · have := (List.pairwise_cons.mp hs).1 _ h
        simpa using this
    have b := m2 y hy
    have : y = minW x ls := List.le_antisymm a b
    simp [this]
theorem turns_head (t : List Int) : (uniqW (sortW (turnsL t)))[0]? = some (minT t) := by
  rw [turns_cons]
  have h := sortW_head (x := t) (ls := (List.range' 1 (t.length - 1)).map fun i => t.drop i ++ t.take i)
  cases hc : sortW (t :: (List.range' 1 (t.length - 1)).map fun i => t.drop i ++ t.take i) with
  | nil => rw [hc] at h; simp at h
  | cons y ys =>
    rw [hc] at h
    simp at h
    rw [uniq_head, h]; rfl
end Ev

set_option autoImplicit false
set_option linter.all false
set_option maxRecDepth 100000
set_option maxHeartbeats 1000000
/-! Ev: things in order, each once; turns; the least one; by any table. -/
namespace Ev
open PySem H
namespace H
def f_law_unlike : Fn := ⟨1, 3, (.cons (.asg (.name 1 0) (.cel (.disp .nil 1)) 2) (.cons (.for_ (.name 2 5) (.val (.inl (.srt (.loc 0 3) 4))) (.cons (.iff (.bool false (.cons (.cmp .eq (.loc 1 6) (.inl (.disp .nil 7)) 8) (.cons (.cmp .ne (.idx (.loc 1 9) (.neg (.cint 1 10) 11) 12) (.loc 2 13) 14) .nil)) 15) (.cons (.ex (.app (.loc 1 16) (.loc 2 17) 18) 19) .nil) .nil 20) .nil) 21) (.cons (.ret (.frz (.loc 1 22)) 23) .nil)))⟩
def f_law_turns : Fn := ⟨1, 2, (.cons (.ret (.call 34 (.cons (.inl (.lc (.name 1 5) (.rng1 (.max2 (.cint 1 0) (.len (.loc 0 1) 2) 3) 4) .nil (.bin .add (.inl (.listOf (.slc (.loc 0 6) (.some (.loc 1 7)) .none 8) 9)) (.inl (.listOf (.slc (.loc 0 10) .none (.some (.loc 1 11)) 12) 13)) 14) 15)) .nil) 16) 17) .nil)⟩
def f_least_turn_of : Fn := ⟨1, 2, (.cons (.ret (.minL (.inl (.lc (.name 1 5) (.rng1 (.max2 (.cint 1 0) (.len (.loc 0 1) 2) 3) 4) .nil (.bin .add (.slc (.loc 0 6) (.some (.loc 1 7)) .none 8) (.slc (.loc 0 9) .none (.some (.loc 1 10)) 11) 12) 13)) 14) 15) .nil)⟩
end H
section
variable {tbl : Nat → Option Ent} {n k : Nat} {M : Mem}
theorem last_map (acc : List (List Int)) (h : acc ≠ []) {M : Mem} : idxD M (.lst (acc.map fun l => W l)) (.int (-1)) = some (W (acc.getLastD [])) := by
  have hl := List.length_pos_iff.mpr h
  simp only [idxD, seqOf_lst, atD, ixOf, List.length_map]
  rw [if_neg (by decide), if_pos (by omega), show ((-1 : Int) + (acc.length : Int)).toNat = acc.length - 1 by omega]
  simp only [List.getElem?_map]
  rw [List.getElem?_eq_getElem (by omega)]
  simp only [Option.map_some, Option.some.injEq]
  congr 2
  rw [List.getLastD_eq_getLast?, List.getLast?_eq_getElem?, List.getElem?_eq_getElem (by omega)]
  rfl
theorem cbeq_refl : ∀ c : C, C.beq c c = true
  | .dead => rfl
  | .lst xs => by simp [C.beq, beqs_refl]
  | .dic a b => by simp [C.beq, beqs_refl]
theorem beqC_refl : ∀ S : List C, beqC S S = true
  | [] => rfl
  | c :: S => by simp [beqC, cbeq_refl, beqC_refl S]
theorem trim_more {S : List C} {d : D} {c : C} {st : Option Strm} (h : d.pure = true) : trim S d ⟨S ++ [c], st⟩ = (d, ⟨S, st⟩) := by
  simp [trim, h, beqC_refl]
def UI (ls : List (List Int)) (M : Mem) (xs : List (List Int)) (env : Env) (M' : Mem) : Prop := ∃ acc a, env = [some (.lst (ls.map fun l => W l)), some (.cell M.S.length), a] ∧ M' = ⟨M.S ++ [.lst (acc.map fun l => W l)], M.st⟩ ∧ acc.length + xs.length ≤ ls.length ∧ (∀ x ∈ xs, x.length ≤ 100000) ∧ (∀ x ∈ acc, x.length ≤ 100000) ∧ uniqW (sortW ls) = xs.foldl (fun acc x => if acc = [] ∨ acc.getLastD [] ≠ x then acc ++ [x] else acc) acc
theorem law_unlike_eq (t : tbl 34 = some (.code f_law_unlike)) (ls : List (List Int)) (h : ls.length ≤ 100000) (hw : ∀ l ∈ ls, l.length ≤ 100000) : callN tbl n (k + 1) 34 [.lst (ls.map fun l => W l)] M = some (.lst ((uniqW (sortW ls)).map fun l => W l), M) := by
  refine (ok_code t rfl ?_).eq
  simp [f_law_unlike, -List.map_map, sortD_W ls (by omega)]
  have hl : (sortW ls).length = ls.length := List.length_mergeSort _
  have hm : ∀ x ∈ sortW ls, x.length ≤ 100000 := fun x hx => hw x (List.mem_mergeSort.mp hx)
  refine ok_forI (fun l : List Int => W l) (UI ls M) (fun _ _ _ _ => rfl) (fun x xs env M' h' => ?_) (fun env M' h' => ?_) (sortW ls) _ _ ⟨[], none, rfl, rfl, by simp [hl], hm, by simp, rfl⟩
  · obtain ⟨acc, a, rfl, rfl, hc, hx, ha, e⟩ := h'
    rw [List.foldl_cons] at e
    simp only [List.length_cons] at hc
    have hlim : acc.length < 16777216 := by omega
    have hg : (M.S ++ [C.lst (acc.map fun l => W l)])[M.S.length]? = some (.lst (acc.map fun l => W l)) := by simp
    have e0 : ∀ st, eqD ⟨M.S ++ [.lst (acc.map fun l => W l)], st⟩ (.cell M.S.length) (.lst []) = some (decide (acc = [])) := fun st => by
      rw [eqD_cell hg (trees_W acc fun l hl => by have := ha l hl; omega) (by have := hgts_W acc; omega)]
      exact eqD_Ws acc [] (fun l hl => by have := ha l hl; omega) (by simp) (by omega) (by simp)
    have e1 : acc ≠ [] → ∀ st, idxD ⟨M.S ++ [.lst (acc.map fun l => W l)], st⟩ (.cell M.S.length) (.int (-1)) = some (W (acc.getLastD [])) := fun hne st => by
      have z : idxD ⟨M.S ++ [.lst (acc.map fun l => W l)], st⟩ (.lst (acc.map fun l => W l)) (.int (-1)) = some (W (acc.getLastD [])) := last_map acc hne
      rw [← z]
      simp [idxD, seqOf, listOf]
    by_cases hz : acc = [] ∨ acc.getLastD [] ≠ x
    · rw [if_pos hz] at e
      have fin : UI ls M xs [some (D.lst (ls.map fun l => W l)), some (.cell M.S.length), some (W x)] ⟨M.S ++ [.lst (acc.map (fun l => W l) ++ [W x])], M.st⟩ :=
        ⟨acc ++ [x], _, rfl, by simp, by simp; omega, fun y hy => hx y (by simp [hy]), fun y hy => by
          rcases List.mem_append.mp hy with h | h
          · exact ha y h
          · simp at h; subst h; exact hx _ (by simp), e⟩
      by_cases hn : acc = []
      · have e0' := e0
        rw [hn] at e0' fin
        simp only [List.map_nil, decide_true] at e0'
        subst hn
        simp [-List.map_map, e0', setC]
        simpa using fin
      · have hne : acc.getLastD [] ≠ x := hz.resolve_left hn
        simp [-List.map_map, -List.getLastD_eq_getLast?, e0, hn, e1 hn, setC, hlim, hne]
        simpa using fin
    · rw [if_neg hz] at e
      have hn : acc ≠ [] := fun z => hz (.inl z)
      have hq : acc.getLastD [] = x := Classical.byContradiction fun z => hz (.inr z)
      simp [-List.map_map, -List.getLastD_eq_getLast?, e0, hn, e1 hn, setC, hlim, hq]
      exact ⟨acc, _, rfl, rfl, by omega, fun y hy => hx y (by simp [hy]), ha, e⟩
  · obtain ⟨acc, a, rfl, rfl, hc, hx, ha, e⟩ := h'
    rw [List.foldl_nil] at e
    rw [e]
    have hp := trees_pures _ (trees_W acc fun l hl => by have := ha l hl; omega)
    simp [-List.map_map, freeze, setC, hp]
    rw [trim_more (by simpa [D.pure] using hp)]
/-- its turns, of a list, unlike, in order -/
theorem law_turns_eq (t0 : tbl 34 = some (.code f_law_unlike)) (t : tbl 35 = some (.code f_law_turns)) (l : List Int) (h : l.length ≤ 1000) : callN tbl n (k + 2) 35 [W l] M = some (.lst ((uniqW (sortW (turnsL l))).map fun l => W l), M) := by
  refine call_eq t rfl ?_
  have e1 : (if (1 : Int) < (l.length : Int) then (l.length : Int) else 1) = ((max 1 l.length : Nat) : Int) := by omega
  simp [-Int.natCast_ediv, -Int.natCast_emod, -Int.natCast_mul, -List.map_take, -List.map_drop, f_law_turns, e1, in62_n (show max 1 l.length < 1000000 by omega), range_to]
  refine ok_lcm _ _ (fun (i : Nat) => W (l.drop i ++ l.take i)) rfl (fun i hi => ?_) (le_lim (by simp; omega)) ?_
  · simp [-Int.natCast_ediv, -Int.natCast_emod, -Int.natCast_mul, -List.map_take, -List.map_drop, add_W' (l.drop i) (l.take i) (by simp; omega)]
  · have e := law_unlike_eq (n := n) (k := k) (M := M) t0 (turnsL l) (by simp [turnsL]; omega) (fun x hx => by
      simp only [turnsL, List.mem_map] at hx
      obtain ⟨i, _, rfl⟩ := hx
      simp; omega)
    have e2 : (List.range (max 1 l.length)).map (fun (i : Nat) => W (l.drop i ++ l.take i)) = (turnsL l).map fun l => W l := by simp [turnsL]
    rw [e2]
    simp only [ok_some, e]
    simp
/-- the least turn, of a tuple -/
theorem least_turn_eq (t : tbl 294 = some (.code f_least_turn_of)) (l : List Int) (h : l.length ≤ 1000) : callN tbl n (k + 1) 294 [Tp l] M = some (Tp (minT l), M) := by
  refine call_eq t rfl ?_
  have e1 : (if (1 : Int) < (l.length : Int) then (l.length : Int) else 1) = ((max 1 l.length : Nat) : Int) := by omega
  simp [-Int.natCast_ediv, -Int.natCast_emod, -Int.natCast_mul, -List.map_take, -List.map_drop, f_least_turn_of, e1, in62_n (show max 1 l.length < 1000000 by omega), range_to]
  refine ok_lcm _ _ (fun (i : Nat) => Tp (l.drop i ++ l.take i)) rfl (fun i hi => ?_) (le_lim (by simp; omega)) ?_
  · simp [-Int.natCast_ediv, -Int.natCast_emod, -Int.natCast_mul, -List.map_take, -List.map_drop, add_T' (l.drop i) (l.take i) (by simp; omega)]
  · have e2 : (List.range (max 1 l.length)).map (fun (i : Nat) => Tp (l.drop i ++ l.take i)) = (turnsL l).map fun l => Tp l := by simp [turnsL]
    rw [e2, turns_cons, leastD_T]
    simp [minT]
end
end Ev

set_option autoImplicit false
set_option linter.all false
set_option maxRecDepth 100000
set_option maxHeartbeats 1000000
/-! Sets of tuples by their sorted lists; turns and the cuts that lead from one to the other. -/
namespace Ev
open PySem
theorem allInts_map : ∀ ks : List (List Int), allInts (ks.map Tq) = some ks
  | [] => rfl
  | k :: ks => by
    have h : ∀ k : List Int, intsD (k.map D.int) = some k := by
      intro k
      induction k with
      | nil => rfl
      | cons i k ih => simp [intsD, ih]
    simp [allInts, allInts_map ks, tupInts, h]
theorem setT_map {ks : List (List Int)} (h : ks.length < 64) (hn : (∀ k ∈ ks, k ≠ []) ∨ (uqL (srL ks)).length ≤ 1) : setT (ks.map Tq) = some ((uniqW (sortW ks)).map Tq) := by
  unfold setT
  rw [allInts_map]
  have e : (decide (ks.length < 64) && (ks.all (fun k => !k.isEmpty) || decide ((uqL (srL ks)).length ≤ 1))) = true := by
    simp only [Bool.and_eq_true, Bool.or_eq_true, decide_eq_true_eq, List.all_eq_true, Bool.not_eq_true', List.isEmpty_eq_false_iff]
    exact ⟨h, hn⟩
  simp only
  rw [if_pos e]
  rfl
theorem setT_Tp {ks : List (List Int)} (h : ks.length < 64) (hn : (∀ k ∈ ks, k ≠ []) ∨ (uqL (srL ks)).length ≤ 1) : setT (ks.map fun l => Tp l) = some ((uniqW (sortW ks)).map fun l => Tp l) := setT_map h hn
theorem uniq_iff {ks : List (List Int)} {x : List Int} : x ∈ uniqW (sortW ks) ↔ x ∈ ks := (uq_sr ks).2 x
theorem uniq_asc (ks : List (List Int)) : (uniqW (sortW ks)).Pairwise (· < ·) := (uq_sr ks).1
theorem set_turns {l : List Int} (h : l.length ≤ 60) : setT ((turnsL l).map fun l => Tp l) = some ((uniqW (sortW (turnsL l))).map fun l => Tp l) := by
  refine setT_Tp (by simp [turnsL]; omega) ?_
  by_cases c : l = []
  · subst c; exact .inr (by decide +kernel)
  · refine .inl fun k hk => ?_
    obtain ⟨i, hi, rfl⟩ := List.mem_map.mp hk
    have hl := List.length_pos_iff.mpr c
    intro z
    have := congrArg List.length z
    simp at this hi
    omega
theorem turn_len {l x : List Int} (h : x ∈ turnsL l) : x.length = l.length := by
  obtain ⟨i, hi, rfl⟩ := List.mem_map.mp h
  simp; omega
/-- the cuts that lead from one word to the other -/
def pairsL (a b : List Int) : List (List Int × List Int) := if a.length = b.length then ((List.range (max 1 a.length)).filter fun i => decide (a.drop i ++ a.take i = b)).map fun i => (a.take i, a.drop i) else []
theorem pairs_turn (a b : List Int) : pairsL a b ≠ [] ↔ b ∈ turnsL a := by
  unfold pairsL
  by_cases c : a.length = b.length
  · rw [if_pos c]
    constructor
    · intro h
      obtain ⟨p, hp⟩ := List.exists_mem_of_ne_nil _ h
      obtain ⟨i, hi, rfl⟩ := List.mem_map.mp hp
      rw [List.mem_filter, decide_eq_true_eq] at hi
      exact List.mem_map.mpr ⟨i, hi.1, hi.2⟩
    · intro h z
      obtain ⟨i, hi, e⟩ := List.mem_map.mp h
      have : (a.take i, a.drop i) ∈ ([] : List (List Int × List Int)) := by
        rw [← z]; exact List.mem_map.mpr ⟨i, List.mem_filter.mpr ⟨hi, by simpa using e⟩, rfl⟩
      cases this
  · rw [if_neg c]
    constructor
    · intro h; exact absurd rfl h
    · intro h; exact absurd (turn_len h).symm c
theorem pairs_cut {a b : List Int} {p : List Int × List Int} (h : p ∈ pairsL a b) : a = p.1 ++ p.2 ∧ b = p.2 ++ p.1 := by
  unfold pairsL at h
  split at h
  · obtain ⟨i, hi, rfl⟩ := List.mem_map.mp h
    rw [List.mem_filter, decide_eq_true_eq] at hi
    exact ⟨by simp, hi.2.symm⟩
  · cases h
theorem pairs_law {a b : List Int} {p : List Int × List Int} (h : p ∈ pairsL a b) : a ++ p.1 = p.1 ++ b := by
  obtain ⟨e1, e2⟩ := pairs_cut h
  rw [e1, e2, List.append_assoc]
theorem pairs_few (a b : List Int) : (pairsL a b).length ≤ max 1 a.length := by
  unfold pairsL
  split
  · rw [List.length_map]
    refine Nat.le_trans (List.length_filter_le _ _) ?_
    simp
  · simp
end Ev

set_option autoImplicit false
set_option linter.all false
set_option maxRecDepth 100000
/-! k99: windows of an endless word. -/
namespace Ev
/-- the word of size n at i -/
def winE (l t : List Int) (n i : Nat) : List Int := (List.range n).map fun j => eAt l t (i + j)
def winsE (l t : List Int) (many n : Nat) : List (List Int) := (List.range many).map fun i => winE l t n i
def partsE (l t : List Int) (n : Nat) : List (List Int) := uniqW (sortW (winsE l t (l.length + t.length) n))
theorem win_len (l t : List Int) (n i : Nat) : (winE l t n i).length = n := by simp [winE]
theorem win_get {l t : List Int} {n i j : Nat} (h : j < n) : (winE l t n i)[j]? = some (eAt l t (i + j)) := by simp [winE, h]
theorem win_eq {l t : List Int} {n i j : Nat} : winE l t n i = winE l t n j ↔ ∀ m, m < n → eAt l t (i + m) = eAt l t (j + m) := by
  constructor
  · intro h m hm
    have := congrArg (fun x => x[m]?) h
    simp only [win_get hm] at this
    exact Option.some.inj this
  · intro h
    exact List.map_congr_left fun m hm => h m (List.mem_range.mp hm)
theorem win_take {l t : List Int} {n i : Nat} : (winE l t (n + 1) i).take n = winE l t n i := by
  simp only [winE, ← List.map_take, List.take_range]
  rw [Nat.min_eq_left (by omega)]
/-- each window stands early, too -/
theorem win_early {l t : List Int} (ht : t ≠ []) (n : Nat) : ∀ i, ∃ j, j < l.length + t.length ∧ winE l t n i = winE l t n j := by
  have hp : 0 < t.length := List.length_pos_iff.mpr ht
  intro i
  induction i using Nat.strongRecOn with
  | _ i ih =>
    by_cases h : i < l.length + t.length
    · exact ⟨i, h, rfl⟩
    · obtain ⟨j, hj, e⟩ := ih (i - t.length) (by omega)
      refine ⟨j, hj, e ▸ ?_⟩
      refine win_eq.mpr fun m _ => ?_
      rw [show i + m = (i - t.length + m) + t.length by omega]
      exact eAt_per l _ (by omega)
theorem parts_mem {l t : List Int} (ht : t ≠ []) {n : Nat} {x : List Int} : x ∈ partsE l t n ↔ ∃ i, x = winE l t n i := by
  unfold partsE
  rw [uniq_iff, winsE, List.mem_map]
  constructor
  · rintro ⟨i, _, rfl⟩; exact ⟨i, rfl⟩
  · rintro ⟨i, rfl⟩
    obtain ⟨j, hj, e⟩ := win_early ht n i
    exact ⟨j, List.mem_range.mpr hj, e.symm⟩
theorem parts_asc (l t : List Int) (n : Nat) : (partsE l t n).Pairwise (· < ·) := uniq_asc _
theorem asc_nodup {ls : List (List Int)} (h : ls.Pairwise (· < ·)) : ls.Nodup := List.Pairwise.imp (fun {a b} (hab : a < b) (e : a = b) => List.lt_irrefl b (e ▸ hab)) h
/-- the same letters, the same parts -/
theorem parts_same {l t l' t' : List Int} (ht : t ≠ []) (ht' : t' ≠ []) (h : ∀ i, eAt l t i = eAt l' t' i) (n : Nat) : partsE l t n = partsE l' t' n := by
  refine asc_same (parts_asc _ _ _) (parts_asc _ _ _) fun x => ?_
  rw [parts_mem ht, parts_mem ht']
  constructor
  · rintro ⟨i, rfl⟩; exact ⟨i, by simp [winE, h]⟩
  · rintro ⟨i, rfl⟩; exact ⟨i, by simp [winE, h]⟩
theorem len_sub : ∀ {a b : List (List Int)}, a.Nodup → (∀ x ∈ a, x ∈ b) → a.length ≤ b.length
  | [], _, _, _ => Nat.zero_le _
  | x :: a, b, hn, h => by
    obtain ⟨h1, h2⟩ := List.nodup_cons.mp hn
    obtain ⟨b1, b2, rfl⟩ := List.append_of_mem (h x (by simp))
    have := len_sub (b := b1 ++ b2) h2 fun y hy => by
      have hb := h y (by simp [hy])
      have hne : y ≠ x := fun e => h1 (e ▸ hy)
      simp only [List.mem_append, List.mem_cons] at hb ⊢
      rcases hb with hb | hb | hb
      · exact .inl hb
      · exact absurd hb hne
      · exact .inr hb
    simp only [List.length_append, List.length_cons] at this ⊢
    omega
theorem parts_few (l t : List Int) (n : Nat) : (partsE l t n).length ≤ l.length + t.length := by
  have := len_sub (asc_nodup (parts_asc l t n)) (b := winsE l t (l.length + t.length) n) fun x hx => uniq_iff.mp hx
  simpa [winsE] using this
/-- two endings of a plain form are unlike -/
theorem ends_unlike {l t : List Int} (h : Plain l t) {i j : Nat} (hij : i < j) (hj : j < l.length + t.length) : ∃ m, eAt l t (i + m) ≠ eAt l t (j + m) := by
  refine Classical.byContradiction fun hno => ?_
  have hall : ∀ m, eAt l t (i + m) = eAt l t (j + m) := fun m => Classical.byContradiction fun z => hno ⟨m, z⟩
  have hd : t.length ∣ j - i := plain_dvd h (N := i) (by omega) fun x hx => by
    have := hall (x - i)
    rw [show i + (x - i) = x by omega, show j + (x - i) = x + (j - i) by omega] at this
    exact this.symm
  have hp : 0 < t.length := List.length_pos_iff.mpr h.tn
  have hge := Nat.le_of_dvd (by omega) hd
  have hi : i < l.length := by omega
  have hl : l ≠ [] := fun e => by rw [e] at hi; simp at hi
  have e := hall (l.length - 1 - i)
  obtain ⟨q, hq⟩ := hd
  have hq1 : 0 < q := by
    rcases Nat.eq_zero_or_pos q with r | r
    · subst r; simp at hq; omega
    · exact r
  obtain ⟨q', rfl⟩ : ∃ q', q = q' + 1 := ⟨q - 1, by omega⟩
  rw [show i + (l.length - 1 - i) = l.length - 1 by omega, eAt_last_lead hl, show j + (l.length - 1 - i) = (l.length - 1 + t.length) + t.length * q' by rw [Nat.mul_succ] at hq; omega, eAt_per_mul l q' _ (by omega), eAt_last_turn h.tn hl] at e
  exact (h.last.resolve_left hl) e
/-- all windows are unlike: as many as places -/
theorem parts_full {l t : List Int} {n : Nat} (h : ∀ i j, i < j → j < l.length + t.length → winE l t n i ≠ winE l t n j) : (partsE l t n).length = l.length + t.length := by
  refine Nat.le_antisymm (parts_few l t n) ?_
  have hn : (winsE l t (l.length + t.length) n).Nodup := by
    unfold winsE
    refine List.pairwise_map.mpr ?_
    have := List.pairwise_lt_range (n := l.length + t.length)
    refine (List.Pairwise.and_mem.mp this).imp ?_
    rintro a b ⟨ha, hb, hab⟩
    exact h a b hab (List.mem_range.mp hb)
  have := len_sub hn (b := partsE l t n) fun x hx => uniq_iff.mpr hx
  simpa [winsE] using this
/-- else there are more of the next size -/
theorem parts_more {l t : List Int} (h : Plain l t) {n : Nat} (hn : (partsE l t n).length ≠ l.length + t.length) : (partsE l t n).length < (partsE l t (n + 1)).length := by
  have ht := h.tn
  obtain ⟨i, j, hij, hj, e⟩ : ∃ i j, i < j ∧ j < l.length + t.length ∧ winE l t n i = winE l t n j := Classical.byContradiction fun z => hn (parts_full fun i j h1 h2 e => z ⟨i, j, h1, h2, e⟩)
  obtain ⟨m, hm, hmin⟩ : ∃ m, eAt l t (i + m) ≠ eAt l t (j + m) ∧ ∀ m', m' < m → eAt l t (i + m') = eAt l t (j + m') := by
    obtain ⟨m, hm⟩ := ends_unlike h hij hj
    induction m using Nat.strongRecOn with
    | _ m ih =>
      by_cases hx : ∃ m', m' < m ∧ eAt l t (i + m') ≠ eAt l t (j + m')
      · obtain ⟨m', h1, h2⟩ := hx
        exact ih m' h1 h2
      · exact ⟨m, hm, fun m' hm' => Classical.byContradiction fun z => hx ⟨m', hm', z⟩⟩
  have hnm : n ≤ m := Classical.byContradiction fun z => hm (win_eq.mp e m (by omega))
  have e1 : winE l t n (i + (m - n)) = winE l t n (j + (m - n)) := win_eq.mpr fun x hx => by
    have := hmin (m - n + x) (by omega)
    rwa [← Nat.add_assoc, ← Nat.add_assoc] at this
  have e2 : winE l t (n + 1) (i + (m - n)) ≠ winE l t (n + 1) (j + (m - n)) := fun z => hm (by
    have := win_eq.mp z n (by omega)
    rwa [show i + (m - n) + n = i + m by omega, show j + (m - n) + n = j + m by omega] at this)
  have m1 : winE l t (n + 1) (i + (m - n)) ∈ partsE l t (n + 1) := (parts_mem ht).mpr ⟨_, rfl⟩
  obtain ⟨a, b, hab⟩ := List.append_of_mem m1
  have sub : ∀ x ∈ partsE l t n, x ∈ (a ++ b).map fun y => y.take n := by
    intro x hx
    obtain ⟨k, rfl⟩ := (parts_mem ht).mp hx
    have key : ∀ k', winE l t (n + 1) k' ≠ winE l t (n + 1) (i + (m - n)) → winE l t n k' ∈ (a ++ b).map fun y => y.take n := fun k' hk' => by
      have mk : winE l t (n + 1) k' ∈ partsE l t (n + 1) := (parts_mem ht).mpr ⟨_, rfl⟩
      rw [hab] at mk
      refine List.mem_map.mpr ⟨winE l t (n + 1) k', ?_, win_take⟩
      simp only [List.mem_append, List.mem_cons] at mk ⊢
      rcases mk with q | q | q
      · exact .inl q
      · exact absurd q hk'
      · exact .inr q
    by_cases hk : winE l t (n + 1) k = winE l t (n + 1) (i + (m - n))
    · have : winE l t n k = winE l t n (j + (m - n)) := by rw [← win_take (l := l) (t := t) (n := n) (i := k), hk, win_take, e1]
      rw [this]
      exact key _ (Ne.symm e2)
    · exact key k hk
  have := len_sub (asc_nodup (parts_asc l t n)) sub
  rw [hab]
  simp only [List.length_map, List.length_append, List.length_cons] at this ⊢
  omega
/-- the first size with as many parts as letters -/
theorem settled_ex {l t : List Int} (h : Plain l t) : ∃ s, s < l.length + t.length ∧ (partsE l t s).length = l.length + t.length ∧ ∀ n, n < s → (partsE l t n).length < l.length + t.length ∧ (partsE l t n).length < (partsE l t (n + 1)).length := by
  have hp : 0 < t.length := List.length_pos_iff.mpr h.tn
  have grow : ∀ n, n < (partsE l t n).length ∨ (partsE l t n).length = l.length + t.length := by
    intro n
    induction n with
    | zero =>
      left
      have : winE l t 0 0 ∈ partsE l t 0 := (parts_mem h.tn).mpr ⟨0, rfl⟩
      exact List.length_pos_of_mem this
    | succ n ih =>
      by_cases c : (partsE l t (n + 1)).length = l.length + t.length
      · exact .inr c
      · left
        have c2 : (partsE l t n).length ≠ l.length + t.length := fun e => by
          have : (partsE l t n).length ≤ (partsE l t (n + 1)).length := by
            have sub : ∀ x ∈ partsE l t n, x ∈ (partsE l t (n + 1)).map fun y => y.take n := fun x hx => by
              obtain ⟨k, rfl⟩ := (parts_mem h.tn).mp hx
              exact List.mem_map.mpr ⟨_, (parts_mem h.tn).mpr ⟨k, rfl⟩, win_take⟩
            have := len_sub (asc_nodup (parts_asc l t n)) sub
            simpa using this
          have := parts_few l t (n + 1)
          omega
        have := parts_more h c2
        rcases ih with ih | ih
        · omega
        · exact absurd ih c2
  have top : (partsE l t (l.length + t.length - 1)).length = l.length + t.length := by
    have := parts_few l t (l.length + t.length - 1)
    rcases grow (l.length + t.length - 1) with q | q
    · omega
    · exact q
  have : ∀ m, (partsE l t m).length = l.length + t.length → ∃ s, s ≤ m ∧ (partsE l t s).length = l.length + t.length ∧ ∀ n, n < s → (partsE l t n).length ≠ l.length + t.length := by
    intro m
    induction m using Nat.strongRecOn with
    | _ m ih =>
      intro hm
      by_cases hx : ∃ m', m' < m ∧ (partsE l t m').length = l.length + t.length
      · obtain ⟨m', h1, h2⟩ := hx
        obtain ⟨s, h3, h4⟩ := ih m' h1 h2
        exact ⟨s, by omega, h4⟩
      · exact ⟨m, Nat.le_refl _, hm, fun n hn e => hx ⟨n, hn, e⟩⟩
  obtain ⟨s, h1, h2, h3⟩ := this _ top
  exact ⟨s, by omega, h2, fun n hn => ⟨by have := parts_few l t n; have := h3 n hn; omega, parts_more h (h3 n hn)⟩⟩
end Ev

set_option Elab.async false
set_option autoImplicit false
set_option linter.all false
set_option maxRecDepth 100000
set_option maxHeartbeats 0
/-! ### the defs of the law k99 -/
namespace Ev.k99
open Ev
/-- 0:thing -/
def f_is_list : Fn := ⟨1, 1, (.cons (.ret (.isi (.loc 0 0) (.tup (.cons (.tyn .list 1) (.cons (.tyn .tuple 2) .nil)) 3) 4) 5) .nil)⟩
/-- 0:thing -/
def f_is_whole : Fn := ⟨1, 1, (.cons (.ret (.bool true (.cons (.isi (.loc 0 0) (.tyn .int 1) 2) (.cons (.nott (.isi (.loc 0 3) (.tyn .bool 4) 5) 6) .nil)) 7) 8) .nil)⟩
/-- 0:thing -/
def f_is_number : Fn := ⟨1, 1, (.cons (.ret (.bool true (.cons (.call 2 (.cons (.loc 0 0) .nil) 1) (.cons (.cmp .ge (.loc 0 2) (.cint 0 3) 4) .nil)) 5) 6) .nil)⟩
/-- 0:thing 1:many -/
def f_is_row : Fn := ⟨2, 2, (.cons (.ret (.bool true (.cons (.call 1 (.cons (.loc 0 0) .nil) 1) (.cons (.cmp .eq (.len (.loc 0 2) 3) (.loc 1 4) 5) .nil)) 6) 7) .nil)⟩
/-- 0:thing 1:letter -/
def f_kept_word : Fn := ⟨1, 2, (.cons (.iff (.bool false (.cons (.nott (.call 1 (.cons (.loc 0 0) .nil) 1) 2) (.cons (.nott (.allOf (.inl (.lc (.name 1 4) (.val (.loc 0 3)) .nil (.call 3 (.cons (.loc 1 5) .nil) 6) 7)) 8) 9) .nil)) 10) (.cons (.ret (.cnon 11) 12) .nil) .nil 13) (.cons (.ret (.tupOf (.loc 0 14) 15) 16) .nil))⟩
/-- 0:word 1:kept -/
def f_need_word : Fn := ⟨1, 2, (.cons (.asg (.name 1 0) (.call 4 (.cons (.loc 0 1) .nil) 2) 3) (.cons (.iff (.cmp .is (.loc 1 4) (.cnon 5) 6) (.cons (.nev 7) .nil) .nil 8) (.cons (.ret (.loc 1 9) 10) .nil)))⟩
/-- 0:word 1:size -/
def f_root_pair : Fn := ⟨1, 2, (.cons (.for_ (.name 1 6) (.rng2 (.cint 1 0) (.bin .add (.len (.loc 0 1) 2) (.cint 1 3) 4) 5) (.cons (.iff (.bool true (.cons (.cmp .eq (.bin .mod (.len (.loc 0 7) 8) (.loc 1 9) 10) (.cint 0 11) 12) (.cons (.cmp .eq (.bin .mul (.slc (.loc 0 13) .none (.some (.loc 1 14)) 15) (.bin .fdiv (.len (.loc 0 16) 17) (.loc 1 18) 19) 20) (.loc 0 21) 22) .nil)) 23) (.cons (.ret (.tup (.cons (.slc (.loc 0 24) .none (.some (.loc 1 25)) 26) (.cons (.bin .fdiv (.len (.loc 0 27) 28) (.loc 1 29) 30) .nil)) 31) 32) .nil) .nil 33) .nil) 34) (.cons (.ret (.tup (.cons (.loc 0 35) (.cons (.cint 1 36) .nil)) 37) 38) .nil))⟩
/-- 0:thing 1:lead 2:turn -/
def f_kept_endless : Fn := ⟨1, 3, (.cons (.iff (.nott (.call 59 (.cons (.loc 0 0) (.cons (.cint 2 1) .nil)) 2) 3) (.cons (.ret (.cnon 4) 5) .nil) .nil 6) (.cons (.par 1 2 (.call 4 (.cons (.idx (.loc 0 7) (.cint 0 8) 9) .nil) 10) (.call 4 (.cons (.idx (.loc 0 11) (.cint 1 12) 13) .nil) 14) 15) (.cons (.ret (.ife (.bool false (.cons (.cmp .is (.loc 1 17) (.cnon 18) 19) (.cons (.nott (.loc 2 20) 21) .nil)) 22) (.cnon 23) (.tup (.cons (.loc 1 24) (.cons (.loc 2 25) .nil)) 26) 27) 28) .nil)))⟩
/-- 0:endless 1:kept -/
def f_need_endless : Fn := ⟨1, 2, (.cons (.asg (.name 1 0) (.call 410 (.cons (.loc 0 1) .nil) 2) 3) (.cons (.iff (.cmp .is (.loc 1 4) (.cnon 5) 6) (.cons (.nev 7) .nil) .nil 8) (.cons (.ret (.loc 1 9) 10) .nil)))⟩
/-- 0:size -/
def f_check_length : Fn := ⟨1, 1, (.cons (.iff (.nott (.call 3 (.cons (.loc 0 0) .nil) 1) 2) (.cons (.nev 3) .nil) .nil 4) .nil)⟩
/-- 0:endless 1:index 2:lead 3:turn -/
def f_at_index : Fn := ⟨2, 4, (.cons (.asg (.tup (.cons (.name 2 0) (.cons (.name 3 1) .nil)) 2) (.loc 0 3) 4) (.cons (.ret (.ife (.cmp .lt (.loc 1 5) (.len (.loc 2 6) 7) 8) (.idx (.loc 2 9) (.loc 1 10) 11) (.idx (.loc 3 12) (.bin .mod (.bin .sub (.loc 1 13) (.len (.loc 2 14) 15) 16) (.len (.loc 3 17) 18) 19) 20) 21) 22) .nil))⟩
/-- 0:endless 1:lead 2:turn -/
def f_plain_of : Fn := ⟨1, 3, (.cons (.par 1 2 (.idx (.loc 0 0) (.cint 0 1) 2) (.idx (.call 24 (.cons (.idx (.loc 0 3) (.cint 1 4) 5) .nil) 6) (.cint 0 7) 8) 9) (.cons (.whl (.bool true (.cons (.loc 1 11) (.cons (.cmp .eq (.idx (.loc 1 12) (.neg (.cint 1 13) 14) 15) (.idx (.loc 2 16) (.neg (.cint 1 17) 18) 19) 20) .nil)) 21) (.cons (.par 1 2 (.slc (.loc 1 22) .none (.some (.neg (.cint 1 23) 24)) 25) (.bin .add (.slc (.loc 2 26) (.some (.neg (.cint 1 27) 28)) .none 29) (.slc (.loc 2 30) .none (.some (.neg (.cint 1 31) 32)) 33) 34) 35) .nil) 37) (.cons (.ret (.tup (.cons (.loc 1 38) (.cons (.loc 2 39) .nil)) 40) 41) .nil)))⟩
/-- 0:endless 1:size 2:many 3:begin 4:far -/
def f_windows_of : Fn := ⟨2, 5, (.cons (.asg (.name 2 0) (.bin .add (.len (.idx (.loc 0 1) (.cint 0 2) 3) 4) (.len (.idx (.loc 0 5) (.cint 1 6) 7) 8) 9) 10) (.cons (.ret (.inl (.srtS (.lc (.name 3 13) (.rng1 (.loc 2 11) 12) .nil (.tupOf (.inl (.lc (.name 4 16) (.rng1 (.loc 1 14) 15) .nil (.call 415 (.cons (.loc 0 17) (.cons (.bin .add (.loc 3 18) (.loc 4 19) 20) .nil)) 21) 22)) 23) 24) 25)) 26) .nil))⟩
/-- 0:endless 1:size 2:kept 3:part -/
def f_endless_parts : Fn := ⟨2, 4, (.cons (.asg (.name 2 0) (.call 418 (.cons (.call 412 (.cons (.loc 0 1) .nil) 2) .nil) 3) 4) (.cons (.ex (.call 414 (.cons (.loc 1 5) .nil) 6) 7) (.cons (.ret (.inl (.lc (.name 3 11) (.val (.call 444 (.cons (.loc 2 8) (.cons (.loc 1 9) .nil)) 10)) .nil (.inl (.listOf (.loc 3 12) 13)) 14)) 15) .nil)))⟩
/-- 0:endless 1:kept 2:many 3:size -/
def f_settled : Fn := ⟨1, 4, (.cons (.asg (.name 1 0) (.call 418 (.cons (.call 412 (.cons (.loc 0 1) .nil) 2) .nil) 3) 4) (.cons (.par 2 3 (.bin .add (.len (.idx (.loc 1 5) (.cint 0 6) 7) 8) (.len (.idx (.loc 1 9) (.cint 1 10) 11) 12) 13) (.cint 0 14) 15) (.cons (.whl (.cmp .lt (.len (.call 444 (.cons (.loc 1 17) (.cons (.loc 3 18) .nil)) 19) 20) (.loc 2 21) 22) (.cons (.asg (.name 3 23) (.bin .add (.loc 3 24) (.cint 1 25) 26) 27) .nil) 28) (.cons (.ret (.tup (.cons (.loc 3 29) (.cons (.loc 2 30) .nil)) 31) 32) .nil))))⟩
/-- 0:endless 1:word 2:kept 3:part 4:begin 5:far 6:letter -/
def f_first_at : Fn := ⟨2, 7, (.cons (.asg (.name 2 0) (.call 418 (.cons (.call 412 (.cons (.loc 0 1) .nil) 2) .nil) 3) 4) (.cons (.asg (.name 3 5) (.call 6 (.cons (.loc 1 6) .nil) 7) 8) (.cons (.for_ (.name 4 19) (.rng1 (.bin .add (.len (.idx (.loc 2 9) (.cint 0 10) 11) 12) (.len (.idx (.loc 2 13) (.cint 1 14) 15) 16) 17) 18) (.cons (.iff (.allOf (.inl (.lc (.tup (.cons (.name 5 22) (.cons (.name 6 23) .nil)) 24) (.enum2 (.loc 3 20) 21) .nil (.cmp .eq (.call 415 (.cons (.loc 2 25) (.cons (.bin .add (.loc 4 26) (.loc 5 27) 28) .nil)) 29) (.loc 6 30) 31) 32)) 33) (.cons (.ret (.inl (.disp (.cons (.loc 4 34) .nil) 35)) 36) .nil) .nil 37) .nil) 38) (.cons (.ret (.inl (.disp .nil 39)) 40) .nil))))⟩
/-- 0:found 1:due 2:mine 3:theirs -/
def f_law_same : Fn := ⟨2, 4, (.cons (.iff (.isi (.loc 1 0) (.tup (.cons (.tyn .list 1) (.cons (.tyn .tuple 2) .nil)) 3) 4) (.cons (.iff (.bool false (.cons (.cmp .ne (.isi (.loc 0 5) (.tyn .list 6) 7) (.isi (.loc 1 8) (.tyn .list 9) 10) 11) (.cons (.cmp .ne (.isi (.loc 0 12) (.tyn .tuple 13) 14) (.isi (.loc 1 15) (.tyn .tuple 16) 17) 18) .nil)) 19) (.cons (.ret (.cbl false 20) 21) .nil) .nil 22) (.cons (.ret (.bool true (.cons (.cmp .eq (.len (.loc 0 23) 24) (.len (.loc 1 25) 26) 27) (.cons (.allOf (.inl (.lc (.tup (.cons (.name 2 31) (.cons (.name 3 32) .nil)) 33) (.zip (.loc 0 28) (.loc 1 29) 30) .nil (.call 14 (.cons (.loc 2 34) (.cons (.loc 3 35) .nil)) 36) 37)) 38) .nil)) 39) 40) .nil)) .nil 41) (.cons (.iff (.isi (.loc 1 42) (.tyn .dict 43) 44) (.cons (.ret (.bool true (.cons (.isi (.loc 0 45) (.tyn .dict 46) 47) (.cons (.call 14 (.cons (.inl (.listOf (.nev 48) 49)) (.cons (.inl (.listOf (.nev 50) 51)) .nil)) 52) .nil)) 53) 54) .nil) .nil 55) (.cons (.iff (.bool false (.cons (.isi (.loc 1 56) (.tyn .bool 57) 58) (.cons (.isi (.loc 0 59) (.tyn .bool 60) 61) .nil)) 62) (.cons (.ret (.bool true (.cons (.isi (.loc 1 63) (.tyn .bool 64) 65) (.cons (.isi (.loc 0 66) (.tyn .bool 67) 68) (.cons (.cmp .eq (.loc 0 69) (.loc 1 70) 71) .nil))) 72) 73) .nil) .nil 74) (.cons (.iff (.bool false (.cons (.cmp .is (.loc 1 75) (.cnon 76) 77) (.cons (.cmp .is (.loc 0 78) (.cnon 79) 80) .nil)) 81) (.cons (.ret (.bool true (.cons (.cmp .is (.loc 1 82) (.cnon 83) 84) (.cons (.cmp .is (.loc 0 85) (.cnon 86) 87) .nil)) 88) 89) .nil) .nil 90) (.cons (.iff (.bool false (.cons (.cmp .ne (.isi (.loc 1 91) (.tyn .int 92) 93) (.isi (.loc 0 94) (.tyn .int 95) 96) 97) (.cons (.cmp .ne (.isi (.loc 1 98) (.tyn .str 99) 100) (.isi (.loc 0 101) (.tyn .str 102) 103) 104) .nil)) 105) (.cons (.ret (.cbl false 106) 107) .nil) .nil 108) (.cons (.ret (.bool true (.cons (.nott (.isi (.loc 0 109) (.tup (.cons (.tyn .list 110) (.cons (.tyn .tuple 111) (.cons (.tyn .dict 112) .nil))) 113) 114) 115) (.cons (.cmp .eq (.loc 0 116) (.loc 1 117) 118) .nil)) 119) 120) .nil))))))⟩
/-- 0:thing 1:part -/
def f_law_spoilt : Fn := ⟨1, 2, (.cons (.iff (.isi (.loc 0 0) (.tup (.cons (.tyn .list 1) (.cons (.tyn .tuple 2) .nil)) 3) 4) (.cons (.for_ (.name 1 6) (.val (.loc 0 5)) (.cons (.ex (.call 15 (.cons (.loc 1 7) .nil) 8) 9) .nil) 10) .nil) .nil 11) (.cons (.iff (.isi (.loc 0 12) (.tyn .list 13) 14) (.cons (.ex (.app (.loc 0 15) (.cstr "late" 16) 17) 18) .nil) .nil 19) .nil))⟩
/-- 0:thing 1:some 2:key 3:one -/
def f_law_copied : Fn := ⟨1, 4, (.cons (.iff (.isi (.loc 0 0) (.tyn .dict 1) 2) (.cons (.ret (.nev 3) 4) .nil) .nil 5) (.cons (.asg (.name 1 6) (.ife (.isi (.loc 0 7) (.tup (.cons (.tyn .list 8) (.cons (.tyn .tuple 9) .nil)) 10) 11) (.inl (.lc (.name 3 13) (.val (.loc 0 12)) .nil (.call 16 (.cons (.loc 3 14) .nil) 15) 16)) (.loc 0 17) 18) 19) (.cons (.ret (.ife (.isi (.loc 0 20) (.tyn .tuple 21) 22) (.tupOf (.loc 1 23) 24) (.loc 1 25) 26) 27) .nil)))⟩
/-- 0:stream 1:thing 2:some 3:part -/
def f_law_loose : Fn := ⟨2, 4, (.cons (.iff (.nott (.isi (.loc 1 0) (.tup (.cons (.tyn .list 1) (.cons (.tyn .tuple 2) .nil)) 3) 4) 5) (.cons (.ret (.loc 1 6) 7) .nil) .nil 8) (.cons (.asg (.name 2 9) (.inl (.lc (.name 3 11) (.val (.loc 1 10)) .nil (.call 17 (.cons (.loc 0 12) (.cons (.loc 3 13) .nil)) 14) 15)) 16) (.cons (.ret (.ife (.cmp .eq (.call 12 (.cons (.loc 0 17) (.cons (.cint 2 18) .nil)) 19) (.cint 0 20) 21) (.tupOf (.loc 2 22) 23) (.loc 2 24) 25) 26) .nil)))⟩
/-- 0:stream 1:many 2:most 3:k -/
def f_law_word : Fn := ⟨3, 4, (.cons (.ret (.inl (.lc (.name 3 6) (.rng1 (.call 12 (.cons (.loc 0 0) (.cons (.bin .add (.loc 2 1) (.cint 1 2) 3) .nil)) 4) 5) .nil (.call 12 (.cons (.loc 0 7) (.cons (.loc 1 8) .nil)) 9) 10)) 11) .nil)⟩
/-- 0:things 1:found 2:one -/
def f_law_unlike : Fn := ⟨1, 3, (.cons (.asg (.name 1 0) (.cel (.disp .nil 1)) 2) (.cons (.for_ (.name 2 5) (.val (.inl (.srt (.loc 0 3) 4))) (.cons (.iff (.bool false (.cons (.cmp .eq (.loc 1 6) (.inl (.disp .nil 7)) 8) (.cons (.cmp .ne (.idx (.loc 1 9) (.neg (.cint 1 10) 11) 12) (.loc 2 13) 14) .nil)) 15) (.cons (.ex (.app (.loc 1 16) (.loc 2 17) 18) 19) .nil) .nil 20) .nil) 21) (.cons (.ret (.frz (.loc 1 22)) 23) .nil)))⟩
/-- 0:word 1:size -/
def f_law_root : Fn := ⟨1, 2, (.cons (.asg (.name 1 0) (.cint 1 1) 2) (.cons (.whl (.bool false (.cons (.cmp .ne (.len (.loc 0 3) 4) (.bin .mul (.intOf (.bin .fdiv (.len (.loc 0 5) 6) (.loc 1 7) 8) 9) (.loc 1 10) 11) 12) (.cons (.cmp .ne (.bin .mul (.inl (.listOf (.slc (.loc 0 13) .none (.some (.loc 1 14)) 15) 16)) (.intOf (.bin .fdiv (.len (.loc 0 17) 18) (.loc 1 19) 20) 21) 22) (.inl (.listOf (.loc 0 23) 24)) 25) .nil)) 26) (.cons (.asg (.name 1 27) (.bin .add (.loc 1 28) (.cint 1 29) 30) 31) .nil) 32) (.cons (.ret (.tup (.cons (.inl (.listOf (.slc (.loc 0 33) .none (.some (.loc 1 34)) 35) 36)) (.cons (.intOf (.bin .fdiv (.len (.loc 0 37) 38) (.loc 1 39) 40) 41) .nil)) 42) 43) .nil)))⟩
/-- 0:number 1:by -/
def f_law_rest : Fn := ⟨2, 2, (.cons (.ret (.bin .sub (.intOf (.loc 0 0) 1) (.bin .mul (.loc 1 2) (.bin .fdiv (.intOf (.loc 0 3) 4) (.loc 1 5) 6) 7) 8) 9) .nil)⟩
/-- 0:endless 1:index 2:lead 3:turn -/
def f_law_at : Fn := ⟨2, 4, (.cons (.asg (.tup (.cons (.name 2 0) (.cons (.name 3 1) .nil)) 2) (.loc 0 3) 4) (.cons (.ret (.ife (.cmp .lt (.loc 1 5) (.len (.loc 2 6) 7) 8) (.idx (.loc 2 9) (.loc 1 10) 11) (.idx (.loc 3 12) (.call 27 (.cons (.bin .sub (.loc 1 13) (.len (.loc 2 14) 15) 16) (.cons (.len (.loc 3 17) 18) .nil)) 19) 20) 21) 22) .nil))⟩
/-- 0:endless 1:lead 2:turn -/
def f_law_plain : Fn := ⟨1, 3, (.cons (.par 1 2 (.inl (.listOf (.idx (.loc 0 0) (.cint 0 1) 2) 3)) (.inl (.listOf (.idx (.loc 0 4) (.cint 1 5) 6) 7)) 8) (.cons (.asg (.name 2 10) (.idx (.call 26 (.cons (.loc 2 11) .nil) 12) (.cint 0 13) 14) 15) (.cons (.whl (.bool true (.cons (.cmp .ne (.loc 1 16) (.inl (.disp .nil 17)) 18) (.cons (.cmp .eq (.idx (.loc 1 19) (.neg (.cint 1 20) 21) 22) (.idx (.loc 2 23) (.neg (.cint 1 24) 25) 26) 27) .nil)) 28) (.cons (.par 1 2 (.slc (.loc 1 29) .none (.some (.neg (.cint 1 30) 31)) 32) (.bin .add (.slc (.loc 2 33) (.some (.neg (.cint 1 34) 35)) .none 36) (.slc (.loc 2 37) .none (.some (.neg (.cint 1 38) 39)) 40) 41) 42) .nil) 44) (.cons (.ret (.tup (.cons (.loc 1 45) (.cons (.loc 2 46) .nil)) 47) 48) .nil))))⟩
/-- 0:stream 1:letters 2:turn 3:lead -/
def f_law_endless : Fn := ⟨2, 4, (.cons (.asg (.name 2 0) (.bin .add (.call 18 (.cons (.loc 0 1) (.cons (.loc 1 2) (.cons (.cint 3 3) .nil))) 4) (.inl (.disp (.cons (.call 12 (.cons (.loc 0 5) (.cons (.loc 1 6) .nil)) 7) .nil) 8)) 9) 10) (.cons (.asg (.name 2 11) (.bin .mul (.loc 2 12) (.bin .add (.cint 1 13) (.call 12 (.cons (.loc 0 14) (.cons (.cint 3 15) .nil)) 16) 17) 18) 19) (.cons (.asg (.name 3 20) (.call 18 (.cons (.loc 0 21) (.cons (.loc 1 22) (.cons (.cint 6 23) .nil))) 24) 25) (.cons (.ret (.tup (.cons (.bin .add (.loc 3 26) (.ife (.cmp .eq (.call 12 (.cons (.loc 0 27) (.cons (.cint 2 28) .nil)) 29) (.cint 0 30) 31) (.slc (.loc 2 32) (.some (.call 12 (.cons (.loc 0 33) (.cons (.len (.loc 2 34) 35) .nil)) 36)) .none 37) (.inl (.disp .nil 38)) 39) 40) (.cons (.loc 2 41) .nil)) 42) 43) .nil))))⟩
/-- 0:endless 1:size 2:many 3:begin 4:far -/
def f_law_parts : Fn := ⟨2, 5, (.cons (.asg (.name 2 0) (.bin .add (.len (.idx (.loc 0 1) (.cint 0 2) 3) 4) (.len (.idx (.loc 0 5) (.cint 1 6) 7) 8) 9) 10) (.cons (.ret (.call 34 (.cons (.inl (.lc (.name 3 13) (.rng1 (.loc 2 11) 12) .nil (.inl (.lc (.name 4 16) (.rng1 (.loc 1 14) 15) .nil (.call 424 (.cons (.loc 0 17) (.cons (.bin .add (.loc 3 18) (.loc 4 19) 20) .nil)) 21) 22)) 23)) .nil) 24) 25) .nil))⟩
/-- 0:script 1:stream 2:turn 3:endless 4:handed 5:plain 6:was 7:many 8:size 9:counts 10:last 11:due 12:told 13:begin 14:word 15:some 16:found 17:far 18:place 19:letter -/
def f_law_37 : Fn := ⟨1, 20, (.cons (.asg (.name 1 0) (.call 11 (.cons (.loc 0 1) .nil) 2) 3) (.cons (.for_ (.name 2 6) (.rng1 (.cint 4 4) 5) (.cons (.asg (.name 3 7) (.call 426 (.cons (.loc 1 8) (.cons (.bin .add (.cint 1 9) (.call 12 (.cons (.loc 1 10) (.cons (.cint 3 11) .nil)) 12) 13) .nil)) 14) 15) (.cons (.par 4 5 (.call 17 (.cons (.loc 1 16) (.cons (.loc 3 17) .nil)) 18) (.call 425 (.cons (.loc 3 19) .nil) 20) 21) (.cons (.par 6 7 (.call 16 (.cons (.loc 4 23) .nil) 24) (.bin .add (.len (.idx (.loc 5 25) (.cint 0 26) 27) 28) (.len (.idx (.loc 5 29) (.cint 1 30) 31) 32) 33) 34) (.cons (.asg (.name 9 36) (.inl (.lc (.name 8 41) (.rng1 (.bin .add (.loc 7 37) (.cint 2 38) 39) 40) .nil (.len (.call 448 (.cons (.loc 3 42) (.cons (.loc 8 43) .nil)) 44) 45) 46)) 47) (.cons (.asg (.name 10 48) (.idxOf (.loc 9 49) (.loc 7 50) 51) 52) (.cons (.iff (.bool false (.cons (.nott (.call 14 (.cons (.inl (.disp (.cons (.call 446 (.cons (.loc 4 53) .nil) 54) (.cons (.callk 446 .nil (.cons 0 (.call 16 (.cons (.loc 3 55) .nil) 56) 57 .nil) 58) .nil)) 59)) (.cons (.bin .mul (.inl (.disp (.cons (.tup (.cons (.loc 10 60) (.cons (.loc 7 61) .nil)) 62) .nil) 63)) (.cint 2 64) 65) .nil)) 66) 67) (.cons (.nott (.allOf (.inl (.lc (.name 8 70) (.rng1 (.loc 10 68) 69) .nil (.cmp .lt (.idx (.loc 9 71) (.loc 8 72) 73) (.idx (.loc 9 74) (.bin .add (.loc 8 75) (.cint 1 76) 77) 78) 79) 80)) 81) 82) .nil)) 83) (.cons (.ret (.cbl false 84) 85) .nil) .nil 86) (.cons (.asg (.name 8 87) (.call 12 (.cons (.loc 1 88) (.cons (.cint 13 89) .nil)) 90) 91) (.cons (.asg (.name 11 92) (.call 448 (.cons (.loc 3 93) (.cons (.loc 8 94) .nil)) 95) 96) (.cons (.asg (.name 12 97) (.cel (.disp (.cons (.call 5445 (.cons (.loc 4 98) (.cons (.loc 8 99) .nil)) 100) (.cons (.callk 5445 .nil (.cons 1 (.loc 8 101) 102 (.cons 0 (.call 16 (.cons (.loc 3 103) .nil) 104) 105 .nil)) 106) .nil)) 107)) 108) (.cons (.iff (.bool false (.cons (.nott (.call 14 (.cons (.loc 12 109) (.cons (.inl (.disp (.cons (.loc 11 110) (.cons (.loc 11 111) .nil)) 112)) .nil)) 113) 114) (.cons (.nott (.call 14 (.cons (.loc 4 115) (.cons (.loc 6 116) .nil)) 117) 118) .nil)) 119) (.cons (.ret (.cbl false 120) 121) .nil) .nil 122) (.cons (.ex (.call 15 (.cons (.loc 12 123) .nil) 124) 125) (.cons (.asg (.name 13 126) (.call 12 (.cons (.loc 1 127) (.cons (.bin .add (.loc 7 128) (.cint 5 129) 130) .nil)) 131) 132) (.cons (.asg (.name 14 133) (.inl (.lc (.name 17 138) (.rng1 (.call 12 (.cons (.loc 1 134) (.cons (.cint 6 135) .nil)) 136) 137) .nil (.call 424 (.cons (.loc 3 139) (.cons (.bin .add (.loc 13 140) (.loc 17 141) 142) .nil)) 143) 144)) 145) (.cons (.asg (.name 14 146) (.ife (.cmp .gt (.call 12 (.cons (.loc 1 147) (.cons (.cint 3 148) .nil)) 149) (.cint 0 150) 151) (.loc 14 152) (.bin .add (.loc 14 153) (.inl (.disp (.cons (.call 12 (.cons (.loc 1 154) (.cons (.cint 3 155) .nil)) 156) .nil) 157)) 158) 159) 160) (.cons (.asg (.name 15 161) (.inl (.lc (.name 18 164) (.rng1 (.loc 7 162) 163) (.cons (.allOf (.inl (.lc (.tup (.cons (.name 17 167) (.cons (.name 19 168) .nil)) 169) (.enum2 (.loc 14 165) 166) .nil (.cmp .eq (.call 424 (.cons (.loc 3 170) (.cons (.bin .add (.loc 18 171) (.loc 17 172) 173) .nil)) 174) (.loc 19 175) 176) 177)) 178) .nil) (.loc 18 179) 180)) 181) (.cons (.asg (.name 16 182) (.cel (.disp (.cons (.call 5447 (.cons (.loc 4 183) (.cons (.call 17 (.cons (.loc 1 184) (.cons (.loc 14 185) .nil)) 186) .nil)) 187) (.cons (.callk 5447 .nil (.cons 1 (.inl (.listOf (.loc 14 188) 189)) 190 (.cons 0 (.call 16 (.cons (.loc 3 191) .nil) 192) 193 .nil)) 194) .nil)) 195)) 196) (.cons (.iff (.bool false (.cons (.nott (.call 14 (.cons (.loc 16 197) (.cons (.inl (.disp (.cons (.slc (.loc 15 198) .none (.some (.cint 1 199)) 200) (.cons (.slc (.loc 15 201) .none (.some (.cint 1 202)) 203) .nil)) 204)) .nil)) 205) 206) (.cons (.nott (.call 14 (.cons (.loc 4 207) (.cons (.loc 6 208) .nil)) 209) 210) .nil)) 211) (.cons (.ret (.cbl false 212) 213) .nil) .nil 214) (.cons (.ex (.call 15 (.cons (.loc 16 215) .nil) 216) 217) (.cons (.iff (.nott (.call 14 (.cons (.inl (.disp (.cons (.call 445 (.cons (.call 16 (.cons (.loc 3 218) .nil) 219) (.cons (.loc 8 220) .nil)) 221) (.cons (.call 447 (.cons (.call 16 (.cons (.loc 3 222) .nil) 223) (.cons (.inl (.listOf (.loc 14 224) 225)) .nil)) 226) .nil)) 227)) (.cons (.inl (.disp (.cons (.loc 11 228) (.cons (.slc (.loc 15 229) .none (.some (.cint 1 230)) 231) .nil)) 232)) .nil)) 233) 234) (.cons (.ret (.cbl false 235) 236) .nil) .nil 237) .nil))))))))))))))))))) 238) (.cons (.ret (.call 14 (.cons (.inl (.disp (.cons (.call 446 (.cons (.tup (.cons (.inl (.disp (.cons (.cint 0 239) .nil) 240)) (.cons (.inl (.disp (.cons (.cint 1 241) .nil) 242)) .nil)) 243) .nil) 244) (.cons (.call 445 (.cons (.tup (.cons (.inl (.disp (.cons (.cint 0 245) .nil) 246)) (.cons (.inl (.disp (.cons (.cint 1 247) .nil) 248)) .nil)) 249) (.cons (.cint 2 250) .nil)) 251) (.cons (.call 447 (.cons (.tup (.cons (.inl (.disp .nil 252)) (.cons (.inl (.disp (.cons (.cint 0 253) (.cons (.cint 1 254) .nil)) 255)) .nil)) 256) (.cons (.inl (.disp (.cons (.cint 1 257) (.cons (.cint 1 258) .nil)) 259)) .nil)) 260) (.cons (.call 446 (.cons (.tup (.cons (.inl (.disp .nil 261)) (.cons (.inl (.disp (.cons (.cint 5 262) (.cons (.cint 5 263) .nil)) 264)) .nil)) 265) .nil) 266) .nil)))) 267)) (.cons (.inl (.disp (.cons (.tup (.cons (.cint 1 268) (.cons (.cint 2 269) .nil)) 270) (.cons (.inl (.disp (.cons (.inl (.disp (.cons (.cint 0 271) (.cons (.cint 1 272) .nil)) 273)) (.cons (.inl (.disp (.cons (.cint 1 274) (.cons (.cint 1 275) .nil)) 276)) .nil)) 277)) (.cons (.inl (.disp .nil 278)) (.cons (.tup (.cons (.cint 0 279) (.cons (.cint 1 280) .nil)) 281) .nil)))) 282)) .nil)) 283) 284) .nil)))⟩
/-- 0:endless 1:size 2:kept 3:part -/
def f_endless_parts_live : Fn := ⟨2, 4, (.cons (.asg (.name 2 0) (.call 418 (.cons (.call 412 (.cons (.loc 0 1) .nil) 2) .nil) 3) 4) (.cons (.ex (.call 414 (.cons (.loc 1 5) .nil) 6) 7) (.cons (.ret (.cel (.lc (.name 3 11) (.val (.call 444 (.cons (.loc 2 8) (.cons (.loc 1 9) .nil)) 10)) .nil (.cel (.listOf (.loc 3 12) 13)) 14)) 15) .nil)))⟩
/-- 0:endless 1:word 2:kept 3:part 4:begin 5:far 6:letter -/
def f_first_at_live : Fn := ⟨2, 7, (.cons (.asg (.name 2 0) (.call 418 (.cons (.call 412 (.cons (.loc 0 1) .nil) 2) .nil) 3) 4) (.cons (.asg (.name 3 5) (.call 6 (.cons (.loc 1 6) .nil) 7) 8) (.cons (.for_ (.name 4 19) (.rng1 (.bin .add (.len (.idx (.loc 2 9) (.cint 0 10) 11) 12) (.len (.idx (.loc 2 13) (.cint 1 14) 15) 16) 17) 18) (.cons (.iff (.allOf (.inl (.lc (.tup (.cons (.name 5 22) (.cons (.name 6 23) .nil)) 24) (.enum2 (.loc 3 20) 21) .nil (.cmp .eq (.call 415 (.cons (.loc 2 25) (.cons (.bin .add (.loc 4 26) (.loc 5 27) 28) .nil)) 29) (.loc 6 30) 31) 32)) 33) (.cons (.ret (.cel (.disp (.cons (.loc 4 34) .nil) 35)) 36) .nil) .nil 37) .nil) 38) (.cons (.ret (.cel (.disp .nil 39)) 40) .nil))))⟩
def tblL : List (Nat × Ent) := [(1, .code f_is_list), (2, .code f_is_whole), (3, .code f_is_number), (59, .code f_is_row), (4, .code f_kept_word), (6, .code f_need_word), (24, .code f_root_pair), (410, .code f_kept_endless), (412, .code f_need_endless), (414, .code f_check_length), (415, .code f_at_index), (418, .code f_plain_of), (444, .code f_windows_of), (445, .code f_endless_parts), (446, .code f_settled), (447, .code f_first_at), (11, .stream), (12, .draw), (14, .code f_law_same), (15, .code f_law_spoilt), (16, .code f_law_copied), (17, .code f_law_loose), (18, .code f_law_word), (34, .code f_law_unlike), (26, .code f_law_root), (27, .code f_law_rest), (424, .code f_law_at), (425, .code f_law_plain), (426, .code f_law_endless), (448, .code f_law_parts), (449, .code f_law_37), (5445, .code f_endless_parts_live), (5447, .code f_first_at_live)]
def tbl (i : Nat) : Option Ent := tblL.lookup i
theorem t_is_list : tbl 1 = some (.code f_is_list) := rfl
theorem t_is_whole : tbl 2 = some (.code f_is_whole) := rfl
theorem t_is_number : tbl 3 = some (.code f_is_number) := rfl
theorem t_is_row : tbl 59 = some (.code f_is_row) := rfl
theorem t_kept_word : tbl 4 = some (.code f_kept_word) := rfl
theorem t_need_word : tbl 6 = some (.code f_need_word) := rfl
theorem t_root_pair : tbl 24 = some (.code f_root_pair) := rfl
theorem t_kept_endless : tbl 410 = some (.code f_kept_endless) := rfl
theorem t_need_endless : tbl 412 = some (.code f_need_endless) := rfl
theorem t_check_length : tbl 414 = some (.code f_check_length) := rfl
theorem t_at_index : tbl 415 = some (.code f_at_index) := rfl
theorem t_plain_of : tbl 418 = some (.code f_plain_of) := rfl
theorem t_windows_of : tbl 444 = some (.code f_windows_of) := rfl
theorem t_endless_parts : tbl 445 = some (.code f_endless_parts) := rfl
theorem t_settled : tbl 446 = some (.code f_settled) := rfl
theorem t_first_at : tbl 447 = some (.code f_first_at) := rfl
theorem t_law_stream : tbl 11 = some (.stream) := rfl
theorem t_law_draw : tbl 12 = some (.draw) := rfl
theorem t_law_same : tbl 14 = some (.code f_law_same) := rfl
theorem t_law_spoilt : tbl 15 = some (.code f_law_spoilt) := rfl
theorem t_law_copied : tbl 16 = some (.code f_law_copied) := rfl
theorem t_law_loose : tbl 17 = some (.code f_law_loose) := rfl
theorem t_law_word : tbl 18 = some (.code f_law_word) := rfl
theorem t_law_unlike : tbl 34 = some (.code f_law_unlike) := rfl
theorem t_law_root : tbl 26 = some (.code f_law_root) := rfl
theorem t_law_rest : tbl 27 = some (.code f_law_rest) := rfl
theorem t_law_at : tbl 424 = some (.code f_law_at) := rfl
theorem t_law_plain : tbl 425 = some (.code f_law_plain) := rfl
theorem t_law_endless : tbl 426 = some (.code f_law_endless) := rfl
theorem t_law_parts : tbl 448 = some (.code f_law_parts) := rfl
theorem t_law_37 : tbl 449 = some (.code f_law_37) := rfl
theorem t_endless_parts_live : tbl 5445 = some (.code f_endless_parts_live) := rfl
theorem t_first_at_live : tbl 5447 = some (.code f_first_at_live) := rfl
end Ev.k99

set_option autoImplicit false
set_option linter.all false
set_option maxRecDepth 100000
set_option maxHeartbeats 2000000
/-! k99: each def. -/
namespace Ev.k99
open PySem Ev
theorem words : Words tbl := ⟨rfl, rfl, rfl, rfl⟩
/-- an endless word as it may be handed -/
def IsE (d : D) (l t : List Int) : Prop := ∃ c b1 b2, d = Sq c [WT b1 l, WT b2 t]
theorem isE_tup (l t : List Int) : IsE (.tup [W l, W t]) l t := ⟨true, false, false, rfl⟩
/-- small endless words -/
structure EOk (l t : List Int) : Prop where
  ll : l.length ≤ 100
  tl : t.length ≤ 100
  tn : t ≠ []
  L1 : Letters l
  L2 : Letters t
section
variable {n k : Nat} {M : Mem} {d : D} {l t w : List Int} {s i : Nat}
theorem kept_eq (hd : IsWord d w) (hl : w.length ≤ 1000) (h : Letters w) : callN tbl n (k + 3) 4 [d] M = some (Tp w, M) := kept_spec words hd (le_lim (by omega)) h
theorem is_row_sq {b : Bool} {x y : D} : callN tbl n (k + 2) 59 [Sq b [x, y], .int 2] M = some (.bl true, M) := by
  refine call_eq t_is_row rfl ?_
  have e := is_list_any (n := n) (k := k) (M := M) t_is_list (d := Sq b [x, y]) (by cases b <;> rfl)
  have e2 : listB (Sq b [x, y]) = true := by cases b <;> rfl
  simp [f_is_row, e, e2]
theorem kept_endless (hd : IsE d l t) (o : EOk l t) : callN tbl n (k + 4) 410 [d] M = some (.tup [Tp l, Tp t], M) := by
  obtain ⟨c, b1, b2, rfl⟩ := hd
  have hl := o.ll
  have ht := o.tl
  have e1 : ∀ M, callN tbl n (k + 3) 4 [WT b1 l] M = some (Tp l, M) := fun M => kept_eq (isWord_WT b1 l) (by omega) o.L1
  have e2 : ∀ M, callN tbl n (k + 3) 4 [WT b2 t] M = some (Tp t, M) := fun M => kept_eq (isWord_WT b2 t) (by omega) o.L2
  refine call_eq t_kept_endless rfl ?_
  simp [-Int.natCast_ediv, -Int.natCast_emod, -Int.natCast_mul, -List.map_take, -List.map_drop, f_kept_endless, is_row_sq, e1, e2, o.tn]
theorem need_endless (hd : IsE d l t) (o : EOk l t) : callN tbl n (k + 5) 412 [d] M = some (.tup [Tp l, Tp t], M) := by
  refine call_eq t_need_endless rfl ?_
  simp [f_need_endless, kept_endless hd o]
theorem at_index (o : EOk l t) : callN tbl n (k + 1) 415 [.tup [Tp l, Tp t], .int (i : Int)] M = some (.int (eAt l t i), M) := by
  have ht := List.length_pos_iff.mpr o.tn
  refine call_eq t_at_index rfl ?_
  by_cases c : i < l.length
  · simp [-Int.natCast_ediv, -Int.natCast_emod, -Int.natCast_mul, -List.map_take, -List.map_drop, f_at_index, c, idx_Tn l c, eAt]
  · have e : ((i : Int) - (l.length : Int)) = ((i - l.length : Nat) : Int) := by omega
    simp [-Int.natCast_ediv, -Int.natCast_emod, -Int.natCast_mul, -List.map_take, -List.map_drop, f_at_index, c, e, mod_nat (i - l.length) t.length ht, idx_Tn t (Nat.mod_lt _ ht), eAt]
/-- its first letters -/
theorem plain_of (o : EOk l t) (h : IsRoot t s) (hn : 1000 < n) : callN tbl n (k + 2) 418 [.tup [Tp l, Tp t]] M = some (.tup [Tp (plainE l t s).1, Tp (plainE l t s).2], M) := by
  have hl := o.ll
  have ht := o.tl
  have hp := h.pos
  have hs := h.le
  refine call_eq t_plain_of rfl ?_
  simp [-Int.natCast_ediv, -Int.natCast_emod, -Int.natCast_mul, -List.map_take, -List.map_drop, f_plain_of, root_pair_eq t_root_pair h (by omega)]
  refine ok_whileI (fun m env M' => M' = M ∧ ∃ l' t', env = [some (.tup [Tp l, Tp t]), some (Tp l'), some (Tp t')] ∧ m = l'.length ∧ t' ≠ [] ∧ l'.length ≤ 100 ∧ t'.length ≤ 100 ∧ strip m l' t' = plainE l t s) (fun m env M' h' => ?_) n l.length _ _ (by omega) ⟨rfl, l, t.take s, rfl, rfl, ?_, by omega, by simp; omega, rfl⟩
  · obtain ⟨rfl, l', t', rfl, rfl, tn, l1, t1, e⟩ := h'
    by_cases hl' : l' = []
    · subst hl'
      simp [strip] at e
      simp [-Int.natCast_ediv, -Int.natCast_emod, -Int.natCast_mul, -List.map_take, -List.map_drop, ← e]
    · have hpos := List.length_pos_iff.mpr hl'
      rw [show l'.length = (l'.length - 1) + 1 by omega, strip] at e
      simp [-Int.natCast_ediv, -Int.natCast_emod, -Int.natCast_mul, -List.map_take, -List.map_drop, idx_TM l' hl', idx_TM t' tn, hl']
      by_cases c : lst0 l' = lst0 t'
      · rw [if_pos ⟨hl', c⟩] at e
        have c' : l'[l'.length - 1]?.getD 0 = t'[t'.length - 1]?.getD 0 := c
        simp [-Int.natCast_ediv, -Int.natCast_emod, -Int.natCast_mul, -List.map_take, -List.map_drop, c', add_T' (List.drop (t'.length - 1) t') (List.take (t'.length - 1) t') (by simp; omega), hpos]
        refine ⟨l'.take (l'.length - 1), rotR t', ?_, by simp, ?_, by simp; omega, by rw [rotR_len]; exact t1, e⟩
        · simp [-Int.natCast_ediv, -Int.natCast_emod, -Int.natCast_mul, -List.map_take, -List.map_drop, rotR]
        · intro z
          have := rotR_len t'
          rw [z] at this
          exact tn (List.length_eq_zero_iff.mp this.symm)
      · rw [if_neg (fun z => c z.2)] at e
        have c' : ¬ l'[l'.length - 1]?.getD 0 = t'[t'.length - 1]?.getD 0 := c
        simp [-Int.natCast_ediv, -Int.natCast_emod, -Int.natCast_mul, -List.map_take, -List.map_drop, c', ← e]
  · intro z; have := congrArg List.length z; rw [List.length_take, List.length_nil] at this; omega
end
end Ev.k99

set_option autoImplicit false
set_option linter.all false
set_option maxRecDepth 100000
set_option maxHeartbeats 2000000
/-! k99: each def, further; the law's own. -/
namespace Ev.k99
open PySem Ev
section
variable {n k : Nat} {M : Mem} {d : D} {l t w : List Int} {s i : Nat}
/-- the plain one with so big a root of its round -/
abbrev PD (l t : List Int) (s : Nat) : D := .tup [W (plainE l t s).1, W (plainE l t s).2]
theorem plain_len (o : EOk l t) (h : IsRoot t s) : (plainE l t s).1.length ≤ 100 ∧ (plainE l t s).2.length ≤ 100 := by
  have := strip_len l.length l (t.take s)
  have h1 := o.ll
  have h2 := o.tl
  have h3 : (t.take s).length ≤ t.length := by simp; omega
  exact ⟨Nat.le_trans this.1 h1, by have := this.2; unfold plainE; omega⟩
end
end Ev.k99

set_option autoImplicit false
set_option linter.all false
set_option maxRecDepth 100000
set_option maxHeartbeats 2000000
/-! k99: the law's own. -/
namespace Ev.k99
open PySem Ev
section
variable {n k : Nat} {M : Mem} {d : D} {l t w : List Int} {s i : Nat}
theorem law_rest (a : Nat) {t : Nat} (h1 : 1 ≤ t) (h2 : t ≤ 1000) : callN tbl n (k + 1) 27 [.int (a : Int), .int (t : Int)] M = some (.int ((a % t : Nat) : Int), M) := law_rest_eq t_law_rest h1 (by omega)
theorem law_at (o : EOk l t) : callN tbl n (k + 2) 424 [.tup [W l, W t], .int (i : Int)] M = some (.int (eAt l t i), M) := by
  have ht := List.length_pos_iff.mpr o.tn
  have ht2 := o.tl
  refine call_eq t_law_at rfl ?_
  by_cases c : i < l.length
  · simp [-Int.natCast_ediv, -Int.natCast_emod, -Int.natCast_mul, -List.map_take, -List.map_drop, f_law_at, c, idx_Wn l c, eAt]
  · have e : ((i : Int) - (l.length : Int)) = ((i - l.length : Nat) : Int) := by omega
    simp [-Int.natCast_ediv, -Int.natCast_emod, -Int.natCast_mul, -List.map_take, -List.map_drop, f_law_at, c, e, law_rest (i - l.length) (show 1 ≤ t.length by omega) (by omega), idx_Wn t (Nat.mod_lt _ ht), eAt]
theorem law_plain (o : EOk l t) (h : IsRoot t s) (hn : 1000 < n) : callN tbl n (k + 2) 425 [.tup [W l, W t]] M = some (PD l t s, M) := by
  have hl := o.ll
  have ht := o.tl
  have hp := h.pos
  have hs := h.le
  refine call_eq t_law_plain rfl ?_
  simp [-Int.natCast_ediv, -Int.natCast_emod, -Int.natCast_mul, -List.map_take, -List.map_drop, f_law_plain, law_root_eq t_law_root h (by omega) hn]
  refine ok_whileI (fun m env M' => M' = M ∧ ∃ l' t', env = [some (.tup [W l, W t]), some (W l'), some (W t')] ∧ m = l'.length ∧ t' ≠ [] ∧ l'.length ≤ 100 ∧ t'.length ≤ 100 ∧ strip m l' t' = plainE l t s) (fun m env M' h' => ?_) n l.length _ _ (by omega) ⟨rfl, l, t.take s, rfl, rfl, ?_, by omega, by simp; omega, rfl⟩
  · obtain ⟨rfl, l', t', rfl, rfl, tn, l1, t1, e⟩ := h'
    by_cases hl' : l' = []
    · subst hl'
      simp [strip] at e
      simp [-Int.natCast_ediv, -Int.natCast_emod, -Int.natCast_mul, -List.map_take, -List.map_drop, ← e]
    · have hpos := List.length_pos_iff.mpr hl'
      rw [show l'.length = (l'.length - 1) + 1 by omega, strip] at e
      simp [-Int.natCast_ediv, -Int.natCast_emod, -Int.natCast_mul, -List.map_take, -List.map_drop, idx_WM l' hl', idx_WM t' tn, hl']
      by_cases c : lst0 l' = lst0 t'
      · rw [if_pos ⟨hl', c⟩] at e
        have c' : l'[l'.length - 1]?.getD 0 = t'[t'.length - 1]?.getD 0 := c
        simp [-Int.natCast_ediv, -Int.natCast_emod, -Int.natCast_mul, -List.map_take, -List.map_drop, c', add_W' (List.drop (t'.length - 1) t') (List.take (t'.length - 1) t') (by simp; omega), hpos]
        refine ⟨l'.take (l'.length - 1), rotR t', ?_, by simp, ?_, by simp; omega, by rw [rotR_len]; exact t1, e⟩
        · simp [-Int.natCast_ediv, -Int.natCast_emod, -Int.natCast_mul, -List.map_take, -List.map_drop, rotR]
        · intro z
          have := rotR_len t'
          rw [z] at this
          exact tn (List.length_eq_zero_iff.mp this.symm)
      · rw [if_neg (fun z => c z.2)] at e
        have c' : ¬ l'[l'.length - 1]?.getD 0 = t'[t'.length - 1]?.getD 0 := c
        simp [-Int.natCast_ediv, -Int.natCast_emod, -Int.natCast_mul, -List.map_take, -List.map_drop, c', ← e]
  · intro z; have := congrArg List.length z; rw [List.length_take, List.length_nil] at this; omega
end
/-- a drawn endless word -/
theorem ok_endless {n k b : Nat} {S : List C} {st : Strm} {Q : D → Mem → Prop} {m : Int} (h0 : 0 < m) (h1 : m < 1000) (hb : Bud (b + 100) st) (q : ∀ l t s', l.length ≤ 18 → t.length ≤ 12 → t ≠ [] → Letters l → Letters t → (∀ x ∈ l ++ t, x < m) → Bud b s' → Q (.tup [W l, W t]) ⟨S, some s'⟩) : Ok (callN tbl n (k + 3) 426 [.strm, .int m] ⟨S, some st⟩) Q := by
  refine ok_codeS t_law_endless rfl ?_
  simp [-Int.natCast_ediv, -Int.natCast_emod, -Int.natCast_mul, -List.map_take, -List.map_drop, f_law_endless]
  refine ok_word t_law_draw t_law_word h0 (by omega) (by decide) (by decide) (hb.mono (a := b + 90 + (3 : Int).toNat + 1) (by simp)) fun w s1 hw hwL b1 => ?_
  refine ok_draw t_law_draw (b1.mono (a := b + 80 + 1) (by omega)) h0 (by omega) fun r s2 hr b2 => ?_
  have hwl : w.length ≤ 3 := by omega
  have e1 : ∀ M : Mem, opBin M .add (W w) (.lst [.int (r : Int)]) = some (W (w ++ [(r : Int)])) := fun M => add_W' w [(r : Int)] (by simp; omega)
  simp [-Int.natCast_ediv, -Int.natCast_emod, -Int.natCast_mul, -List.map_take, -List.map_drop, e1]
  refine ok_draw t_law_draw (b2.mono (a := b + 70 + 1) (by omega)) (by decide) (by decide) fun c s3 hc b3 => ?_
  have hc2 : c < 3 := by omega
  have e2 : ∀ M : Mem, opBin M .mul (W (w ++ [(r : Int)])) (.int (1 + (c : Int))) = some (W (reps (w ++ [(r : Int)]) (1 + c))) := fun M => by
    have : (1 + (c : Int)) = ((1 + c : Nat) : Int) := by omega
    rw [this]
    refine mulW_nat _ _ ?_ (by omega)
    have : (w ++ [(r : Int)]).length ≤ 4 := by simp; omega
    exact Nat.le_trans (Nat.mul_le_mul this (show 1 + c ≤ 3 by omega)) (by decide)
  simp [-Int.natCast_ediv, -Int.natCast_emod, -Int.natCast_mul, -List.map_take, -List.map_drop, e2]
  have ht2 : (reps (w ++ [(r : Int)]) (1 + c)).length ≤ 12 := by
    rw [reps_len]
    have : (w ++ [(r : Int)]).length ≤ 4 := by simp; omega
    exact Nat.le_trans (Nat.mul_le_mul (show 1 + c ≤ 3 by omega) this) (by decide)
  have ht1 : 1 ≤ (reps (w ++ [(r : Int)]) (1 + c)).length := by
    rw [reps_len]
    exact Nat.mul_pos (by omega) (by simp)
  have hbd : ∀ x ∈ w ++ [(r : Int)], 0 ≤ x ∧ x < m := fun x hx => by
    rcases List.mem_append.mp hx with hx | hx
    · exact hwL x hx
    · simp at hx; omega
  have hL2 : Letters (reps (w ++ [(r : Int)]) (1 + c)) := fun x hx => (bound_reps hbd x hx).1
  have hB2 : ∀ x ∈ reps (w ++ [(r : Int)]) (1 + c), x < m := fun x hx => (bound_reps hbd x hx).2
  generalize reps (w ++ [(r : Int)]) (1 + c) = t at ht1 ht2 hL2 hB2 ⊢
  refine ok_word t_law_draw t_law_word h0 (by omega) (by decide) (by decide) (b3.mono (a := b + 30 + (6 : Int).toNat + 1) (by simp)) fun l s4 hl hlL b4 => ?_
  refine ok_draw t_law_draw (b4.mono (a := b + 20 + 1) (by omega)) (by decide) (by decide) fun c2 s5 hc2 b5 => ?_
  by_cases hz : c2 = 0
  · subst hz
    simp [-Int.natCast_ediv, -Int.natCast_emod, -Int.natCast_mul, -List.map_take, -List.map_drop]
    refine ok_draw t_law_draw (b5.mono (a := b + 10 + 1) (by omega)) (by omega) (by omega) fun p s6 hp b6 => ?_
    simp [-Int.natCast_ediv, -Int.natCast_emod, -Int.natCast_mul, -List.map_take, -List.map_drop, add_W' l (t.drop p) (by simp; omega)]
    exact q (l ++ t.drop p) t s6 (by simp; omega) ht2 (by intro z; rw [z] at ht1; simp at ht1) (fun x hx => (List.mem_append.mp hx).elim (fun h => (hlL x h).1) fun h => hL2 x (List.mem_of_mem_drop h)) hL2 (fun x hx => by
      rcases List.mem_append.mp hx with hx | hx
      · rcases List.mem_append.mp hx with hx | hx
        · exact (hlL x hx).2
        · exact hB2 x (List.mem_of_mem_drop hx)
      · exact hB2 x hx) (b6.mono (by omega))
  · have e3 : ∀ M : Mem, opBin M .add (.lst (lints l)) (.lst []) = some (W l) := fun M => add_nilW l (by omega)
    simp [-Int.natCast_ediv, -Int.natCast_emod, -Int.natCast_mul, -List.map_take, -List.map_drop, hz, e3]
    exact q l t s5 (by omega) ht2 (by intro z; rw [z] at ht1; simp at ht1) hlL.letters hL2 (fun x hx => (List.mem_append.mp hx).elim (fun h => (hlL x h).2) (hB2 x)) (b5.mono (by omega))
end Ev.k99

set_option autoImplicit false
set_option linter.all false
set_option maxRecDepth 100000
set_option maxHeartbeats 4000000
/-! k99: windows. -/
namespace Ev.k99
open PySem Ev
abbrev TT (p : List Int × List Int) : D := .tup [Tp p.1, Tp p.2]
abbrev WW (p : List Int × List Int) : D := .tup [W p.1, W p.2]
/-- a small one -/
def PO (p : List Int × List Int) : Prop := EOk p.1 p.2
section
variable {n k : Nat} {M : Mem} {d e : D} {l t w : List Int} {s i : Nat} {a b : List Int × List Int}
theorem plain_po (o : EOk l t) : PO (plainC l t) := by
  have h := rsz_root o.tn
  obtain ⟨h1, h2⟩ := plain_len o h
  obtain ⟨z1, z2⟩ := strip_letters l.length l (t.take (rsz t)) o.L1 fun x hx => o.L2 x (List.mem_of_mem_take hx)
  exact ⟨h1, h2, (plainC_plain l o.tn).tn, z1, z2⟩
theorem plainC_eq (o : EOk l t) (hn : 1000 < n) : callN tbl n (k + 2) 418 [.tup [Tp l, Tp t]] M = some (TT (plainC l t), M) := plain_of o (rsz_root o.tn) hn
theorem law_plainC (o : EOk l t) (hn : 1000 < n) : callN tbl n (k + 2) 425 [.tup [W l, W t]] M = some (WW (plainC l t), M) := law_plain o (rsz_root o.tn) hn
theorem plainC_few (l : List Int) {t : List Int} (ht : t ≠ []) : (plainC l t).1.length + (plainC l t).2.length ≤ l.length + t.length := by
  have h := rsz_root ht
  have := strip_len l.length l (t.take (rsz t))
  have h2 := h.le
  unfold plainC plainE
  rw [this.2]
  simp
  omega
theorem set_wins (l t : List Int) {m : Nat} (n : Nat) (h : m < 64) : setT ((winsE l t m n).map fun l => Tp l) = some ((uniqW (sortW (winsE l t m n))).map fun l => Tp l) := by
  refine setT_Tp (by simpa [winsE] using h) ?_
  cases n with
  | zero =>
    right
    have := len_sub (asc_nodup (uniq_asc (winsE l t m 0))) (b := [[]]) fun x hx => by
      have := uniq_iff.mp hx
      simp [winsE, winE] at this
      simp [this.2]
    exact this
  | succ n =>
    left
    intro x hx
    simp only [winsE, List.mem_map] at hx
    obtain ⟨i, _, rfl⟩ := hx
    intro e
    have := win_len l t (n + 1) i
    rw [e] at this; simp at this
theorem windows_of (o : EOk l t) (hs : s ≤ 1000) (hm : l.length + t.length < 64) : callN tbl n (k + 2) 444 [.tup [Tp l, Tp t], .int (s : Int)] M = some (.lst ((partsE l t s).map fun l => Tp l), M) := by
  refine call_eq t_windows_of rfl ?_
  have e1 : (l.length : Int) + (t.length : Int) = ((l.length + t.length : Nat) : Int) := by omega
  simp [-Int.natCast_ediv, -Int.natCast_emod, -Int.natCast_mul, -List.map_take, -List.map_drop, f_windows_of, e1, in62_n (show l.length + t.length < 1000000 by omega), in62_n (show s < 1000000 by omega), range_to, -Int.natCast_add]
  refine ok_lcm _ _ (fun (i : Nat) => Tp (winE l t s i)) rfl (fun i hi => ?_) (le_lim (by simp; omega)) ?_
  · simp [-Int.natCast_ediv, -Int.natCast_emod, -Int.natCast_mul, -List.map_take, -List.map_drop, in62_n (show s < 1000000 by omega), range_to, -Int.natCast_add]
    refine ok_lcm _ _ (fun (j : Nat) => .int (eAt l t (i + j))) rfl (fun j hj => ?_) (le_lim (by simp; omega)) (by simp [winE])
    have e2 : (i : Int) + (j : Int) = ((i + j : Nat) : Int) := by omega
    simp [-Int.natCast_ediv, -Int.natCast_emod, -Int.natCast_mul, -List.map_take, -List.map_drop, e2, at_index o, -Int.natCast_add]
  · have e2 : (List.range (l.length + t.length)).map (fun (i : Nat) => Tp (winE l t s i)) = (winsE l t (l.length + t.length) s).map fun l => Tp l := by simp [winsE]
    rw [e2, set_wins l t s hm]
    simp [partsE]
theorem law_parts (o : EOk l t) (hs : s ≤ 1000) : callN tbl n (k + 3) 448 [.tup [W l, W t], .int (s : Int)] M = some (.lst ((partsE l t s).map fun l => W l), M) := by
  refine call_eq t_law_parts rfl ?_
  have hl := o.ll
  have ht := o.tl
  have e1 : (l.length : Int) + (t.length : Int) = ((l.length + t.length : Nat) : Int) := by omega
  simp [-Int.natCast_ediv, -Int.natCast_emod, -Int.natCast_mul, -List.map_take, -List.map_drop, f_law_parts, e1, in62_n (show l.length + t.length < 1000000 by omega), in62_n (show s < 1000000 by omega), range_to, -Int.natCast_add]
  refine ok_lcm _ _ (fun (i : Nat) => W (winE l t s i)) rfl (fun i hi => ?_) (le_lim (by simp; omega)) ?_
  · simp [-Int.natCast_ediv, -Int.natCast_emod, -Int.natCast_mul, -List.map_take, -List.map_drop, in62_n (show s < 1000000 by omega), range_to, -Int.natCast_add]
    refine ok_lcm _ _ (fun (j : Nat) => .int (eAt l t (i + j))) rfl (fun j hj => ?_) (le_lim (by simp; omega)) (by simp [winE])
    have e2 : (i : Int) + (j : Int) = ((i + j : Nat) : Int) := by omega
    simp [-Int.natCast_ediv, -Int.natCast_emod, -Int.natCast_mul, -List.map_take, -List.map_drop, e2, law_at o, -Int.natCast_add]
  · have e2 : (List.range (l.length + t.length)).map (fun (i : Nat) => W (winE l t s i)) = (winsE l t (l.length + t.length) s).map fun l => W l := by simp [winsE]
    rw [e2]
    have e3 := fun M => law_unlike_eq (n := n) (k := k + 1) (M := M) t_law_unlike (winsE l t (l.length + t.length) s) (by simp [winsE]; omega) (fun x hx => by
      simp only [winsE, List.mem_map] at hx
      obtain ⟨i, _, rfl⟩ := hx
      rw [win_len]; omega)
    simp [e3, partsE]
theorem parts_item {x : List Int} (ht : t ≠ []) (h : x ∈ partsE l t s) : x.length = s := by
  obtain ⟨i, rfl⟩ := (parts_mem ht).mp h
  exact win_len _ _ _ _
theorem check_length {i : Nat} : callN tbl n (k + 3) 414 [.int (i : Int)] M = some (.non, M) := by
  refine call_eq t_check_length rfl ?_
  simp [f_check_length, is_number_int words]
end
end Ev.k99

set_option autoImplicit false
set_option linter.all false
set_option maxRecDepth 100000
set_option maxHeartbeats 4000000
/-! Ev: _law_same of words that may be unlike. -/
namespace Ev
open PySem H
section
variable {tbl : Nat → Option Ent} {n k : Nat} {M : Mem}
theorem same_int (t0 : tbl 14 = some (.code f_law_same)) (x y : Int) : callN tbl n (k + 1) 14 [.int x, .int y] M = some (.bl (decide (x = y)), M) := by
  refine call_eq t0 rfl ?_
  have e1 : ∀ (M : Mem) (i : Int), opCmp M .is (.int i) .non = some false := fun M i => rfl
  by_cases c : x = y
  · simp [-Int.natCast_ediv, -Int.natCast_emod, -Int.natCast_mul, -List.map_take, -List.map_drop, f_law_same, isiD, isiOne, tyOf, isTy, tysOf, e1, c]
  · simp [-Int.natCast_ediv, -Int.natCast_emod, -Int.natCast_mul, -List.map_take, -List.map_drop, f_law_same, isiD, isiOne, tyOf, isTy, tysOf, e1, c]
def zp : List Int → List Int → List (Int × Int)
  | x :: xs, y :: ys => (x, y) :: zp xs ys
  | _, _ => []
theorem zp_eq : ∀ a b : List Int, zipD (lints a) (lints b) = (zp a b).map fun p => D.tup [.int p.1, .int p.2]
  | [], b => by cases b <;> rfl
  | x :: xs, [] => rfl
  | x :: xs, y :: ys => by
    show zipD (.int x :: lints xs) (.int y :: lints ys) = _
    rw [zipD, zp_eq xs ys]; rfl
theorem zp_len (a b : List Int) : (zp a b).length ≤ a.length := by
  induction a generalizing b with
  | nil => simp [zp]
  | cons x xs ih =>
    cases b with
    | nil => simp [zp]
    | cons y ys => have := ih ys; simp [zp]; omega
theorem zp_all : ∀ a b : List Int, a.length = b.length → ((zp a b).all (fun p => decide (p.1 = p.2)) = decide (a = b))
  | [], [], _ => rfl
  | [], _ :: _, h => by simp at h
  | _ :: _, [], h => by simp at h
  | x :: xs, y :: ys, h => by
    rw [zp, List.all_cons, zp_all xs ys (by simpa using h)]
    by_cases c : x = y
    · subst c; simp
    · simp [c]
theorem same_W (t0 : tbl 14 = some (.code f_law_same)) (a b : List Int) (ha : a.length ≤ 1000) : callN tbl n (k + 2) 14 [W a, W b] M = some (.bl (decide (a = b)), M) := by
  refine call_eq t0 rfl ?_
  have e := fun x y M => same_int (n := n) (k := k) (M := M) t0 x y
  by_cases hl : a.length = b.length
  · simp [-Int.natCast_ediv, -Int.natCast_emod, -Int.natCast_mul, -List.map_take, -List.map_drop, -List.map_map, f_law_same, isiD, isiOne, tyOf, isTy, tysOf, hl, zp_eq]
    refine ⟨rfl, ?_⟩
    have zl := zp_len a b
    refine ok_lcm (zp a b) (fun p => D.tup [.int p.1, .int p.2]) (fun p => .bl (decide (p.1 = p.2))) rfl (fun p hp => by simp [-Int.natCast_ediv, -Int.natCast_emod, -Int.natCast_mul, -List.map_take, -List.map_drop, e]) (le_lim (by omega)) ?_
    have hb : ∀ l : List (Int × Int), bools (l.map fun p => D.bl (decide (p.1 = p.2))) = some (l.map fun p => decide (p.1 = p.2)) := by
      intro l
      induction l with
      | nil => rfl
      | cons p l ih => simp [bools, ih]
    rw [hb]
    simp only [get_some]
    refine ⟨?_, trivial⟩
    rw [← zp_all a b hl, List.all_map]
    rfl
  · have hn : ¬ a = b := fun z => hl (by rw [z])
    have hl' : ¬ ((a.length : Int) = (b.length : Int)) := by omega
    simp [-Int.natCast_ediv, -Int.natCast_emod, -Int.natCast_mul, -List.map_take, -List.map_drop, -List.map_map, f_law_same, isiD, isiOne, tyOf, isTy, tysOf, hl', hn]
theorem same_pair (t0 : tbl 14 = some (.code f_law_same)) (a b c d : List Int) (ha : a.length ≤ 1000) (hc : c.length ≤ 1000) : callN tbl n (k + 3) 14 [.tup [W a, W c], .tup [W b, W d]] M = some (.bl (decide (a = b ∧ c = d)), M) := by
  refine call_eq t0 rfl ?_
  have e1 := fun M => same_W (n := n) (k := k) (M := M) t0 a b ha
  have e2 := fun M => same_W (n := n) (k := k) (M := M) t0 c d hc
  have ez : zipD [W a, W c] [W b, W d] = [D.tup [W a, W b], D.tup [W c, W d]] := rfl
  simp [-Int.natCast_ediv, -Int.natCast_emod, -Int.natCast_mul, -List.map_take, -List.map_drop, -List.map_map, f_law_same, isiD, isiOne, tyOf, isTy, tysOf, ez]
  refine ⟨rfl, ?_⟩
  rw [show [D.tup [W a, W b], D.tup [W c, W d]] = [(a, b), (c, d)].map (fun p : List Int × List Int => D.tup [W p.1, W p.2]) from rfl]
  refine ok_lcm [(a, b), (c, d)] (fun p : List Int × List Int => D.tup [W p.1, W p.2]) (fun p => .bl (decide (p.1 = p.2))) rfl (fun p hp => ?_) (le_lim (by simp)) ?_
  · have hl : p.1.length ≤ 1000 := by
      simp only [List.mem_cons, List.not_mem_nil, or_false] at hp
      rcases hp with rfl | rfl
      · exact ha
      · exact hc
    have e := fun M => same_W (n := n) (k := k) (M := M) t0 p.1 p.2 hl
    simp [-Int.natCast_ediv, -Int.natCast_emod, -Int.natCast_mul, -List.map_take, -List.map_drop, e]
  · simp [bools]
end
end Ev

set_option autoImplicit false
set_option linter.all false
set_option maxRecDepth 100000
set_option maxHeartbeats 4000000
/-! k99: parts, settled, first_at. -/
namespace Ev.k99
open PySem Ev
/-- the first place of a word, in a list -/
def firstL (l t w : List Int) (m : Nat) : List Int := (((List.range m).filter fun i => decide (winE l t w.length i = w)).take 1).map fun (i : Nat) => (i : Int)
section
variable {n k : Nat} {M : Mem} {d e : D} {l t w : List Int} {s i : Nat}
theorem plain_parts (ht : t ≠ []) : partsE (plainC l t).1 (plainC l t).2 s = partsE l t s := parts_same (plainC_plain l ht).tn ht (eAt_plainC l ht) s
theorem plain_win (ht : t ≠ []) : winE (plainC l t).1 (plainC l t).2 s i = winE l t s i := by simp [winE, eAt_plainC l ht]
theorem endless_parts (hd : IsE d l t) (o : EOk l t) (hn : 1000 < n) (hs : s ≤ 1000) (hm : l.length + t.length < 64) : callN tbl n (k + 6) 445 [d, .int (s : Int)] M = some (.lst ((partsE l t s).map fun l => W l), M) := by
  refine call_eq t_endless_parts rfl ?_
  have po := plain_po o
  have e1 := fun M => need_endless (n := n) (k := k) (M := M) hd o
  have e2 := fun M => plainC_eq (n := n) (k := k + 3) (M := M) o hn
  have hf := plainC_few l o.tn
  have e3 := fun M => windows_of (n := n) (k := k + 3) (M := M) (s := s) po hs (by omega)
  have e4 := fun M => check_length (n := n) (k := k + 2) (M := M) (i := s)
  have hp := parts_few l t s
  simp [-Int.natCast_ediv, -Int.natCast_emod, -Int.natCast_mul, -List.map_take, -List.map_drop, f_endless_parts, e1, e2, e3, e4, plain_parts o.tn, -List.map_map]
  refine ok_lcm (partsE l t s) (fun l => Tp l) (fun l => W l) rfl (fun x hx => ?_) (le_lim (by omega)) ⟨rfl, rfl⟩
  simp [-Int.natCast_ediv, -Int.natCast_emod, -Int.natCast_mul, -List.map_take, -List.map_drop]
theorem endless_parts_live (hd : IsE d l t) (o : EOk l t) (hn : 1000 < n) (hs : s ≤ 1000) (hm : l.length + t.length < 64) : Live (callN tbl n (k + 6) 5445 [d, .int (s : Int)]) (.lst ((partsE l t s).map fun l => W l)) := by
  refine live_call t_endless_parts_live rfl fun S st => ?_
  have po := plain_po o
  have e1 := fun M => need_endless (n := n) (k := k) (M := M) hd o
  have e2 := fun M => plainC_eq (n := n) (k := k + 3) (M := M) o hn
  have hf := plainC_few l o.tn
  have e3 := fun M => windows_of (n := n) (k := k + 3) (M := M) (s := s) po hs (by omega)
  have e4 := fun M => check_length (n := n) (k := k + 2) (M := M) (i := s)
  have hp := parts_few l t s
  simp [-Int.natCast_ediv, -Int.natCast_emod, -Int.natCast_mul, -List.map_take, -List.map_drop, f_endless_parts_live, e1, e2, e3, e4, plain_parts o.tn, -List.map_map]
  refine ok_lcL (partsE l t s) (fun l => Tp l) (fun l => W l) (fun x hx S st => ?_) (by omega) fun ds S' x v => ?_
  · simp [-Int.natCast_ediv, -Int.natCast_emod, -Int.natCast_mul, -List.map_take, -List.map_drop]
    exact ⟨Xt.snoc _ _, (LvL.ints x (Nat.le_refl _)).cell (lt_lim (by have := parts_item o.tn hx; simp; omega))⟩
  · simp only [trim_fst]
    exact ⟨trivial, x.trans (Xt.snoc _ _), v.cell (lt_lim (by simp; omega))⟩
/-- from which size on there are as many -/
structure Settled (l t : List Int) (s many : Nat) : Prop where
  few : s < many
  now : (partsE l t s).length = many
  less : ∀ n, n < s → (partsE l t n).length < many ∧ (partsE l t n).length < (partsE l t (n + 1)).length
theorem settled_plain (ht : t ≠ []) : ∃ s, Settled l t s ((plainC l t).1.length + (plainC l t).2.length) := by
  obtain ⟨s, h1, h2, h3⟩ := settled_ex (plainC_plain l ht)
  simp only [plain_parts ht] at h2 h3
  exact ⟨s, h1, h2, h3⟩
theorem settled (hd : IsE d l t) (o : EOk l t) (hn : 1000 < n) (hm : l.length + t.length < 64) (h : Settled l t s ((plainC l t).1.length + (plainC l t).2.length)) : callN tbl n (k + 6) 446 [d] M = some (.tup [.int (s : Int), .int (((plainC l t).1.length + (plainC l t).2.length : Nat) : Int)], M) := by
  refine call_eq t_settled rfl ?_
  have po := plain_po o
  have e1 := fun M => need_endless (n := n) (k := k) (M := M) hd o
  have e2 := fun M => plainC_eq (n := n) (k := k + 3) (M := M) o hn
  have hf := plainC_few l o.tn
  have hs := h.few
  have ea : ((plainC l t).1.length : Int) + ((plainC l t).2.length : Int) = (((plainC l t).1.length + (plainC l t).2.length : Nat) : Int) := by omega
  simp [-Int.natCast_ediv, -Int.natCast_emod, -Int.natCast_mul, -List.map_take, -List.map_drop, f_settled, e1, e2, ea, -Int.natCast_add]
  refine ok_whileI (fun m env M' => M' = M ∧ ∃ j, env = [some d, some (TT (plainC l t)), some (.int (((plainC l t).1.length + (plainC l t).2.length : Nat) : Int)), some (.int ((j : Nat) : Int))] ∧ m + j = s) (fun m env M' h' => ?_) n s _ _ (by omega) ⟨rfl, 0, rfl, by omega⟩
  obtain ⟨rfl, j, rfl, hj⟩ := h'
  have e3 := fun M => windows_of (n := n) (k := k + 3) (M := M) (s := j) po (by omega) (by omega)
  by_cases c : j < s
  · have c2 := (h.less j c).1
    simp [-Int.natCast_ediv, -Int.natCast_emod, -Int.natCast_mul, -List.map_take, -List.map_drop, e3, plain_parts o.tn, c2, -Int.natCast_add]
    exact ⟨by omega, j + 1, by simp, by omega⟩
  · have : j = s := by omega
    subst this
    simp [-Int.natCast_ediv, -Int.natCast_emod, -Int.natCast_mul, -List.map_take, -List.map_drop, e3, plain_parts o.tn, h.now, -Int.natCast_add]
theorem enum_from : ∀ (w : List Int) (i : Nat), enumD i (lints w) = (List.range w.length).map fun (j : Nat) => D.tup [.int ((i + j : Nat) : Int), .int (w[j]?.getD 0)]
  | [], _ => rfl
  | x :: w, i => by
    show D.tup [.int (i : Nat), .int x] :: enumD (i + 1) (lints w) = _
    rw [enum_from w (i + 1), List.length_cons, List.range_succ_eq_map, List.map_cons, List.map_map]
    congr 1
    refine List.map_congr_left fun j _ => ?_
    simp [Nat.add_assoc, Nat.add_comm 1 j]
theorem enum_ints (w : List Int) : enumD 0 (lints w) = (List.range w.length).map fun (j : Nat) => D.tup [.int (j : Int), .int (w[j]?.getD 0)] := by
  rw [enum_from]; simp
def FA (d e : D) (l t w : List Int) (m : Nat) (p : List Int × List Int) (M : Mem) (xs : List Nat) (env : Env) (M' : Mem) : Prop := M' = M ∧ (∃ a4 a5 a6, env = [some d, some e, some (TT p), some (Tp w), a4, a5, a6]) ∧ ((List.range m).filter fun i => decide (winE l t w.length i = w)).take 1 = (xs.filter fun i => decide (winE l t w.length i = w)).take 1
theorem win_all (l t w : List Int) (i : Nat) : ((List.range w.length).all fun j => decide (eAt l t (i + j) = w[j]?.getD 0)) = decide (winE l t w.length i = w) := by
  rw [Bool.eq_iff_iff]
  simp only [List.all_eq_true, decide_eq_true_eq, List.mem_range]
  constructor
  · intro h
    apply List.ext_getElem?
    intro j
    by_cases hj : j < w.length
    · rw [win_get hj, h j hj, List.getElem?_eq_getElem hj]; rfl
    · rw [List.getElem?_eq_none (by rw [win_len]; omega), List.getElem?_eq_none (by omega)]
  · intro h j hj
    have := win_get (l := l) (t := t) (i := i) hj
    rw [h] at this
    rw [this]; rfl
theorem first_at (hd : IsE d l t) (he : IsWord e w) (o : EOk l t) (hn : 1000 < n) (hw : w.length ≤ 1000) (hL : Letters w) : callN tbl n (k + 6) 447 [d, e] M = some (.lst ((firstL l t w ((plainC l t).1.length + (plainC l t).2.length)).map D.int), M) := by
  refine call_eq t_first_at rfl ?_
  have po := plain_po o
  have e1 := fun M => need_endless (n := n) (k := k) (M := M) hd o
  have e2 := fun M => plainC_eq (n := n) (k := k + 3) (M := M) o hn
  have e3 := fun M => need_spec (n := n) (k := k + 1) (M := M) words t_need_word he (le_lim (by omega)) hL
  have p1 := po.ll
  have p2 := po.tl
  have ea : ((plainC l t).1.length : Int) + ((plainC l t).2.length : Int) = (((plainC l t).1.length + (plainC l t).2.length : Nat) : Int) := by omega
  simp [-Int.natCast_ediv, -Int.natCast_emod, -Int.natCast_mul, -List.map_take, -List.map_drop, f_first_at, e1, e2, e3, ea, in62_n (show (plainC l t).1.length + (plainC l t).2.length < 1000000 by omega), range_to, -Int.natCast_add]
  refine ok_forI (fun (i : Nat) => D.int (i : Int)) (FA d e l t w ((plainC l t).1.length + (plainC l t).2.length) (plainC l t) M) (fun _ _ _ _ => rfl) (fun i xs env M' h' => ?_) (fun env M' h' => ?_) (List.range ((plainC l t).1.length + (plainC l t).2.length)) _ _ ⟨rfl, ⟨_, _, _, rfl⟩, rfl⟩
  · obtain ⟨rfl, ⟨a4, a5, a6, rfl⟩, hf⟩ := h'
    simp [-Int.natCast_ediv, -Int.natCast_emod, -Int.natCast_mul, -List.map_take, -List.map_drop, -Int.natCast_add, enum_ints]
    refine ok_lcm _ _ (fun (j : Nat) => .bl (decide (eAt (plainC l t).1 (plainC l t).2 (i + j) = w[j]?.getD 0))) rfl (fun j hj => ?_) (le_lim (by simp; omega)) ?_
    · have e5 : (i : Int) + (j : Int) = ((i + j : Nat) : Int) := by omega
      simp [-Int.natCast_ediv, -Int.natCast_emod, -Int.natCast_mul, -List.map_take, -List.map_drop, e5, at_index po, -Int.natCast_add]
      rfl
    · have hp : (∃ a, a < w.length ∧ ¬eAt (plainC l t).1 (plainC l t).2 (i + a) = w[a]?.getD 0) ↔ ¬ winE l t w.length i = w := by
        have hq := win_all (plainC l t).1 (plainC l t).2 w i
        rw [plain_win o.tn, Bool.eq_iff_iff] at hq
        simp only [List.all_eq_true, decide_eq_true_eq, List.mem_range] at hq
        rw [← hq]
        simp
      simp [-Int.natCast_ediv, -Int.natCast_emod, -Int.natCast_mul, -List.map_take, -List.map_drop, -Int.natCast_add]
      by_cases c : winE l t w.length i = w
      · rw [if_neg fun z => hp.mp z c]
        simp [firstL, hf, c]
      · rw [if_pos (hp.mpr c)]
        exact ⟨rfl, ⟨_, _, _, rfl⟩, by rw [hf, List.filter_cons_of_neg (by simpa using c)]⟩
  · obtain ⟨rfl, ⟨a4, a5, a6, rfl⟩, hf⟩ := h'
    simp [-Int.natCast_ediv, -Int.natCast_emod, -Int.natCast_mul, -List.map_take, -List.map_drop, firstL, hf]
theorem first_at_live (hd : IsE d l t) (he : IsWord e w) (o : EOk l t) (hn : 1000 < n) (hw : w.length ≤ 1000) (hL : Letters w) : Live (callN tbl n (k + 6) 5447 [d, e]) (.lst ((firstL l t w ((plainC l t).1.length + (plainC l t).2.length)).map D.int)) := by
  refine .cell (fun S st => ?_) (lt_lim (by simp [firstL]; omega)) fun _ _ h => .ints _ h
  refine call_eqL t_first_at_live rfl rfl ?_
  have po := plain_po o
  have e1 := fun M => need_endless (n := n) (k := k) (M := M) hd o
  have e2 := fun M => plainC_eq (n := n) (k := k + 3) (M := M) o hn
  have e3 := fun M => need_spec (n := n) (k := k + 1) (M := M) words t_need_word he (le_lim (by omega)) hL
  have p1 := po.ll
  have p2 := po.tl
  have ea : ((plainC l t).1.length : Int) + ((plainC l t).2.length : Int) = (((plainC l t).1.length + (plainC l t).2.length : Nat) : Int) := by omega
  simp [-Int.natCast_ediv, -Int.natCast_emod, -Int.natCast_mul, -List.map_take, -List.map_drop, f_first_at_live, e1, e2, e3, ea, in62_n (show (plainC l t).1.length + (plainC l t).2.length < 1000000 by omega), range_to, -Int.natCast_add]
  refine ok_forI (fun (i : Nat) => D.int (i : Int)) (FA d e l t w ((plainC l t).1.length + (plainC l t).2.length) (plainC l t) ⟨S, st⟩) (fun _ _ _ _ => rfl) (fun i xs env M' h' => ?_) (fun env M' h' => ?_) (List.range ((plainC l t).1.length + (plainC l t).2.length)) _ _ ⟨rfl, ⟨_, _, _, rfl⟩, rfl⟩
  · obtain ⟨rfl, ⟨a4, a5, a6, rfl⟩, hf⟩ := h'
    simp [-Int.natCast_ediv, -Int.natCast_emod, -Int.natCast_mul, -List.map_take, -List.map_drop, -Int.natCast_add, enum_ints]
    refine ok_lcm _ _ (fun (j : Nat) => .bl (decide (eAt (plainC l t).1 (plainC l t).2 (i + j) = w[j]?.getD 0))) rfl (fun j hj => ?_) (le_lim (by simp; omega)) ?_
    · have e5 : (i : Int) + (j : Int) = ((i + j : Nat) : Int) := by omega
      simp [-Int.natCast_ediv, -Int.natCast_emod, -Int.natCast_mul, -List.map_take, -List.map_drop, e5, at_index po, -Int.natCast_add]
      rfl
    · have hp : (∃ a, a < w.length ∧ ¬eAt (plainC l t).1 (plainC l t).2 (i + a) = w[a]?.getD 0) ↔ ¬ winE l t w.length i = w := by
        have hq := win_all (plainC l t).1 (plainC l t).2 w i
        rw [plain_win o.tn, Bool.eq_iff_iff] at hq
        simp only [List.all_eq_true, decide_eq_true_eq, List.mem_range] at hq
        rw [← hq]
        simp
      simp [-Int.natCast_ediv, -Int.natCast_emod, -Int.natCast_mul, -List.map_take, -List.map_drop, -Int.natCast_add]
      by_cases c : winE l t w.length i = w
      · rw [if_neg fun z => hp.mp z c]
        simp [firstL, hf, c, lints]
      · rw [if_pos (hp.mpr c)]
        exact ⟨rfl, ⟨_, _, _, rfl⟩, by rw [hf, List.filter_cons_of_neg (by simpa using c)]⟩
  · obtain ⟨rfl, ⟨a4, a5, a6, rfl⟩, hf⟩ := h'
    simp [-Int.natCast_ediv, -Int.natCast_emod, -Int.natCast_mul, -List.map_take, -List.map_drop, firstL, hf]
end
end Ev.k99

set_option autoImplicit false
set_option linter.all false
set_option maxRecDepth 100000
set_option maxHeartbeats 4000000
/-! k99: the law's truth. -/
namespace Ev.k99
open PySem Ev H
/-- a loose copy of an endless word -/
theorem loose_E {l t : List Int} {d : D} (h : Loose (.tup [W l, W t]) d) : ∃ c b1 b2, d = Sq c [WT b1 l, WT b2 t] := by
  obtain ⟨c, ys, rfl, h2⟩ := h.tup
  obtain ⟨z1, zs, rfl, h3, h4⟩ := h2.cons'
  obtain ⟨z2, zs2, rfl, h5, h6⟩ := h4.cons'
  obtain rfl := h6.nil'
  obtain ⟨b1, rfl⟩ := h3.word
  obtain ⟨b2, rfl⟩ := h5.word
  exact ⟨c, b1, b2, rfl⟩
theorem mul2 {M : Mem} {d : D} : opBin M .mul (.lst [d]) (.int 2) = some (.lst [d, d]) := by
  simp [opBin, listOf, rep]
/-- how many parts of each size -/
def cntL (l t : List Int) (m : Nat) : List Int := (List.range m).map fun s => ((partsE l t s).length : Int)
theorem cnt_get {l t : List Int} {m i : Nat} (h : i < m) : (cntL l t m)[i]? = some ((partsE l t i).length : Int) := by simp [cntL, h]
theorem cnt_len (l t : List Int) (m : Nat) : (cntL l t m).length = m := by simp [cntL]
theorem pys_ints : ∀ l : List Int, D.pys (lints l) = l.map PyData.int
  | [] => rfl
  | x :: l => by
    show D.pys (.int x :: lints l) = _
    rw [D.pys, pys_ints l]; rfl
theorem fdx_W (l : List Int) (x : Int) (j : Nat) (hl : l.length ≤ 1000) (h1 : l[j]? = some x) (h2 : ∀ i, i < j → l[i]? ≠ some x) {M : Mem} : fdxD M (.int x) (W l) = some (.int (j : Int)) := by
  have v1 : view M (.int x) = some (.int x) := rfl
  have v2 : view M (W l) = some (W l) := by simp [view, D.pure, pures_lints]
  have sh : SeqAt.shaped (W l).py = true := shaped_tree (by simp; omega) (by simp) (by simp)
  have sh0 : SeqAt.shaped (D.int x).py = true := shaped_tree (by simp) (by simp) (by simp)
  simp only [fdxD, v1, v2, sh, sh0, Bool.and_self, if_true]
  have e : (lints l).findIdx? (fun y => PyData.eqv y.py (D.int x).py) = some j := by
    obtain ⟨hj, hx⟩ := List.getElem?_eq_some_iff.mp h1
    refine List.findIdx?_eq_some_iff_getElem.mpr ⟨by simpa [lints] using hj, ?_, fun i hi => ?_⟩
    · simp [lints, hx, D.py, PyData.eqv]
    · have hi2 : i < l.length := by omega
      have := h2 i hi
      rw [List.getElem?_eq_getElem hi2] at this
      simp [lints, D.py, PyData.eqv]
      exact fun z => this (by rw [z])
  rw [e]; rfl
theorem fdx_cnt {l t : List Int} {s many : Nat} (h : Settled l t s many) (hm : many ≤ 500) {M : Mem} : fdxD M (.int (many : Int)) (W (cntL l t (many + 2))) = some (.int (s : Int)) := by
  have hs := h.few
  refine fdx_W _ _ _ (by rw [cnt_len]; omega) (by rw [cnt_get (by omega), h.now]) fun i hi e => ?_
  rw [cnt_get (by omega)] at e
  have := (h.less i hi).1
  have e2 := Option.some.inj e
  omega
theorem idx_cnt {l t : List Int} {m i : Nat} (h : i < m) {M : Mem} : idxD M (W (cntL l t m)) (.int (i : Int)) = some (.int ((partsE l t i).length : Int)) := by
  obtain ⟨h1, h2⟩ := List.getElem?_eq_some_iff.mp (cnt_get (l := l) (t := t) h)
  simp [idxD, seqOf, listOf, atD, ixOf, lints, cnt_len, h, h2]
theorem parts_zero {l t : List Int} (ht : t ≠ []) : (partsE l t 0).length = 1 := by
  have h1 := len_sub (asc_nodup (parts_asc l t 0)) (b := [[]]) fun x hx => by
    obtain ⟨i, rfl⟩ := (parts_mem ht).mp hx
    simp [winE]
  have h2 : winE l t 0 0 ∈ partsE l t 0 := (parts_mem ht).mpr ⟨0, rfl⟩
  have h3 := List.length_pos_of_mem h2
  simp at h1; omega
theorem root_01 : IsRoot [1] 1 := ⟨by decide, by decide, ⟨⟨1, rfl⟩, by decide⟩, fun t h1 h2 hp => by omega⟩
theorem root_55 : IsRoot [5, 5] 1 := ⟨by decide, by decide, ⟨⟨2, rfl⟩, by decide⟩, fun t h1 h2 hp => by omega⟩
theorem plain_01 : plainC [0] [1] = ([0], [1]) := by rw [← plain_rsz [0] root_01]; rfl
theorem plain_55 : plainC [] [5, 5] = ([], [5]) := by rw [← plain_rsz [] root_55]; rfl
theorem set_01 : Settled [0] [1] 1 2 := by
  have h : ∃ s, Settled [0] [1] s 2 := by
    obtain ⟨s, h⟩ := settled_plain (l := [0]) (t := [1]) (by simp)
    rw [plain_01] at h
    exact ⟨s, h⟩
  obtain ⟨s, h⟩ := h
  have h1 := h.few
  match s, h1 with
  | 0, _ => have := h.now; rw [parts_zero (by simp)] at this; omega
  | 1, _ => exact h
theorem set_55 : Settled [] [5, 5] 0 1 := by
  obtain ⟨s, h⟩ := settled_plain (l := []) (t := [5, 5]) (by simp)
  rw [plain_55] at h
  have h1 := h.few
  match s, h1 with
  | 0, _ => exact h
theorem parts_01 : partsE [0] [1] 2 = [[0, 1], [1, 1]] := by
  refine asc_same (parts_asc _ _ _) (by decide) fun x => ?_
  unfold partsE
  rw [uniq_iff]
  have e : winsE [0] [1] 2 2 = [[0, 1], [1, 1]] := by decide
  exact iff_of_eq (congrArg (fun z => x ∈ z) e)
theorem first_none : ∀ m : Nat, m ≤ 2 → firstL [] [0, 1] [1, 1] m = [] := by decide
def WQ (S : List C) (b : Nat) (d : D) (M' : Mem) : Prop := ∃ w s', d = W w ∧ M' = ⟨S, some s'⟩ ∧ Letters w ∧ w.length ≤ 7 ∧ Bud b s'
def I (xs : List Nat) (env : Env) (M : Mem) : Prop := ∃ x0 x2 x3 x4 x5 x6 x7 x8 x9 x10 x11 x12 x13 x14 x15 x16 x17 x18 x19 S s, env = [x0, some .strm, x2, x3, x4, x5, x6, x7, x8, x9, x10, x11, x12, x13, x14, x15, x16, x17, x18, x19] ∧ M = ⟨S, some s⟩ ∧ Bud (2000 * xs.length) s
theorem law_true : ∀ ns : List Int, ns.length ≤ 63 → ∃ M', callN tbl 2000 (40 + 1) 449 [.scr ns] ⟨[], none⟩ = some (.bl true, M') := by
  intro ns hns
  refine law_ok t_law_37 rfl ?_
  simp [-Int.natCast_ediv, -Int.natCast_emod, -Int.natCast_mul, -List.map_take, -List.map_drop, f_law_37, -ok_for, -ok_iff_]
  refine ok_stream t_law_stream hns fun s b0 => ?_
  rw [ok_for]
  simp [-Int.natCast_ediv, -Int.natCast_emod, -Int.natCast_mul, -List.map_take, -List.map_drop, -List.map_map]
  refine ⟨by decide, ?_⟩
  rw [show (4 : Int) = ((4 : Nat) : Int) from rfl, range_num]
  refine ok_forI (fun (i : Nat) => D.int (i : Int)) I (fun _ _ _ _ => rfl) (fun x xs env M h => ?_) (fun env M h => ?_) (List.range 4) _ _ ⟨_, _, _, _, _, _, _, _, _, _, _, _, _, _, _, _, _, _, _, _, _, rfl, rfl, b0.mono (by simp)⟩
  · obtain ⟨x0, x2, x3, x4, x5, x6, x7, x8, x9, x10, x11, x12, x13, x14, x15, x16, x17, x18, x19, S, s, rfl, rfl, hb⟩ := h
    simp only [List.length_cons, Nat.mul_add] at hb
    simp [-Int.natCast_ediv, -Int.natCast_emod, -Int.natCast_mul, -List.map_take, -List.map_drop, -ok_iff_, -ok_for, -ok_ife]
    refine ok_draw t_law_draw (hb.mono (a := 2000 * xs.length + 1900 + 1) (by omega)) (by decide) (by decide) fun r1 s1 hr1 b1 => ?_
    simp [-Int.natCast_ediv, -Int.natCast_emod, -Int.natCast_mul, -List.map_take, -List.map_drop, -ok_iff_, -ok_for, -ok_ife]
    refine ok_endless (b := 2000 * xs.length + 1700) (m := 1 + (r1 : Int)) (by omega) (by omega) (b1.mono (by omega)) fun l t s2 l1 l2 tn lL tL lm b2 => ?_
    have o : EOk l t := ⟨by omega, by omega, tn, lL, tL⟩
    have t1 : (D.tup [W l, W t]).tree = true := by simp; omega
    refine ok_loose (b := 2000 * xs.length + 1600) t_law_draw t_law_loose (t := .tup [W l, W t]) t1 (by simp) (b2.mono (by simp)) fun hd s3 hh b3 => ?_
    obtain ⟨ca, b1a, b1b, rfl⟩ := loose_E hh
    have i1 : IsE (Sq ca [WT b1a l, WT b1b t]) l t := ⟨ca, b1a, b1b, rfl⟩
    have tH : (Sq ca [WT b1a l, WT b1b t]).tree = true := by simp; omega
    have cpH := fun M => copied_eq (tbl := tbl) (n := 2000) (k := 39) (M := M) t_law_copied tH (by simp)
    have cpE := fun M => copied_eq (tbl := tbl) (n := 2000) (k := 39) (M := M) t_law_copied t1 (by simp)
    have lp := fun M => law_plainC (n := 2000) (k := 38) (M := M) o (by decide)
    have hm := plainC_few l tn
    have pos : 0 < (plainC l t).2.length := List.length_pos_iff.mpr (plainC_plain l tn).tn
    obtain ⟨last, hst⟩ := settled_plain (l := l) tn
    have se1 := fun M => settled (n := 2000) (k := 34) (M := M) i1 o (by decide) (by omega) hst
    have se2 := fun M => settled (n := 2000) (k := 34) (M := M) (isE_tup l t) o (by decide) (by omega) hst
    have ea : ((plainC l t).1.length : Int) + ((plainC l t).2.length : Int) = (((plainC l t).1.length + (plainC l t).2.length : Nat) : Int) := by omega
    simp [-Int.natCast_ediv, -Int.natCast_emod, -Int.natCast_mul, -List.map_take, -List.map_drop, -ok_iff_, -ok_for, -ok_ife, cpH, lp, ea, -Int.natCast_add]
    have e1 : (((plainC l t).1.length + (plainC l t).2.length : Nat) : Int) + 2 = (((plainC l t).1.length + (plainC l t).2.length + 2 : Nat) : Int) := by omega
    rw [e1, in62_n (by omega), range_to]
    refine ⟨rfl, ?_⟩
    refine ok_lcm _ _ (fun (i : Nat) => D.int ((partsE l t i).length : Int)) rfl (fun i hi => ?_) (le_lim (by simp; omega)) ?_
    · simp [-Int.natCast_ediv, -Int.natCast_emod, -Int.natCast_mul, -List.map_take, -List.map_drop, law_parts (n := 2000) (k := 37) o (show i ≤ 1000 by have := List.mem_range.mp hi; omega)]
    have ec : D.lst (List.map (fun i => D.int ((partsE l t i).length : Int)) (List.range ((plainC l t).1.length + (plainC l t).2.length + 2))) = W (cntL l t ((plainC l t).1.length + (plainC l t).2.length + 2)) := by simp [cntL]
    rw [ec, fdx_cnt hst (by omega), get_some]
    have hfew := hst.few
    have hless := hst.less
    generalize hmy : (plainC l t).1.length + (plainC l t).2.length = many at *
    have sS := fun M => same_eq (tbl := tbl) (n := 2000) (k := 39) (M := M) t_law_same (t := .lst [.tup [.int (last : Int), .int (many : Int)], .tup [.int (last : Int), .int (many : Int)]]) (by simp) (by simp) (by simp)
    refine ok_if_no ?_ ?_
    · simp [-Int.natCast_ediv, -Int.natCast_emod, -Int.natCast_mul, -List.map_take, -List.map_drop, se1, se2, cpE, mul2, sS, -Int.natCast_add, in62_n (show last < 1000000 by omega), range_to, -List.map_map]
      refine ok_lcm _ _ (fun (i : Nat) => D.bl true) rfl (fun i hi => ?_) (le_lim (by simp; omega)) ?_
      · have hi := List.mem_range.mp hi
        have e2 : (i : Int) + 1 = ((i + 1 : Nat) : Int) := by omega
        have := (hless i hi).2
        simp [-Int.natCast_ediv, -Int.natCast_emod, -Int.natCast_mul, -List.map_take, -List.map_drop, -Int.natCast_add, e2, idx_cnt (l := l) (t := t) (show i < many + 2 by omega), idx_cnt (l := l) (t := t) (show i + 1 < many + 2 by omega), this]
      · simp [-Int.natCast_ediv, -Int.natCast_emod, -Int.natCast_mul, -List.map_take, -List.map_drop, bools_map]
    simp [-Int.natCast_ediv, -Int.natCast_emod, -Int.natCast_mul, -List.map_take, -List.map_drop, -ok_iff_, -ok_for, -ok_ife, -List.map_map]
    refine ok_draw t_law_draw (b3.mono (a := 2000 * xs.length + 1500 + 1) (by omega)) (by decide) (by decide) fun sz s4 hsz b4 => ?_
    have hsz2 : sz < 13 := by omega
    have lq := fun M => law_parts (n := 2000) (k := 37) (M := M) (s := sz) o (by omega)
    simp [-Int.natCast_ediv, -Int.natCast_emod, -Int.natCast_mul, -List.map_take, -List.map_drop, -ok_iff_, -ok_for, -ok_ife, -List.map_map, lq]
    have pl := parts_few l t sz
    have ll1 := endless_parts_live (n := 2000) (k := 34) (s := sz) i1 o (by decide) (by omega) (by omega)
    have ll2 := endless_parts_live (n := 2000) (k := 34) (s := sz) (isE_tup l t) o (by decide) (by omega) (by omega)
    have le1 := fun M => endless_parts (n := 2000) (k := 34) (M := M) (s := sz) (isE_tup l t) o (by decide) (by omega) (by omega)
    have pli := fun x hx => parts_item (l := l) (t := t) (s := sz) (x := x) tn hx
    generalize partsE l t sz = ps at ll1 ll2 le1 pl pli
    have tP : (D.lst (ps.map fun w => W w)).tree = true := by
      show (decide _ && D.trees _) = true
      rw [trees_W _ (fun w hw => by have := pli w hw; omega)]
      simp; omega
    have gP : (D.lst (ps.map fun w => W w)).hgt ≤ 2 := by
      have := hgts_W ps
      show D.hgts _ + 1 ≤ 2
      omega
    have gP' : D.hgts (ps.map fun w => W w) ≤ 1 := hgts_W ps
    have rP : (D.lst (ps.map fun w => W w)).strs = true := strss_W ps
    refine ll1.ok fun d1_ S1 y1 v1 => ?_
    simp [-Int.natCast_ediv, -Int.natCast_emod, -Int.natCast_mul, -List.map_take, -List.map_drop, -ok_iff_, -ok_for, -ok_ife, -List.map_map, cpE]
    refine ll2.ok fun d2_ S2 y2 v2 => ?_
    have v := (LvL.cons v1 y2 (.cons v2 (Xt.refl _) (.nil (Nat.le_refl _)))).cell (lt_lim (by simp))
    have swH := fun M => same_eq (tbl := tbl) (n := 2000) (k := 39) (M := M) t_law_same (t := Sq ca [WT b1a l, WT b1b t]) tH (by simp) (by simp)
    refine ok_if_no ?_ ?_
    · simp [-Int.natCast_ediv, -Int.natCast_emod, -Int.natCast_mul, -List.map_take, -List.map_drop, -List.map_map]
      rw [v.same t_law_same (by simp; omega) (by simp [tP]) (by simp [rP])]
      simp [-Int.natCast_ediv, -Int.natCast_emod, -Int.natCast_mul, -List.map_take, -List.map_drop, -List.map_map, swH]
    simp [-Int.natCast_ediv, -Int.natCast_emod, -Int.natCast_mul, -List.map_take, -List.map_drop, -ok_iff_, -ok_for, -ok_ife, -List.map_map]
    refine v.spoil t_law_spoilt (by simp; omega) fun S3 _ _ => ?_
    have em : (many : Int) + 5 = ((many + 5 : Nat) : Int) := by omega
    simp [-Int.natCast_ediv, -Int.natCast_emod, -Int.natCast_mul, -List.map_take, -List.map_drop, -ok_iff_, -ok_for, -ok_ife, -List.map_map, em, -Int.natCast_add]
    refine ok_draw t_law_draw (b4.mono (a := 2000 * xs.length + 1400 + 1) (by omega)) (by omega) (by omega) fun bg s5 hbg b5 => ?_
    refine ok_draw t_law_draw (b5.mono (a := 2000 * xs.length + 1300 + 1) (by omega)) (by decide) (by decide) fun nw s6 hnw b6 => ?_
    refine ⟨_, rfl, in62_n (by omega), ?_⟩
    rw [range_to]
    refine ok_lcm _ _ (fun (j : Nat) => D.int (eAt l t (bg + j))) rfl (fun j hj => ?_) (le_lim (by simp; omega)) ?_
    · have e3 : (bg : Int) + (j : Int) = ((bg + j : Nat) : Int) := by omega
      simp [-Int.natCast_ediv, -Int.natCast_emod, -Int.natCast_mul, -List.map_take, -List.map_drop, -Int.natCast_add, e3, law_at (n := 2000) (k := 38) o]
    have ew : (List.range nw).map (fun (j : Nat) => D.int (eAt l t (bg + j))) = lints (winE l t nw bg) := by simp [winE, lints]
    rw [ew]
    have wl := win_len l t nw bg
    have wL : Letters (winE l t nw bg) := fun x hx => by
      simp only [winE, List.mem_map] at hx
      obtain ⟨j, _, rfl⟩ := hx
      unfold eAt
      split
      · cases hg : l[bg + j]? with
        | none => simp
        | some y => exact lL y (List.mem_of_getElem? hg)
      · cases hg : t[(bg + j - l.length) % t.length]? with
        | none => simp
        | some y => exact tL y (List.mem_of_getElem? hg)
    generalize winE l t nw bg = w0 at wl wL
    refine Ok.mono (Q := WQ S3 (2000 * xs.length + 1100)) ?_ fun d M' hq => ?_
    · simp [-Int.natCast_ediv, -Int.natCast_emod, -Int.natCast_mul, -List.map_take, -List.map_drop]
      refine ok_draw t_law_draw (b6.mono (a := 2000 * xs.length + 1200 + 1) (by omega)) (by decide) (by decide) fun c s7 hc b7 => ?_
      by_cases c0 : 0 < c
      · simp [-Int.natCast_ediv, -Int.natCast_emod, -Int.natCast_mul, -List.map_take, -List.map_drop, c0]
        exact ⟨w0, s7, rfl, rfl, wL, by omega, b7.mono (by omega)⟩
      · simp [-Int.natCast_ediv, -Int.natCast_emod, -Int.natCast_mul, -List.map_take, -List.map_drop, c0]
        refine ok_draw t_law_draw (b7.mono (a := 2000 * xs.length + 1100 + 1) (by omega)) (by decide) (by decide) fun c s8 hc b8 => ?_
        have aw : ∀ M, opBin M .add (W w0) (.lst [.int (c : Int)]) = some (W (w0 ++ [(c : Int)])) := fun M => add_W' (M := M) w0 [(c : Int)] (by simp; omega)
        simp [-Int.natCast_ediv, -Int.natCast_emod, -Int.natCast_mul, -List.map_take, -List.map_drop, aw]
        exact ⟨w0 ++ [(c : Int)], s8, rfl, rfl, fun x hx => (List.mem_append.mp hx).elim (wL x) (fun h => by simp at h; omega), by simp; omega, b8.mono (by omega)⟩
    obtain ⟨w, s7, rfl, rfl, hwL, hwl, b7⟩ := hq
    refine ⟨in62_n (by omega), ?_⟩
    rw [range_to]
    refine ok_lcf (List.range many) _ (fun i => decide (winE l t w.length i = w)) (fun (i : Nat) => D.int (i : Int)) rfl (fun i hi => ?_) (le_lim (by simp; omega)) ?_
    · simp [-Int.natCast_ediv, -Int.natCast_emod, -Int.natCast_mul, -List.map_take, -List.map_drop, enum_ints]
      refine ok_lcm _ _ (fun (j : Nat) => .bl (decide (eAt l t (i + j) = w[j]?.getD 0))) rfl (fun j hj => ?_) (le_lim (by simp; omega)) ?_
      · have e5 : (i : Int) + (j : Int) = ((i + j : Nat) : Int) := by omega
        simp [-Int.natCast_ediv, -Int.natCast_emod, -Int.natCast_mul, -List.map_take, -List.map_drop, e5, law_at (n := 2000) (k := 38) o, -Int.natCast_add]
        rfl
      · have hp := win_all l t w i
        simp [-Int.natCast_ediv, -Int.natCast_emod, -Int.natCast_mul, -List.map_take, -List.map_drop, bools_map, List.all_map, Function.comp_def, -Int.natCast_add, -List.all_eq_true]
        have hq : (∃ a, a < w.length ∧ ¬eAt l t (i + a) = w[a]?.getD 0) ↔ ¬ winE l t w.length i = w := by
          rw [Bool.eq_iff_iff] at hp
          simp only [List.all_eq_true, decide_eq_true_eq, List.mem_range] at hp
          rw [← hp]
          simp
        by_cases c : winE l t w.length i = w
        · rw [if_neg fun z => hq.mp z c]; exact c
        · rw [if_pos (hq.mpr c)]; exact c
    have eF : D.lst ((List.filter (fun i => decide (winE l t w.length i = w)) (List.range many)).map fun (i : Nat) => D.int (i : Int)) = W ((List.filter (fun i => decide (winE l t w.length i = w)) (List.range many)).map fun (i : Nat) => (i : Int)) := by simp
    rw [eF]
    have fa1 := fun (d : D) (hd : IsWord d w) => first_at_live (n := 2000) (k := 34) (w := w) i1 hd o (by decide) (by omega) hwL
    have fa2 := first_at_live (n := 2000) (k := 34) (w := w) (isE_tup l t) (isW w) o (by decide) (by omega) hwL
    have fa3 := fun M => first_at (n := 2000) (k := 34) (M := M) (w := w) (isE_tup l t) (isW w) o (by decide) (by omega) hwL
    rw [hmy] at fa2
    simp only [hmy] at fa1 fa3
    have eT : firstL l t w many = ((List.filter (fun i => decide (winE l t w.length i = w)) (List.range many)).map fun (i : Nat) => (i : Int)).take 1 := by simp [firstL, List.map_take]
    rw [eT] at fa2
    simp only [eT] at fa1 fa3
    generalize hF : (List.filter (fun i => decide (winE l t w.length i = w)) (List.range many)).map (fun (i : Nat) => (i : Int)) = F at *
    have hF1 : (F.take 1).length ≤ 1 := by simp; omega
    have sF : ∀ M, slcD M (W F) none (some 1) = some (W (F.take 1)) := fun M => sl_to (M := M) F 1
    refine ok_looseW (k := 38) t_law_draw t_law_loose (by omega) (b7.mono (a := 2000 * xs.length + 1000 + 1) (by omega)) fun cw s8 b8 => ?_
    refine (fa1 _ (isWord_WT cw w)).ok fun d3_ S4 y3 v3 => ?_
    simp [-Int.natCast_ediv, -Int.natCast_emod, -Int.natCast_mul, -List.map_take, -List.map_drop, -ok_iff_, -ok_for, -ok_ife, -List.map_map, cpE]
    refine fa2.ok fun d4_ S5 y4 v4 => ?_
    have vv := (LvL.cons v3 y4 (.cons v4 (Xt.refl _) (.nil (Nat.le_refl _)))).cell (lt_lim (by simp))
    refine ok_if_no ?_ ?_
    · simp [-Int.natCast_ediv, -Int.natCast_emod, -Int.natCast_mul, -List.map_take, -List.map_drop, -List.map_map, sF]
      rw [vv.same t_law_same (by simp) (by simp; omega) (by simp [-List.map_take])]
      simp [-Int.natCast_ediv, -Int.natCast_emod, -Int.natCast_mul, -List.map_take, -List.map_drop, -List.map_map, swH]
    simp [-Int.natCast_ediv, -Int.natCast_emod, -Int.natCast_mul, -List.map_take, -List.map_drop, -ok_iff_, -ok_for, -ok_ife, -List.map_map]
    refine vv.spoil t_law_spoilt (by simp) fun S6 _ _ => ?_
    have sw2 := fun M => same_eq (tbl := tbl) (n := 2000) (k := 39) (M := M) t_law_same (t := .lst [.lst (ps.map fun w => W w), W (F.take 1)]) (by simp [tP]; omega) (by simp [rP, -List.map_take]) (by simp; omega)
    refine ok_if_no ?_ ?_
    · simp [-Int.natCast_ediv, -Int.natCast_emod, -Int.natCast_mul, -List.map_take, -List.map_drop, -List.map_map, cpE, le1, fa3, sF, sw2]
    simp [-Int.natCast_ediv, -Int.natCast_emod, -Int.natCast_mul, -List.map_take, -List.map_drop, -List.map_map]
    exact ⟨_, _, _, _, _, _, _, _, _, _, _, _, _, _, _, _, _, _, _, _, _, rfl, rfl, b8.mono (by omega)⟩
  · obtain ⟨x0, x2, x3, x4, x5, x6, x7, x8, x9, x10, x11, x12, x13, x14, x15, x16, x17, x18, x19, S, s, rfl, rfl, hb⟩ := h
    have P1 : EOk [0] [1] := ⟨by decide, by decide, by decide, by simp [Letters], by simp [Letters]⟩
    have P2 : EOk [] [0, 1] := ⟨by decide, by decide, by decide, by simp [Letters], by simp [Letters]⟩
    have P3 : EOk [] [5, 5] := ⟨by decide, by decide, by decide, by simp [Letters], by simp [Letters]⟩
    have n1 : ∀ M, callN tbl 2000 40 446 [D.tup [D.lst [D.int 0], D.lst [D.int 1]]] M = some (.tup [.int 1, .int 2], M) := fun M => by
      have := settled (n := 2000) (k := 34) (M := M) (s := 1) (isE_tup [0] [1]) P1 (by decide) (by decide) (by rw [plain_01]; exact set_01)
      rw [plain_01] at this
      exact this
    have n2 : ∀ M, callN tbl 2000 40 445 [D.tup [D.lst [D.int 0], D.lst [D.int 1]], D.int 2] M = some (.lst [.lst [.int 0, .int 1], .lst [.int 1, .int 1]], M) := fun M => by
      have := endless_parts (n := 2000) (k := 34) (M := M) (s := 2) (isE_tup [0] [1]) P1 (by decide) (by decide) (by decide)
      rw [parts_01] at this
      exact this
    have n3 : ∀ M, callN tbl 2000 40 447 [D.tup [D.lst [], D.lst [D.int 0, D.int 1]], D.lst [D.int 1, D.int 1]] M = some (.lst [], M) := fun M => by
      have := first_at (n := 2000) (k := 34) (M := M) (w := [1, 1]) (isE_tup [] [0, 1]) (isW [1, 1]) P2 (by decide) (by decide) (by simp [Letters])
      rw [first_none _ (plainC_few [] (t := [0, 1]) (by simp))] at this
      exact this
    have n4 : ∀ M, callN tbl 2000 40 446 [D.tup [D.lst [], D.lst [D.int 5, D.int 5]]] M = some (.tup [.int 0, .int 1], M) := fun M => by
      have := settled (n := 2000) (k := 34) (M := M) (s := 0) (isE_tup [] [5, 5]) P3 (by decide) (by decide) (by rw [plain_55]; exact set_55)
      rw [plain_55] at this
      exact this
    have s1 := fun M => same_eq (tbl := tbl) (n := 2000) (k := 39) (M := M) t_law_same (t := .lst [.tup [.int 1, .int 2], .lst [.lst [.int 0, .int 1], .lst [.int 1, .int 1]], .lst [], .tup [.int 0, .int 1]]) (by simp) (by decide +kernel) (by decide)
    simp [-Int.natCast_ediv, -Int.natCast_emod, -Int.natCast_mul, -List.map_take, -List.map_drop, n1, n2, n3, n4, s1]
end Ev.k99

set_option Elab.async false
set_option autoImplicit false
set_option linter.all false
set_option maxRecDepth 100000
set_option maxHeartbeats 0
namespace Ev.k99
open PySem PySem.Spec PyProof.Rows L2 Ev
def top (i : Nat) : Stmt := PySem.Challenge.pw_unknownwords_k99_whole_parts_of_endless.main.body.getD i (.Pass ⟨0, 0, 0, 0⟩)
def nmL : List (Nat × (Str × List Str × List (List Nat))) := ((1, "is_list", ["thing"], []) :: (2, "is_whole", ["thing"], []) :: (3, "is_number", ["thing"], []) :: (59, "is_row", ["thing", "many"], []) :: (4, "kept_word", ["thing"], []) :: (6, "need_word", ["word"], []) :: (24, "root_pair", ["word"], []) :: (410, "kept_endless", ["thing"], []) :: (412, "need_endless", ["endless"], []) :: (414, "check_length", ["size"], []) :: (415, "at_index", ["endless", "index"], []) :: (418, "plain_of", ["endless"], []) :: (444, "windows_of", ["endless", "size"], []) :: (445, "endless_parts", ["endless", "size"], [[1, 0]]) :: (446, "settled", ["endless"], [[0]]) :: (447, "first_at", ["endless", "word"], [[1, 0]]) :: (11, "_law_stream", ["script"], []) :: (12, "_law_draw", ["stream", "many"], []) :: (14, "_law_same", ["found", "due"], []) :: (15, "_law_spoilt", ["thing"], []) :: (16, "_law_copied", ["thing"], []) :: (17, "_law_loose", ["stream", "thing"], []) :: (18, "_law_word", ["stream", "many", "most"], []) :: (34, "_law_unlike", ["things"], []) :: (26, "_law_root", ["word"], []) :: (27, "_law_rest", ["number", "by"], []) :: (424, "_law_at", ["endless", "index"], []) :: (425, "_law_plain", ["endless"], []) :: (426, "_law_endless", ["stream", "letters"], []) :: (448, "_law_parts", ["endless", "size"], []) :: (449, "law", ["script"], []) :: (5445, "endless_parts", ["endless", "size"], [[1, 0]]) :: (5447, "first_at", ["endless", "word"], [[1, 0]]) :: [])
def nm : Nm := fun f => nmL.lookup f
def T_is_list : Tab := [{ a := ⟨3, 22, 3, 27⟩, x := "thing" },
  { a := ⟨3, 30, 3, 34⟩ },
  { a := ⟨3, 36, 3, 41⟩ },
  { a := ⟨3, 29, 3, 42⟩ },
  { a := ⟨3, 11, 3, 43⟩, b := ⟨3, 11, 3, 21⟩ },
  { a := ⟨3, 4, 3, 43⟩ }]
def T_is_whole : Tab := [{ a := ⟨5, 22, 5, 27⟩, x := "thing" },
  { a := ⟨5, 29, 5, 32⟩ },
  { a := ⟨5, 11, 5, 33⟩, b := ⟨5, 11, 5, 21⟩ },
  { a := ⟨5, 54, 5, 59⟩, x := "thing" },
  { a := ⟨5, 61, 5, 65⟩ },
  { a := ⟨5, 43, 5, 66⟩, b := ⟨5, 43, 5, 53⟩ },
  { a := ⟨5, 39, 5, 66⟩ },
  { a := ⟨5, 11, 5, 67⟩ },
  { a := ⟨5, 4, 5, 67⟩ }]
def T_is_number : Tab := [{ a := ⟨7, 20, 7, 25⟩, x := "thing" },
  { a := ⟨7, 11, 7, 26⟩, b := ⟨7, 11, 7, 19⟩, x := "is_whole" },
  { a := ⟨7, 31, 7, 36⟩, x := "thing" },
  { a := ⟨7, 40, 7, 41⟩ },
  { a := ⟨7, 31, 7, 41⟩ },
  { a := ⟨7, 11, 7, 41⟩ },
  { a := ⟨7, 4, 7, 41⟩ }]
def T_is_row : Tab := [{ a := ⟨9, 19, 9, 24⟩, x := "thing" },
  { a := ⟨9, 11, 9, 25⟩, b := ⟨9, 11, 9, 18⟩, x := "is_list" },
  { a := ⟨9, 34, 9, 39⟩, x := "thing" },
  { a := ⟨9, 30, 9, 40⟩, b := ⟨9, 30, 9, 33⟩ },
  { a := ⟨9, 44, 9, 48⟩, x := "many" },
  { a := ⟨9, 30, 9, 48⟩ },
  { a := ⟨9, 11, 9, 48⟩ },
  { a := ⟨9, 4, 9, 48⟩ }]
def T_kept_word : Tab := [{ a := ⟨28, 19, 28, 24⟩, x := "thing" },
  { a := ⟨28, 11, 28, 25⟩, b := ⟨28, 11, 28, 18⟩, x := "is_list" },
  { a := ⟨28, 7, 28, 25⟩ },
  { a := ⟨28, 70, 28, 75⟩, x := "thing" },
  { a := ⟨28, 60, 28, 66⟩, x := "letter" },
  { a := ⟨28, 48, 28, 54⟩, x := "letter" },
  { a := ⟨28, 38, 28, 55⟩, b := ⟨28, 38, 28, 47⟩, x := "is_number" },
  { a := ⟨28, 37, 28, 76⟩, sc := { kind := PySem.ScopeKind.function, names := [((PySem.Str.ofString ".0"), PySem.NameKind.local), ((PySem.Str.ofString "letter"), PySem.NameKind.local), ((PySem.Str.ofString "is_number"), PySem.NameKind.globalImplicit)], isGenerator := false, isCoroutine := false, more := [] : PySem.Scope } },
  { a := ⟨28, 33, 28, 77⟩, b := ⟨28, 33, 28, 36⟩ },
  { a := ⟨28, 29, 28, 77⟩ },
  { a := ⟨28, 7, 28, 77⟩ },
  { a := ⟨29, 15, 29, 19⟩ },
  { a := ⟨29, 8, 29, 19⟩ },
  { a := ⟨28, 4, 29, 19⟩ },
  { a := ⟨30, 17, 30, 22⟩, x := "thing" },
  { a := ⟨30, 11, 30, 23⟩, b := ⟨30, 11, 30, 16⟩ },
  { a := ⟨30, 4, 30, 23⟩ }]
def T_need_word : Tab := [{ a := ⟨32, 4, 32, 8⟩, x := "kept" },
  { a := ⟨32, 21, 32, 25⟩, x := "word" },
  { a := ⟨32, 11, 32, 26⟩, b := ⟨32, 11, 32, 20⟩, x := "kept_word" },
  { a := ⟨32, 4, 32, 26⟩ },
  { a := ⟨33, 7, 33, 11⟩, x := "kept" },
  { a := ⟨33, 15, 33, 19⟩ },
  { a := ⟨33, 7, 33, 19⟩ },
  { st := (PySem.Stmt.Raise (exc := (some (PySem.Expr.Call (func := (PySem.Expr.Name (id := "BadWord") (pos := ⟨34, 14, 34, 21⟩))) (args := [(PySem.Expr.Name (id := "word") (pos := ⟨34, 22, 34, 26⟩))]) (keywords := []) (pos := ⟨34, 14, 34, 27⟩)))) (cause := none) (pos := ⟨34, 8, 34, 27⟩)) },
  { a := ⟨33, 4, 34, 27⟩ },
  { a := ⟨35, 11, 35, 15⟩, x := "kept" },
  { a := ⟨35, 4, 35, 15⟩ }]
def T_root_pair : Tab := [{ a := ⟨37, 22, 37, 23⟩ },
  { a := ⟨37, 29, 37, 33⟩, x := "word" },
  { a := ⟨37, 25, 37, 34⟩, b := ⟨37, 25, 37, 28⟩ },
  { a := ⟨37, 37, 37, 38⟩ },
  { a := ⟨37, 25, 37, 38⟩ },
  { a := ⟨37, 16, 37, 39⟩, b := ⟨37, 16, 37, 21⟩ },
  { a := ⟨37, 8, 37, 12⟩, x := "size" },
  { a := ⟨38, 15, 38, 19⟩, x := "word" },
  { a := ⟨38, 11, 38, 20⟩, b := ⟨38, 11, 38, 14⟩ },
  { a := ⟨38, 23, 38, 27⟩, x := "size" },
  { a := ⟨38, 11, 38, 27⟩ },
  { a := ⟨38, 31, 38, 32⟩ },
  { a := ⟨38, 11, 38, 32⟩ },
  { a := ⟨38, 37, 38, 41⟩, x := "word" },
  { a := ⟨38, 43, 38, 47⟩, x := "size" },
  { a := ⟨38, 37, 38, 48⟩, b := ⟨38, 42, 38, 47⟩ },
  { a := ⟨38, 56, 38, 60⟩, x := "word" },
  { a := ⟨38, 52, 38, 61⟩, b := ⟨38, 52, 38, 55⟩ },
  { a := ⟨38, 65, 38, 69⟩, x := "size" },
  { a := ⟨38, 52, 38, 69⟩ },
  { a := ⟨38, 37, 38, 70⟩ },
  { a := ⟨38, 74, 38, 78⟩, x := "word" },
  { a := ⟨38, 37, 38, 78⟩ },
  { a := ⟨38, 11, 38, 78⟩ },
  { a := ⟨39, 20, 39, 24⟩, x := "word" },
  { a := ⟨39, 26, 39, 30⟩, x := "size" },
  { a := ⟨39, 20, 39, 31⟩, b := ⟨39, 25, 39, 30⟩ },
  { a := ⟨39, 37, 39, 41⟩, x := "word" },
  { a := ⟨39, 33, 39, 42⟩, b := ⟨39, 33, 39, 36⟩ },
  { a := ⟨39, 46, 39, 50⟩, x := "size" },
  { a := ⟨39, 33, 39, 50⟩ },
  { a := ⟨39, 19, 39, 51⟩ },
  { a := ⟨39, 12, 39, 51⟩ },
  { a := ⟨38, 8, 39, 51⟩ },
  { a := ⟨37, 4, 39, 51⟩ },
  { a := ⟨40, 12, 40, 16⟩, x := "word" },
  { a := ⟨40, 18, 40, 19⟩ },
  { a := ⟨40, 11, 40, 20⟩ },
  { a := ⟨40, 4, 40, 20⟩ }]
def T_kept_endless : Tab := [{ a := ⟨43, 18, 43, 23⟩, x := "thing" },
  { a := ⟨43, 25, 43, 26⟩ },
  { a := ⟨43, 11, 43, 27⟩, b := ⟨43, 11, 43, 17⟩, x := "is_row" },
  { a := ⟨43, 7, 43, 27⟩ },
  { a := ⟨44, 15, 44, 19⟩ },
  { a := ⟨44, 8, 44, 19⟩ },
  { a := ⟨43, 4, 44, 19⟩ },
  { a := ⟨45, 28, 45, 33⟩, x := "thing" },
  { a := ⟨45, 34, 45, 35⟩ },
  { a := ⟨45, 28, 45, 36⟩ },
  { a := ⟨45, 18, 45, 37⟩, b := ⟨45, 18, 45, 27⟩, x := "kept_word" },
  { a := ⟨45, 49, 45, 54⟩, x := "thing" },
  { a := ⟨45, 55, 45, 56⟩ },
  { a := ⟨45, 49, 45, 57⟩ },
  { a := ⟨45, 39, 45, 58⟩, b := ⟨45, 39, 45, 48⟩, x := "kept_word" },
  { a := ⟨45, 4, 45, 59⟩, b := ⟨45, 4, 45, 8⟩, c := ⟨45, 10, 45, 14⟩, d := ⟨45, 4, 45, 14⟩, x := "lead", y := "turn" },
  { a := ⟨45, 17, 45, 59⟩ },
  { a := ⟨46, 19, 46, 23⟩, x := "lead" },
  { a := ⟨46, 27, 46, 31⟩ },
  { a := ⟨46, 19, 46, 31⟩ },
  { a := ⟨46, 39, 46, 43⟩, x := "turn" },
  { a := ⟨46, 35, 46, 43⟩ },
  { a := ⟨46, 19, 46, 43⟩ },
  { a := ⟨46, 11, 46, 15⟩ },
  { a := ⟨46, 50, 46, 54⟩, x := "lead" },
  { a := ⟨46, 56, 46, 60⟩, x := "turn" },
  { a := ⟨46, 49, 46, 61⟩ },
  { a := ⟨46, 11, 46, 61⟩ },
  { a := ⟨46, 4, 46, 61⟩ }]
def T_need_endless : Tab := [{ a := ⟨48, 4, 48, 8⟩, x := "kept" },
  { a := ⟨48, 24, 48, 31⟩, x := "endless" },
  { a := ⟨48, 11, 48, 32⟩, b := ⟨48, 11, 48, 23⟩, x := "kept_endless" },
  { a := ⟨48, 4, 48, 32⟩ },
  { a := ⟨49, 7, 49, 11⟩, x := "kept" },
  { a := ⟨49, 15, 49, 19⟩ },
  { a := ⟨49, 7, 49, 19⟩ },
  { st := (PySem.Stmt.Raise (exc := (some (PySem.Expr.Call (func := (PySem.Expr.Name (id := "BadEndless") (pos := ⟨50, 14, 50, 24⟩))) (args := [(PySem.Expr.Name (id := "endless") (pos := ⟨50, 25, 50, 32⟩))]) (keywords := []) (pos := ⟨50, 14, 50, 33⟩)))) (cause := none) (pos := ⟨50, 8, 50, 33⟩)) },
  { a := ⟨49, 4, 50, 33⟩ },
  { a := ⟨51, 11, 51, 15⟩, x := "kept" },
  { a := ⟨51, 4, 51, 15⟩ }]
def T_check_length : Tab := [{ a := ⟨53, 21, 53, 25⟩, x := "size" },
  { a := ⟨53, 11, 53, 26⟩, b := ⟨53, 11, 53, 20⟩, x := "is_number" },
  { a := ⟨53, 7, 53, 26⟩ },
  { st := (PySem.Stmt.Raise (exc := (some (PySem.Expr.Call (func := (PySem.Expr.Name (id := "BadSize") (pos := ⟨54, 14, 54, 21⟩))) (args := [(PySem.Expr.Name (id := "size") (pos := ⟨54, 22, 54, 26⟩))]) (keywords := []) (pos := ⟨54, 14, 54, 27⟩)))) (cause := none) (pos := ⟨54, 8, 54, 27⟩)) },
  { a := ⟨53, 4, 54, 27⟩ }]
def T_at_index : Tab := [{ a := ⟨56, 4, 56, 8⟩, x := "lead" },
  { a := ⟨56, 10, 56, 14⟩, x := "turn" },
  { a := ⟨56, 4, 56, 14⟩ },
  { a := ⟨56, 17, 56, 24⟩, x := "endless" },
  { a := ⟨56, 4, 56, 24⟩ },
  { a := ⟨57, 26, 57, 31⟩, x := "index" },
  { a := ⟨57, 38, 57, 42⟩, x := "lead" },
  { a := ⟨57, 34, 57, 43⟩, b := ⟨57, 34, 57, 37⟩ },
  { a := ⟨57, 26, 57, 43⟩ },
  { a := ⟨57, 11, 57, 15⟩, x := "lead" },
  { a := ⟨57, 16, 57, 21⟩, x := "index" },
  { a := ⟨57, 11, 57, 22⟩ },
  { a := ⟨57, 49, 57, 53⟩, x := "turn" },
  { a := ⟨57, 55, 57, 60⟩, x := "index" },
  { a := ⟨57, 67, 57, 71⟩, x := "lead" },
  { a := ⟨57, 63, 57, 72⟩, b := ⟨57, 63, 57, 66⟩ },
  { a := ⟨57, 55, 57, 72⟩ },
  { a := ⟨57, 80, 57, 84⟩, x := "turn" },
  { a := ⟨57, 76, 57, 85⟩, b := ⟨57, 76, 57, 79⟩ },
  { a := ⟨57, 54, 57, 85⟩ },
  { a := ⟨57, 49, 57, 86⟩ },
  { a := ⟨57, 11, 57, 86⟩ },
  { a := ⟨57, 4, 57, 86⟩ }]
def T_plain_of : Tab := [{ a := ⟨59, 18, 59, 25⟩, x := "endless" },
  { a := ⟨59, 26, 59, 27⟩ },
  { a := ⟨59, 18, 59, 28⟩ },
  { a := ⟨59, 40, 59, 47⟩, x := "endless" },
  { a := ⟨59, 48, 59, 49⟩ },
  { a := ⟨59, 40, 59, 50⟩ },
  { a := ⟨59, 30, 59, 51⟩, b := ⟨59, 30, 59, 39⟩, x := "root_pair" },
  { a := ⟨59, 52, 59, 53⟩ },
  { a := ⟨59, 30, 59, 54⟩ },
  { a := ⟨59, 4, 59, 55⟩, b := ⟨59, 4, 59, 8⟩, c := ⟨59, 10, 59, 14⟩, d := ⟨59, 4, 59, 14⟩, x := "lead", y := "turn" },
  { a := ⟨59, 17, 59, 55⟩ },
  { a := ⟨60, 10, 60, 14⟩, x := "lead" },
  { a := ⟨60, 19, 60, 23⟩, x := "lead" },
  { a := ⟨60, 25, 60, 26⟩ },
  { a := ⟨60, 24, 60, 26⟩ },
  { a := ⟨60, 19, 60, 27⟩ },
  { a := ⟨60, 31, 60, 35⟩, x := "turn" },
  { a := ⟨60, 37, 60, 38⟩ },
  { a := ⟨60, 36, 60, 38⟩ },
  { a := ⟨60, 31, 60, 39⟩ },
  { a := ⟨60, 19, 60, 39⟩ },
  { a := ⟨60, 10, 60, 39⟩ },
  { a := ⟨61, 22, 61, 26⟩, x := "lead" },
  { a := ⟨61, 29, 61, 30⟩ },
  { a := ⟨61, 28, 61, 30⟩ },
  { a := ⟨61, 22, 61, 31⟩, b := ⟨61, 27, 61, 30⟩ },
  { a := ⟨61, 33, 61, 37⟩, x := "turn" },
  { a := ⟨61, 39, 61, 40⟩ },
  { a := ⟨61, 38, 61, 40⟩ },
  { a := ⟨61, 33, 61, 42⟩, b := ⟨61, 38, 61, 41⟩ },
  { a := ⟨61, 45, 61, 49⟩, x := "turn" },
  { a := ⟨61, 52, 61, 53⟩ },
  { a := ⟨61, 51, 61, 53⟩ },
  { a := ⟨61, 45, 61, 54⟩, b := ⟨61, 50, 61, 53⟩ },
  { a := ⟨61, 33, 61, 54⟩ },
  { a := ⟨61, 8, 61, 55⟩, b := ⟨61, 8, 61, 12⟩, c := ⟨61, 14, 61, 18⟩, d := ⟨61, 8, 61, 18⟩, x := "lead", y := "turn" },
  { a := ⟨61, 21, 61, 55⟩ },
  { a := ⟨60, 4, 61, 55⟩ },
  { a := ⟨62, 12, 62, 16⟩, x := "lead" },
  { a := ⟨62, 18, 62, 22⟩, x := "turn" },
  { a := ⟨62, 11, 62, 23⟩ },
  { a := ⟨62, 4, 62, 23⟩ }]
def T_windows_of : Tab := [{ a := ⟨65, 4, 65, 8⟩, x := "many" },
  { a := ⟨65, 15, 65, 22⟩, x := "endless" },
  { a := ⟨65, 23, 65, 24⟩ },
  { a := ⟨65, 15, 65, 25⟩ },
  { a := ⟨65, 11, 65, 26⟩, b := ⟨65, 11, 65, 14⟩ },
  { a := ⟨65, 33, 65, 40⟩, x := "endless" },
  { a := ⟨65, 41, 65, 42⟩ },
  { a := ⟨65, 33, 65, 43⟩ },
  { a := ⟨65, 29, 65, 44⟩, b := ⟨65, 29, 65, 32⟩ },
  { a := ⟨65, 11, 65, 44⟩ },
  { a := ⟨65, 4, 65, 44⟩ },
  { a := ⟨66, 101, 66, 105⟩, x := "many" },
  { a := ⟨66, 95, 66, 106⟩, b := ⟨66, 95, 66, 100⟩ },
  { a := ⟨66, 86, 66, 91⟩, x := "begin" },
  { a := ⟨66, 74, 66, 78⟩, x := "size" },
  { a := ⟨66, 68, 66, 79⟩, b := ⟨66, 68, 66, 73⟩ },
  { a := ⟨66, 61, 66, 64⟩, x := "far" },
  { a := ⟨66, 35, 66, 42⟩, x := "endless" },
  { a := ⟨66, 44, 66, 49⟩, x := "begin" },
  { a := ⟨66, 52, 66, 55⟩, x := "far" },
  { a := ⟨66, 44, 66, 55⟩ },
  { a := ⟨66, 26, 66, 56⟩, b := ⟨66, 26, 66, 34⟩, x := "at_index" },
  { a := ⟨66, 25, 66, 80⟩, sc := { kind := PySem.ScopeKind.function, names := [((PySem.Str.ofString ".0"), PySem.NameKind.local), ((PySem.Str.ofString "far"), PySem.NameKind.local), ((PySem.Str.ofString "at_index"), PySem.NameKind.globalImplicit), ((PySem.Str.ofString "begin"), PySem.NameKind.free), ((PySem.Str.ofString "endless"), PySem.NameKind.free)], isGenerator := false, isCoroutine := false, more := [] : PySem.Scope } },
  { a := ⟨66, 19, 66, 81⟩, b := ⟨66, 19, 66, 24⟩ },
  { a := ⟨66, 18, 66, 107⟩, sc := { kind := PySem.ScopeKind.function, names := [((PySem.Str.ofString ".0"), PySem.NameKind.local), ((PySem.Str.ofString "begin"), PySem.NameKind.cell), ((PySem.Str.ofString "tuple"), PySem.NameKind.globalImplicit), ((PySem.Str.ofString "range"), PySem.NameKind.globalImplicit), ((PySem.Str.ofString "endless"), PySem.NameKind.free), ((PySem.Str.ofString "size"), PySem.NameKind.free)], isGenerator := false, isCoroutine := false, more := [] : PySem.Scope } },
  { a := ⟨66, 11, 66, 108⟩, b := ⟨66, 11, 66, 17⟩ },
  { a := ⟨66, 4, 66, 108⟩ }]
def T_endless_parts : Tab := [{ a := ⟨68, 4, 68, 8⟩, x := "kept" },
  { a := ⟨68, 33, 68, 40⟩, x := "endless" },
  { a := ⟨68, 20, 68, 41⟩, b := ⟨68, 20, 68, 32⟩, x := "need_endless" },
  { a := ⟨68, 11, 68, 42⟩, b := ⟨68, 11, 68, 19⟩, x := "plain_of" },
  { a := ⟨68, 4, 68, 42⟩ },
  { a := ⟨69, 17, 69, 21⟩, x := "size" },
  { a := ⟨69, 4, 69, 22⟩, b := ⟨69, 4, 69, 16⟩, x := "check_length" },
  { a := ⟨69, 4, 69, 22⟩ },
  { a := ⟨70, 46, 70, 50⟩, x := "kept" },
  { a := ⟨70, 52, 70, 56⟩, x := "size" },
  { a := ⟨70, 35, 70, 57⟩, b := ⟨70, 35, 70, 45⟩, x := "windows_of" },
  { a := ⟨70, 27, 70, 31⟩, x := "part" },
  { a := ⟨70, 17, 70, 21⟩, x := "part" },
  { a := ⟨70, 12, 70, 22⟩, b := ⟨70, 12, 70, 16⟩ },
  { a := ⟨70, 11, 70, 58⟩, sc := { kind := PySem.ScopeKind.function, names := [((PySem.Str.ofString ".0"), PySem.NameKind.local), ((PySem.Str.ofString "part"), PySem.NameKind.local), ((PySem.Str.ofString "list"), PySem.NameKind.globalImplicit)], isGenerator := false, isCoroutine := false, more := [] : PySem.Scope } },
  { a := ⟨70, 4, 70, 58⟩ }]
def T_settled : Tab := [{ a := ⟨72, 4, 72, 8⟩, x := "kept" },
  { a := ⟨72, 33, 72, 40⟩, x := "endless" },
  { a := ⟨72, 20, 72, 41⟩, b := ⟨72, 20, 72, 32⟩, x := "need_endless" },
  { a := ⟨72, 11, 72, 42⟩, b := ⟨72, 11, 72, 19⟩, x := "plain_of" },
  { a := ⟨72, 4, 72, 42⟩ },
  { a := ⟨73, 22, 73, 26⟩, x := "kept" },
  { a := ⟨73, 27, 73, 28⟩ },
  { a := ⟨73, 22, 73, 29⟩ },
  { a := ⟨73, 18, 73, 30⟩, b := ⟨73, 18, 73, 21⟩ },
  { a := ⟨73, 37, 73, 41⟩, x := "kept" },
  { a := ⟨73, 42, 73, 43⟩ },
  { a := ⟨73, 37, 73, 44⟩ },
  { a := ⟨73, 33, 73, 45⟩, b := ⟨73, 33, 73, 36⟩ },
  { a := ⟨73, 18, 73, 45⟩ },
  { a := ⟨73, 47, 73, 48⟩ },
  { a := ⟨73, 4, 73, 49⟩, b := ⟨73, 4, 73, 8⟩, c := ⟨73, 10, 73, 14⟩, d := ⟨73, 4, 73, 14⟩, x := "many", y := "size" },
  { a := ⟨73, 17, 73, 49⟩ },
  { a := ⟨74, 25, 74, 29⟩, x := "kept" },
  { a := ⟨74, 31, 74, 35⟩, x := "size" },
  { a := ⟨74, 14, 74, 36⟩, b := ⟨74, 14, 74, 24⟩, x := "windows_of" },
  { a := ⟨74, 10, 74, 37⟩, b := ⟨74, 10, 74, 13⟩ },
  { a := ⟨74, 40, 74, 44⟩, x := "many" },
  { a := ⟨74, 10, 74, 44⟩ },
  { a := ⟨75, 8, 75, 12⟩, x := "size" },
  { a := ⟨75, 15, 75, 19⟩, x := "size" },
  { a := ⟨75, 22, 75, 23⟩ },
  { a := ⟨75, 15, 75, 23⟩ },
  { a := ⟨75, 8, 75, 23⟩ },
  { a := ⟨74, 4, 75, 23⟩ },
  { a := ⟨76, 12, 76, 16⟩, x := "size" },
  { a := ⟨76, 18, 76, 22⟩, x := "many" },
  { a := ⟨76, 11, 76, 23⟩ },
  { a := ⟨76, 4, 76, 23⟩ }]
def T_first_at : Tab := [{ a := ⟨78, 4, 78, 8⟩, x := "kept" },
  { a := ⟨78, 33, 78, 40⟩, x := "endless" },
  { a := ⟨78, 20, 78, 41⟩, b := ⟨78, 20, 78, 32⟩, x := "need_endless" },
  { a := ⟨78, 11, 78, 42⟩, b := ⟨78, 11, 78, 19⟩, x := "plain_of" },
  { a := ⟨78, 4, 78, 42⟩ },
  { a := ⟨79, 4, 79, 8⟩, x := "part" },
  { a := ⟨79, 21, 79, 25⟩, x := "word" },
  { a := ⟨79, 11, 79, 26⟩, b := ⟨79, 11, 79, 20⟩, x := "need_word" },
  { a := ⟨79, 4, 79, 26⟩ },
  { a := ⟨80, 27, 80, 31⟩, x := "kept" },
  { a := ⟨80, 32, 80, 33⟩ },
  { a := ⟨80, 27, 80, 34⟩ },
  { a := ⟨80, 23, 80, 35⟩, b := ⟨80, 23, 80, 26⟩ },
  { a := ⟨80, 42, 80, 46⟩, x := "kept" },
  { a := ⟨80, 47, 80, 48⟩ },
  { a := ⟨80, 42, 80, 49⟩ },
  { a := ⟨80, 38, 80, 50⟩, b := ⟨80, 38, 80, 41⟩ },
  { a := ⟨80, 23, 80, 50⟩ },
  { a := ⟨80, 17, 80, 51⟩, b := ⟨80, 17, 80, 22⟩ },
  { a := ⟨80, 8, 80, 13⟩, x := "begin" },
  { a := ⟨81, 83, 81, 87⟩, x := "part" },
  { a := ⟨81, 73, 81, 88⟩, b := ⟨81, 73, 81, 82⟩ },
  { a := ⟨81, 58, 81, 61⟩, x := "far" },
  { a := ⟨81, 63, 81, 69⟩, x := "letter" },
  { a := ⟨81, 58, 81, 69⟩ },
  { a := ⟨81, 25, 81, 29⟩, x := "kept" },
  { a := ⟨81, 31, 81, 36⟩, x := "begin" },
  { a := ⟨81, 39, 81, 42⟩, x := "far" },
  { a := ⟨81, 31, 81, 42⟩ },
  { a := ⟨81, 16, 81, 43⟩, b := ⟨81, 16, 81, 24⟩, x := "at_index" },
  { a := ⟨81, 47, 81, 53⟩, x := "letter" },
  { a := ⟨81, 16, 81, 53⟩ },
  { a := ⟨81, 15, 81, 89⟩, sc := { kind := PySem.ScopeKind.function, names := [((PySem.Str.ofString ".0"), PySem.NameKind.local), ((PySem.Str.ofString "far"), PySem.NameKind.local), ((PySem.Str.ofString "letter"), PySem.NameKind.local), ((PySem.Str.ofString "at_index"), PySem.NameKind.globalImplicit), ((PySem.Str.ofString "begin"), PySem.NameKind.free), ((PySem.Str.ofString "kept"), PySem.NameKind.free)], isGenerator := false, isCoroutine := false, more := [] : PySem.Scope } },
  { a := ⟨81, 11, 81, 90⟩, b := ⟨81, 11, 81, 14⟩ },
  { a := ⟨82, 20, 82, 25⟩, x := "begin" },
  { a := ⟨82, 19, 82, 26⟩ },
  { a := ⟨82, 12, 82, 26⟩ },
  { a := ⟨81, 8, 82, 26⟩ },
  { a := ⟨80, 4, 82, 26⟩ },
  { a := ⟨83, 11, 83, 13⟩ },
  { a := ⟨83, 4, 83, 13⟩ }]
def T_law_stream : Tab := [{ a := ⟨86, 17, 86, 23⟩, x := "script" },
  { a := ⟨86, 12, 86, 24⟩, b := ⟨86, 12, 86, 16⟩ },
  { a := ⟨86, 26, 86, 27⟩ },
  { a := ⟨86, 29, 86, 30⟩ },
  { a := ⟨86, 32, 86, 34⟩ },
  { a := ⟨86, 11, 86, 35⟩ },
  { a := ⟨86, 4, 86, 35⟩ }]
def T_law_draw : Tab := [{ a := ⟨88, 4, 88, 10⟩, x := "stream" },
  { a := ⟨88, 11, 88, 12⟩ },
  { a := ⟨88, 16, 88, 22⟩, x := "stream" },
  { a := ⟨88, 23, 88, 24⟩ },
  { a := ⟨88, 16, 88, 25⟩ },
  { a := ⟨88, 28, 88, 29⟩ },
  { a := ⟨88, 16, 88, 29⟩ },
  { a := ⟨88, 4, 88, 29⟩, b := ⟨88, 4, 88, 13⟩ },
  { a := ⟨89, 10, 89, 16⟩, x := "stream" },
  { a := ⟨89, 17, 89, 18⟩ },
  { a := ⟨89, 10, 89, 19⟩ },
  { a := ⟨89, 23, 89, 24⟩ },
  { a := ⟨89, 10, 89, 24⟩ },
  { a := ⟨89, 29, 89, 35⟩, x := "stream" },
  { a := ⟨89, 36, 89, 37⟩ },
  { a := ⟨89, 29, 89, 38⟩ },
  { a := ⟨89, 42, 89, 44⟩ },
  { a := ⟨89, 29, 89, 44⟩ },
  { a := ⟨89, 10, 89, 44⟩ },
  { a := ⟨90, 8, 90, 12⟩, x := "cell" },
  { a := ⟨90, 19, 90, 25⟩, x := "stream" },
  { a := ⟨90, 26, 90, 27⟩ },
  { a := ⟨90, 19, 90, 28⟩ },
  { a := ⟨90, 33, 90, 34⟩ },
  { a := ⟨90, 19, 90, 35⟩, b := ⟨90, 19, 90, 32⟩ },
  { a := ⟨90, 15, 90, 36⟩, b := ⟨90, 15, 90, 18⟩ },
  { a := ⟨90, 8, 90, 36⟩ },
  { a := ⟨91, 8, 91, 14⟩, x := "stream" },
  { a := ⟨91, 15, 91, 16⟩ },
  { a := ⟨91, 24, 91, 30⟩, x := "stream" },
  { a := ⟨91, 31, 91, 32⟩ },
  { a := ⟨91, 24, 91, 33⟩ },
  { a := ⟨91, 36, 91, 40⟩ },
  { a := ⟨91, 24, 91, 40⟩ },
  { a := ⟨91, 43, 91, 47⟩, x := "cell" },
  { a := ⟨91, 24, 91, 47⟩ },
  { a := ⟨91, 50, 91, 51⟩ },
  { a := ⟨91, 24, 91, 51⟩ },
  { a := ⟨91, 20, 91, 52⟩, b := ⟨91, 20, 91, 23⟩ },
  { a := ⟨91, 55, 91, 65⟩ },
  { a := ⟨91, 20, 91, 65⟩ },
  { a := ⟨91, 8, 91, 65⟩, b := ⟨91, 8, 91, 17⟩ },
  { a := ⟨92, 8, 92, 14⟩, x := "stream" },
  { a := ⟨92, 15, 92, 16⟩ },
  { a := ⟨92, 28, 92, 32⟩, x := "cell" },
  { a := ⟨92, 36, 92, 38⟩ },
  { a := ⟨92, 42, 92, 44⟩ },
  { a := ⟨92, 36, 92, 44⟩ },
  { a := ⟨92, 28, 92, 44⟩ },
  { a := ⟨92, 20, 92, 24⟩, x := "cell" },
  { a := ⟨92, 50, 92, 51⟩ },
  { a := ⟨92, 20, 92, 51⟩ },
  { a := ⟨92, 8, 92, 51⟩, b := ⟨92, 8, 92, 17⟩ },
  { a := ⟨89, 4, 92, 51⟩ },
  { a := ⟨93, 7, 93, 13⟩, x := "stream" },
  { a := ⟨93, 14, 93, 15⟩ },
  { a := ⟨93, 7, 93, 16⟩ },
  { a := ⟨93, 19, 93, 20⟩ },
  { a := ⟨93, 7, 93, 20⟩ },
  { a := ⟨94, 8, 94, 13⟩, x := "digit" },
  { a := ⟨94, 20, 94, 26⟩, x := "stream" },
  { a := ⟨94, 27, 94, 28⟩ },
  { a := ⟨94, 20, 94, 29⟩ },
  { a := ⟨94, 16, 94, 30⟩, b := ⟨94, 16, 94, 19⟩ },
  { a := ⟨94, 33, 94, 37⟩, x := "many" },
  { a := ⟨94, 16, 94, 37⟩ },
  { a := ⟨94, 8, 94, 37⟩ },
  { a := ⟨95, 8, 95, 14⟩, x := "stream" },
  { a := ⟨95, 15, 95, 16⟩ },
  { a := ⟨95, 20, 95, 26⟩, x := "stream" },
  { a := ⟨95, 27, 95, 28⟩ },
  { a := ⟨95, 20, 95, 29⟩ },
  { a := ⟨95, 33, 95, 37⟩, x := "many" },
  { a := ⟨95, 20, 95, 37⟩ },
  { a := ⟨95, 8, 95, 37⟩, b := ⟨95, 8, 95, 17⟩ },
  { a := ⟨96, 15, 96, 20⟩, x := "digit" },
  { a := ⟨96, 8, 96, 20⟩ },
  { a := ⟨93, 4, 96, 20⟩ },
  { a := ⟨97, 4, 97, 9⟩, x := "mixed" },
  { a := ⟨97, 17, 97, 23⟩, x := "stream" },
  { a := ⟨97, 24, 97, 25⟩ },
  { a := ⟨97, 17, 97, 26⟩ },
  { a := ⟨97, 29, 97, 33⟩ },
  { a := ⟨97, 36, 97, 42⟩, x := "stream" },
  { a := ⟨97, 43, 97, 44⟩ },
  { a := ⟨97, 36, 97, 45⟩ },
  { a := ⟨97, 29, 97, 45⟩ },
  { a := ⟨97, 17, 97, 45⟩ },
  { a := ⟨97, 48, 97, 54⟩ },
  { a := ⟨97, 17, 97, 54⟩ },
  { a := ⟨97, 59, 97, 60⟩ },
  { a := ⟨97, 16, 97, 60⟩ },
  { a := ⟨97, 12, 97, 61⟩, b := ⟨97, 12, 97, 15⟩ },
  { a := ⟨97, 64, 97, 74⟩ },
  { a := ⟨97, 12, 97, 74⟩ },
  { a := ⟨97, 4, 97, 74⟩ },
  { a := ⟨98, 16, 98, 21⟩, x := "mixed" },
  { a := ⟨98, 24, 98, 29⟩ },
  { a := ⟨98, 16, 98, 29⟩ },
  { a := ⟨98, 32, 98, 37⟩ },
  { a := ⟨98, 40, 98, 46⟩, x := "stream" },
  { a := ⟨98, 47, 98, 48⟩ },
  { a := ⟨98, 40, 98, 49⟩ },
  { a := ⟨98, 32, 98, 49⟩ },
  { a := ⟨98, 16, 98, 49⟩ },
  { a := ⟨98, 52, 98, 54⟩ },
  { a := ⟨98, 16, 98, 54⟩ },
  { a := ⟨98, 59, 98, 60⟩ },
  { a := ⟨98, 15, 98, 60⟩ },
  { a := ⟨98, 11, 98, 61⟩, b := ⟨98, 11, 98, 14⟩ },
  { a := ⟨98, 64, 98, 74⟩ },
  { a := ⟨98, 11, 98, 74⟩ },
  { a := ⟨98, 77, 98, 81⟩, x := "many" },
  { a := ⟨98, 11, 98, 81⟩ },
  { a := ⟨98, 4, 98, 81⟩ }]
def T_law_same : Tab := [{ a := ⟨100, 18, 100, 21⟩, x := "due" },
  { a := ⟨100, 24, 100, 28⟩ },
  { a := ⟨100, 30, 100, 35⟩ },
  { a := ⟨100, 23, 100, 36⟩ },
  { a := ⟨100, 7, 100, 37⟩, b := ⟨100, 7, 100, 17⟩ },
  { a := ⟨101, 22, 101, 27⟩, x := "found" },
  { a := ⟨101, 29, 101, 33⟩ },
  { a := ⟨101, 11, 101, 34⟩, b := ⟨101, 11, 101, 21⟩ },
  { a := ⟨101, 49, 101, 52⟩, x := "due" },
  { a := ⟨101, 54, 101, 58⟩ },
  { a := ⟨101, 38, 101, 59⟩, b := ⟨101, 38, 101, 48⟩ },
  { a := ⟨101, 11, 101, 59⟩ },
  { a := ⟨101, 74, 101, 79⟩, x := "found" },
  { a := ⟨101, 81, 101, 86⟩ },
  { a := ⟨101, 63, 101, 87⟩, b := ⟨101, 63, 101, 73⟩ },
  { a := ⟨101, 102, 101, 105⟩, x := "due" },
  { a := ⟨101, 107, 101, 112⟩ },
  { a := ⟨101, 91, 101, 113⟩, b := ⟨101, 91, 101, 101⟩ },
  { a := ⟨101, 63, 101, 113⟩ },
  { a := ⟨101, 11, 101, 113⟩ },
  { a := ⟨102, 19, 102, 24⟩ },
  { a := ⟨102, 12, 102, 24⟩ },
  { a := ⟨101, 8, 102, 24⟩ },
  { a := ⟨103, 19, 103, 24⟩, x := "found" },
  { a := ⟨103, 15, 103, 25⟩, b := ⟨103, 15, 103, 18⟩ },
  { a := ⟨103, 33, 103, 36⟩, x := "due" },
  { a := ⟨103, 29, 103, 37⟩, b := ⟨103, 29, 103, 32⟩ },
  { a := ⟨103, 15, 103, 37⟩ },
  { a := ⟨103, 95, 103, 100⟩, x := "found" },
  { a := ⟨103, 102, 103, 105⟩, x := "due" },
  { a := ⟨103, 91, 103, 106⟩, b := ⟨103, 91, 103, 94⟩ },
  { a := ⟨103, 75, 103, 79⟩, x := "mine" },
  { a := ⟨103, 81, 103, 87⟩, x := "theirs" },
  { a := ⟨103, 75, 103, 87⟩ },
  { a := ⟨103, 57, 103, 61⟩, x := "mine" },
  { a := ⟨103, 63, 103, 69⟩, x := "theirs" },
  { a := ⟨103, 47, 103, 70⟩, b := ⟨103, 47, 103, 56⟩, x := "_law_same" },
  { a := ⟨103, 46, 103, 107⟩, sc := { kind := PySem.ScopeKind.function, names := [((PySem.Str.ofString ".0"), PySem.NameKind.local), ((PySem.Str.ofString "mine"), PySem.NameKind.local), ((PySem.Str.ofString "theirs"), PySem.NameKind.local), ((PySem.Str.ofString "_law_same"), PySem.NameKind.globalImplicit)], isGenerator := false, isCoroutine := false, more := [] : PySem.Scope } },
  { a := ⟨103, 42, 103, 108⟩, b := ⟨103, 42, 103, 45⟩ },
  { a := ⟨103, 15, 103, 108⟩ },
  { a := ⟨103, 8, 103, 108⟩ },
  { a := ⟨100, 4, 103, 108⟩ },
  { a := ⟨104, 18, 104, 21⟩, x := "due" },
  { a := ⟨104, 23, 104, 27⟩ },
  { a := ⟨104, 7, 104, 28⟩, b := ⟨104, 7, 104, 17⟩ },
  { a := ⟨105, 26, 105, 31⟩, x := "found" },
  { a := ⟨105, 33, 105, 37⟩ },
  { a := ⟨105, 15, 105, 38⟩, b := ⟨105, 15, 105, 25⟩ },
  { e := (PySem.Expr.Call (func := (PySem.Expr.Attribute (value := (PySem.Expr.Name (id := "found") (pos := ⟨105, 58, 105, 63⟩))) (attr := "items") (pos := ⟨105, 58, 105, 69⟩))) (args := []) (keywords := []) (pos := ⟨105, 58, 105, 71⟩)) },
  { a := ⟨105, 53, 105, 72⟩, b := ⟨105, 53, 105, 57⟩ },
  { e := (PySem.Expr.Call (func := (PySem.Expr.Attribute (value := (PySem.Expr.Name (id := "due") (pos := ⟨105, 79, 105, 82⟩))) (attr := "items") (pos := ⟨105, 79, 105, 88⟩))) (args := []) (keywords := []) (pos := ⟨105, 79, 105, 90⟩)) },
  { a := ⟨105, 74, 105, 91⟩, b := ⟨105, 74, 105, 78⟩ },
  { a := ⟨105, 43, 105, 92⟩, b := ⟨105, 43, 105, 52⟩, x := "_law_same" },
  { a := ⟨105, 15, 105, 92⟩ },
  { a := ⟨105, 8, 105, 92⟩ },
  { a := ⟨104, 4, 105, 92⟩ },
  { a := ⟨106, 18, 106, 21⟩, x := "due" },
  { a := ⟨106, 23, 106, 27⟩ },
  { a := ⟨106, 7, 106, 28⟩, b := ⟨106, 7, 106, 17⟩ },
  { a := ⟨106, 43, 106, 48⟩, x := "found" },
  { a := ⟨106, 50, 106, 54⟩ },
  { a := ⟨106, 32, 106, 55⟩, b := ⟨106, 32, 106, 42⟩ },
  { a := ⟨106, 7, 106, 55⟩ },
  { a := ⟨107, 26, 107, 29⟩, x := "due" },
  { a := ⟨107, 31, 107, 35⟩ },
  { a := ⟨107, 15, 107, 36⟩, b := ⟨107, 15, 107, 25⟩ },
  { a := ⟨107, 52, 107, 57⟩, x := "found" },
  { a := ⟨107, 59, 107, 63⟩ },
  { a := ⟨107, 41, 107, 64⟩, b := ⟨107, 41, 107, 51⟩ },
  { a := ⟨107, 70, 107, 75⟩, x := "found" },
  { a := ⟨107, 79, 107, 82⟩, x := "due" },
  { a := ⟨107, 70, 107, 82⟩ },
  { a := ⟨107, 15, 107, 83⟩ },
  { a := ⟨107, 8, 107, 83⟩ },
  { a := ⟨106, 4, 107, 83⟩ },
  { a := ⟨108, 7, 108, 10⟩, x := "due" },
  { a := ⟨108, 14, 108, 18⟩ },
  { a := ⟨108, 7, 108, 18⟩ },
  { a := ⟨108, 22, 108, 27⟩, x := "found" },
  { a := ⟨108, 31, 108, 35⟩ },
  { a := ⟨108, 22, 108, 35⟩ },
  { a := ⟨108, 7, 108, 35⟩ },
  { a := ⟨109, 15, 109, 18⟩, x := "due" },
  { a := ⟨109, 22, 109, 26⟩ },
  { a := ⟨109, 15, 109, 26⟩ },
  { a := ⟨109, 31, 109, 36⟩, x := "found" },
  { a := ⟨109, 40, 109, 44⟩ },
  { a := ⟨109, 31, 109, 44⟩ },
  { a := ⟨109, 15, 109, 44⟩ },
  { a := ⟨109, 8, 109, 44⟩ },
  { a := ⟨108, 4, 109, 44⟩ },
  { a := ⟨110, 18, 110, 21⟩, x := "due" },
  { a := ⟨110, 23, 110, 26⟩ },
  { a := ⟨110, 7, 110, 27⟩, b := ⟨110, 7, 110, 17⟩ },
  { a := ⟨110, 42, 110, 47⟩, x := "found" },
  { a := ⟨110, 49, 110, 52⟩ },
  { a := ⟨110, 31, 110, 53⟩, b := ⟨110, 31, 110, 41⟩ },
  { a := ⟨110, 7, 110, 53⟩ },
  { a := ⟨110, 68, 110, 71⟩, x := "due" },
  { a := ⟨110, 73, 110, 76⟩ },
  { a := ⟨110, 57, 110, 77⟩, b := ⟨110, 57, 110, 67⟩ },
  { a := ⟨110, 92, 110, 97⟩, x := "found" },
  { a := ⟨110, 99, 110, 102⟩ },
  { a := ⟨110, 81, 110, 103⟩, b := ⟨110, 81, 110, 91⟩ },
  { a := ⟨110, 57, 110, 103⟩ },
  { a := ⟨110, 7, 110, 103⟩ },
  { a := ⟨111, 15, 111, 20⟩ },
  { a := ⟨111, 8, 111, 20⟩ },
  { a := ⟨110, 4, 111, 20⟩ },
  { a := ⟨112, 26, 112, 31⟩, x := "found" },
  { a := ⟨112, 34, 112, 38⟩ },
  { a := ⟨112, 40, 112, 45⟩ },
  { a := ⟨112, 47, 112, 51⟩ },
  { a := ⟨112, 33, 112, 52⟩ },
  { a := ⟨112, 15, 112, 53⟩, b := ⟨112, 15, 112, 25⟩ },
  { a := ⟨112, 11, 112, 53⟩ },
  { a := ⟨112, 58, 112, 63⟩, x := "found" },
  { a := ⟨112, 67, 112, 70⟩, x := "due" },
  { a := ⟨112, 58, 112, 70⟩ },
  { a := ⟨112, 11, 112, 70⟩ },
  { a := ⟨112, 4, 112, 70⟩ }]
def T_law_spoilt : Tab := [{ a := ⟨114, 18, 114, 23⟩, x := "thing" },
  { a := ⟨114, 26, 114, 30⟩ },
  { a := ⟨114, 32, 114, 37⟩ },
  { a := ⟨114, 25, 114, 38⟩ },
  { a := ⟨114, 7, 114, 39⟩, b := ⟨114, 7, 114, 17⟩ },
  { a := ⟨115, 20, 115, 25⟩, x := "thing" },
  { a := ⟨115, 12, 115, 16⟩, x := "part" },
  { a := ⟨116, 24, 116, 28⟩, x := "part" },
  { a := ⟨116, 12, 116, 29⟩, b := ⟨116, 12, 116, 23⟩, x := "_law_spoilt" },
  { a := ⟨116, 12, 116, 29⟩ },
  { a := ⟨115, 8, 116, 29⟩ },
  { a := ⟨114, 4, 116, 29⟩ },
  { a := ⟨117, 18, 117, 23⟩, x := "thing" },
  { a := ⟨117, 25, 117, 29⟩ },
  { a := ⟨117, 7, 117, 30⟩, b := ⟨117, 7, 117, 17⟩ },
  { a := ⟨118, 8, 118, 13⟩, x := "thing" },
  { a := ⟨118, 21, 118, 27⟩ },
  { a := ⟨118, 8, 118, 28⟩, b := ⟨118, 8, 118, 20⟩ },
  { a := ⟨118, 8, 118, 28⟩ },
  { a := ⟨117, 4, 118, 28⟩ }]
def T_law_copied : Tab := [{ a := ⟨120, 18, 120, 23⟩, x := "thing" },
  { a := ⟨120, 25, 120, 29⟩ },
  { a := ⟨120, 7, 120, 30⟩, b := ⟨120, 7, 120, 17⟩ },
  { e := (PySem.Expr.Call (func := (PySem.Expr.Name (id := "dict") (pos := ⟨121, 15, 121, 19⟩))) (args := [(PySem.Expr.ListComp (elt := (PySem.Expr.Tuple (elts := [(PySem.Expr.Name (id := "key") (pos := ⟨121, 22, 121, 25⟩)), (PySem.Expr.Call (func := (PySem.Expr.Name (id := "_law_copied") (pos := ⟨121, 27, 121, 38⟩))) (args := [(PySem.Expr.Subscript (value := (PySem.Expr.Name (id := "thing") (pos := ⟨121, 39, 121, 44⟩))) (slice := (PySem.Expr.Name (id := "key") (pos := ⟨121, 45, 121, 48⟩))) (pos := ⟨121, 39, 121, 49⟩))]) (keywords := []) (pos := ⟨121, 27, 121, 50⟩))]) (k := 0) (pos := ⟨121, 21, 121, 51⟩))) (generators := [{ target := (PySem.Expr.Name (id := "key") (pos := ⟨121, 56, 121, 59⟩)), iter := (PySem.Expr.Name (id := "thing") (pos := ⟨121, 63, 121, 68⟩)), ifs := [], is_async := 0 : PySem.Comprehension }]) (scope := { kind := PySem.ScopeKind.function, names := [((PySem.Str.ofString ".0"), PySem.NameKind.local), ((PySem.Str.ofString "key"), PySem.NameKind.local), ((PySem.Str.ofString "_law_copied"), PySem.NameKind.globalImplicit), ((PySem.Str.ofString "thing"), PySem.NameKind.free)], isGenerator := false, isCoroutine := false, more := [] : PySem.Scope }) (pos := ⟨121, 20, 121, 69⟩))]) (keywords := []) (pos := ⟨121, 15, 121, 70⟩)) },
  { a := ⟨121, 8, 121, 70⟩ },
  { a := ⟨120, 4, 121, 70⟩ },
  { a := ⟨122, 4, 122, 8⟩, x := "some" },
  { a := ⟨122, 61, 122, 66⟩, x := "thing" },
  { a := ⟨122, 69, 122, 73⟩ },
  { a := ⟨122, 75, 122, 80⟩ },
  { a := ⟨122, 68, 122, 81⟩ },
  { a := ⟨122, 50, 122, 82⟩, b := ⟨122, 50, 122, 60⟩ },
  { a := ⟨122, 40, 122, 45⟩, x := "thing" },
  { a := ⟨122, 33, 122, 36⟩, x := "one" },
  { a := ⟨122, 24, 122, 27⟩, x := "one" },
  { a := ⟨122, 12, 122, 28⟩, b := ⟨122, 12, 122, 23⟩, x := "_law_copied" },
  { a := ⟨122, 11, 122, 46⟩, sc := { kind := PySem.ScopeKind.function, names := [((PySem.Str.ofString ".0"), PySem.NameKind.local), ((PySem.Str.ofString "one"), PySem.NameKind.local), ((PySem.Str.ofString "_law_copied"), PySem.NameKind.globalImplicit)], isGenerator := false, isCoroutine := false, more := [] : PySem.Scope } },
  { a := ⟨122, 88, 122, 93⟩, x := "thing" },
  { a := ⟨122, 11, 122, 93⟩ },
  { a := ⟨122, 4, 122, 93⟩ },
  { a := ⟨123, 37, 123, 42⟩, x := "thing" },
  { a := ⟨123, 44, 123, 49⟩ },
  { a := ⟨123, 26, 123, 50⟩, b := ⟨123, 26, 123, 36⟩ },
  { a := ⟨123, 17, 123, 21⟩, x := "some" },
  { a := ⟨123, 11, 123, 22⟩, b := ⟨123, 11, 123, 16⟩ },
  { a := ⟨123, 56, 123, 60⟩, x := "some" },
  { a := ⟨123, 11, 123, 60⟩ },
  { a := ⟨123, 4, 123, 60⟩ }]
def T_law_loose : Tab := [{ a := ⟨125, 22, 125, 27⟩, x := "thing" },
  { a := ⟨125, 30, 125, 34⟩ },
  { a := ⟨125, 36, 125, 41⟩ },
  { a := ⟨125, 29, 125, 42⟩ },
  { a := ⟨125, 11, 125, 43⟩, b := ⟨125, 11, 125, 21⟩ },
  { a := ⟨125, 7, 125, 43⟩ },
  { a := ⟨126, 15, 126, 20⟩, x := "thing" },
  { a := ⟨126, 8, 126, 20⟩ },
  { a := ⟨125, 4, 126, 20⟩ },
  { a := ⟨127, 4, 127, 8⟩, x := "some" },
  { a := ⟨127, 49, 127, 54⟩, x := "thing" },
  { a := ⟨127, 41, 127, 45⟩, x := "part" },
  { a := ⟨127, 23, 127, 29⟩, x := "stream" },
  { a := ⟨127, 31, 127, 35⟩, x := "part" },
  { a := ⟨127, 12, 127, 36⟩, b := ⟨127, 12, 127, 22⟩, x := "_law_loose" },
  { a := ⟨127, 11, 127, 55⟩, sc := { kind := PySem.ScopeKind.function, names := [((PySem.Str.ofString ".0"), PySem.NameKind.local), ((PySem.Str.ofString "part"), PySem.NameKind.local), ((PySem.Str.ofString "_law_loose"), PySem.NameKind.globalImplicit), ((PySem.Str.ofString "stream"), PySem.NameKind.free)], isGenerator := false, isCoroutine := false, more := [] : PySem.Scope } },
  { a := ⟨127, 4, 127, 55⟩ },
  { a := ⟨128, 36, 128, 42⟩, x := "stream" },
  { a := ⟨128, 44, 128, 45⟩ },
  { a := ⟨128, 26, 128, 46⟩, b := ⟨128, 26, 128, 35⟩, x := "_law_draw" },
  { a := ⟨128, 50, 128, 51⟩ },
  { a := ⟨128, 26, 128, 51⟩ },
  { a := ⟨128, 17, 128, 21⟩, x := "some" },
  { a := ⟨128, 11, 128, 22⟩, b := ⟨128, 11, 128, 16⟩ },
  { a := ⟨128, 57, 128, 61⟩, x := "some" },
  { a := ⟨128, 11, 128, 61⟩ },
  { a := ⟨128, 4, 128, 61⟩ }]
def T_law_word : Tab := [{ a := ⟨130, 61, 130, 67⟩, x := "stream" },
  { a := ⟨130, 69, 130, 73⟩, x := "most" },
  { a := ⟨130, 76, 130, 77⟩ },
  { a := ⟨130, 69, 130, 77⟩ },
  { a := ⟨130, 51, 130, 78⟩, b := ⟨130, 51, 130, 60⟩, x := "_law_draw" },
  { a := ⟨130, 45, 130, 79⟩, b := ⟨130, 45, 130, 50⟩ },
  { a := ⟨130, 40, 130, 41⟩, x := "k" },
  { a := ⟨130, 22, 130, 28⟩, x := "stream" },
  { a := ⟨130, 30, 130, 34⟩, x := "many" },
  { a := ⟨130, 12, 130, 35⟩, b := ⟨130, 12, 130, 21⟩, x := "_law_draw" },
  { a := ⟨130, 11, 130, 80⟩, sc := { kind := PySem.ScopeKind.function, names := [((PySem.Str.ofString ".0"), PySem.NameKind.local), ((PySem.Str.ofString "k"), PySem.NameKind.local), ((PySem.Str.ofString "_law_draw"), PySem.NameKind.globalImplicit), ((PySem.Str.ofString "many"), PySem.NameKind.free), ((PySem.Str.ofString "stream"), PySem.NameKind.free)], isGenerator := false, isCoroutine := false, more := [] : PySem.Scope } },
  { a := ⟨130, 4, 130, 80⟩ }]
def T_law_unlike : Tab := [{ a := ⟨132, 4, 132, 9⟩, x := "found" },
  { a := ⟨132, 12, 132, 14⟩ },
  { a := ⟨132, 4, 132, 14⟩ },
  { a := ⟨133, 22, 133, 28⟩, x := "things" },
  { a := ⟨133, 15, 133, 29⟩, b := ⟨133, 15, 133, 21⟩ },
  { a := ⟨133, 8, 133, 11⟩, x := "one" },
  { a := ⟨134, 11, 134, 16⟩, x := "found" },
  { a := ⟨134, 20, 134, 22⟩ },
  { a := ⟨134, 11, 134, 22⟩ },
  { a := ⟨134, 26, 134, 31⟩, x := "found" },
  { a := ⟨134, 33, 134, 34⟩ },
  { a := ⟨134, 32, 134, 34⟩ },
  { a := ⟨134, 26, 134, 35⟩ },
  { a := ⟨134, 39, 134, 42⟩, x := "one" },
  { a := ⟨134, 26, 134, 42⟩ },
  { a := ⟨134, 11, 134, 42⟩ },
  { a := ⟨135, 12, 135, 17⟩, x := "found" },
  { a := ⟨135, 25, 135, 28⟩, x := "one" },
  { a := ⟨135, 12, 135, 29⟩, b := ⟨135, 12, 135, 24⟩ },
  { a := ⟨135, 12, 135, 29⟩ },
  { a := ⟨134, 8, 135, 29⟩ },
  { a := ⟨133, 4, 135, 29⟩ },
  { a := ⟨136, 11, 136, 16⟩, x := "found" },
  { a := ⟨136, 4, 136, 16⟩ }]
def T_law_root : Tab := [{ a := ⟨138, 4, 138, 8⟩, x := "size" },
  { a := ⟨138, 11, 138, 12⟩ },
  { a := ⟨138, 4, 138, 12⟩ },
  { a := ⟨139, 14, 139, 18⟩, x := "word" },
  { a := ⟨139, 10, 139, 19⟩, b := ⟨139, 10, 139, 13⟩ },
  { a := ⟨139, 31, 139, 35⟩, x := "word" },
  { a := ⟨139, 27, 139, 36⟩, b := ⟨139, 27, 139, 30⟩ },
  { a := ⟨139, 40, 139, 44⟩, x := "size" },
  { a := ⟨139, 27, 139, 44⟩ },
  { a := ⟨139, 23, 139, 45⟩, b := ⟨139, 23, 139, 26⟩ },
  { a := ⟨139, 48, 139, 52⟩, x := "size" },
  { a := ⟨139, 23, 139, 52⟩ },
  { a := ⟨139, 10, 139, 52⟩ },
  { a := ⟨139, 61, 139, 65⟩, x := "word" },
  { a := ⟨139, 67, 139, 71⟩, x := "size" },
  { a := ⟨139, 61, 139, 72⟩, b := ⟨139, 66, 139, 71⟩ },
  { a := ⟨139, 56, 139, 73⟩, b := ⟨139, 56, 139, 60⟩ },
  { a := ⟨139, 84, 139, 88⟩, x := "word" },
  { a := ⟨139, 80, 139, 89⟩, b := ⟨139, 80, 139, 83⟩ },
  { a := ⟨139, 93, 139, 97⟩, x := "size" },
  { a := ⟨139, 80, 139, 97⟩ },
  { a := ⟨139, 76, 139, 98⟩, b := ⟨139, 76, 139, 79⟩ },
  { a := ⟨139, 56, 139, 98⟩ },
  { a := ⟨139, 107, 139, 111⟩, x := "word" },
  { a := ⟨139, 102, 139, 112⟩, b := ⟨139, 102, 139, 106⟩ },
  { a := ⟨139, 56, 139, 112⟩ },
  { a := ⟨139, 10, 139, 112⟩ },
  { a := ⟨140, 8, 140, 12⟩, x := "size" },
  { a := ⟨140, 15, 140, 19⟩, x := "size" },
  { a := ⟨140, 22, 140, 23⟩ },
  { a := ⟨140, 15, 140, 23⟩ },
  { a := ⟨140, 8, 140, 23⟩ },
  { a := ⟨139, 4, 140, 23⟩ },
  { a := ⟨141, 17, 141, 21⟩, x := "word" },
  { a := ⟨141, 23, 141, 27⟩, x := "size" },
  { a := ⟨141, 17, 141, 28⟩, b := ⟨141, 22, 141, 27⟩ },
  { a := ⟨141, 12, 141, 29⟩, b := ⟨141, 12, 141, 16⟩ },
  { a := ⟨141, 39, 141, 43⟩, x := "word" },
  { a := ⟨141, 35, 141, 44⟩, b := ⟨141, 35, 141, 38⟩ },
  { a := ⟨141, 48, 141, 52⟩, x := "size" },
  { a := ⟨141, 35, 141, 52⟩ },
  { a := ⟨141, 31, 141, 53⟩, b := ⟨141, 31, 141, 34⟩ },
  { a := ⟨141, 11, 141, 54⟩ },
  { a := ⟨141, 4, 141, 54⟩ }]
def T_law_rest : Tab := [{ a := ⟨143, 15, 143, 21⟩, x := "number" },
  { a := ⟨143, 11, 143, 22⟩, b := ⟨143, 11, 143, 14⟩ },
  { a := ⟨143, 25, 143, 27⟩, x := "by" },
  { a := ⟨143, 35, 143, 41⟩, x := "number" },
  { a := ⟨143, 31, 143, 42⟩, b := ⟨143, 31, 143, 34⟩ },
  { a := ⟨143, 46, 143, 48⟩, x := "by" },
  { a := ⟨143, 31, 143, 48⟩ },
  { a := ⟨143, 25, 143, 49⟩ },
  { a := ⟨143, 11, 143, 49⟩ },
  { a := ⟨143, 4, 143, 49⟩ }]
def T_law_at : Tab := [{ a := ⟨145, 4, 145, 8⟩, x := "lead" },
  { a := ⟨145, 10, 145, 14⟩, x := "turn" },
  { a := ⟨145, 4, 145, 14⟩ },
  { a := ⟨145, 17, 145, 24⟩, x := "endless" },
  { a := ⟨145, 4, 145, 24⟩ },
  { a := ⟨146, 26, 146, 31⟩, x := "index" },
  { a := ⟨146, 38, 146, 42⟩, x := "lead" },
  { a := ⟨146, 34, 146, 43⟩, b := ⟨146, 34, 146, 37⟩ },
  { a := ⟨146, 26, 146, 43⟩ },
  { a := ⟨146, 11, 146, 15⟩, x := "lead" },
  { a := ⟨146, 16, 146, 21⟩, x := "index" },
  { a := ⟨146, 11, 146, 22⟩ },
  { a := ⟨146, 49, 146, 53⟩, x := "turn" },
  { a := ⟨146, 64, 146, 69⟩, x := "index" },
  { a := ⟨146, 76, 146, 80⟩, x := "lead" },
  { a := ⟨146, 72, 146, 81⟩, b := ⟨146, 72, 146, 75⟩ },
  { a := ⟨146, 64, 146, 81⟩ },
  { a := ⟨146, 87, 146, 91⟩, x := "turn" },
  { a := ⟨146, 83, 146, 92⟩, b := ⟨146, 83, 146, 86⟩ },
  { a := ⟨146, 54, 146, 93⟩, b := ⟨146, 54, 146, 63⟩, x := "_law_rest" },
  { a := ⟨146, 49, 146, 94⟩ },
  { a := ⟨146, 11, 146, 94⟩ },
  { a := ⟨146, 4, 146, 94⟩ }]
def T_law_plain : Tab := [{ a := ⟨148, 23, 148, 30⟩, x := "endless" },
  { a := ⟨148, 31, 148, 32⟩ },
  { a := ⟨148, 23, 148, 33⟩ },
  { a := ⟨148, 18, 148, 34⟩, b := ⟨148, 18, 148, 22⟩ },
  { a := ⟨148, 41, 148, 48⟩, x := "endless" },
  { a := ⟨148, 49, 148, 50⟩ },
  { a := ⟨148, 41, 148, 51⟩ },
  { a := ⟨148, 36, 148, 52⟩, b := ⟨148, 36, 148, 40⟩ },
  { a := ⟨148, 4, 148, 53⟩, b := ⟨148, 4, 148, 8⟩, c := ⟨148, 10, 148, 14⟩, d := ⟨148, 4, 148, 14⟩, x := "lead", y := "turn" },
  { a := ⟨148, 17, 148, 53⟩ },
  { a := ⟨149, 4, 149, 8⟩, x := "turn" },
  { a := ⟨149, 21, 149, 25⟩, x := "turn" },
  { a := ⟨149, 11, 149, 26⟩, b := ⟨149, 11, 149, 20⟩, x := "_law_root" },
  { a := ⟨149, 27, 149, 28⟩ },
  { a := ⟨149, 11, 149, 29⟩ },
  { a := ⟨149, 4, 149, 29⟩ },
  { a := ⟨150, 10, 150, 14⟩, x := "lead" },
  { a := ⟨150, 18, 150, 20⟩ },
  { a := ⟨150, 10, 150, 20⟩ },
  { a := ⟨150, 25, 150, 29⟩, x := "lead" },
  { a := ⟨150, 31, 150, 32⟩ },
  { a := ⟨150, 30, 150, 32⟩ },
  { a := ⟨150, 25, 150, 33⟩ },
  { a := ⟨150, 37, 150, 41⟩, x := "turn" },
  { a := ⟨150, 43, 150, 44⟩ },
  { a := ⟨150, 42, 150, 44⟩ },
  { a := ⟨150, 37, 150, 45⟩ },
  { a := ⟨150, 25, 150, 45⟩ },
  { a := ⟨150, 10, 150, 45⟩ },
  { a := ⟨151, 22, 151, 26⟩, x := "lead" },
  { a := ⟨151, 29, 151, 30⟩ },
  { a := ⟨151, 28, 151, 30⟩ },
  { a := ⟨151, 22, 151, 31⟩, b := ⟨151, 27, 151, 30⟩ },
  { a := ⟨151, 33, 151, 37⟩, x := "turn" },
  { a := ⟨151, 39, 151, 40⟩ },
  { a := ⟨151, 38, 151, 40⟩ },
  { a := ⟨151, 33, 151, 42⟩, b := ⟨151, 38, 151, 41⟩ },
  { a := ⟨151, 45, 151, 49⟩, x := "turn" },
  { a := ⟨151, 52, 151, 53⟩ },
  { a := ⟨151, 51, 151, 53⟩ },
  { a := ⟨151, 45, 151, 54⟩, b := ⟨151, 50, 151, 53⟩ },
  { a := ⟨151, 33, 151, 54⟩ },
  { a := ⟨151, 8, 151, 55⟩, b := ⟨151, 8, 151, 12⟩, c := ⟨151, 14, 151, 18⟩, d := ⟨151, 8, 151, 18⟩, x := "lead", y := "turn" },
  { a := ⟨151, 21, 151, 55⟩ },
  { a := ⟨150, 4, 151, 55⟩ },
  { a := ⟨152, 12, 152, 16⟩, x := "lead" },
  { a := ⟨152, 18, 152, 22⟩, x := "turn" },
  { a := ⟨152, 11, 152, 23⟩ },
  { a := ⟨152, 4, 152, 23⟩ }]
def T_law_endless : Tab := [{ a := ⟨154, 4, 154, 8⟩, x := "turn" },
  { a := ⟨154, 21, 154, 27⟩, x := "stream" },
  { a := ⟨154, 29, 154, 36⟩, x := "letters" },
  { a := ⟨154, 38, 154, 39⟩ },
  { a := ⟨154, 11, 154, 40⟩, b := ⟨154, 11, 154, 20⟩, x := "_law_word" },
  { a := ⟨154, 54, 154, 60⟩, x := "stream" },
  { a := ⟨154, 62, 154, 69⟩, x := "letters" },
  { a := ⟨154, 44, 154, 70⟩, b := ⟨154, 44, 154, 53⟩, x := "_law_draw" },
  { a := ⟨154, 43, 154, 71⟩ },
  { a := ⟨154, 11, 154, 71⟩ },
  { a := ⟨154, 4, 154, 71⟩ },
  { a := ⟨155, 4, 155, 8⟩, x := "turn" },
  { a := ⟨155, 11, 155, 15⟩, x := "turn" },
  { a := ⟨155, 19, 155, 20⟩ },
  { a := ⟨155, 33, 155, 39⟩, x := "stream" },
  { a := ⟨155, 41, 155, 42⟩ },
  { a := ⟨155, 23, 155, 43⟩, b := ⟨155, 23, 155, 32⟩, x := "_law_draw" },
  { a := ⟨155, 19, 155, 43⟩ },
  { a := ⟨155, 11, 155, 44⟩ },
  { a := ⟨155, 4, 155, 44⟩ },
  { a := ⟨156, 4, 156, 8⟩, x := "lead" },
  { a := ⟨156, 21, 156, 27⟩, x := "stream" },
  { a := ⟨156, 29, 156, 36⟩, x := "letters" },
  { a := ⟨156, 38, 156, 39⟩ },
  { a := ⟨156, 11, 156, 40⟩, b := ⟨156, 11, 156, 20⟩, x := "_law_word" },
  { a := ⟨156, 4, 156, 40⟩ },
  { a := ⟨157, 12, 157, 16⟩, x := "lead" },
  { a := ⟨157, 69, 157, 75⟩, x := "stream" },
  { a := ⟨157, 77, 157, 78⟩ },
  { a := ⟨157, 59, 157, 79⟩, b := ⟨157, 59, 157, 68⟩, x := "_law_draw" },
  { a := ⟨157, 83, 157, 84⟩ },
  { a := ⟨157, 59, 157, 84⟩ },
  { a := ⟨157, 20, 157, 24⟩, x := "turn" },
  { a := ⟨157, 35, 157, 41⟩, x := "stream" },
  { a := ⟨157, 47, 157, 51⟩, x := "turn" },
  { a := ⟨157, 43, 157, 52⟩, b := ⟨157, 43, 157, 46⟩ },
  { a := ⟨157, 25, 157, 53⟩, b := ⟨157, 25, 157, 34⟩, x := "_law_draw" },
  { a := ⟨157, 20, 157, 55⟩, b := ⟨157, 25, 157, 54⟩ },
  { a := ⟨157, 90, 157, 92⟩ },
  { a := ⟨157, 20, 157, 92⟩ },
  { a := ⟨157, 12, 157, 93⟩ },
  { a := ⟨157, 95, 157, 99⟩, x := "turn" },
  { a := ⟨157, 11, 157, 100⟩ },
  { a := ⟨157, 4, 157, 100⟩ }]
def T_law_parts : Tab := [{ a := ⟨159, 4, 159, 8⟩, x := "many" },
  { a := ⟨159, 15, 159, 22⟩, x := "endless" },
  { a := ⟨159, 23, 159, 24⟩ },
  { a := ⟨159, 15, 159, 25⟩ },
  { a := ⟨159, 11, 159, 26⟩, b := ⟨159, 11, 159, 14⟩ },
  { a := ⟨159, 33, 159, 40⟩, x := "endless" },
  { a := ⟨159, 41, 159, 42⟩ },
  { a := ⟨159, 33, 159, 43⟩ },
  { a := ⟨159, 29, 159, 44⟩, b := ⟨159, 29, 159, 32⟩ },
  { a := ⟨159, 11, 159, 44⟩ },
  { a := ⟨159, 4, 159, 44⟩ },
  { a := ⟨160, 98, 160, 102⟩, x := "many" },
  { a := ⟨160, 92, 160, 103⟩, b := ⟨160, 92, 160, 97⟩ },
  { a := ⟨160, 83, 160, 88⟩, x := "begin" },
  { a := ⟨160, 72, 160, 76⟩, x := "size" },
  { a := ⟨160, 66, 160, 77⟩, b := ⟨160, 66, 160, 71⟩ },
  { a := ⟨160, 59, 160, 62⟩, x := "far" },
  { a := ⟨160, 33, 160, 40⟩, x := "endless" },
  { a := ⟨160, 42, 160, 47⟩, x := "begin" },
  { a := ⟨160, 50, 160, 53⟩, x := "far" },
  { a := ⟨160, 42, 160, 53⟩ },
  { a := ⟨160, 25, 160, 54⟩, b := ⟨160, 25, 160, 32⟩, x := "_law_at" },
  { a := ⟨160, 24, 160, 78⟩, sc := { kind := PySem.ScopeKind.function, names := [((PySem.Str.ofString ".0"), PySem.NameKind.local), ((PySem.Str.ofString "far"), PySem.NameKind.local), ((PySem.Str.ofString "_law_at"), PySem.NameKind.globalImplicit), ((PySem.Str.ofString "begin"), PySem.NameKind.free), ((PySem.Str.ofString "endless"), PySem.NameKind.free)], isGenerator := false, isCoroutine := false, more := [] : PySem.Scope } },
  { a := ⟨160, 23, 160, 104⟩, sc := { kind := PySem.ScopeKind.function, names := [((PySem.Str.ofString ".0"), PySem.NameKind.local), ((PySem.Str.ofString "begin"), PySem.NameKind.cell), ((PySem.Str.ofString "range"), PySem.NameKind.globalImplicit), ((PySem.Str.ofString "endless"), PySem.NameKind.free), ((PySem.Str.ofString "size"), PySem.NameKind.free)], isGenerator := false, isCoroutine := false, more := [] : PySem.Scope } },
  { a := ⟨160, 11, 160, 105⟩, b := ⟨160, 11, 160, 22⟩, x := "_law_unlike" },
  { a := ⟨160, 4, 160, 105⟩ }]
def T_law_37 : Tab := [{ a := ⟨162, 4, 162, 10⟩, x := "stream" },
  { a := ⟨162, 25, 162, 31⟩, x := "script" },
  { a := ⟨162, 13, 162, 32⟩, b := ⟨162, 13, 162, 24⟩, x := "_law_stream" },
  { a := ⟨162, 4, 162, 32⟩ },
  { a := ⟨163, 22, 163, 23⟩ },
  { a := ⟨163, 16, 163, 24⟩, b := ⟨163, 16, 163, 21⟩ },
  { a := ⟨163, 8, 163, 12⟩, x := "turn" },
  { a := ⟨164, 8, 164, 15⟩, x := "endless" },
  { a := ⟨164, 31, 164, 37⟩, x := "stream" },
  { a := ⟨164, 39, 164, 40⟩ },
  { a := ⟨164, 53, 164, 59⟩, x := "stream" },
  { a := ⟨164, 61, 164, 62⟩ },
  { a := ⟨164, 43, 164, 63⟩, b := ⟨164, 43, 164, 52⟩, x := "_law_draw" },
  { a := ⟨164, 39, 164, 63⟩ },
  { a := ⟨164, 18, 164, 64⟩, b := ⟨164, 18, 164, 30⟩, x := "_law_endless" },
  { a := ⟨164, 8, 164, 64⟩ },
  { a := ⟨165, 36, 165, 42⟩, x := "stream" },
  { a := ⟨165, 44, 165, 51⟩, x := "endless" },
  { a := ⟨165, 25, 165, 52⟩, b := ⟨165, 25, 165, 35⟩, x := "_law_loose" },
  { a := ⟨165, 65, 165, 72⟩, x := "endless" },
  { a := ⟨165, 54, 165, 73⟩, b := ⟨165, 54, 165, 64⟩, x := "_law_plain" },
  { a := ⟨165, 8, 165, 74⟩, b := ⟨165, 8, 165, 14⟩, c := ⟨165, 16, 165, 21⟩, d := ⟨165, 8, 165, 21⟩, x := "handed", y := "plain" },
  { a := ⟨165, 24, 165, 74⟩ },
  { a := ⟨166, 33, 166, 39⟩, x := "handed" },
  { a := ⟨166, 21, 166, 40⟩, b := ⟨166, 21, 166, 32⟩, x := "_law_copied" },
  { a := ⟨166, 46, 166, 51⟩, x := "plain" },
  { a := ⟨166, 52, 166, 53⟩ },
  { a := ⟨166, 46, 166, 54⟩ },
  { a := ⟨166, 42, 166, 55⟩, b := ⟨166, 42, 166, 45⟩ },
  { a := ⟨166, 62, 166, 67⟩, x := "plain" },
  { a := ⟨166, 68, 166, 69⟩ },
  { a := ⟨166, 62, 166, 70⟩ },
  { a := ⟨166, 58, 166, 71⟩, b := ⟨166, 58, 166, 61⟩ },
  { a := ⟨166, 42, 166, 71⟩ },
  { a := ⟨166, 8, 166, 72⟩, b := ⟨166, 8, 166, 11⟩, c := ⟨166, 13, 166, 17⟩, d := ⟨166, 8, 166, 17⟩, x := "was", y := "many" },
  { a := ⟨166, 20, 166, 72⟩ },
  { a := ⟨167, 8, 167, 14⟩, x := "counts" },
  { a := ⟨167, 67, 167, 71⟩, x := "many" },
  { a := ⟨167, 74, 167, 75⟩ },
  { a := ⟨167, 67, 167, 75⟩ },
  { a := ⟨167, 61, 167, 76⟩, b := ⟨167, 61, 167, 66⟩ },
  { a := ⟨167, 53, 167, 57⟩, x := "size" },
  { a := ⟨167, 33, 167, 40⟩, x := "endless" },
  { a := ⟨167, 42, 167, 46⟩, x := "size" },
  { a := ⟨167, 22, 167, 47⟩, b := ⟨167, 22, 167, 32⟩, x := "_law_parts" },
  { a := ⟨167, 18, 167, 48⟩, b := ⟨167, 18, 167, 21⟩ },
  { a := ⟨167, 17, 167, 77⟩, sc := { kind := PySem.ScopeKind.function, names := [((PySem.Str.ofString ".0"), PySem.NameKind.local), ((PySem.Str.ofString "size"), PySem.NameKind.local), ((PySem.Str.ofString "len"), PySem.NameKind.globalImplicit), ((PySem.Str.ofString "_law_parts"), PySem.NameKind.globalImplicit), ((PySem.Str.ofString "endless"), PySem.NameKind.free)], isGenerator := false, isCoroutine := false, more := [] : PySem.Scope } },
  { a := ⟨167, 8, 167, 77⟩ },
  { a := ⟨168, 8, 168, 12⟩, x := "last" },
  { a := ⟨168, 15, 168, 21⟩, x := "counts" },
  { a := ⟨168, 28, 168, 32⟩, x := "many" },
  { a := ⟨168, 15, 168, 33⟩, b := ⟨168, 15, 168, 27⟩ },
  { a := ⟨168, 8, 168, 33⟩ },
  { a := ⟨169, 34, 169, 40⟩, x := "handed" },
  { a := ⟨169, 26, 169, 41⟩, b := ⟨169, 26, 169, 33⟩, x := "settled" },
  { a := ⟨169, 71, 169, 78⟩, x := "endless" },
  { a := ⟨169, 59, 169, 79⟩, b := ⟨169, 59, 169, 70⟩, x := "_law_copied" },
  { a := ⟨169, 51, 169, 79⟩, x := "endless" },
  { a := ⟨169, 43, 169, 80⟩, b := ⟨169, 43, 169, 50⟩, x := "settled" },
  { a := ⟨169, 25, 169, 81⟩ },
  { a := ⟨169, 85, 169, 89⟩, x := "last" },
  { a := ⟨169, 91, 169, 95⟩, x := "many" },
  { a := ⟨169, 84, 169, 96⟩ },
  { a := ⟨169, 83, 169, 97⟩ },
  { a := ⟨169, 100, 169, 101⟩ },
  { a := ⟨169, 83, 169, 101⟩ },
  { a := ⟨169, 15, 169, 102⟩, b := ⟨169, 15, 169, 24⟩, x := "_law_same" },
  { a := ⟨169, 11, 169, 102⟩ },
  { a := ⟨169, 165, 169, 169⟩, x := "last" },
  { a := ⟨169, 159, 169, 170⟩, b := ⟨169, 159, 169, 164⟩ },
  { a := ⟨169, 151, 169, 155⟩, x := "size" },
  { a := ⟨169, 115, 169, 121⟩, x := "counts" },
  { a := ⟨169, 122, 169, 126⟩, x := "size" },
  { a := ⟨169, 115, 169, 127⟩ },
  { a := ⟨169, 130, 169, 136⟩, x := "counts" },
  { a := ⟨169, 137, 169, 141⟩, x := "size" },
  { a := ⟨169, 144, 169, 145⟩ },
  { a := ⟨169, 137, 169, 145⟩ },
  { a := ⟨169, 130, 169, 146⟩ },
  { a := ⟨169, 115, 169, 146⟩ },
  { a := ⟨169, 114, 169, 171⟩, sc := { kind := PySem.ScopeKind.function, names := [((PySem.Str.ofString ".0"), PySem.NameKind.local), ((PySem.Str.ofString "size"), PySem.NameKind.local), ((PySem.Str.ofString "counts"), PySem.NameKind.free)], isGenerator := false, isCoroutine := false, more := [] : PySem.Scope } },
  { a := ⟨169, 110, 169, 172⟩, b := ⟨169, 110, 169, 113⟩ },
  { a := ⟨169, 106, 169, 172⟩ },
  { a := ⟨169, 11, 169, 172⟩ },
  { a := ⟨170, 19, 170, 24⟩ },
  { a := ⟨170, 12, 170, 24⟩ },
  { a := ⟨169, 8, 170, 24⟩ },
  { a := ⟨171, 8, 171, 12⟩, x := "size" },
  { a := ⟨171, 25, 171, 31⟩, x := "stream" },
  { a := ⟨171, 33, 171, 35⟩ },
  { a := ⟨171, 15, 171, 36⟩, b := ⟨171, 15, 171, 24⟩, x := "_law_draw" },
  { a := ⟨171, 8, 171, 36⟩ },
  { a := ⟨172, 8, 172, 11⟩, x := "due" },
  { a := ⟨172, 25, 172, 32⟩, x := "endless" },
  { a := ⟨172, 34, 172, 38⟩, x := "size" },
  { a := ⟨172, 14, 172, 39⟩, b := ⟨172, 14, 172, 24⟩, x := "_law_parts" },
  { a := ⟨172, 8, 172, 39⟩ },
  { a := ⟨173, 8, 173, 12⟩, x := "told" },
  { a := ⟨173, 30, 173, 36⟩, x := "handed" },
  { a := ⟨173, 38, 173, 42⟩, x := "size" },
  { a := ⟨173, 16, 173, 43⟩, b := ⟨173, 16, 173, 29⟩, x := "endless_parts" },
  { a := ⟨173, 64, 173, 68⟩, x := "size" },
  { a := ⟨173, 59, 173, 68⟩, x := "size" },
  { a := ⟨173, 90, 173, 97⟩, x := "endless" },
  { a := ⟨173, 78, 173, 98⟩, b := ⟨173, 78, 173, 89⟩, x := "_law_copied" },
  { a := ⟨173, 70, 173, 98⟩, x := "endless" },
  { a := ⟨173, 45, 173, 99⟩, b := ⟨173, 45, 173, 58⟩, x := "endless_parts" },
  { a := ⟨173, 15, 173, 100⟩ },
  { a := ⟨173, 8, 173, 100⟩ },
  { a := ⟨174, 25, 174, 29⟩, x := "told" },
  { a := ⟨174, 32, 174, 35⟩, x := "due" },
  { a := ⟨174, 37, 174, 40⟩, x := "due" },
  { a := ⟨174, 31, 174, 41⟩ },
  { a := ⟨174, 15, 174, 42⟩, b := ⟨174, 15, 174, 24⟩, x := "_law_same" },
  { a := ⟨174, 11, 174, 42⟩ },
  { a := ⟨174, 60, 174, 66⟩, x := "handed" },
  { a := ⟨174, 68, 174, 71⟩, x := "was" },
  { a := ⟨174, 50, 174, 72⟩, b := ⟨174, 50, 174, 59⟩, x := "_law_same" },
  { a := ⟨174, 46, 174, 72⟩ },
  { a := ⟨174, 11, 174, 72⟩ },
  { a := ⟨175, 19, 175, 24⟩ },
  { a := ⟨175, 12, 175, 24⟩ },
  { a := ⟨174, 8, 175, 24⟩ },
  { a := ⟨176, 20, 176, 24⟩, x := "told" },
  { a := ⟨176, 8, 176, 25⟩, b := ⟨176, 8, 176, 19⟩, x := "_law_spoilt" },
  { a := ⟨176, 8, 176, 25⟩ },
  { a := ⟨177, 8, 177, 13⟩, x := "begin" },
  { a := ⟨177, 26, 177, 32⟩, x := "stream" },
  { a := ⟨177, 34, 177, 38⟩, x := "many" },
  { a := ⟨177, 41, 177, 42⟩ },
  { a := ⟨177, 34, 177, 42⟩ },
  { a := ⟨177, 16, 177, 43⟩, b := ⟨177, 16, 177, 25⟩, x := "_law_draw" },
  { a := ⟨177, 8, 177, 43⟩ },
  { a := ⟨178, 8, 178, 12⟩, x := "word" },
  { a := ⟨178, 73, 178, 79⟩, x := "stream" },
  { a := ⟨178, 81, 178, 82⟩ },
  { a := ⟨178, 63, 178, 83⟩, b := ⟨178, 63, 178, 72⟩, x := "_law_draw" },
  { a := ⟨178, 57, 178, 84⟩, b := ⟨178, 57, 178, 62⟩ },
  { a := ⟨178, 50, 178, 53⟩, x := "far" },
  { a := ⟨178, 24, 178, 31⟩, x := "endless" },
  { a := ⟨178, 33, 178, 38⟩, x := "begin" },
  { a := ⟨178, 41, 178, 44⟩, x := "far" },
  { a := ⟨178, 33, 178, 44⟩ },
  { a := ⟨178, 16, 178, 45⟩, b := ⟨178, 16, 178, 23⟩, x := "_law_at" },
  { a := ⟨178, 15, 178, 85⟩, sc := { kind := PySem.ScopeKind.function, names := [((PySem.Str.ofString ".0"), PySem.NameKind.local), ((PySem.Str.ofString "far"), PySem.NameKind.local), ((PySem.Str.ofString "_law_at"), PySem.NameKind.globalImplicit), ((PySem.Str.ofString "begin"), PySem.NameKind.free), ((PySem.Str.ofString "endless"), PySem.NameKind.free)], isGenerator := false, isCoroutine := false, more := [] : PySem.Scope } },
  { a := ⟨178, 8, 178, 85⟩ },
  { a := ⟨179, 8, 179, 12⟩, x := "word" },
  { a := ⟨179, 33, 179, 39⟩, x := "stream" },
  { a := ⟨179, 41, 179, 42⟩ },
  { a := ⟨179, 23, 179, 43⟩, b := ⟨179, 23, 179, 32⟩, x := "_law_draw" },
  { a := ⟨179, 46, 179, 47⟩ },
  { a := ⟨179, 23, 179, 47⟩ },
  { a := ⟨179, 15, 179, 19⟩, x := "word" },
  { a := ⟨179, 53, 179, 57⟩, x := "word" },
  { a := ⟨179, 71, 179, 77⟩, x := "stream" },
  { a := ⟨179, 79, 179, 80⟩ },
  { a := ⟨179, 61, 179, 81⟩, b := ⟨179, 61, 179, 70⟩, x := "_law_draw" },
  { a := ⟨179, 60, 179, 82⟩ },
  { a := ⟨179, 53, 179, 82⟩ },
  { a := ⟨179, 15, 179, 82⟩ },
  { a := ⟨179, 8, 179, 82⟩ },
  { a := ⟨180, 8, 180, 12⟩, x := "some" },
  { a := ⟨180, 41, 180, 45⟩, x := "many" },
  { a := ⟨180, 35, 180, 46⟩, b := ⟨180, 35, 180, 40⟩ },
  { a := ⟨180, 26, 180, 31⟩, x := "place" },
  { a := ⟨180, 124, 180, 128⟩, x := "word" },
  { a := ⟨180, 114, 180, 129⟩, b := ⟨180, 114, 180, 123⟩ },
  { a := ⟨180, 99, 180, 102⟩, x := "far" },
  { a := ⟨180, 104, 180, 110⟩, x := "letter" },
  { a := ⟨180, 99, 180, 110⟩ },
  { a := ⟨180, 63, 180, 70⟩, x := "endless" },
  { a := ⟨180, 72, 180, 77⟩, x := "place" },
  { a := ⟨180, 80, 180, 83⟩, x := "far" },
  { a := ⟨180, 72, 180, 83⟩ },
  { a := ⟨180, 55, 180, 84⟩, b := ⟨180, 55, 180, 62⟩, x := "_law_at" },
  { a := ⟨180, 88, 180, 94⟩, x := "letter" },
  { a := ⟨180, 55, 180, 94⟩ },
  { a := ⟨180, 54, 180, 130⟩, sc := { kind := PySem.ScopeKind.function, names := [((PySem.Str.ofString ".0"), PySem.NameKind.local), ((PySem.Str.ofString "far"), PySem.NameKind.local), ((PySem.Str.ofString "letter"), PySem.NameKind.local), ((PySem.Str.ofString "_law_at"), PySem.NameKind.globalImplicit), ((PySem.Str.ofString "endless"), PySem.NameKind.free), ((PySem.Str.ofString "place"), PySem.NameKind.free)], isGenerator := false, isCoroutine := false, more := [] : PySem.Scope } },
  { a := ⟨180, 50, 180, 131⟩, b := ⟨180, 50, 180, 53⟩ },
  { a := ⟨180, 16, 180, 21⟩, x := "place" },
  { a := ⟨180, 15, 180, 132⟩, sc := { kind := PySem.ScopeKind.function, names := [((PySem.Str.ofString ".0"), PySem.NameKind.local), ((PySem.Str.ofString "place"), PySem.NameKind.cell), ((PySem.Str.ofString "all"), PySem.NameKind.globalImplicit), ((PySem.Str.ofString "enumerate"), PySem.NameKind.globalImplicit), ((PySem.Str.ofString "endless"), PySem.NameKind.free), ((PySem.Str.ofString "word"), PySem.NameKind.free)], isGenerator := false, isCoroutine := false, more := [] : PySem.Scope } },
  { a := ⟨180, 8, 180, 132⟩ },
  { a := ⟨181, 8, 181, 13⟩, x := "found" },
  { a := ⟨181, 26, 181, 32⟩, x := "handed" },
  { a := ⟨181, 45, 181, 51⟩, x := "stream" },
  { a := ⟨181, 53, 181, 57⟩, x := "word" },
  { a := ⟨181, 34, 181, 58⟩, b := ⟨181, 34, 181, 44⟩, x := "_law_loose" },
  { a := ⟨181, 17, 181, 59⟩, b := ⟨181, 17, 181, 25⟩, x := "first_at" },
  { a := ⟨181, 80, 181, 84⟩, x := "word" },
  { a := ⟨181, 75, 181, 85⟩, b := ⟨181, 75, 181, 79⟩ },
  { a := ⟨181, 70, 181, 85⟩, x := "word" },
  { a := ⟨181, 107, 181, 114⟩, x := "endless" },
  { a := ⟨181, 95, 181, 115⟩, b := ⟨181, 95, 181, 106⟩, x := "_law_copied" },
  { a := ⟨181, 87, 181, 115⟩, x := "endless" },
  { a := ⟨181, 61, 181, 116⟩, b := ⟨181, 61, 181, 69⟩, x := "first_at" },
  { a := ⟨181, 16, 181, 117⟩ },
  { a := ⟨181, 8, 181, 117⟩ },
  { a := ⟨182, 25, 182, 30⟩, x := "found" },
  { a := ⟨182, 33, 182, 37⟩, x := "some" },
  { a := ⟨182, 39, 182, 40⟩ },
  { a := ⟨182, 33, 182, 41⟩, b := ⟨182, 38, 182, 40⟩ },
  { a := ⟨182, 43, 182, 47⟩, x := "some" },
  { a := ⟨182, 49, 182, 50⟩ },
  { a := ⟨182, 43, 182, 51⟩, b := ⟨182, 48, 182, 50⟩ },
  { a := ⟨182, 32, 182, 52⟩ },
  { a := ⟨182, 15, 182, 53⟩, b := ⟨182, 15, 182, 24⟩, x := "_law_same" },
  { a := ⟨182, 11, 182, 53⟩ },
  { a := ⟨182, 71, 182, 77⟩, x := "handed" },
  { a := ⟨182, 79, 182, 82⟩, x := "was" },
  { a := ⟨182, 61, 182, 83⟩, b := ⟨182, 61, 182, 70⟩, x := "_law_same" },
  { a := ⟨182, 57, 182, 83⟩ },
  { a := ⟨182, 11, 182, 83⟩ },
  { a := ⟨183, 19, 183, 24⟩ },
  { a := ⟨183, 12, 183, 24⟩ },
  { a := ⟨182, 8, 183, 24⟩ },
  { a := ⟨184, 20, 184, 25⟩, x := "found" },
  { a := ⟨184, 8, 184, 26⟩, b := ⟨184, 8, 184, 19⟩, x := "_law_spoilt" },
  { a := ⟨184, 8, 184, 26⟩ },
  { a := ⟨185, 52, 185, 59⟩, x := "endless" },
  { a := ⟨185, 40, 185, 60⟩, b := ⟨185, 40, 185, 51⟩, x := "_law_copied" },
  { a := ⟨185, 62, 185, 66⟩, x := "size" },
  { a := ⟨185, 26, 185, 67⟩, b := ⟨185, 26, 185, 39⟩, x := "endless_parts" },
  { a := ⟨185, 90, 185, 97⟩, x := "endless" },
  { a := ⟨185, 78, 185, 98⟩, b := ⟨185, 78, 185, 89⟩, x := "_law_copied" },
  { a := ⟨185, 105, 185, 109⟩, x := "word" },
  { a := ⟨185, 100, 185, 110⟩, b := ⟨185, 100, 185, 104⟩ },
  { a := ⟨185, 69, 185, 111⟩, b := ⟨185, 69, 185, 77⟩, x := "first_at" },
  { a := ⟨185, 25, 185, 112⟩ },
  { a := ⟨185, 115, 185, 118⟩, x := "due" },
  { a := ⟨185, 120, 185, 124⟩, x := "some" },
  { a := ⟨185, 126, 185, 127⟩ },
  { a := ⟨185, 120, 185, 128⟩, b := ⟨185, 125, 185, 127⟩ },
  { a := ⟨185, 114, 185, 129⟩ },
  { a := ⟨185, 15, 185, 130⟩, b := ⟨185, 15, 185, 24⟩, x := "_law_same" },
  { a := ⟨185, 11, 185, 130⟩ },
  { a := ⟨186, 19, 186, 24⟩ },
  { a := ⟨186, 12, 186, 24⟩ },
  { a := ⟨185, 8, 186, 24⟩ },
  { a := ⟨163, 4, 186, 24⟩ },
  { a := ⟨187, 32, 187, 33⟩ },
  { a := ⟨187, 31, 187, 34⟩ },
  { a := ⟨187, 37, 187, 38⟩ },
  { a := ⟨187, 36, 187, 39⟩ },
  { a := ⟨187, 30, 187, 40⟩ },
  { a := ⟨187, 22, 187, 41⟩, b := ⟨187, 22, 187, 29⟩, x := "settled" },
  { a := ⟨187, 59, 187, 60⟩ },
  { a := ⟨187, 58, 187, 61⟩ },
  { a := ⟨187, 64, 187, 65⟩ },
  { a := ⟨187, 63, 187, 66⟩ },
  { a := ⟨187, 57, 187, 67⟩ },
  { a := ⟨187, 69, 187, 70⟩ },
  { a := ⟨187, 43, 187, 71⟩, b := ⟨187, 43, 187, 56⟩, x := "endless_parts" },
  { a := ⟨187, 83, 187, 85⟩ },
  { a := ⟨187, 88, 187, 89⟩ },
  { a := ⟨187, 91, 187, 92⟩ },
  { a := ⟨187, 87, 187, 93⟩ },
  { a := ⟨187, 82, 187, 94⟩ },
  { a := ⟨187, 97, 187, 98⟩ },
  { a := ⟨187, 100, 187, 101⟩ },
  { a := ⟨187, 96, 187, 102⟩ },
  { a := ⟨187, 73, 187, 103⟩, b := ⟨187, 73, 187, 81⟩, x := "first_at" },
  { a := ⟨187, 114, 187, 116⟩ },
  { a := ⟨187, 119, 187, 120⟩ },
  { a := ⟨187, 122, 187, 123⟩ },
  { a := ⟨187, 118, 187, 124⟩ },
  { a := ⟨187, 113, 187, 125⟩ },
  { a := ⟨187, 105, 187, 126⟩, b := ⟨187, 105, 187, 112⟩, x := "settled" },
  { a := ⟨187, 21, 187, 127⟩ },
  { a := ⟨187, 131, 187, 132⟩ },
  { a := ⟨187, 134, 187, 135⟩ },
  { a := ⟨187, 130, 187, 136⟩ },
  { a := ⟨187, 140, 187, 141⟩ },
  { a := ⟨187, 143, 187, 144⟩ },
  { a := ⟨187, 139, 187, 145⟩ },
  { a := ⟨187, 148, 187, 149⟩ },
  { a := ⟨187, 151, 187, 152⟩ },
  { a := ⟨187, 147, 187, 153⟩ },
  { a := ⟨187, 138, 187, 154⟩ },
  { a := ⟨187, 156, 187, 158⟩ },
  { a := ⟨187, 161, 187, 162⟩ },
  { a := ⟨187, 164, 187, 165⟩ },
  { a := ⟨187, 160, 187, 166⟩ },
  { a := ⟨187, 129, 187, 167⟩ },
  { a := ⟨187, 11, 187, 168⟩, b := ⟨187, 11, 187, 20⟩, x := "_law_same" },
  { a := ⟨187, 4, 187, 168⟩ }]
def T_endless_parts_live : Tab := [{ a := ⟨68, 4, 68, 8⟩, x := "kept" },
  { a := ⟨68, 33, 68, 40⟩, x := "endless" },
  { a := ⟨68, 20, 68, 41⟩, b := ⟨68, 20, 68, 32⟩, x := "need_endless" },
  { a := ⟨68, 11, 68, 42⟩, b := ⟨68, 11, 68, 19⟩, x := "plain_of" },
  { a := ⟨68, 4, 68, 42⟩ },
  { a := ⟨69, 17, 69, 21⟩, x := "size" },
  { a := ⟨69, 4, 69, 22⟩, b := ⟨69, 4, 69, 16⟩, x := "check_length" },
  { a := ⟨69, 4, 69, 22⟩ },
  { a := ⟨70, 46, 70, 50⟩, x := "kept" },
  { a := ⟨70, 52, 70, 56⟩, x := "size" },
  { a := ⟨70, 35, 70, 57⟩, b := ⟨70, 35, 70, 45⟩, x := "windows_of" },
  { a := ⟨70, 27, 70, 31⟩, x := "part" },
  { a := ⟨70, 17, 70, 21⟩, x := "part" },
  { a := ⟨70, 12, 70, 22⟩, b := ⟨70, 12, 70, 16⟩ },
  { a := ⟨70, 11, 70, 58⟩, sc := { kind := PySem.ScopeKind.function, names := [((PySem.Str.ofString ".0"), PySem.NameKind.local), ((PySem.Str.ofString "part"), PySem.NameKind.local), ((PySem.Str.ofString "list"), PySem.NameKind.globalImplicit)], isGenerator := false, isCoroutine := false, more := [] : PySem.Scope } },
  { a := ⟨70, 4, 70, 58⟩ }]
def T_first_at_live : Tab := [{ a := ⟨78, 4, 78, 8⟩, x := "kept" },
  { a := ⟨78, 33, 78, 40⟩, x := "endless" },
  { a := ⟨78, 20, 78, 41⟩, b := ⟨78, 20, 78, 32⟩, x := "need_endless" },
  { a := ⟨78, 11, 78, 42⟩, b := ⟨78, 11, 78, 19⟩, x := "plain_of" },
  { a := ⟨78, 4, 78, 42⟩ },
  { a := ⟨79, 4, 79, 8⟩, x := "part" },
  { a := ⟨79, 21, 79, 25⟩, x := "word" },
  { a := ⟨79, 11, 79, 26⟩, b := ⟨79, 11, 79, 20⟩, x := "need_word" },
  { a := ⟨79, 4, 79, 26⟩ },
  { a := ⟨80, 27, 80, 31⟩, x := "kept" },
  { a := ⟨80, 32, 80, 33⟩ },
  { a := ⟨80, 27, 80, 34⟩ },
  { a := ⟨80, 23, 80, 35⟩, b := ⟨80, 23, 80, 26⟩ },
  { a := ⟨80, 42, 80, 46⟩, x := "kept" },
  { a := ⟨80, 47, 80, 48⟩ },
  { a := ⟨80, 42, 80, 49⟩ },
  { a := ⟨80, 38, 80, 50⟩, b := ⟨80, 38, 80, 41⟩ },
  { a := ⟨80, 23, 80, 50⟩ },
  { a := ⟨80, 17, 80, 51⟩, b := ⟨80, 17, 80, 22⟩ },
  { a := ⟨80, 8, 80, 13⟩, x := "begin" },
  { a := ⟨81, 83, 81, 87⟩, x := "part" },
  { a := ⟨81, 73, 81, 88⟩, b := ⟨81, 73, 81, 82⟩ },
  { a := ⟨81, 58, 81, 61⟩, x := "far" },
  { a := ⟨81, 63, 81, 69⟩, x := "letter" },
  { a := ⟨81, 58, 81, 69⟩ },
  { a := ⟨81, 25, 81, 29⟩, x := "kept" },
  { a := ⟨81, 31, 81, 36⟩, x := "begin" },
  { a := ⟨81, 39, 81, 42⟩, x := "far" },
  { a := ⟨81, 31, 81, 42⟩ },
  { a := ⟨81, 16, 81, 43⟩, b := ⟨81, 16, 81, 24⟩, x := "at_index" },
  { a := ⟨81, 47, 81, 53⟩, x := "letter" },
  { a := ⟨81, 16, 81, 53⟩ },
  { a := ⟨81, 15, 81, 89⟩, sc := { kind := PySem.ScopeKind.function, names := [((PySem.Str.ofString ".0"), PySem.NameKind.local), ((PySem.Str.ofString "far"), PySem.NameKind.local), ((PySem.Str.ofString "letter"), PySem.NameKind.local), ((PySem.Str.ofString "at_index"), PySem.NameKind.globalImplicit), ((PySem.Str.ofString "begin"), PySem.NameKind.free), ((PySem.Str.ofString "kept"), PySem.NameKind.free)], isGenerator := false, isCoroutine := false, more := [] : PySem.Scope } },
  { a := ⟨81, 11, 81, 90⟩, b := ⟨81, 11, 81, 14⟩ },
  { a := ⟨82, 20, 82, 25⟩, x := "begin" },
  { a := ⟨82, 19, 82, 26⟩ },
  { a := ⟨82, 12, 82, 26⟩ },
  { a := ⟨81, 8, 82, 26⟩ },
  { a := ⟨80, 4, 82, 26⟩ },
  { a := ⟨83, 11, 83, 13⟩ },
  { a := ⟨83, 4, 83, 13⟩ }]
def x_is_list : Txt nm f_is_list (top 1) ["thing"] := ⟨T_is_list, ["thing"], rfl, rfl, by decide, by kernel_rfl, by kernel_rfl, by decide +kernel, by decide +kernel⟩
def x_is_whole : Txt nm f_is_whole (top 2) ["thing"] := ⟨T_is_whole, ["thing"], rfl, rfl, by decide, by kernel_rfl, by kernel_rfl, by decide +kernel, by decide +kernel⟩
def x_is_number : Txt nm f_is_number (top 3) ["thing"] := ⟨T_is_number, ["thing"], rfl, rfl, by decide, by kernel_rfl, by kernel_rfl, by decide +kernel, by decide +kernel⟩
def x_is_row : Txt nm f_is_row (top 4) ["thing", "many"] := ⟨T_is_row, ["thing", "many"], rfl, rfl, by decide, by kernel_rfl, by kernel_rfl, by decide +kernel, by decide +kernel⟩
def x_kept_word : Txt nm f_kept_word (top 12) ["thing"] := ⟨T_kept_word, ["thing", "letter"], rfl, rfl, by decide, by kernel_rfl, by kernel_rfl, by decide +kernel, by decide +kernel⟩
def x_need_word : Txt nm f_need_word (top 13) ["word"] := ⟨T_need_word, ["word", "kept"], rfl, rfl, by decide, by kernel_rfl, by kernel_rfl, by decide +kernel, by decide +kernel⟩
def x_root_pair : Txt nm f_root_pair (top 14) ["word"] := ⟨T_root_pair, ["word", "size"], rfl, rfl, by decide, by kernel_rfl, by kernel_rfl, by decide +kernel, by decide +kernel⟩
def x_kept_endless : Txt nm f_kept_endless (top 16) ["thing"] := ⟨T_kept_endless, ["thing", "lead", "turn"], rfl, rfl, by decide, by kernel_rfl, by kernel_rfl, by decide +kernel, by decide +kernel⟩
def x_need_endless : Txt nm f_need_endless (top 17) ["endless"] := ⟨T_need_endless, ["endless", "kept"], rfl, rfl, by decide, by kernel_rfl, by kernel_rfl, by decide +kernel, by decide +kernel⟩
def x_check_length : Txt nm f_check_length (top 18) ["size"] := ⟨T_check_length, ["size"], rfl, rfl, by decide, by kernel_rfl, by kernel_rfl, by decide +kernel, by decide +kernel⟩
def x_at_index : Txt nm f_at_index (top 19) ["endless", "index"] := ⟨T_at_index, ["endless", "index", "lead", "turn"], rfl, rfl, by decide, by kernel_rfl, by kernel_rfl, by decide +kernel, by decide +kernel⟩
def x_plain_of : Txt nm f_plain_of (top 20) ["endless"] := ⟨T_plain_of, ["endless", "lead", "turn"], rfl, rfl, by decide, by kernel_rfl, by kernel_rfl, by decide +kernel, by decide +kernel⟩
def x_windows_of : Txt nm f_windows_of (top 22) ["endless", "size"] := ⟨T_windows_of, ["endless", "size", "many", "begin", "far"], rfl, rfl, by decide, by kernel_rfl, by kernel_rfl, by decide +kernel, by decide +kernel⟩
def x_endless_parts : Txt nm f_endless_parts (top 23) ["endless", "size"] := ⟨T_endless_parts, ["endless", "size", "kept", "part"], rfl, rfl, by decide, by kernel_rfl, by kernel_rfl, by decide +kernel, by decide +kernel⟩
def x_settled : Txt nm f_settled (top 24) ["endless"] := ⟨T_settled, ["endless", "kept", "many", "size"], rfl, rfl, by decide, by kernel_rfl, by kernel_rfl, by decide +kernel, by decide +kernel⟩
def x_first_at : Txt nm f_first_at (top 25) ["endless", "word"] := ⟨T_first_at, ["endless", "word", "kept", "part", "begin", "far", "letter"], rfl, rfl, by decide, by kernel_rfl, by kernel_rfl, by decide +kernel, by decide +kernel⟩
def x_law_stream : Txt nm ⟨1, 1, bStream⟩ (top 27) ["script"] := ⟨T_law_stream, ["script"], rfl, rfl, by decide, by kernel_rfl, by kernel_rfl, by decide +kernel, by decide +kernel⟩
def x_law_draw : Txt nm ⟨2, 5, bDraw⟩ (top 28) ["stream", "many"] := ⟨T_law_draw, ["stream", "many", "cell", "digit", "mixed"], rfl, rfl, by decide, by kernel_rfl, by kernel_rfl, by decide +kernel, by decide +kernel⟩
def x_law_same : Txt nm f_law_same (top 29) ["found", "due"] := ⟨T_law_same, ["found", "due", "mine", "theirs"], rfl, rfl, by decide, by kernel_rfl, by kernel_rfl, by decide +kernel, by decide +kernel⟩
def x_law_spoilt : Txt nm f_law_spoilt (top 30) ["thing"] := ⟨T_law_spoilt, ["thing", "part"], rfl, rfl, by decide, by kernel_rfl, by kernel_rfl, by decide +kernel, by decide +kernel⟩
def x_law_copied : Txt nm f_law_copied (top 31) ["thing"] := ⟨T_law_copied, ["thing", "some", "key", "one"], rfl, rfl, by decide, by kernel_rfl, by kernel_rfl, by decide +kernel, by decide +kernel⟩
def x_law_loose : Txt nm f_law_loose (top 32) ["stream", "thing"] := ⟨T_law_loose, ["stream", "thing", "some", "part"], rfl, rfl, by decide, by kernel_rfl, by kernel_rfl, by decide +kernel, by decide +kernel⟩
def x_law_word : Txt nm f_law_word (top 33) ["stream", "many", "most"] := ⟨T_law_word, ["stream", "many", "most", "k"], rfl, rfl, by decide, by kernel_rfl, by kernel_rfl, by decide +kernel, by decide +kernel⟩
def x_law_unlike : Txt nm f_law_unlike (top 34) ["things"] := ⟨T_law_unlike, ["things", "found", "one"], rfl, rfl, by decide, by kernel_rfl, by kernel_rfl, by decide +kernel, by decide +kernel⟩
def x_law_root : Txt nm f_law_root (top 35) ["word"] := ⟨T_law_root, ["word", "size"], rfl, rfl, by decide, by kernel_rfl, by kernel_rfl, by decide +kernel, by decide +kernel⟩
def x_law_rest : Txt nm f_law_rest (top 36) ["number", "by"] := ⟨T_law_rest, ["number", "by"], rfl, rfl, by decide, by kernel_rfl, by kernel_rfl, by decide +kernel, by decide +kernel⟩
def x_law_at : Txt nm f_law_at (top 37) ["endless", "index"] := ⟨T_law_at, ["endless", "index", "lead", "turn"], rfl, rfl, by decide, by kernel_rfl, by kernel_rfl, by decide +kernel, by decide +kernel⟩
def x_law_plain : Txt nm f_law_plain (top 38) ["endless"] := ⟨T_law_plain, ["endless", "lead", "turn"], rfl, rfl, by decide, by kernel_rfl, by kernel_rfl, by decide +kernel, by decide +kernel⟩
def x_law_endless : Txt nm f_law_endless (top 39) ["stream", "letters"] := ⟨T_law_endless, ["stream", "letters", "turn", "lead"], rfl, rfl, by decide, by kernel_rfl, by kernel_rfl, by decide +kernel, by decide +kernel⟩
def x_law_parts : Txt nm f_law_parts (top 40) ["endless", "size"] := ⟨T_law_parts, ["endless", "size", "many", "begin", "far"], rfl, rfl, by decide, by kernel_rfl, by kernel_rfl, by decide +kernel, by decide +kernel⟩
def x_law_37 : Txt nm f_law_37 (top 41) ["script"] := ⟨T_law_37, ["script", "stream", "turn", "endless", "handed", "plain", "was", "many", "size", "counts", "last", "due", "told", "begin", "word", "some", "found", "far", "place", "letter"], rfl, rfl, by decide, by kernel_rfl, by kernel_rfl, by decide +kernel, by decide +kernel⟩
def x_endless_parts_live : Txt nm f_endless_parts_live (top 23) ["endless", "size"] := ⟨T_endless_parts_live, ["endless", "size", "kept", "part"], rfl, rfl, by decide, by kernel_rfl, by kernel_rfl, by decide +kernel, by decide +kernel⟩
def x_first_at_live : Txt nm f_first_at_live (top 25) ["endless", "word"] := ⟨T_first_at_live, ["endless", "word", "kept", "part", "begin", "far", "letter"], rfl, rfl, by decide, by kernel_rfl, by kernel_rfl, by decide +kernel, by decide +kernel⟩
theorem bp_is_list : BindP "is_list" (top 1) ["thing"] := fun _ _ _ _ _ _ us hl => match us, hl with | [_], _ => rfl
theorem bks_is_list : ∀ is ∈ ([] : List (List Nat)), BindK "is_list" (top 1) ["thing"] is := fun is h => by cases h
theorem bp_is_whole : BindP "is_whole" (top 2) ["thing"] := fun _ _ _ _ _ _ us hl => match us, hl with | [_], _ => rfl
theorem bks_is_whole : ∀ is ∈ ([] : List (List Nat)), BindK "is_whole" (top 2) ["thing"] is := fun is h => by cases h
theorem bp_is_number : BindP "is_number" (top 3) ["thing"] := fun _ _ _ _ _ _ us hl => match us, hl with | [_], _ => rfl
theorem bks_is_number : ∀ is ∈ ([] : List (List Nat)), BindK "is_number" (top 3) ["thing"] is := fun is h => by cases h
theorem bp_is_row : BindP "is_row" (top 4) ["thing", "many"] := fun _ _ _ _ _ _ us hl => match us, hl with | [_, _], _ => rfl
theorem bks_is_row : ∀ is ∈ ([] : List (List Nat)), BindK "is_row" (top 4) ["thing", "many"] is := fun is h => by cases h
theorem bp_kept_word : BindP "kept_word" (top 12) ["thing"] := fun _ _ _ _ _ _ us hl => match us, hl with | [_], _ => rfl
theorem bks_kept_word : ∀ is ∈ ([] : List (List Nat)), BindK "kept_word" (top 12) ["thing"] is := fun is h => by cases h
theorem bp_need_word : BindP "need_word" (top 13) ["word"] := fun _ _ _ _ _ _ us hl => match us, hl with | [_], _ => rfl
theorem bks_need_word : ∀ is ∈ ([] : List (List Nat)), BindK "need_word" (top 13) ["word"] is := fun is h => by cases h
theorem bp_root_pair : BindP "root_pair" (top 14) ["word"] := fun _ _ _ _ _ _ us hl => match us, hl with | [_], _ => rfl
theorem bks_root_pair : ∀ is ∈ ([] : List (List Nat)), BindK "root_pair" (top 14) ["word"] is := fun is h => by cases h
theorem bp_kept_endless : BindP "kept_endless" (top 16) ["thing"] := fun _ _ _ _ _ _ us hl => match us, hl with | [_], _ => rfl
theorem bks_kept_endless : ∀ is ∈ ([] : List (List Nat)), BindK "kept_endless" (top 16) ["thing"] is := fun is h => by cases h
theorem bp_need_endless : BindP "need_endless" (top 17) ["endless"] := fun _ _ _ _ _ _ us hl => match us, hl with | [_], _ => rfl
theorem bks_need_endless : ∀ is ∈ ([] : List (List Nat)), BindK "need_endless" (top 17) ["endless"] is := fun is h => by cases h
theorem bp_check_length : BindP "check_length" (top 18) ["size"] := fun _ _ _ _ _ _ us hl => match us, hl with | [_], _ => rfl
theorem bks_check_length : ∀ is ∈ ([] : List (List Nat)), BindK "check_length" (top 18) ["size"] is := fun is h => by cases h
theorem bp_at_index : BindP "at_index" (top 19) ["endless", "index"] := fun _ _ _ _ _ _ us hl => match us, hl with | [_, _], _ => rfl
theorem bks_at_index : ∀ is ∈ ([] : List (List Nat)), BindK "at_index" (top 19) ["endless", "index"] is := fun is h => by cases h
theorem bp_plain_of : BindP "plain_of" (top 20) ["endless"] := fun _ _ _ _ _ _ us hl => match us, hl with | [_], _ => rfl
theorem bks_plain_of : ∀ is ∈ ([] : List (List Nat)), BindK "plain_of" (top 20) ["endless"] is := fun is h => by cases h
theorem bp_windows_of : BindP "windows_of" (top 22) ["endless", "size"] := fun _ _ _ _ _ _ us hl => match us, hl with | [_, _], _ => rfl
theorem bks_windows_of : ∀ is ∈ ([] : List (List Nat)), BindK "windows_of" (top 22) ["endless", "size"] is := fun is h => by cases h
theorem bp_endless_parts : BindP "endless_parts" (top 23) ["endless", "size"] := fun _ _ _ _ _ _ us hl => match us, hl with | [_, _], _ => rfl
theorem bk_endless_parts_0 : BindK "endless_parts" (top 23) ["endless", "size"] [1, 0] := fun _ _ _ _ _ _ us ws h1 h2 => match us, ws, h1, h2 with | [], [_, _], _, _ => rfl
theorem bks_endless_parts : ∀ is ∈ ([[1, 0]] : List (List Nat)), BindK "endless_parts" (top 23) ["endless", "size"] is := List.forall_mem_cons.2 ⟨bk_endless_parts_0, fun is h => by cases h⟩
theorem bp_settled : BindP "settled" (top 24) ["endless"] := fun _ _ _ _ _ _ us hl => match us, hl with | [_], _ => rfl
theorem bk_settled_0 : BindK "settled" (top 24) ["endless"] [0] := fun _ _ _ _ _ _ us ws h1 h2 => match us, ws, h1, h2 with | [], [_], _, _ => rfl
theorem bks_settled : ∀ is ∈ ([[0]] : List (List Nat)), BindK "settled" (top 24) ["endless"] is := List.forall_mem_cons.2 ⟨bk_settled_0, fun is h => by cases h⟩
theorem bp_first_at : BindP "first_at" (top 25) ["endless", "word"] := fun _ _ _ _ _ _ us hl => match us, hl with | [_, _], _ => rfl
theorem bk_first_at_0 : BindK "first_at" (top 25) ["endless", "word"] [1, 0] := fun _ _ _ _ _ _ us ws h1 h2 => match us, ws, h1, h2 with | [], [_, _], _, _ => rfl
theorem bks_first_at : ∀ is ∈ ([[1, 0]] : List (List Nat)), BindK "first_at" (top 25) ["endless", "word"] is := List.forall_mem_cons.2 ⟨bk_first_at_0, fun is h => by cases h⟩
theorem bp_law_stream : BindP "_law_stream" (top 27) ["script"] := fun _ _ _ _ _ _ us hl => match us, hl with | [_], _ => rfl
theorem bks_law_stream : ∀ is ∈ ([] : List (List Nat)), BindK "_law_stream" (top 27) ["script"] is := fun is h => by cases h
theorem bp_law_draw : BindP "_law_draw" (top 28) ["stream", "many"] := fun _ _ _ _ _ _ us hl => match us, hl with | [_, _], _ => rfl
theorem bks_law_draw : ∀ is ∈ ([] : List (List Nat)), BindK "_law_draw" (top 28) ["stream", "many"] is := fun is h => by cases h
theorem bp_law_same : BindP "_law_same" (top 29) ["found", "due"] := fun _ _ _ _ _ _ us hl => match us, hl with | [_, _], _ => rfl
theorem bks_law_same : ∀ is ∈ ([] : List (List Nat)), BindK "_law_same" (top 29) ["found", "due"] is := fun is h => by cases h
theorem bp_law_spoilt : BindP "_law_spoilt" (top 30) ["thing"] := fun _ _ _ _ _ _ us hl => match us, hl with | [_], _ => rfl
theorem bks_law_spoilt : ∀ is ∈ ([] : List (List Nat)), BindK "_law_spoilt" (top 30) ["thing"] is := fun is h => by cases h
theorem bp_law_copied : BindP "_law_copied" (top 31) ["thing"] := fun _ _ _ _ _ _ us hl => match us, hl with | [_], _ => rfl
theorem bks_law_copied : ∀ is ∈ ([] : List (List Nat)), BindK "_law_copied" (top 31) ["thing"] is := fun is h => by cases h
theorem bp_law_loose : BindP "_law_loose" (top 32) ["stream", "thing"] := fun _ _ _ _ _ _ us hl => match us, hl with | [_, _], _ => rfl
theorem bks_law_loose : ∀ is ∈ ([] : List (List Nat)), BindK "_law_loose" (top 32) ["stream", "thing"] is := fun is h => by cases h
theorem bp_law_word : BindP "_law_word" (top 33) ["stream", "many", "most"] := fun _ _ _ _ _ _ us hl => match us, hl with | [_, _, _], _ => rfl
theorem bks_law_word : ∀ is ∈ ([] : List (List Nat)), BindK "_law_word" (top 33) ["stream", "many", "most"] is := fun is h => by cases h
theorem bp_law_unlike : BindP "_law_unlike" (top 34) ["things"] := fun _ _ _ _ _ _ us hl => match us, hl with | [_], _ => rfl
theorem bks_law_unlike : ∀ is ∈ ([] : List (List Nat)), BindK "_law_unlike" (top 34) ["things"] is := fun is h => by cases h
theorem bp_law_root : BindP "_law_root" (top 35) ["word"] := fun _ _ _ _ _ _ us hl => match us, hl with | [_], _ => rfl
theorem bks_law_root : ∀ is ∈ ([] : List (List Nat)), BindK "_law_root" (top 35) ["word"] is := fun is h => by cases h
theorem bp_law_rest : BindP "_law_rest" (top 36) ["number", "by"] := fun _ _ _ _ _ _ us hl => match us, hl with | [_, _], _ => rfl
theorem bks_law_rest : ∀ is ∈ ([] : List (List Nat)), BindK "_law_rest" (top 36) ["number", "by"] is := fun is h => by cases h
theorem bp_law_at : BindP "_law_at" (top 37) ["endless", "index"] := fun _ _ _ _ _ _ us hl => match us, hl with | [_, _], _ => rfl
theorem bks_law_at : ∀ is ∈ ([] : List (List Nat)), BindK "_law_at" (top 37) ["endless", "index"] is := fun is h => by cases h
theorem bp_law_plain : BindP "_law_plain" (top 38) ["endless"] := fun _ _ _ _ _ _ us hl => match us, hl with | [_], _ => rfl
theorem bks_law_plain : ∀ is ∈ ([] : List (List Nat)), BindK "_law_plain" (top 38) ["endless"] is := fun is h => by cases h
theorem bp_law_endless : BindP "_law_endless" (top 39) ["stream", "letters"] := fun _ _ _ _ _ _ us hl => match us, hl with | [_, _], _ => rfl
theorem bks_law_endless : ∀ is ∈ ([] : List (List Nat)), BindK "_law_endless" (top 39) ["stream", "letters"] is := fun is h => by cases h
theorem bp_law_parts : BindP "_law_parts" (top 40) ["endless", "size"] := fun _ _ _ _ _ _ us hl => match us, hl with | [_, _], _ => rfl
theorem bks_law_parts : ∀ is ∈ ([] : List (List Nat)), BindK "_law_parts" (top 40) ["endless", "size"] is := fun is h => by cases h
theorem bp_law_37 : BindP "law" (top 41) ["script"] := fun _ _ _ _ _ _ us hl => match us, hl with | [_], _ => rfl
theorem bks_law_37 : ∀ is ∈ ([] : List (List Nat)), BindK "law" (top 41) ["script"] is := fun is h => by cases h
def dOf (x : Str) (i : Nat) : He.DefD := ⟨(x, none), x, x, C8.fnArgs (top i), C8.fnBody (top i), C8.fnScope (top i), [], []⟩
def hfn : List He.DefD := (dOf "is_list" 1 :: dOf "is_whole" 2 :: dOf "is_number" 3 :: dOf "is_row" 4 :: dOf "kept_word" 12 :: dOf "need_word" 13 :: dOf "root_pair" 14 :: dOf "kept_endless" 16 :: dOf "need_endless" 17 :: dOf "check_length" 18 :: dOf "at_index" 19 :: dOf "plain_of" 20 :: dOf "windows_of" 22 :: dOf "endless_parts" 23 :: dOf "settled" 24 :: dOf "first_at" 25 :: dOf "_law_stream" 27 :: dOf "_law_draw" 28 :: dOf "_law_same" 29 :: dOf "_law_spoilt" 30 :: dOf "_law_copied" 31 :: dOf "_law_loose" 32 :: dOf "_law_word" 33 :: dOf "_law_unlike" 34 :: dOf "_law_root" 35 :: dOf "_law_rest" 36 :: dOf "_law_at" 37 :: dOf "_law_plain" 38 :: dOf "_law_endless" 39 :: dOf "_law_parts" 40 :: dOf "law" 41 :: [])
def hfa : List He.Fa := (.glo "is_list" :: .glo "is_whole" :: .glo "is_number" :: .glo "is_row" :: .glo "kept_word" :: .glo "need_word" :: .glo "root_pair" :: .glo "kept_endless" :: .glo "need_endless" :: .glo "check_length" :: .glo "at_index" :: .glo "plain_of" :: .glo "windows_of" :: .glo "endless_parts" :: .glo "settled" :: .glo "first_at" :: .glo "_law_stream" :: .glo "_law_draw" :: .glo "_law_same" :: .glo "_law_spoilt" :: .glo "_law_copied" :: .glo "_law_loose" :: .glo "_law_word" :: .glo "_law_unlike" :: .glo "_law_root" :: .glo "_law_rest" :: .glo "_law_at" :: .glo "_law_plain" :: .glo "_law_endless" :: .glo "_law_parts" :: .glo "law" :: .free "len" :: .free "isinstance" :: .free "tuple" :: .free "list" :: .free "int" :: .free "abs" :: .free "all" :: .free "any" :: .free "sum" :: .free "max" :: .free "min" :: .free "range" :: .free "enumerate" :: .free "zip" :: .free "str" :: .free "bool" :: .free "dict" :: .free "sorted" :: [])
abbrev R : PySem.W.OpenRow := PySem.W.OpenLaw.row PySem.Challenge.rw_unknownwords_k99_whole_parts_of_endless
abbrev hk : PySem.W.Hook := He.hookD 4 hfa hfn
def ob (s : PySem.W.SharedT) : He.AlD := He.obsDG 4 hfa hfn (HandSHeadRun.getT s)
theorem ob_eq (s : PySem.W.SharedT) : ob s = hk.obs s.abs := He.obsDG_eq (HandSHeadRun.getT_eq s)
def loose : List PySem.Str := ("is_list" :: "is_whole" :: "is_number" :: "is_row" :: "WordError" :: "BadWord" :: "BadSize" :: "BadEndless" :: "kept_word" :: "need_word" :: "root_pair" :: "kept_endless" :: "need_endless" :: "check_length" :: "at_index" :: "plain_of" :: "windows_of" :: "endless_parts" :: "settled" :: "first_at" :: "_law_stream" :: "_law_draw" :: "_law_same" :: "_law_spoilt" :: "_law_copied" :: "_law_loose" :: "_law_word" :: "_law_unlike" :: "_law_root" :: "_law_rest" :: "_law_at" :: "_law_plain" :: "_law_endless" :: "_law_parts" :: [])
theorem run (w : World) : HandSHeadRun.RunEq R (PySem.W.view R.prog [41]) hk ob 4000 loose w := by
  intro os
  kernel_rfl
section
variable {K : PySem.W.Frag} {h : Heap} {mg : Str → Option Value}
theorem free_ok (X : K.In h) (G : h.Ns mainGlobals mg) (c : He.SaysD hfa hfn K) : ∀ x ∈ blts, mg x = none := List.forall_mem_cons.2 ⟨He.free_ok X G (c.fact 31 (f := .free "len") rfl), List.forall_mem_cons.2 ⟨He.free_ok X G (c.fact 32 (f := .free "isinstance") rfl), List.forall_mem_cons.2 ⟨He.free_ok X G (c.fact 33 (f := .free "tuple") rfl), List.forall_mem_cons.2 ⟨He.free_ok X G (c.fact 34 (f := .free "list") rfl), List.forall_mem_cons.2 ⟨He.free_ok X G (c.fact 35 (f := .free "int") rfl), List.forall_mem_cons.2 ⟨He.free_ok X G (c.fact 36 (f := .free "abs") rfl), List.forall_mem_cons.2 ⟨He.free_ok X G (c.fact 37 (f := .free "all") rfl), List.forall_mem_cons.2 ⟨He.free_ok X G (c.fact 38 (f := .free "any") rfl), List.forall_mem_cons.2 ⟨He.free_ok X G (c.fact 39 (f := .free "sum") rfl), List.forall_mem_cons.2 ⟨He.free_ok X G (c.fact 40 (f := .free "max") rfl), List.forall_mem_cons.2 ⟨He.free_ok X G (c.fact 41 (f := .free "min") rfl), List.forall_mem_cons.2 ⟨He.free_ok X G (c.fact 42 (f := .free "range") rfl), List.forall_mem_cons.2 ⟨He.free_ok X G (c.fact 43 (f := .free "enumerate") rfl), List.forall_mem_cons.2 ⟨He.free_ok X G (c.fact 44 (f := .free "zip") rfl), List.forall_mem_cons.2 ⟨He.free_ok X G (c.fact 45 (f := .free "str") rfl), List.forall_mem_cons.2 ⟨He.free_ok X G (c.fact 46 (f := .free "bool") rfl), List.forall_mem_cons.2 ⟨He.free_ok X G (c.fact 47 (f := .free "dict") rfl), List.forall_mem_cons.2 ⟨He.free_ok X G (c.fact 48 (f := .free "sorted") rfl), fun x h => by cases h⟩⟩⟩⟩⟩⟩⟩⟩⟩⟩⟩⟩⟩⟩⟩⟩⟩⟩
theorem fc_is_list (X : K.In h) (G : h.Ns mainGlobals mg) (c : He.SaysD hfa hfn K) : FnC K mg "is_list" (top 1) ["thing"] [] := let ⟨_, F⟩ := c.def_ 0 (d := dOf "is_list" 1) rfl; fnC_of F (He.glo_ok X G (c.fact 0 (f := .glo "is_list") rfl)) bp_is_list bks_is_list
theorem fc_is_whole (X : K.In h) (G : h.Ns mainGlobals mg) (c : He.SaysD hfa hfn K) : FnC K mg "is_whole" (top 2) ["thing"] [] := let ⟨_, F⟩ := c.def_ 1 (d := dOf "is_whole" 2) rfl; fnC_of F (He.glo_ok X G (c.fact 1 (f := .glo "is_whole") rfl)) bp_is_whole bks_is_whole
theorem fc_is_number (X : K.In h) (G : h.Ns mainGlobals mg) (c : He.SaysD hfa hfn K) : FnC K mg "is_number" (top 3) ["thing"] [] := let ⟨_, F⟩ := c.def_ 2 (d := dOf "is_number" 3) rfl; fnC_of F (He.glo_ok X G (c.fact 2 (f := .glo "is_number") rfl)) bp_is_number bks_is_number
theorem fc_is_row (X : K.In h) (G : h.Ns mainGlobals mg) (c : He.SaysD hfa hfn K) : FnC K mg "is_row" (top 4) ["thing", "many"] [] := let ⟨_, F⟩ := c.def_ 3 (d := dOf "is_row" 4) rfl; fnC_of F (He.glo_ok X G (c.fact 3 (f := .glo "is_row") rfl)) bp_is_row bks_is_row
theorem fc_kept_word (X : K.In h) (G : h.Ns mainGlobals mg) (c : He.SaysD hfa hfn K) : FnC K mg "kept_word" (top 12) ["thing"] [] := let ⟨_, F⟩ := c.def_ 4 (d := dOf "kept_word" 12) rfl; fnC_of F (He.glo_ok X G (c.fact 4 (f := .glo "kept_word") rfl)) bp_kept_word bks_kept_word
theorem fc_need_word (X : K.In h) (G : h.Ns mainGlobals mg) (c : He.SaysD hfa hfn K) : FnC K mg "need_word" (top 13) ["word"] [] := let ⟨_, F⟩ := c.def_ 5 (d := dOf "need_word" 13) rfl; fnC_of F (He.glo_ok X G (c.fact 5 (f := .glo "need_word") rfl)) bp_need_word bks_need_word
theorem fc_root_pair (X : K.In h) (G : h.Ns mainGlobals mg) (c : He.SaysD hfa hfn K) : FnC K mg "root_pair" (top 14) ["word"] [] := let ⟨_, F⟩ := c.def_ 6 (d := dOf "root_pair" 14) rfl; fnC_of F (He.glo_ok X G (c.fact 6 (f := .glo "root_pair") rfl)) bp_root_pair bks_root_pair
theorem fc_kept_endless (X : K.In h) (G : h.Ns mainGlobals mg) (c : He.SaysD hfa hfn K) : FnC K mg "kept_endless" (top 16) ["thing"] [] := let ⟨_, F⟩ := c.def_ 7 (d := dOf "kept_endless" 16) rfl; fnC_of F (He.glo_ok X G (c.fact 7 (f := .glo "kept_endless") rfl)) bp_kept_endless bks_kept_endless
theorem fc_need_endless (X : K.In h) (G : h.Ns mainGlobals mg) (c : He.SaysD hfa hfn K) : FnC K mg "need_endless" (top 17) ["endless"] [] := let ⟨_, F⟩ := c.def_ 8 (d := dOf "need_endless" 17) rfl; fnC_of F (He.glo_ok X G (c.fact 8 (f := .glo "need_endless") rfl)) bp_need_endless bks_need_endless
theorem fc_check_length (X : K.In h) (G : h.Ns mainGlobals mg) (c : He.SaysD hfa hfn K) : FnC K mg "check_length" (top 18) ["size"] [] := let ⟨_, F⟩ := c.def_ 9 (d := dOf "check_length" 18) rfl; fnC_of F (He.glo_ok X G (c.fact 9 (f := .glo "check_length") rfl)) bp_check_length bks_check_length
theorem fc_at_index (X : K.In h) (G : h.Ns mainGlobals mg) (c : He.SaysD hfa hfn K) : FnC K mg "at_index" (top 19) ["endless", "index"] [] := let ⟨_, F⟩ := c.def_ 10 (d := dOf "at_index" 19) rfl; fnC_of F (He.glo_ok X G (c.fact 10 (f := .glo "at_index") rfl)) bp_at_index bks_at_index
theorem fc_plain_of (X : K.In h) (G : h.Ns mainGlobals mg) (c : He.SaysD hfa hfn K) : FnC K mg "plain_of" (top 20) ["endless"] [] := let ⟨_, F⟩ := c.def_ 11 (d := dOf "plain_of" 20) rfl; fnC_of F (He.glo_ok X G (c.fact 11 (f := .glo "plain_of") rfl)) bp_plain_of bks_plain_of
theorem fc_windows_of (X : K.In h) (G : h.Ns mainGlobals mg) (c : He.SaysD hfa hfn K) : FnC K mg "windows_of" (top 22) ["endless", "size"] [] := let ⟨_, F⟩ := c.def_ 12 (d := dOf "windows_of" 22) rfl; fnC_of F (He.glo_ok X G (c.fact 12 (f := .glo "windows_of") rfl)) bp_windows_of bks_windows_of
theorem fc_endless_parts (X : K.In h) (G : h.Ns mainGlobals mg) (c : He.SaysD hfa hfn K) : FnC K mg "endless_parts" (top 23) ["endless", "size"] [[1, 0]] := let ⟨_, F⟩ := c.def_ 13 (d := dOf "endless_parts" 23) rfl; fnC_of F (He.glo_ok X G (c.fact 13 (f := .glo "endless_parts") rfl)) bp_endless_parts bks_endless_parts
theorem fc_settled (X : K.In h) (G : h.Ns mainGlobals mg) (c : He.SaysD hfa hfn K) : FnC K mg "settled" (top 24) ["endless"] [[0]] := let ⟨_, F⟩ := c.def_ 14 (d := dOf "settled" 24) rfl; fnC_of F (He.glo_ok X G (c.fact 14 (f := .glo "settled") rfl)) bp_settled bks_settled
theorem fc_first_at (X : K.In h) (G : h.Ns mainGlobals mg) (c : He.SaysD hfa hfn K) : FnC K mg "first_at" (top 25) ["endless", "word"] [[1, 0]] := let ⟨_, F⟩ := c.def_ 15 (d := dOf "first_at" 25) rfl; fnC_of F (He.glo_ok X G (c.fact 15 (f := .glo "first_at") rfl)) bp_first_at bks_first_at
theorem fc_law_stream (X : K.In h) (G : h.Ns mainGlobals mg) (c : He.SaysD hfa hfn K) : FnC K mg "_law_stream" (top 27) ["script"] [] := let ⟨_, F⟩ := c.def_ 16 (d := dOf "_law_stream" 27) rfl; fnC_of F (He.glo_ok X G (c.fact 16 (f := .glo "_law_stream") rfl)) bp_law_stream bks_law_stream
theorem fc_law_draw (X : K.In h) (G : h.Ns mainGlobals mg) (c : He.SaysD hfa hfn K) : FnC K mg "_law_draw" (top 28) ["stream", "many"] [] := let ⟨_, F⟩ := c.def_ 17 (d := dOf "_law_draw" 28) rfl; fnC_of F (He.glo_ok X G (c.fact 17 (f := .glo "_law_draw") rfl)) bp_law_draw bks_law_draw
theorem fc_law_same (X : K.In h) (G : h.Ns mainGlobals mg) (c : He.SaysD hfa hfn K) : FnC K mg "_law_same" (top 29) ["found", "due"] [] := let ⟨_, F⟩ := c.def_ 18 (d := dOf "_law_same" 29) rfl; fnC_of F (He.glo_ok X G (c.fact 18 (f := .glo "_law_same") rfl)) bp_law_same bks_law_same
theorem fc_law_spoilt (X : K.In h) (G : h.Ns mainGlobals mg) (c : He.SaysD hfa hfn K) : FnC K mg "_law_spoilt" (top 30) ["thing"] [] := let ⟨_, F⟩ := c.def_ 19 (d := dOf "_law_spoilt" 30) rfl; fnC_of F (He.glo_ok X G (c.fact 19 (f := .glo "_law_spoilt") rfl)) bp_law_spoilt bks_law_spoilt
theorem fc_law_copied (X : K.In h) (G : h.Ns mainGlobals mg) (c : He.SaysD hfa hfn K) : FnC K mg "_law_copied" (top 31) ["thing"] [] := let ⟨_, F⟩ := c.def_ 20 (d := dOf "_law_copied" 31) rfl; fnC_of F (He.glo_ok X G (c.fact 20 (f := .glo "_law_copied") rfl)) bp_law_copied bks_law_copied
theorem fc_law_loose (X : K.In h) (G : h.Ns mainGlobals mg) (c : He.SaysD hfa hfn K) : FnC K mg "_law_loose" (top 32) ["stream", "thing"] [] := let ⟨_, F⟩ := c.def_ 21 (d := dOf "_law_loose" 32) rfl; fnC_of F (He.glo_ok X G (c.fact 21 (f := .glo "_law_loose") rfl)) bp_law_loose bks_law_loose
theorem fc_law_word (X : K.In h) (G : h.Ns mainGlobals mg) (c : He.SaysD hfa hfn K) : FnC K mg "_law_word" (top 33) ["stream", "many", "most"] [] := let ⟨_, F⟩ := c.def_ 22 (d := dOf "_law_word" 33) rfl; fnC_of F (He.glo_ok X G (c.fact 22 (f := .glo "_law_word") rfl)) bp_law_word bks_law_word
theorem fc_law_unlike (X : K.In h) (G : h.Ns mainGlobals mg) (c : He.SaysD hfa hfn K) : FnC K mg "_law_unlike" (top 34) ["things"] [] := let ⟨_, F⟩ := c.def_ 23 (d := dOf "_law_unlike" 34) rfl; fnC_of F (He.glo_ok X G (c.fact 23 (f := .glo "_law_unlike") rfl)) bp_law_unlike bks_law_unlike
theorem fc_law_root (X : K.In h) (G : h.Ns mainGlobals mg) (c : He.SaysD hfa hfn K) : FnC K mg "_law_root" (top 35) ["word"] [] := let ⟨_, F⟩ := c.def_ 24 (d := dOf "_law_root" 35) rfl; fnC_of F (He.glo_ok X G (c.fact 24 (f := .glo "_law_root") rfl)) bp_law_root bks_law_root
theorem fc_law_rest (X : K.In h) (G : h.Ns mainGlobals mg) (c : He.SaysD hfa hfn K) : FnC K mg "_law_rest" (top 36) ["number", "by"] [] := let ⟨_, F⟩ := c.def_ 25 (d := dOf "_law_rest" 36) rfl; fnC_of F (He.glo_ok X G (c.fact 25 (f := .glo "_law_rest") rfl)) bp_law_rest bks_law_rest
theorem fc_law_at (X : K.In h) (G : h.Ns mainGlobals mg) (c : He.SaysD hfa hfn K) : FnC K mg "_law_at" (top 37) ["endless", "index"] [] := let ⟨_, F⟩ := c.def_ 26 (d := dOf "_law_at" 37) rfl; fnC_of F (He.glo_ok X G (c.fact 26 (f := .glo "_law_at") rfl)) bp_law_at bks_law_at
theorem fc_law_plain (X : K.In h) (G : h.Ns mainGlobals mg) (c : He.SaysD hfa hfn K) : FnC K mg "_law_plain" (top 38) ["endless"] [] := let ⟨_, F⟩ := c.def_ 27 (d := dOf "_law_plain" 38) rfl; fnC_of F (He.glo_ok X G (c.fact 27 (f := .glo "_law_plain") rfl)) bp_law_plain bks_law_plain
theorem fc_law_endless (X : K.In h) (G : h.Ns mainGlobals mg) (c : He.SaysD hfa hfn K) : FnC K mg "_law_endless" (top 39) ["stream", "letters"] [] := let ⟨_, F⟩ := c.def_ 28 (d := dOf "_law_endless" 39) rfl; fnC_of F (He.glo_ok X G (c.fact 28 (f := .glo "_law_endless") rfl)) bp_law_endless bks_law_endless
theorem fc_law_parts (X : K.In h) (G : h.Ns mainGlobals mg) (c : He.SaysD hfa hfn K) : FnC K mg "_law_parts" (top 40) ["endless", "size"] [] := let ⟨_, F⟩ := c.def_ 29 (d := dOf "_law_parts" 40) rfl; fnC_of F (He.glo_ok X G (c.fact 29 (f := .glo "_law_parts") rfl)) bp_law_parts bks_law_parts
theorem fc_law_37 (X : K.In h) (G : h.Ns mainGlobals mg) (c : He.SaysD hfa hfn K) : FnC K mg "law" (top 41) ["script"] [] := let ⟨_, F⟩ := c.def_ 30 (d := dOf "law" 41) rfl; fnC_of F (He.glo_ok X G (c.fact 30 (f := .glo "law") rfl)) bp_law_37 bks_law_37
theorem look_all {α : Type} {Q : Nat → α → Prop} : ∀ {l : List (Nat × α)}, (∀ p ∈ l, Q p.1 p.2) → ∀ f b, l.lookup f = some b → Q f b
  | [], _, f, b, h => by simp at h
  | (i, a) :: l, hq, f, b, h => by
    rw [List.lookup_cons] at h
    cases hx : f == i with
    | true =>
      rw [hx] at h
      cases h
      rw [beq_iff_eq.mp hx]
      exact hq (i, a) List.mem_cons_self
    | false =>
      rw [hx] at h
      exact look_all (fun p hp => hq p (List.mem_cons_of_mem _ hp)) f b h
theorem tbl_ok (X : K.In h) (G : h.Ns mainGlobals mg) (c : He.SaysD hfa hfn K) : TblOk K mg nm tbl :=
  ⟨free_ok X G c, fun f x ps shs e => look_all (l := nmL) (Q := fun f (b : Str × List Str × List (List Nat)) => ∃ st, FnC K mg b.1 st b.2.1 b.2.2 ∧ EntOk nm tbl f st b.2.1) (List.forall_mem_cons.2 ⟨⟨top 1, fc_is_list X G c, .code f_is_list t_is_list x_is_list⟩, 
    List.forall_mem_cons.2 ⟨⟨top 2, fc_is_whole X G c, .code f_is_whole t_is_whole x_is_whole⟩, 
    List.forall_mem_cons.2 ⟨⟨top 3, fc_is_number X G c, .code f_is_number t_is_number x_is_number⟩, 
    List.forall_mem_cons.2 ⟨⟨top 4, fc_is_row X G c, .code f_is_row t_is_row x_is_row⟩, 
    List.forall_mem_cons.2 ⟨⟨top 12, fc_kept_word X G c, .code f_kept_word t_kept_word x_kept_word⟩, 
    List.forall_mem_cons.2 ⟨⟨top 13, fc_need_word X G c, .code f_need_word t_need_word x_need_word⟩, 
    List.forall_mem_cons.2 ⟨⟨top 14, fc_root_pair X G c, .code f_root_pair t_root_pair x_root_pair⟩, 
    List.forall_mem_cons.2 ⟨⟨top 16, fc_kept_endless X G c, .code f_kept_endless t_kept_endless x_kept_endless⟩, 
    List.forall_mem_cons.2 ⟨⟨top 17, fc_need_endless X G c, .code f_need_endless t_need_endless x_need_endless⟩, 
    List.forall_mem_cons.2 ⟨⟨top 18, fc_check_length X G c, .code f_check_length t_check_length x_check_length⟩, 
    List.forall_mem_cons.2 ⟨⟨top 19, fc_at_index X G c, .code f_at_index t_at_index x_at_index⟩, 
    List.forall_mem_cons.2 ⟨⟨top 20, fc_plain_of X G c, .code f_plain_of t_plain_of x_plain_of⟩, 
    List.forall_mem_cons.2 ⟨⟨top 22, fc_windows_of X G c, .code f_windows_of t_windows_of x_windows_of⟩, 
    List.forall_mem_cons.2 ⟨⟨top 23, fc_endless_parts X G c, .code f_endless_parts t_endless_parts x_endless_parts⟩, 
    List.forall_mem_cons.2 ⟨⟨top 24, fc_settled X G c, .code f_settled t_settled x_settled⟩, 
    List.forall_mem_cons.2 ⟨⟨top 25, fc_first_at X G c, .code f_first_at t_first_at x_first_at⟩, 
    List.forall_mem_cons.2 ⟨⟨top 27, fc_law_stream X G c, .stream t_law_stream x_law_stream⟩, 
    List.forall_mem_cons.2 ⟨⟨top 28, fc_law_draw X G c, .draw t_law_draw x_law_draw⟩, 
    List.forall_mem_cons.2 ⟨⟨top 29, fc_law_same X G c, .code f_law_same t_law_same x_law_same⟩, 
    List.forall_mem_cons.2 ⟨⟨top 30, fc_law_spoilt X G c, .code f_law_spoilt t_law_spoilt x_law_spoilt⟩, 
    List.forall_mem_cons.2 ⟨⟨top 31, fc_law_copied X G c, .code f_law_copied t_law_copied x_law_copied⟩, 
    List.forall_mem_cons.2 ⟨⟨top 32, fc_law_loose X G c, .code f_law_loose t_law_loose x_law_loose⟩, 
    List.forall_mem_cons.2 ⟨⟨top 33, fc_law_word X G c, .code f_law_word t_law_word x_law_word⟩, 
    List.forall_mem_cons.2 ⟨⟨top 34, fc_law_unlike X G c, .code f_law_unlike t_law_unlike x_law_unlike⟩, 
    List.forall_mem_cons.2 ⟨⟨top 35, fc_law_root X G c, .code f_law_root t_law_root x_law_root⟩, 
    List.forall_mem_cons.2 ⟨⟨top 36, fc_law_rest X G c, .code f_law_rest t_law_rest x_law_rest⟩, 
    List.forall_mem_cons.2 ⟨⟨top 37, fc_law_at X G c, .code f_law_at t_law_at x_law_at⟩, 
    List.forall_mem_cons.2 ⟨⟨top 38, fc_law_plain X G c, .code f_law_plain t_law_plain x_law_plain⟩, 
    List.forall_mem_cons.2 ⟨⟨top 39, fc_law_endless X G c, .code f_law_endless t_law_endless x_law_endless⟩, 
    List.forall_mem_cons.2 ⟨⟨top 40, fc_law_parts X G c, .code f_law_parts t_law_parts x_law_parts⟩, 
    List.forall_mem_cons.2 ⟨⟨top 41, fc_law_37 X G c, .code f_law_37 t_law_37 x_law_37⟩, 
    List.forall_mem_cons.2 ⟨⟨top 23, fc_endless_parts X G c, .code f_endless_parts_live t_endless_parts_live x_endless_parts_live⟩, 
    List.forall_mem_cons.2 ⟨⟨top 25, fc_first_at X G c, .code f_first_at_live t_first_at_live x_first_at_live⟩, fun p h => by cases h⟩⟩⟩⟩⟩⟩⟩⟩⟩⟩⟩⟩⟩⟩⟩⟩⟩⟩⟩⟩⟩⟩⟩⟩⟩⟩⟩⟩⟩⟩⟩⟩⟩) f (x, ps, shs) e⟩
end
end Ev.k99
open PySem PySem.W PySem.Calls PyProof.Rows
theorem PySem.Challenge.cw_unknownwords_k99_whole_parts_of_endless_holds : PySem.Challenge.rw_unknownwords_k99_whole_parts_of_endless.Holds := by
  w_on; o_law
  refine HandSHeadRun.head_any (r := OpenLaw.row PySem.Challenge.rw_unknownwords_k99_whole_parts_of_endless) (q := view (OpenLaw.row PySem.Challenge.rw_unknownwords_k99_whole_parts_of_endless).prog [41]) (H := Ev.k99.hk) (ob := Ev.k99.ob) (M := 4000) (loose := Ev.k99.loose) (d := HandSHeadRun.topDef (OpenLaw.row PySem.Challenge.rw_unknownwords_k99_whole_parts_of_endless).prog 41) (kwd := []) Ev.k99.ob_eq
    (by kernel_rfl) (fun s => by kernel_rfl) Ev.k99.run (by kernel_rfl) (by kernel_rfl) (by kernel_rfl) (by rfl) (by first | assumption | decide +kernel) (by decide +kernel) ⟨rfl, rfl, rfl, rfl, rfl, by decide +kernel⟩ ?hw ?hc
  case hw => w_witness2
  case hc =>
    refine L2.walk_ofE (l := PySem.Challenge.rw_unknownwords_k99_whole_parts_of_endless) (n := 63) (k := 41) (x := "script") (CX := C8.CX0) rfl (by decide) (by kernel_rfl) ⟨rfl, by decide, by decide⟩ ?F (fun _ _ _ _ z => z)
    intro w mg fa h Y G hmg0
    obtain ⟨K, KX, c⟩ := Y
    have hmg : mg ("law" : PySem.Str) = some (.ref fa) := by
      have e : (HandSHeadRun.topDef (OpenLaw.row PySem.Challenge.rw_unknownwords_k99_whole_parts_of_endless).prog 41).name = ("law" : PySem.Str) := by kernel_rfl
      rw [← e]
      exact hmg0
    obtain ⟨fd, F⟩ := c.def_ 30 (d := Ev.k99.dOf "law" 41) rfl
    have e := hmg.symm.trans (He.glo_ok KX G (c.fact 30 (f := .glo "law") rfl))
    cases e
    have b := L2.FunD.bindsA (ps := ["script"]) F fun _ _ _ _ _ _ us hl => match us, hl with | [_], _ => rfl
    exact ⟨K, fd, Ev.spLaw K, KX, fun s v => b s [v] rfl, fun H a ns hl _ hS => ⟨a, ns, rfl, hl, hS, fun _ => rfl⟩, fun base _ _ => Ev.law_fn (n := 2000) (j := 40) (Ev.k99.tbl_ok KX G c) (Ev.fun_of F) Ev.k99.t_law_37 Ev.k99.x_law_37 Ev.k99.law_true⟩


