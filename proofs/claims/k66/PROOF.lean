import PyProof.Rows.All
import Wide.All
import OpenK.AllK
import Wide.FinOn
import HandS.ForMost
import HandS.Exc
import HandS.ExcOwn
import HandS.WordsExc
import HandS.Defaults
import HandS.Star
import HandS.TupAny
import HandS.Style
import HandS.Flow
import HandS.Deep
import HandS.Zip
import HandS.IsInst
import HandS.Wide
import HandS.Small
import HandS.StrMore
import HandS.Comp
import HandS.Iter
import KE.KSuper
import KE.KExcSuper
import HandS.ExcInit
import HandS.ExcSuper
import HandS.HeadHook1
import HandS.Dict
import HandS.Lambda
import HandS.TryOnly
import HandS.ExcIs
import HandS.ExcField
import HandS.HeadHook4
import HandS.HeadWalk
import HandS.Head0
import HandS.Head1
import HandS.Head2
import HandS.HeadEnd
import HandS.NestedK
import HandS.TupMul
import PySem.Challenge.RW_gatewords_k66_whole_logs_cut_at_any_byte
/-! PL: pure data, results, and the pure combinators for the constructs of Python that the laws use.
Nothing of the model stands here. -/
set_option linter.all false
namespace PL

/-- data: what a value says, without the heap -/
inductive D where
  | non
  | bl (b : Bool)
  | int (i : Int)
  | str (s : List Nat)
  | lst (xs : List D)
  | tup (xs : List D)
  | dic (kvs : List (List Nat × D))
  | ins (c : String) (fs : List (String × D))
  | exn (c : String) (fs : List (String × D))
  | clo (k : Nat)
  deriving Inhabited

abbrev En := List (Option D)

/-- a result with the state behind it -/
inductive Res (S A : Type) where
  | ok (a : A) (s : S)
  | ex (c : String) (fs : List (String × D)) (s : S)
  | no

def Res.bind {S A B : Type} (m : Res S A) (f : A → S → Res S B) : Res S B :=
  match m with
  | .ok a s => f a s
  | .ex c fs s => .ex c fs s
  | .no => .no

inductive Flow where
  | nx
  | rt (d : D)
  | bk
  | ct

abbrev EX := En → Res En D
abbrev TX := En → Res En Bool
abbrev LX := En → Res En (List D)
abbrev ST := En → Res En Flow
abbrev GX := D → En → Res En Unit
abbrev FN := List D → Res (List D) D

/-- the largest length that is served -/
def line : Nat := 10000000

def ofB {S A : Type} (c : Bool) (r : Res S A) : Res S A := if c then r else .no

/-! ### names, constants -/
def eV (i : Nat) : EX := fun s => match s[i]? with
  | some (some d) => .ok d s
  | _ => .no
def eC (d : D) : EX := fun s => .ok d s
def eNo : EX := fun _ => .no

/-! ### operators by values -/
abbrev P1 := D → Option D
abbrev P2 := D → D → Option D
def ofO {S : Type} (o : Option D) (s : S) : Res S D := match o with
  | some d => .ok d s
  | none => .no
def e1 (p : P1) (a : EX) : EX := fun s => (a s).bind fun x s => ofO (p x) s
def e2 (p : P2) (a b : EX) : EX := fun s => (a s).bind fun x s => (b s).bind fun y s => ofO (p x y) s

/-- a size that the wide rules take -/
def wideI (i : Int) : Bool := decide (i.natAbs < 2 ^ 1200000)
def pAdd : P2
  | .int i, .int j => some (.int (i + j))
  | .str a, .str b => if a.length + b.length ≤ line then some (.str (a ++ b)) else none
  | .lst a, .lst b => if a.length + b.length ≤ line then some (.lst (a ++ b)) else none
  | .tup a, .tup b => if a.length + b.length ≤ line then some (.tup (a ++ b)) else none
  | _, _ => none
def pSub : P2
  | .int i, .int j => some (.int (i - j))
  | _, _ => none
def smallI (i : Int) : Bool := decide (-(2 ^ 64) < i ∧ i < 2 ^ 64)
def pMul : P2
  | .int i, .int j => if smallI i || smallI j then some (.int (i * j)) else none
  | .lst a, .int j => if decide (-(2 ^ 63) ≤ j ∧ j < 2 ^ 63) && decide (a.length * j.toNat ≤ line) then some (.lst (List.replicate j.toNat a).flatten) else none
  | .tup a, .int j => if decide (-(2 ^ 63) ≤ j ∧ j < 2 ^ 63) && decide (a.length * j.toNat ≤ line) then some (.tup (List.replicate j.toNat a).flatten) else none
  | .str a, .int j => if decide (-(2 ^ 63) ≤ j ∧ j < 2 ^ 63) && decide (a.length * j.toNat ≤ line) then some (.str (List.replicate j.toNat a).flatten) else none
  | _, _ => none
def pMulI : P2
  | .int i, .int j => if smallI i || smallI j then some (.int (i * j)) else none
  | _, _ => none
def pMod : P2
  | .int i, .int j => if 0 < j then some (.int (i % j)) else none
  | _, _ => none
/-- // by a positive number below 2 ^ 30, or below 2 ^ 9000 -/
def pDiv : P2
  | .int i, .int j => if 0 < j ∧ j < 1073741824 then some (.int (i / j)) else none
  | _, _ => none
def pDivW : P2
  | .int i, .int j => if 0 < j ∧ j.natAbs < 2 ^ 9000 then some (.int (i / j)) else none
  | _, _ => none
def pPow : P2
  | .int i, .int j => if 0 ≤ j ∧ j ≤ 1000000 ∧ i.natAbs < 2 ^ 64 then some (.int (i ^ j.toNat)) else none
  | _, _ => none
def pNeg : P1
  | .int i => some (.int (-i))
  | _ => none

/-! ### comparisons -/
mutual
/-- == of plainD data -/
def eqv : D → D → Bool
  | .non, .non => true
  | .bl a, .bl b => a == b
  | .bl a, .int j => (if a then 1 else 0) == j
  | .int i, .bl b => i == (if b then 1 else 0)
  | .int i, .int j => i == j
  | .str x, .str y => x == y
  | .lst xs, .lst ys => eqvs xs ys
  | .tup xs, .tup ys => eqvs xs ys
  | .dic [], .dic [] => true
  | _, _ => false
def eqvs : List D → List D → Bool
  | [], [] => true
  | x :: xs, y :: ys => eqv x y && eqvs xs ys
  | [], _ :: _ => false
  | _ :: _, [] => false
end
def strOkD (s : List Nat) : Bool := s.all fun c => decide (c < 0x110000)
/-- data without objects of other kinds, at most n deep -/
def plainD : Nat → D → Bool
  | _, .non | _, .bl _ | _, .int _ => true
  | _, .str s => strOkD s
  | n + 1, .lst xs | n + 1, .tup xs => xs.all (plainD n)
  | _, _ => false
def pEq : P2 := fun x y => if plainD 64 x && plainD 64 y then some (.bl (eqv x y)) else none
def pNe : P2 := fun x y => if plainD 64 x && plainD 64 y then some (.bl (!eqv x y)) else none
def pLt : P2
  | .int i, .int j => some (.bl (decide (i < j)))
  | _, _ => none
def pLe : P2
  | .int i, .int j => some (.bl (decide (i ≤ j)))
  | _, _ => none
def pGt : P2
  | .int i, .int j => some (.bl (decide (j < i)))
  | _, _ => none
def pGe : P2
  | .int i, .int j => some (.bl (decide (j ≤ i)))
  | _, _ => none
def isNonD : D → Bool
  | .non => true
  | _ => false
def pIsN : P1 := fun x => some (.bl (isNonD x))
def pNotN : P1 := fun x => some (.bl (!isNonD x))
/-- is True, is False (of truth values) -/
def pIsB : P2
  | .bl a, .bl b => some (.bl (decide (a = b)))
  | _, _ => none
/-- x in a list or tuple of plainD data; a sign in a text -/
def pIn : P2
  | x, .lst ys => if plainD 63 x && ys.all (plainD 63) then some (.bl (ys.any fun y => eqv y x)) else none
  | .str [c], .str z => some (.bl (decide (c ∈ z)))
  | _, _ => none
def pNotIn : P2 := fun x y => match pIn x y with
  | some (.bl b) => some (.bl (!b))
  | _ => none
/-- a op b op' c -/
def eCh (p q : P2) (a b c : EX) : EX := fun s => (a s).bind fun x s => (b s).bind fun y s => match p x y with
  | some (.bl true) => (c s).bind fun z s => ofO (q y z) s
  | some (.bl false) => .ok (.bl false) s
  | _ => .no

/-! ### truth -/
def truth : D → Option Bool
  | .non => some false
  | .bl b => some b
  | .int i => some (i != 0)
  | .str s => if s.length ≤ line then some (!s.isEmpty) else none
  | .lst xs => some (!xs.isEmpty)
  | .tup xs => some (!xs.isEmpty)
  | _ => none
/-- an expression of truth values as a test -/
def uB (a : EX) : TX := fun s => (a s).bind fun x s => match x with
  | .bl b => .ok b s
  | _ => .no
def uTr (a : EX) : TX := fun s => (a s).bind fun x s => match truth x with
  | some b => .ok b s
  | none => .no
def uNot (a : TX) : TX := fun s => (a s).bind fun b s => .ok (!b) s
def uAnd (a b : TX) : TX := fun s => (a s).bind fun c s => if c then b s else .ok false s
def uOr (a b : TX) : TX := fun s => (a s).bind fun c s => if c then .ok true s else b s
/-- and, or, not of truth values as values -/
def eNot (a : EX) : EX := fun s => (a s).bind fun x s => match x with
  | .bl b => .ok (.bl (!b)) s
  | _ => .no
def eAnd (a b : EX) : EX := fun s => (a s).bind fun x s => match x with
  | .bl true => b s
  | .bl false => .ok (.bl false) s
  | _ => .no
def eOr (a b : EX) : EX := fun s => (a s).bind fun x s => match x with
  | .bl true => .ok (.bl true) s
  | .bl false => b s
  | _ => .no
def eIf (t : TX) (a b : EX) : EX := fun s => (t s).bind fun c s => if c then a s else b s

/-! ### argument lists, displays -/
def lNil : LX := fun s => .ok [] s
def lCons (a : EX) (r : LX) : LX := fun s => (a s).bind fun x s => (r s).bind fun xs s => .ok (x :: xs) s
/-- *a, r -/
def itemsD : D → Option (List D)
  | .lst xs => some xs
  | .tup xs => some xs
  | _ => none
def lStar (a : EX) (r : LX) : LX := fun s => (a s).bind fun x s => match itemsD x with
  | some ys => (r s).bind fun xs s => .ok (ys ++ xs) s
  | none => .no
def eTup (l : LX) : EX := fun s => (l s).bind fun xs s => if xs.length ≤ line then .ok (.tup xs) s else .no
def eLst (l : LX) : EX := fun s => (l s).bind fun xs s => if xs.length ≤ line then .ok (.lst xs) s else .no

/-! ### places, slices -/
def ixD (n : Nat) (i : Int) : Option Nat := if 0 ≤ i then (if i < n then some i.toNat else none) else if -(n : Int) ≤ i then some (i + n).toNat else none
def atD {A : Type} (xs : List A) (i : Int) : Option A := (ixD xs.length i).bind fun j => xs[j]?
def pIx : P2
  | .lst xs, .int i => atD xs i
  | .tup xs, .int i => atD xs i
  | .str s, .int i => if s.length ≤ line then (atD s i).map fun c => .str [c] else none
  | _, _ => none
def sIx (n d : Nat) : Option Int → Nat
  | none => d
  | some v => if v < 0 then (v + (n : Int)).toNat else min v.toNat n
def cutL {A : Type} (xs : List A) (lo hi : Option Int) : List A := (xs.drop (sIx xs.length 0 lo)).take (sIx xs.length xs.length hi - sIx xs.length 0 lo)
def sliceD (x : D) (lo hi : Option Int) : Option D := match x with
  | .lst xs => some (.lst (cutL xs lo hi))
  | .tup xs => some (.tup (cutL xs lo hi))
  | .str s => if s.length ≤ line then some (.str (cutL s lo hi)) else none
  | _ => none
abbrev OX := En → Res En (Option Int)
def oNone : OX := fun s => .ok none s
def oSome (a : EX) : OX := fun s => (a s).bind fun x s => match x with
  | .int i => .ok (some i) s
  | _ => .no
def eSl (a : EX) (lo hi : OX) : EX := fun s => (a s).bind fun x s => (lo s).bind fun l s => (hi s).bind fun h s => ofO (sliceD x l h) s
/-- x[::-1] -/
def pRev : P1
  | .lst xs => some (.lst xs.reverse)
  | .tup xs => some (.tup xs.reverse)
  | _ => none

/-! ### built-in functions by values -/
abbrev PL := List D → Option D
def eB (p : PL) (l : LX) : EX := fun s => (l s).bind fun xs s => ofO (p xs) s
def pLen : PL
  | [.lst xs] => some (.int xs.length)
  | [.tup xs] => some (.int xs.length)
  | [.str s] => if s.length ≤ line then some (.int s.length) else none
  | _ => none
def pAbs : PL
  | [.int i] => some (.int (if i < 0 then -i else i))
  | _ => none
def pMax2 : PL
  | [.int i, .int j] => some (.int (if j > i then j else i))
  | _ => none
def pMin2 : PL
  | [.int i, .int j] => some (.int (if j < i then j else i))
  | _ => none
def pInt : PL
  | [.int i] => some (.int i)
  | _ => none
def asInts : List D → Option (List Int)
  | [] => some []
  | .int i :: r => (asInts r).map (i :: ·)
  | _ => none
def asBls : List D → Option (List Bool)
  | [] => some []
  | .bl b :: r => (asBls r).map (b :: ·)
  | _ => none
def asStrs : List D → Option (List (List Nat))
  | [] => some []
  | .str b :: r => (asStrs r).map (b :: ·)
  | _ => none
def pSum : PL
  | [.lst xs] => (asInts xs).map fun ns => .int ns.sum
  | _ => none
def pAll : PL
  | [.lst xs] => (asBls xs).map fun bs => .bl (bs.all id)
  | _ => none
def pAny : PL
  | [.lst xs] => (asBls xs).map fun bs => .bl (bs.any id)
  | _ => none
def pTuple : PL
  | [.lst xs] => some (.tup xs)
  | [.tup xs] => some (.tup xs)
  | _ => none
def pList : PL
  | [.lst xs] => some (.lst xs)
  | [.tup xs] => some (.lst xs)
  | _ => none
def tyName : D → Option String
  | .non => some "NoneType"
  | .bl _ => some "bool"
  | .int _ => some "int"
  | .str _ => some "str"
  | .lst _ => some "list"
  | .tup _ => some "tuple"
  | .dic _ => some "dict"
  | _ => none
/-- isinstance with built-in classes -/
def pIsT (cs : List String) : P1 := fun x => (tyName x).map fun t => .bl (cs.any fun c => c == t || (t == "bool" && c == "int"))
/-- isinstance with a class of the text; cs: this class and those below; all: the classes that are told -/
def pIsC (all cs : List String) : P1
  | .exn c _ => if all.contains c then some (.bl (cs.contains c)) else none
  | x => (tyName x).map fun _ => .bl false
def lookF (f : String) : List (String × D) → Option D
  | [] => none
  | (g, d) :: r => if g = f then some d else lookF f r
def pFld (f : String) : P1
  | .exn _ fs => lookF f fs
  | .ins _ fs => lookF f fs
  | _ => none
/-- the one field of a caught exception of one of the classes cs -/
def pFldX (f : String) (cs : List String) : P1
  | .exn c [(g, d)] => if cs.contains c && g == f then some d else none
  | _ => none
/-- ''.join(list of texts) -/
def pJoin : P1
  | .lst xs => (asStrs xs).bind fun ys => if (ys.map List.length).sum ≤ line then some (.str ys.flatten) else none
  | _ => none
/-- text.index(one sign that is there) -/
def posOf (c : Nat) : List Nat → Option Nat
  | [] => none
  | d :: r => if d = c then some 0 else (posOf c r).map (· + 1)
def pIndex : P2
  | .str z, .str [c] => if z.length ≤ line then (posOf c z).map fun (k : Nat) => .int k else none
  | _, _ => none

def eIdx (a b : EX) : EX := fun s => (a s).bind fun x s => match x with
  | .str z => (b s).bind fun y s => ofO (pIndex (.str z) y) s
  | _ => .no

/-! ### what is walked -/
def itSeq (a : EX) : LX := fun s => (a s).bind fun x s => match itemsD x with
  | some xs => .ok xs s
  | none => .no
def itStr (a : EX) : LX := fun s => (a s).bind fun x s => match x with
  | .str z => .ok (z.map fun c => .str [c]) s
  | _ => .no
def itAny (a : EX) : LX := fun s => (a s).bind fun x s => match x with
  | .str z => .ok (z.map fun c => .str [c]) s
  | .lst xs => .ok xs s
  | .tup xs => .ok xs s
  | _ => .no
def small62 (i : Int) : Bool := decide (-(2 ^ 62) ≤ i ∧ i < 2 ^ 62)
def rangeL (lo : Int) (n : Nat) : List D := (List.range n).map fun (i : Nat) => .int (lo + i)
def itR1 (a : EX) : LX := fun s => (a s).bind fun x s => match x with
  | .int j => if small62 j then .ok (rangeL 0 j.toNat) s else .no
  | _ => .no
def itR2 (a b : EX) : LX := fun s => (a s).bind fun x s => (b s).bind fun y s => match x, y with
  | .int i, .int j => if small62 i && small62 j then .ok (rangeL i (j - i).toNat) s else .no
  | _, _ => .no
def enumL (xs : List D) : List D := (List.range xs.length).zipWith (fun (i : Nat) x => .tup [.int i, x]) xs
def itEnum (a : EX) : LX := fun s => (a s).bind fun x s => match x with
  | .lst xs => .ok (enumL xs) s
  | _ => .no
def zipL (xs ys : List D) : List D := xs.zipWith (fun x y => .tup [x, y]) ys
def itZip (a b : EX) : LX := fun s => (a s).bind fun x s => (b s).bind fun y s => match x, y with
  | .lst xs, .lst ys => if xs.length = ys.length then .ok (zipL xs ys) s else .no
  | .tup xs, .tup ys => if xs.length = ys.length then .ok (zipL xs ys) s else .no
  | _, _ => .no

/-! ### targets: the slots, and how a value falls apart into theirs -/
def putE (s : En) (is : List Nat) (ds : List D) : En := (is.zip ds).foldl (fun s p => s.set p.1 (some p.2)) s
abbrev DC := D → Option (List D)
def dNm : DC := fun d => some [d]
def dcs : List DC → List D → Option (List D)
  | [], [] => some []
  | f :: fs, d :: ds => match f d, dcs fs ds with
    | some a, some b => some (a ++ b)
    | _, _ => none
  | _, _ => none
def dTup (fs : List DC) : DC := fun d => match d with
  | .tup xs => dcs fs xs
  | _ => none
def gT (is : List Nat) (f : DC) : GX := fun d s => match f d with
  | some ds => if ds.length = is.length then .ok () (putE s is ds) else .no
  | none => .no

/-! ### statements -/
def sSkip : ST := fun s => .ok .nx s
def sSeq (a b : ST) : ST := fun s => (a s).bind fun f s => match f with
  | .nx => b s
  | f => .ok f s
def sSet (i : Nat) (a : EX) : ST := fun s => (a s).bind fun d s => .ok .nx (s.set i (some d))
def sPar (is : List Nat) (l : LX) : ST := fun s => (l s).bind fun ds s => if ds.length = is.length then .ok .nx (putE s is ds) else .no
def sAsg (is : List Nat) (f : DC) (a : EX) : ST := fun s => (a s).bind fun d s => (gT is f d s).bind fun _ s => .ok .nx s
def sIf (t : TX) (a b : ST) : ST := fun s => (t s).bind fun c s => if c then a s else b s
def sRet (a : EX) : ST := fun s => (a s).bind fun d s => .ok (.rt d) s
def sBrk : ST := fun s => .ok .bk s
def sCnt : ST := fun s => .ok .ct s
def sExp (a : EX) : ST := fun s => (a s).bind fun _ s => .ok .nx s
def sRaise0 (c : String) : ST := fun s => .ex c [] s
def sRaise1 (c f : String) (a : EX) : ST := fun s => (a s).bind fun d s => .ex c [(f, d)] s
def loop (g : GX) (b : ST) : List D → ST
  | [], s => .ok .nx s
  | x :: xs, s => (g x s).bind fun _ s => (b s).bind fun f s => match f with
    | .nx => loop g b xs s
    | .ct => loop g b xs s
    | .bk => .ok .nx s
    | .rt d => .ok (.rt d) s
def sFor (it : LX) (g : GX) (b : ST) : ST := fun s => (it s).bind fun xs s => loop g b xs s
def whileN (t : TX) (b : ST) : Nat → ST
  | 0, _ => .no
  | n + 1, s => (t s).bind fun c s => if c then (b s).bind fun f s => match f with
      | .nx => whileN t b n s
      | .ct => whileN t b n s
      | .bk => .ok .nx s
      | .rt d => .ok (.rt d) s
    else .ok .nx s
def sWhile (fuel : En → Nat) (t : TX) (b : ST) : ST := fun s => whileN t b (fuel s) s
/-- own lists: x.append(a), x.extend(a), x[i] = a -/
def hasL (s : En) (i : Nat) : Bool := match s[i]? with
  | some (some (.lst _)) => true
  | _ => false
def sApp (i : Nat) (a : EX) : ST := fun s => if hasL s i then (a s).bind fun d s => match s[i]? with
  | some (some (.lst xs)) => if xs.length < line then .ok .nx (s.set i (some (.lst (xs ++ [d])))) else .no
  | _ => .no
  else .no
def sExt (i : Nat) (a : EX) : ST := fun s => if hasL s i then (a s).bind fun d s => match s[i]?, d with
  | some (some (.lst xs)), .lst ys => if xs.length + ys.length ≤ line then .ok .nx (s.set i (some (.lst (xs ++ ys)))) else .no
  | _, _ => .no
  else .no
def sPut (i : Nat) (k a : EX) : ST := fun s => (a s).bind fun d s => if hasL s i then (k s).bind fun x s => match s[i]?, x with
  | some (some (.lst xs)), .int j => match ixD xs.length j with
    | some n => .ok .nx (s.set i (some (.lst (xs.set n d))))
    | none => .no
  | _, _ => .no
  else .no

/-- x, ys[k] = e -/
def sAsgNS (i j : Nat) (k a : EX) : ST := fun s => (a s).bind fun d s => match d with
  | .tup [x, y] => if hasL (s.set i (some x)) j then (k (s.set i (some x))).bind fun z s => match s[j]?, z with
    | some (some (.lst xs)), .int m => match ixD xs.length m with
      | some n => .ok .nx (s.set j (some (.lst (xs.set n y))))
      | none => .no
    | _, _ => .no
    else .no
  | _ => .no

/-! ### comprehensions -/
def noX {S A : Type} : Res S A → Res S A
  | .ok a s => .ok a s
  | _ => .no
def wipeD (s : En) : List Nat → En
  | [] => s
  | v :: vs => (wipeD s vs).set v none
/-- own: the slots of the comprehension's own names; back: their values ahead, put back behind -/
def lcGo (own : List Nat) (g : GX) (t : TX) (e : EX) : List D → List D → En → Res En (List D)
  | [], acc, s => .ok acc s
  | x :: xs, acc, s => (noX (g x (wipeD s own))).bind fun _ s => (noX (t s)).bind fun c s =>
    if c then (noX (e s)).bind fun d s => if acc.length < line then lcGo own g t e xs (acc ++ [d]) (wipeD s own) else .no
    else lcGo own g t e xs acc (wipeD s own)
def unwipeD (own : List Nat) (s0 s : En) : En := own.foldl (fun s i => s.set i (s0.getD i none)) s
def eLc (it : LX) (own : List Nat) (g : GX) (t : TX) (e : EX) : EX := fun s0 => (it s0).bind fun xs s => (lcGo own g t e xs [] (wipeD s own)).bind fun ds s2 => .ok (.lst ds) (unwipeD own s s2)
def uYes : TX := fun s => .ok true s

/-! ### defs -/
/-- a body run: args fill the first slots; io: the slots whose values are handed back -/
def finD (args : List D) (io : List Nat) (s : En) : List D := (List.range args.length).zipWith (fun i d => if io.contains i then ((s.getD i none).getD d) else d) args
def ioOk (io : List Nat) (s : En) : Bool := io.all fun i => (s.getD i none).isSome
def fnB (n : Nat) (io : List Nat) (b : ST) : FN := fun args =>
  match b (args.map some ++ List.replicate (n - args.length) none) with
  | .ok .nx s => if ioOk io s then .ok .non (finD args io s) else .no
  | .ok (.rt d) s => if ioOk io s then .ok d (finD args io s) else .no
  | .ok _ _ => .no
  | .ex c fs s => if ioOk io s then .ex c fs (finD args io s) else .no
  | .no => .no
def fnNo : FN := fun _ => .no
/-- a call of a def without slots that it changes -/
def eCall (n : Nat) (f : FN) (l : LX) : EX := fun s => (l s).bind fun ds s => if ds.length = n then match f ds with
    | .ok d _ => .ok d s
    | .ex c fs _ => .ex c fs s
    | .no => .no
  else .no
def eCall0 (f : FN) : EX := fun s => match f [] with
    | .ok d _ => .ok d s
    | _ => .no
/-- a call with arguments by value and slots that the callee changes -/
inductive AX where
  | v (a : EX)
  | io (i : Nat)
def axs : List AX → En → Res En (List (Option D))
  | [], s => .ok [] s
  | .v a :: r, s => (a s).bind fun d s => (axs r s).bind fun ds s => .ok (some d :: ds) s
  | .io _ :: r, s => (axs r s).bind fun ds s => .ok (none :: ds) s
def axFill : List AX → List (Option D) → En → Option (List D)
  | [], [], _ => some []
  | .v _ :: r, some d :: ds, s => (axFill r ds s).map (d :: ·)
  | .io i :: r, none :: ds, s => match s[i]? with
    | some (some d) => (axFill r ds s).map (d :: ·)
    | _ => none
  | _, _, _ => none
def axBack : List AX → List D → En → En
  | .v _ :: r, _ :: ds, s => axBack r ds s
  | .io i :: r, d :: ds, s => axBack r ds (s.set i (some d))
  | _, _, s => s
def axIn (s : En) : List AX → Bool
  | [] => true
  | .v _ :: r => axIn s r
  | .io i :: r => (match s[i]? with
    | some (some _) => true
    | _ => false) && axIn s r
def eCallIO (f : FN) (l : List AX) : EX := fun s0 => if axIn s0 l then (axs l s0).bind fun os s => match axFill l os s with
  | some ds => match f ds with
    | .ok d es => .ok d (axBack l es s)
    | .ex c fs es => .ex c fs (axBack l es s)
    | .no => .no
  | none => .no
  else .no

/-- such a call of a def that changes a ghost slot too -/
def eCallH (f : FN) (l : List AX) (g : Nat) : EX := fun s0 => if axIn s0 l then (axs l s0).bind fun os s => match axFill (l ++ [.io g]) (os ++ [none]) s with
  | some ds => match f ds with
    | .ok d es => .ok d (axBack (l ++ [.io g]) es s)
    | .ex c fs es => .ex c fs (axBack (l ++ [.io g]) es s)
    | .no => .no
  | none => .no
  else .no
/-- such a call with a new list as its last argument -/
def eCallION (f : FN) (l : List AX) (m : EX) : EX := fun s0 => if axIn s0 l then ((axs l s0).bind fun os s => (m s).bind fun d s => .ok (os, d) s).bind fun od s => match axFill (l ++ [.io s.length]) (od.1 ++ [none]) (s ++ [some od.2]) with
  | some ds => match f ds with
    | .ok d es => .ok d ((axBack (l ++ [.io s.length]) es (s ++ [some od.2])).take s.length)
    | .ex c fs es => .ex c fs ((axBack (l ++ [.io s.length]) es (s ++ [some od.2])).take s.length)
    | .no => .no
  | none => .no
  else .no

/-! ### reading own lists as if they stood still: the answer is one that names no object -/
def flatD : D → Bool
  | .non | .bl _ | .int _ | .str _ => true
  | _ => false
def eP (a : EX) : EX := fun s => match a s with
  | .ok d _ => if flatD d then .ok d s else .no
  | .ex c fs _ => if fs.all (fun p => flatD p.2) then .ex c fs s else .no
  | .no => .no
def uP (a : TX) : TX := fun s => match a s with
  | .ok d _ => .ok d s
  | .ex c fs _ => if fs.all (fun p => flatD p.2) then .ex c fs s else .no
  | .no => .no

/-- an own list's item -/
def eIxO (i : Nat) (k : EX) : EX := fun s => if hasL s i then (k s).bind fun y s => match s[i]? with
  | some (some (.lst xs)) => ofO (pIx (.lst xs) y) s
  | _ => .no
  else .no

/-! ### a draw: (large, rest, cells, turn), told as a tuple -/
inductive DrF where
  | rest
  | turn
  | cells
def drGet : DrF → D → Option D
  | .rest, .tup [.lst _, .int r, .lst _, .int _] => some (.int r)
  | .turn, .tup [.lst _, .int _, .lst _, .int t] => some (.int t)
  | .cells, .tup [.lst _, .int _, .lst c, .int _] => some (.lst c)
  | _, _ => none
def drPut : DrF → Int → D → Option D
  | .rest, v, .tup [.lst l, .int _, .lst c, .int t] => some (.tup [.lst l, .int v, .lst c, .int t])
  | .turn, v, .tup [.lst l, .int r, .lst c, .int _] => some (.tup [.lst l, .int r, .lst c, .int v])
  | _, _, _ => none
def eDr (i : Nat) (k : DrF) : EX := fun s => match s[i]? with
  | some (some d) => ofO (drGet k d) s
  | _ => .no
def sDr (i : Nat) (k : DrF) (a : EX) : ST := fun s => (a s).bind fun d s => match d, s[i]? with
  | .int v, some (some w) => match drPut k v w with
    | some w' => .ok .nx (s.set i (some w'))
    | none => .no
  | _, _ => .no
/-- draw['large'] != [] -/
def eDrHas (i : Nat) : EX := fun s => match s[i]? with
  | some (some (.tup [.lst l, .int _, .lst _, .int _])) => .ok (.bl (!l.isEmpty)) s
  | _ => .no
/-- draw['large'].pop(0) -/
def eDrPop (i : Nat) : EX := fun s => match s[i]? with
  | some (some (.tup [.lst (.int x :: l), .int r, .lst c, .int t])) => .ok (.int x) (s.set i (some (.tup [.lst l, .int r, .lst c, .int t])))
  | _ => .no

def absI (i : Int) : Int := if i < 0 then -i else i
def beLarge (ns : List Int) : List Int := (ns.filter fun n => decide ((10 : Int) ^ 18 ≤ absI n)).map fun n => absI n - 10 ^ 18
def beCells (ns : List Int) : List Int := ns.map absI
/-- draw = _law_begun(script) -/
def sBegun (i j : Nat) : ST := fun s => match s[j]? with
  | some (some (.lst l)) => match asInts l with
    | some ns => if ns.length ≤ 1000000 then .ok .nx (s.set i (some (.tup [.lst ((beLarge ns).map .int), .int 0, .lst ((beCells ns).map .int), .int 0]))) else .no
    | none => .no
  | _ => .no
/-- the script walked, its length -/
def itScr (i : Nat) : LX := fun s => match s[i]? with
  | some (some (.lst l)) => .ok l s
  | _ => .no
def eLenScr (i : Nat) : EX := fun s => match s[i]? with
  | some (some (.lst l)) => .ok (.int l.length) s
  | _ => .no

/-- x(lambda: a) with the def that catches the errors named in cs, in a def with the ghost slot g -/
def eCaughtL (cs : List String) (g : Nat) (a : EX) : EX := fun s => match s[g]? with
  | some (some .non) => (match a s with
    | .ok _ s' => .ok .non s'
    | .ex c fs s' => if cs.contains c then .ok (.exn c fs) s' else .no
    | .no => .no)
  | _ => .no

/-! ### what is caught -/
/-- try: a except (any error of the program's own) as e: e; else None -/
def eCaught (a : EX) : EX := fun s => match a s with
  | .ok _ s => .ok .non s
  | .ex c fs s => .ok (.exn c fs) s
  | .no => .no
end PL

set_option Elab.async false
set_option linter.all false
set_option maxRecDepth 100000
set_option maxHeartbeats 4000000
/-! RX1: what a pure combinator has to do with a reading of the hand layer. -/
namespace RX
open PySem PySem.Spec PyProof.Rows L2 PL

/-! ### heaps -/
def Fle (F H : Hp) : Prop := ∀ a o, F a = some o → H a = some o
theorem Fle.refl (F : Hp) : Fle F F := fun _ _ h => h
theorem Fle.trans {A B C : Hp} (a : Fle A B) (b : Fle B C) : Fle A C := fun x o h => b x o (a x o h)
theorem Fle.up1 {F : Hp} {p : Addr} {o : HO} (h : F p = none) : Fle F (upd F p o) := fun a u e => by
  rw [upd_ne (ne_of_none e h)]; exact e
theorem Fle.up2 {F H : Hp} {p : Addr} {o : HO} (f : Fle F H) : Fle (upd F p o) (upd H p o) := fun a u e => by
  by_cases h : a = p
  · subst h; rw [upd_same] at e ⊢; exact e
  · rw [upd_ne h] at e ⊢; exact f a u e
theorem Fle.none {F H : Hp} (f : Fle F H) {a : Addr} (h : H a = none) : F a = none := by
  cases e : F a with
  | none => rfl
  | some o => rw [f a o e] at h; cases h

def stOf (s : List Nat) : Str := ⟨s.toArray⟩
theorem stOf_list (s : List Nat) : (stOf s).cps.toList = s := by simp [stOf]
theorem stOf_len (s : List Nat) : (stOf s).length = s.length := by simp [stOf, Str.length]
theorem stOf_app (a b : List Nat) : stOf a ++ stOf b = stOf (a ++ b) := by
  show Str.append (stOf a) (stOf b) = _
  unfold Str.append stOf; simp

/-- the text's facts that the values lean on: the written part, where each class stands -/
structure Tx where
  K : PySem.W.Frag
  CA : String → Addr

/-- at a: an exception that was caught: its class, its own dict -/
def ExcOb (C : Addr) (d : Option Addr) (a : Addr) : HO := .ext fun h => ∃ (oe : Obj) (vs : Array Value), h.get? a = some oe ∧ Zc (.ref C) d oe ∧ oe.data = .fields vs

mutual
inductive Rep (T : Tx) (F : Hp) : D → V → Prop
  | non : Rep T F .non .non
  | bl (b : Bool) : Rep T F (.bl b) (.bl b)
  | int (i : Int) : Rep T F (.int i) (.int i)
  | str (s : List Nat) : Rep T F (.str s) (.str (stOf s))
  | lst {a : Addr} {vs : List V} {ds : List D} : F a = some (.lst vs) → RepL T F ds vs → Rep T F (.lst ds) (.ref a)
  | tup {a : Addr} {vs : List V} {ds : List D} : SqT T.K F a vs → RepL T F ds vs → Rep T F (.tup ds) (.ref a)
  | dic {a : Addr} : F a = some (.dK []) → Rep T F (.dic []) (.ref a)
  | exn0 {a : Addr} {c : String} : F a = some (ExcOb (T.CA c) none a) → Rep T F (.exn c []) (.ref a)
  | exn1 {a dx : Addr} {c f : String} {d : D} {v : V} : F a = some (ExcOb (T.CA c) (some dx) a) → F dx = some (.xd [(Str.ofString f, v)]) → Rep T F d v → Rep T F (.exn c [(f, d)]) (.ref a)
inductive RepL (T : Tx) (F : Hp) : List D → List V → Prop
  | nil : RepL T F [] []
  | cons {d : D} {v : V} {ds : List D} {vs : List V} : Rep T F d v → RepL T F ds vs → RepL T F (d :: ds) (v :: vs)
end

theorem sqT_fle {K : PySem.W.Frag} {F G : Hp} {a : Addr} {xs : List V} (f : Fle F G) (h : SqT K F a xs) : SqT K G a xs := by
  rcases h with (h | ⟨o, h⟩) | h
  · exact .inl (.inl (f _ _ h))
  · exact .inl (.inr ⟨o, f _ _ h⟩)
  · exact .inr h
theorem sqL_fle {K : PySem.W.Frag} {F G : Hp} {a : Addr} {xs : List V} (f : Fle F G) (h : SqL K F a xs) : SqL K G a xs := by
  rcases h with (h | ⟨o, h⟩) | h
  · exact .inl (.inl (f _ _ h))
  · exact .inl (.inr ⟨o, f _ _ h⟩)
  · exact .inr h

section
variable {T : Tx} {F G H : Hp}
mutual
theorem Rep.fle (f : Fle F G) : ∀ {d : D} {v : V}, Rep T F d v → Rep T G d v
  | _, _, .non => .non
  | _, _, .bl b => .bl b
  | _, _, .int i => .int i
  | _, _, .str s => .str s
  | _, _, .lst h r => .lst (f _ _ h) (r.fle f)
  | _, _, .tup h r => .tup (sqT_fle f h) (r.fle f)
  | _, _, .dic h => .dic (f _ _ h)
  | _, _, .exn0 h => .exn0 (f _ _ h)
  | _, _, .exn1 h h2 r => .exn1 (f _ _ h) (f _ _ h2) (r.fle f)
theorem RepL.fle (f : Fle F G) : ∀ {d : List D} {v : List V}, RepL T F d v → RepL T G d v
  | _, _, .nil => .nil
  | _, _, .cons r rs => .cons (r.fle f) (rs.fle f)
end
theorem RepL.length : ∀ {ds : List D} {vs : List V}, RepL T F ds vs → ds.length = vs.length
  | _, _, .nil => rfl
  | _, _, .cons _ r => congrArg (· + 1) r.length
theorem RepL.app : ∀ {ds es : List D} {vs ws : List V}, RepL T F ds vs → RepL T F es ws → RepL T F (ds ++ es) (vs ++ ws)
  | _, _, _, _, .nil, r => r
  | _, _, _, _, .cons a b, r => .cons a (b.app r)
theorem RepL.get : ∀ {ds : List D} {vs : List V} {i : Nat} {d : D}, RepL T F ds vs → ds[i]? = some d → ∃ v, vs[i]? = some v ∧ Rep T F d v
  | _, _, _, _, .nil, e => by simp at e
  | _, _, 0, d, .cons r _, e => by simp at e; subst e; exact ⟨_, rfl, r⟩
  | _, _, i + 1, d, .cons _ t, e => by
    obtain ⟨u, h1, h2⟩ := t.get (i := i) (d := d) (by simpa using e)
    exact ⟨u, by simpa using h1, h2⟩
theorem RepL.get' : ∀ {ds : List D} {vs : List V} {i : Nat} {v : V}, RepL T F ds vs → vs[i]? = some v → ∃ d, ds[i]? = some d ∧ Rep T F d v
  | _, _, _, _, .nil, e => by simp at e
  | _, _, 0, d, .cons r _, e => by simp at e; subst e; exact ⟨_, rfl, r⟩
  | _, _, i + 1, v, .cons _ t, e => by
    obtain ⟨u, h1, h2⟩ := t.get' (i := i) (v := v) (by simpa using e)
    exact ⟨u, by simpa using h1, h2⟩
theorem RepL.take : ∀ {ds : List D} {vs : List V} (n : Nat), RepL T F ds vs → RepL T F (ds.take n) (vs.take n)
  | _, _, 0, _ => by simp; exact .nil
  | _, _, _ + 1, .nil => .nil
  | _, _, n + 1, .cons r t => .cons r (t.take n)
theorem RepL.drop : ∀ {ds : List D} {vs : List V} (n : Nat), RepL T F ds vs → RepL T F (ds.drop n) (vs.drop n)
  | _, _, 0, r => r
  | _, _, _ + 1, .nil => .nil
  | _, _, n + 1, .cons r t => t.drop n
theorem RepL.set {d : D} {v : V} (r : Rep T F d v) : ∀ {ds : List D} {vs : List V} (n : Nat), RepL T F ds vs → RepL T F (ds.set n d) (vs.set n v)
  | _, _, _, .nil => .nil
  | _, _, 0, .cons _ t => .cons r t
  | _, _, n + 1, .cons q t => .cons q (t.set r n)
theorem RepL.rep {ds : List D} {vs : List V} (h : RepL T F ds vs) : ∀ k : Nat, RepL T F (List.replicate k ds).flatten (List.replicate k vs).flatten
  | 0 => .nil
  | k + 1 => by rw [List.replicate_succ, List.replicate_succ, List.flatten_cons, List.flatten_cons]; exact h.app (h.rep k)
theorem RepL.ints {vs : List V} : ∀ {ns : List Int}, RepL T F (ns.map D.int) vs → vs = ns.map V.int
  | [], h => by cases h; rfl
  | n :: ns, h => by
    cases h with
    | cons r t => cases r; rw [List.map_cons, ← t.ints]
theorem RepL.ofInts : ∀ ns : List Int, RepL T F (ns.map D.int) (ns.map V.int)
  | [] => .nil
  | n :: ns => .cons (.int n) (RepL.ofInts ns)
end

/-! ### slots -/
/-- a kind of slot with an object of its own: what stands there, by a predicate that leans on its footprint alone -/
structure Ab (T : Tx) where
  P : Hp → Hp → D → V → List Addr → Prop
  loc : ∀ F H F' H' d v fp, P F H d v fp → Fle F F' → (∀ a o, a ∈ fp → H a = some o → H' a = some o) → P F' H' d v fp
inductive Kd (T : Tx) where
  | fz
  | own
  | ab (A : Ab T)
  | gh (A : Ab T)
  | hid

def SlotOk (T : Tx) (F H : Hp) (k : Kd T) (od : Option D) (ov : Option V) (fp : List Addr) : Prop :=
  match od with
  | none => fp = []
  | some d => match k with
    | .fz => fp = [] ∧ ∃ v, ov = some v ∧ Rep T F d v
    | .own => ∃ a ds vs, d = .lst ds ∧ ov = some (.ref a) ∧ fp = [a] ∧ H a = some (.lst vs) ∧ F a = none ∧ RepL T F ds vs
    | .ab A => ∃ v, ov = some v ∧ A.P F H d v fp ∧ ∀ a ∈ fp, F a = none ∧ ∃ o, H a = some o
    | .gh A => ov = none ∧ A.P F H d .non fp ∧ ∀ a ∈ fp, F a = none ∧ ∃ o, H a = some o
    | .hid => fp = []

structure Sta (T : Tx) (Γ : List (Kd T)) (fp : Nat → List Addr) (F H : Hp) (σ : L2.St) (s : En) : Prop where
  sub : Fle F H
  ls : σ.length = s.length
  lg : Γ.length = s.length
  ok : ∀ i od ov k, s[i]? = some od → σ[i]? = some ov → Γ[i]? = some k → SlotOk T F H k od ov (fp i)
  out : ∀ i, s.length ≤ i → fp i = []
  dis : ∀ i j a, a ∈ fp i → a ∈ fp j → i = j

/-- from one state to a later one -/
structure Go (fp fp' : Nat → List Addr) (F F' H H' : Hp) : Prop where
  keep : ∀ a o, H a = some o → (∀ i, a ∉ fp i) → H' a = some o
  dom : ∀ a, H' a = none → H a = none
  mono : Fle F F'
  new : ∀ a o, F' a = some o → F a = some o ∨ H a = none
  fpn : ∀ i a, a ∈ fp' i → a ∈ fp i ∨ H a = none

section
variable {T : Tx} {Γ : List (Kd T)} {fp fp' fp'' : Nat → List Addr} {F F' F'' H H' H'' : Hp} {σ : L2.St} {s : En}
theorem Go.refl : Go fp fp F F H H := ⟨fun _ _ h _ => h, fun _ h => h, Fle.refl _, fun _ _ h => .inl h, fun _ _ h => .inl h⟩
theorem Go.trans (a : Go fp fp' F F' H H') (b : Go fp' fp'' F' F'' H' H'') : Go fp fp'' F F'' H H'' where
  keep := fun x o h n => b.keep x o (a.keep x o h n) fun i hi => by
    rcases a.fpn i x hi with q | q
    · exact n i q
    · rw [h] at q; cases q
  dom := fun x h => a.dom x (b.dom x h)
  mono := a.mono.trans b.mono
  new := fun x o h => by
    rcases b.new x o h with q | q
    · exact a.new x o q
    · exact .inr (a.dom x q)
  fpn := fun i x h => by
    rcases b.fpn i x h with q | q
    · exact a.fpn i x q
    · exact .inr (a.dom x q)
theorem Sta.slot_none (S : Sta T Γ fp F H σ s) {i : Nat} {a : Addr} (h : a ∈ fp i) : F a = none ∧ ∃ o, H a = some o := by
  have hi : i < s.length := by
    refine Nat.lt_of_not_le fun z => ?_
    rw [S.out i z] at h; cases h
  have e1 : s[i]? = some s[i] := List.getElem?_eq_getElem hi
  have hσ : i < σ.length := by rw [S.ls]; exact hi
  have hΓ : i < Γ.length := by rw [S.lg]; exact hi
  have q := S.ok i _ _ _ e1 (List.getElem?_eq_getElem hσ) (List.getElem?_eq_getElem hΓ)
  unfold SlotOk at q
  cases hd : s[i] with
  | none => rw [hd] at q; rw [q] at h; cases h
  | some d =>
    rw [hd] at q
    cases hk : Γ[i] with
    | fz => rw [hk] at q; rw [q.1] at h; cases h
    | own =>
      rw [hk] at q
      obtain ⟨b, ds, vs, _, _, e, h1, h2, _⟩ := q
      rw [e] at h
      have z : a = b := by simpa using h
      subst z
      exact ⟨h2, _, h1⟩
    | ab A =>
      rw [hk] at q
      obtain ⟨v, _, _, q⟩ := q
      exact q a h
    | gh A => rw [hk] at q; exact q.2.2 a h
    | hid => rw [hk] at q; rw [q] at h; cases h
/-- everything that stands is kept, F grows by new objects alone: all slots stand -/
theorem Sta.ext (S : Sta T Γ fp F H σ s) (hk : ∀ a o, H a = some o → H' a = some o) (hF : Fle F F') (hFH : Fle F' H') (hn : ∀ a o, F' a = some o → F a = some o ∨ H a = none) :
    Sta T Γ fp F' H' σ s where
  sub := hFH
  ls := S.ls
  lg := S.lg
  out := S.out
  dis := S.dis
  ok := fun i od ov k h1 h2 h3 => by
    have q := S.ok i od ov k h1 h2 h3
    have nn : ∀ a, a ∈ fp i → F' a = none := fun a ha => by
      obtain ⟨z1, o, z2⟩ := S.slot_none ha
      cases e : F' a with
      | none => rfl
      | some u =>
        rcases hn a u e with w | w
        · rw [z1] at w; cases w
        · rw [z2] at w; cases w
    unfold SlotOk at q ⊢
    cases od with
    | none => exact q
    | some d =>
      cases k with
      | fz =>
        obtain ⟨q1, v, q2, q3⟩ := q
        exact ⟨q1, v, q2, q3.fle hF⟩
      | own =>
        obtain ⟨a, ds, vs, e1, e2, e3, e4, e5, e6⟩ := q
        exact ⟨a, ds, vs, e1, e2, e3, hk _ _ e4, nn a (by rw [e3]; simp), e6.fle hF⟩
      | ab A =>
        obtain ⟨v, e1, e2, e3⟩ := q
        exact ⟨v, e1, A.loc _ _ _ _ _ _ _ e2 hF fun a o _ => hk a o, fun a ha => ⟨nn a ha, let ⟨o, ho⟩ := (e3 a ha).2; ⟨o, hk a o ho⟩⟩⟩
      | gh A =>
        obtain ⟨e1, e2, e3⟩ := q
        exact ⟨e1, A.loc _ _ _ _ _ _ _ e2 hF fun a o _ => hk a o, fun a ha => ⟨nn a ha, let ⟨o, ho⟩ := (e3 a ha).2; ⟨o, hk a o ho⟩⟩⟩
      | hid => exact q
theorem Go.ext (hk : ∀ a o, H a = some o → H' a = some o) (hF : Fle F F') (hn : ∀ a o, F' a = some o → F a = some o ∨ H a = none) : Go fp fp F F' H H' where
  keep := fun a o h _ => hk a o h
  dom := fun a h => by
    cases e : H a with
    | none => rfl
    | some o =>
      rw [hk a o e] at h
      cases h
  mono := hF
  new := hn
  fpn := fun _ _ h => .inl h
end

/-- an exception's fields -/
def ExnAt (T : Tx) (F : Hp) (od : Option Addr) (fs : List (String × D)) : Prop :=
  (od = none ∧ fs = []) ∨ ∃ dx f d v, od = some dx ∧ fs = [(f, d)] ∧ F dx = some (.xd [(Str.ofString f, v)]) ∧ Rep T F d v

/-! ### what is wanted behind a pure result -/
def Po (T : Tx) (W : WX) (Γ : List (Kd T)) (fp : Nat → List Addr) (F H : Hp) (σ : L2.St) {A : Type} (r : Res En A) (P : A → En → (Nat → List Addr) → Hp → Hp → Prop) : Prop :=
  match r with
  | .ok a s' => ∀ fp' F' H', Go fp fp' F F' H H' → Sta T Γ fp' F' H' σ s' → P a s' fp' F' H'
  | .ex c fs s' => ∀ fp' F' H' od, Go fp fp' F F' H H' → Sta T Γ fp' F' H' σ s' → ExnAt T F' od fs → W (.ref (T.CA c)) od σ H'
  | .no => False
section
variable {T : Tx} {W : WX} {Γ : List (Kd T)} {fp : Nat → List Addr} {F H : Hp} {σ : L2.St} {A B : Type}
theorem Po.imp {r : Res En A} {P P' : A → En → (Nat → List Addr) → Hp → Hp → Prop} (h : Po T W Γ fp F H σ r P) (k : ∀ a s' fp' F' H', Go fp fp' F F' H H' → Sta T Γ fp' F' H' σ s' → P a s' fp' F' H' → P' a s' fp' F' H') : Po T W Γ fp F H σ r P' := by
  cases r with
  | ok a s' => exact fun fp' F' H' g S => k a s' fp' F' H' g S (h fp' F' H' g S)
  | ex c fs s' => exact h
  | no => exact h
theorem Po.bind {r : Res En A} {k : A → En → Res En B} {P : B → En → (Nat → List Addr) → Hp → Hp → Prop} (h : Po T W Γ fp F H σ (r.bind k) P) :
    Po T W Γ fp F H σ r fun a s1 fp1 F1 H1 => Po T W Γ fp1 F1 H1 σ (k a s1) P := by
  cases r with
  | ok a s1 =>
    intro fp1 F1 H1 g1 S1
    have h' : Po T W Γ fp F H σ (k a s1) P := h
    cases e : k a s1 with
    | ok b s2 =>
      rw [e] at h'
      exact fun fp' F' H' g S => h' fp' F' H' (g1.trans g) S
    | ex c fs s2 =>
      rw [e] at h'
      exact fun fp' F' H' od g S => h' fp' F' H' od (g1.trans g) S
    | no =>
      rw [e] at h'
      exact h'
  | ex c fs s' => exact h
  | no => exact h
end

/-! ### what a reading has to do with a pure expression -/
def RE (T : Tx) (W : WX) (Γ : List (Kd T)) (te : TE) (m : EX) : Prop :=
  ∀ (fp : Nat → List Addr) (F H : Hp) (σ : L2.St) (s : En) (Q : VK), Sta T Γ fp F H σ s → Po T W Γ fp F H σ (m s) (fun d _ _ F' H' => ∀ v, Rep T F' d v → Q v H') → te σ H Q
def RT (T : Tx) (W : WX) (Γ : List (Kd T)) (tt : TT) (m : TX) : Prop :=
  ∀ (fp : Nat → List Addr) (F H : Hp) (σ : L2.St) (s : En) (Q : Bool → Hp → Prop), Sta T Γ fp F H σ s → Po T W Γ fp F H σ (m s) (fun b _ _ _ H' => Q b H') → tt σ H Q
def RA (T : Tx) (W : WX) (Γ : List (Kd T)) (ta : TA) (m : LX) : Prop :=
  ∀ (fp : Nat → List Addr) (F H : Hp) (σ : L2.St) (s : En) (Q : List V → Hp → Prop), Sta T Γ fp F H σ s → Po T W Γ fp F H σ (m s) (fun ds _ _ F' H' => ∀ vs, RepL T F' ds vs → Q vs H') → ta σ H Q
/-- an expression, a test, an argument list, with its derivation -/
def XE (X : Cx) (T : Tx) (W : WX) (Γ : List (Kd T)) (e : Expr) (m : EX) : Prop := ∃ te, PE X e te ∧ RE T W Γ te m
def XT (X : Cx) (T : Tx) (W : WX) (Γ : List (Kd T)) (e : Expr) (m : TX) : Prop := ∃ te, PT X e te ∧ RT T W Γ te m
def XW (X : Cx) (T : Tx) (W : WX) (Γ : List (Kd T)) (e : Expr) (m : TX) : Prop := ∃ te, PW X e te ∧ RT T W Γ te m
def XA (X : Cx) (T : Tx) (W : WX) (Γ : List (Kd T)) (es : List Expr) (m : LX) : Prop := ∃ te, PA X es te ∧ RA T W Γ te m
end RX

set_option Elab.async false
set_option linter.all false
set_option maxRecDepth 100000
set_option maxHeartbeats 4000000
/-! RX2: expressions. -/
namespace RX
open PySem PySem.Spec PyProof.Rows L2 PL

/-- all stands; new objects may have come, some of them told by F' -/
structure PX (F H F' H' : Hp) : Prop where
  keep : ∀ a o, H a = some o → H' a = some o
  mono : Fle F F'
  sub : Fle F' H'
  new : ∀ a o, F' a = some o → F a = some o ∨ H a = none
theorem PX.refl {F H : Hp} (s : Fle F H) : PX F H F H := ⟨fun _ _ h => h, Fle.refl F, s, fun _ _ h => .inl h⟩
theorem PX.alloc {F H : Hp} {p : Addr} {o : HO} (s : Fle F H) (h : H p = none) : PX F H (upd F p o) (upd H p o) where
  keep := fun a u e => by rw [upd_ne (ne_of_none e h)]; exact e
  mono := Fle.up1 (s.none h)
  sub := s.up2
  new := fun a u e => by
    by_cases hb : a = p
    · subst hb; exact .inr h
    · rw [upd_ne hb] at e; exact .inl e
theorem PX.trans {A B A' B' A'' B'' : Hp} (a : PX A B A' B') (b : PX A' B' A'' B'') : PX A B A'' B'' where
  keep := fun x o h => b.keep x o (a.keep x o h)
  mono := a.mono.trans b.mono
  sub := b.sub
  new := fun x o h => by
    rcases b.new x o h with q | q
    · exact a.new x o q
    · refine .inr ?_
      cases e : B x with
      | none => rfl
      | some u => rw [a.keep x u e] at q; cases q
section
variable {T : Tx} {Γ : List (Kd T)} {fp : Nat → List Addr} {F F' H H' : Hp} {σ : L2.St} {s : En}
theorem PX.go (p : PX F H F' H') : Go fp fp F F' H H' := Go.ext p.keep p.mono p.new
theorem PX.sta (p : PX F H F' H') (S : Sta T Γ fp F H σ s) : Sta T Γ fp F' H' σ s := S.ext p.keep p.mono p.sub p.new
end

/-! ### names, constants -/
section
variable {X : Cx} {T : Tx} {W : WX} {Γ : List (Kd T)} {pos : Pos}
theorem Sta.var {fp : Nat → List Addr} {F H : Hp} {σ : L2.St} {s : En} (S : Sta T Γ fp F H σ s) {i : Nat} {d : D} (h : s[i]? = some (some d)) (hk : Γ[i]? = some .fz) : ∃ v, σ[i]? = some (some v) ∧ Rep T F d v := by
  have hi : i < s.length := (List.getElem?_eq_some_iff.mp h).1
  have hσ : i < σ.length := by rw [S.ls]; exact hi
  obtain ⟨_, v, e, r⟩ := S.ok i _ _ _ h (List.getElem?_eq_getElem hσ) hk
  exact ⟨v, by rw [List.getElem?_eq_getElem hσ, e], r⟩
theorem re_var {i : Nat} (hk : Γ[i]? = some .fz) : RE T W Γ (tVar i) (eV i) := by
  intro fp F H σ s Q S h
  unfold eV at h
  split at h
  · rename_i d e
    obtain ⟨v, e1, r⟩ := S.var e hk
    exact ⟨v, e1, h fp F H Go.refl S v r⟩
  · exact h.elim
theorem re_c {d : D} {v : V} (hr : ∀ F, Rep T F d v) : RE T W Γ (tC v) (eC d) := fun fp F H σ s Q S h => h fp F H Go.refl S v (hr F)
theorem xe_var (i : Nat) {x : Str} (hk : Γ[i]? = some .fz) (hN : X.N[i]? = some x) (hv : Vis X.env.scope x) (hd : (x == ("__debug__" : Str)) = false) (hcd : (x == ("__classdict__" : Str)) = false) : XE X T W Γ (.Name x pos) (eV i) :=
  ⟨_, pe_var hN hv hd hcd, re_var hk⟩
theorem xe_int {i : Int} {j : Nat} : XE X T W Γ (.Constant (.int i) j pos) (eC (.int i)) := ⟨_, pe_int, re_c fun _ => .int i⟩
theorem xe_bl {b : Bool} {j : Nat} : XE X T W Γ (.Constant (.bool b) j pos) (eC (.bl b)) := ⟨_, pe_bl, re_c fun _ => .bl b⟩
theorem xe_non {j : Nat} : XE X T W Γ (.Constant .none j pos) (eC .non) := ⟨_, pe_non, re_c fun _ => .non⟩
theorem xe_str {x : Str} {j : Nat} (s : List Nat) (h : x = stOf s) : XE X T W Γ (.Constant (.str x) j pos) (eC (.str s)) := ⟨_, pe_str, re_c fun _ => h ▸ .str s⟩
theorem xe_globI {x : Str} {i : Int} {t : Tok} (hg : Gl X x) (hm : X.mg x = some (.int i t)) (hd : (x == ("__debug__" : Str)) = false) : XE X T W Γ (.Name x pos) (eC (.int i)) :=
  ⟨_, pe_glob (v := .int i) hg hm ⟨_, rfl⟩ hd, re_c fun _ => .int i⟩
theorem xe_globS {x y : Str} {t : Tok} (s : List Nat) (h : y = stOf s) (hg : Gl X x) (hm : X.mg x = some (.str y t)) (hd : (x == ("__debug__" : Str)) = false) : XE X T W Γ (.Name x pos) (eC (.str s)) :=
  ⟨_, pe_glob (v := .str y) hg hm ⟨_, rfl⟩ hd, re_c fun _ => h ▸ .str s⟩
end

/-! ### operators -/
def OpK (T : Tx) (r : R2) (p : P2) : Prop := ∀ (F H : Hp) (x y : D) (v w : V) (d : D) (Q : VK), Fle F H → Rep T F x v → Rep T F y w → p x y = some d →
  (∀ F' H' u, PX F H F' H' → Rep T F' d u → Q u H') → r v w H Q
def UnK (T : Tx) (r : V → Hp → VK → Prop) (p : P1) : Prop := ∀ (F H : Hp) (x : D) (v : V) (d : D) (Q : VK), Fle F H → Rep T F x v → p x = some d →
  (∀ F' H' u, PX F H F' H' → Rep T F' d u → Q u H') → r v H Q
section
variable {X : Cx} {T : Tx} {W : WX} {Γ : List (Kd T)} {pos : Pos} {a b : Expr} {ta tb : TE} {ma mb : EX} {r : R2} {p : P2}
theorem po_ofO {fp : Nat → List Addr} {F H : Hp} {σ : L2.St} {s : En} {Q : VK} {o : Option D} (S : Sta T Γ fp F H σ s) (h : Po T W Γ fp F H σ (ofO o s) (fun d _ _ F' H' => ∀ v, Rep T F' d v → Q v H')) :
    ∃ d, o = some d ∧ ∀ F' H' u, PX F H F' H' → Rep T F' d u → Q u H' := by
  cases o with
  | none => exact h.elim
  | some d => exact ⟨d, rfl, fun F' H' u px r => h fp F' H' px.go (px.sta S) u r⟩
theorem re_e2 (hk : OpK T r p) (ha : RE T W Γ ta ma) (hb : RE T W Γ tb mb) : RE T W Γ (tOp r ta tb) (e2 p ma mb) := by
  intro fp F H σ s Q S h
  refine ha fp F H σ s _ S (h.bind.imp fun x s1 fp1 F1 H1 g1 S1 h2 v rv => ?_)
  refine hb fp1 F1 H1 σ s1 _ S1 (h2.bind.imp fun y s2 fp2 F2 H2 g2 S2 h3 w rw' => ?_)
  obtain ⟨d, e, q⟩ := po_ofO S2 h3
  exact hk F2 H2 x y v w d Q S2.sub (rv.fle g2.mono) rw' e q
theorem re_e1 {r : V → Hp → VK → Prop} {p : P1} (hk : UnK T r p) (ha : RE T W Γ ta ma) : RE T W Γ (tUn r ta) (e1 p ma) := by
  intro fp F H σ s Q S h
  refine ha fp F H σ s _ S (h.bind.imp fun x s1 fp1 F1 H1 g1 S1 h2 v rv => ?_)
  obtain ⟨d, e, q⟩ := po_ofO S1 h2
  exact hk F1 H1 x v d Q S1.sub rv e q
theorem xe_op {op : Operator} (ho : OpR X (binaryOp op) r) (hk : OpK T r p) (ha : XE X T W Γ a ma) (hb : XE X T W Γ b mb) : XE X T W Γ (.BinOp a op b pos) (e2 p ma mb) := by
  obtain ⟨ta, p1, r1⟩ := ha
  obtain ⟨tb, p2, r2⟩ := hb
  exact ⟨_, pe_op ho p1 p2, re_e2 hk r1 r2⟩
theorem xe_un {op : UnaryOp} {r : V → Hp → VK → Prop} {p : P1} (ho : UnR X (unaryOp op) r) (hk : UnK T r p) (ha : XE X T W Γ a ma) : XE X T W Γ (.UnaryOp op a pos) (e1 p ma) := by
  obtain ⟨ta, p1, r1⟩ := ha
  exact ⟨_, pe_un ho p1, re_e1 hk r1⟩
theorem xe_cmp {op : CmpOp} (ho : OpR X (compareOp op) r) (hk : OpK T r p) (hm : behindInMarks op b = false) (ha : XE X T W Γ a ma) (hb : XE X T W Γ b mb) : XE X T W Γ (.Compare a [op] [b] pos) (e2 p ma mb) := by
  obtain ⟨ta, p1, r1⟩ := ha
  obtain ⟨tb, p2, r2⟩ := hb
  exact ⟨_, pe_cmpR ho p1 p2 hm, re_e2 hk r1 r2⟩
end

/-! ### the operators one by one -/
section
variable {X : Cx} {T : Tx}
theorem line_le {n : Nat} (h : n ≤ line) : n ≤ sizeLine := Nat.le_trans h (by decide)
def rAddA (K : PySem.W.Frag) : R2 := fun x y H Q => (rI0 (fun i j => .int (i + j)) x y H Q ∨ (fun x y H Q => ∃ i j, x = .str i ∧ y = .str j ∧ i.length + j.length ≤ sizeLine ∧ Q (.str (i ++ j)) H) x y H Q) ∨ rCat x y H Q ∨ rCatA K x y H Q
theorem op_addA : OpR X (binaryOp .Add) (rAddA X.K) := (op_add.or op_add_str).or (op_cat.or op_catA)
theorem ok_add : OpK T (rAddA T.K) pAdd := by
  intro F H x y v w d Q S rx ry e q
  cases rx with
  | int i =>
    cases ry with
    | int j =>
      cases e
      exact .inl (.inl ⟨i, j, rfl, rfl, q F H _ (PX.refl S) (.int _)⟩)
    | _ => cases e
  | str i =>
    cases ry with
    | str j =>
      unfold pAdd at e
      dsimp only at e
      split at e
      · rename_i hz
        cases e
        refine .inl (.inr ⟨stOf i, stOf j, rfl, rfl, by rw [stOf_len, stOf_len]; exact line_le hz, ?_⟩)
        rw [stOf_app]
        exact q F H _ (PX.refl S) (.str _)
      · cases e
    | _ => cases e
  | @lst l vs ds hl rl =>
    cases ry with
    | @lst b ws es hb rb =>
      unfold pAdd at e
      dsimp only at e
      split at e
      · rename_i hz
        cases e
        refine .inr (.inl ⟨l, b, vs, ws, rfl, rfl, S _ _ hl, S _ _ hb, by rw [← rl.length, ← rb.length]; exact line_le hz, fun p hp => ?_⟩)
        have px := PX.alloc (o := .lst (vs ++ ws)) S hp
        exact q _ _ _ px (.lst upd_same ((rl.app rb).fle px.mono))
      · cases e
    | _ => cases e
  | @tup l vs ds hl rl =>
    cases ry with
    | @tup b ws es hb rb =>
      unfold pAdd at e
      dsimp only at e
      split at e
      · rename_i hz
        cases e
        refine .inr (.inr ⟨l, b, vs, ws, rfl, rfl, sqT_fle S hl, sqT_fle S hb, by rw [← rl.length, ← rb.length]; exact line_le hz, fun e0 => ?_, fun _ e0 => ?_, fun _ _ p hp => ?_⟩)
        · subst e0
          cases rl
          exact q _ _ _ (PX.refl S) (.tup hb rb)
        · subst e0
          cases rb
          rw [List.append_nil] at q
          exact q _ _ _ (PX.refl S) (.tup hl rl)
        · have px := PX.alloc (o := .tup (vs ++ ws)) S hp
          exact q _ _ _ px (.tup (SqT.of upd_same) ((rl.app rb).fle px.mono))
      · cases e
    | _ => cases e
  | _ => cases e
theorem ok_int2 {C : Int → Int → Prop} {g : Int → Int → D} {gv : Int → Int → V} {p : P2} (hp : ∀ x y d, p x y = some d → ∃ i j, x = .int i ∧ y = .int j ∧ C i j ∧ d = g i j) (hr : ∀ F i j, Rep T F (g i j) (gv i j)) : OpK T (rI C gv) p := by
  intro F H x y v w d Q S rx ry e q
  obtain ⟨i, j, rfl, rfl, hc, rfl⟩ := hp x y d e
  cases rx
  cases ry
  exact ⟨i, j, rfl, rfl, hc, q F H _ (PX.refl S) (hr F i j)⟩
theorem ok_int20 {g : Int → Int → D} {gv : Int → Int → V} {p : P2} (hp : ∀ x y d, p x y = some d → ∃ i j, x = .int i ∧ y = .int j ∧ d = g i j) (hr : ∀ F i j, Rep T F (g i j) (gv i j)) : OpK T (rI0 gv) p := by
  intro F H x y v w d Q S rx ry e q
  obtain ⟨i, j, rfl, rfl, rfl⟩ := hp x y d e
  cases rx
  cases ry
  exact ⟨i, j, rfl, rfl, q F H _ (PX.refl S) (hr F i j)⟩
theorem ok_sub : OpK T (rI0 fun i j => .int (i - j)) pSub := ok_int20 (g := fun i j => .int (i - j)) (fun x y d e => by
  unfold pSub at e; split at e <;> cases e; exact ⟨_, _, rfl, rfl, rfl⟩) fun _ _ _ => .int _
theorem ok_mod : OpK T (rI (fun _ j => 0 < j) fun i j => .int (i % j)) pMod := ok_int2 (g := fun i j => .int (i % j)) (fun x y d e => by
  unfold pMod at e
  split at e
  · split at e
    · cases e; exact ⟨_, _, rfl, rfl, by assumption, rfl⟩
    · cases e
  · cases e) fun _ _ _ => .int _
theorem ok_div : OpK T (rI CDiv fun i j => .int (i / j)) pDiv := ok_int2 (g := fun i j => .int (i / j)) (fun x y d e => by
  unfold pDiv at e
  split at e
  · split at e
    · cases e; exact ⟨_, _, rfl, rfl, by assumption, rfl⟩
    · cases e
  · cases e) fun _ _ _ => .int _
theorem ok_divW : OpK T (rI CDivW fun i j => .int (i / j)) pDivW := ok_int2 (g := fun i j => .int (i / j)) (fun x y d e => by
  unfold pDivW at e
  split at e
  · split at e
    · rename_i h; cases e; exact ⟨_, _, rfl, rfl, wide_div (i := 0) h.1 h.2 (by decide) (by decide), rfl⟩
    · cases e
  · cases e) fun _ _ _ => .int _
theorem ok_pow : OpK T (rI CPow fun i j => .int (i ^ j.toNat)) pPow := ok_int2 (g := fun i j => .int (i ^ j.toNat)) (fun x y d e => by
  unfold pPow at e
  split at e
  · split at e
    · cases e; exact ⟨_, _, rfl, rfl, by assumption, rfl⟩
    · cases e
  · cases e) fun _ _ _ => .int _
theorem ok_neg : UnK T (rU fun i => .int (-i)) pNeg := by
  intro F H x v d Q S rx e q
  unfold pNeg at e
  split at e
  · cases e; cases rx; exact ⟨_, rfl, q F H _ (PX.refl S) (.int _)⟩
  · cases e
end
end RX

set_option Elab.async false
set_option linter.all false
set_option maxRecDepth 100000
set_option maxHeartbeats 4000000
/-! RX3: comparisons, tests, displays, places, built-in functions. -/
namespace RX
open PySem PySem.Spec PyProof.Rows L2 PL

/-! ### == of plainD data -/
mutual
def toPy : D → PyData
  | .non => .none
  | .bl b => .bool b
  | .int i => .int i
  | .str s => .str (stOf s)
  | .lst xs => .list (toPys xs)
  | .tup xs => .tuple (toPys xs)
  | _ => .none
def toPys : List D → List PyData
  | [] => []
  | x :: xs => toPy x :: toPys xs
end
theorem sok_st (s : List Nat) : PySem.PyData.strOk (stOf s) = strOkD s := by
  unfold PySem.PyData.strOk strOkD stOf
  simp
theorem plain_lst {n : Nat} {xs : List D} (h : plainD n (.lst xs) = true) : ∃ m, n = m + 1 ∧ ∀ x ∈ xs, plainD m x = true := by
  cases n with
  | zero => simp [plainD] at h
  | succ m => exact ⟨m, rfl, by simpa [plainD] using h⟩
theorem plain_tup {n : Nat} {xs : List D} (h : plainD n (.tup xs) = true) : ∃ m, n = m + 1 ∧ ∀ x ∈ xs, plainD m x = true := by
  cases n with
  | zero => simp [plainD] at h
  | succ m => exact ⟨m, rfl, by simpa [plainD] using h⟩
theorem plain_str {n : Nat} {s : List Nat} (h : plainD n (.str s) = true) : strOkD s = true := by
  cases n <;> simpa [plainD] using h
section
variable {T : Tx} {F : Hp}
mutual
theorem rep_dp : ∀ (d : D) (n : Nat) (v : V), plainD n d = true → Rep T F d v → Dp T.K F v (toPy d)
  | .non, _, _, _, .non => .non
  | .bl b, _, _, _, .bl _ => .bl b
  | .int i, _, _, _, .int _ => .int i
  | .str s, _, _, _, .str _ => .str _
  | .lst xs, n, _, h, .lst hl r => by
    obtain ⟨m, rfl, h2⟩ := plain_lst h
    exact .lst (SqL.of hl) (reps_dp xs m _ h2 r)
  | .tup xs, n, _, h, .tup hl r => by
    obtain ⟨m, rfl, h2⟩ := plain_tup h
    exact .tup hl (reps_dp xs m _ h2 r)
  | .dic [], n, _, h, _ => by cases n <;> simp [plainD] at h
  | .dic (_ :: _), n, _, h, _ => by cases n <;> simp [plainD] at h
  | .ins _ _, n, _, h, _ => by cases n <;> simp [plainD] at h
  | .exn _ _, n, _, h, _ => by cases n <;> simp [plainD] at h
  | .clo _, n, _, h, _ => by cases n <;> simp [plainD] at h
theorem reps_dp : ∀ (ds : List D) (n : Nat) (vs : List V), (∀ x ∈ ds, plainD n x = true) → RepL T F ds vs → DpAll T.K F vs (toPys ds)
  | [], _, _, _, .nil => .nil
  | d :: ds, n, _, h, .cons r rs => .cons (rep_dp d n _ (h d List.mem_cons_self) r) (reps_dp ds n _ (fun x hx => h x (List.mem_cons_of_mem _ hx)) rs)
end
end
mutual
theorem lay_py : ∀ (d : D) (n : Nat), plainD n d = true → (toPy d).canLay0 = true ∧ (toPy d).depth ≤ n
  | .non, _, _ => by simp [toPy, PyData.canLay0, PyData.depth]
  | .bl b, _, _ => by simp [toPy, PyData.canLay0, PyData.depth]
  | .int i, _, _ => by simp [toPy, PyData.canLay0, PyData.depth]
  | .str s, _, h => by simp [toPy, PyData.canLay0, PyData.depth, sok_st, plain_str h]
  | .lst xs, n, h => by
    obtain ⟨m, rfl, h2⟩ := plain_lst h
    have q := lays_py xs m h2
    simp only [toPy, PyData.canLay0, PyData.depth]
    exact ⟨q.1, Nat.succ_le_succ q.2⟩
  | .tup xs, n, h => by
    obtain ⟨m, rfl, h2⟩ := plain_tup h
    have q := lays_py xs m h2
    simp only [toPy, PyData.canLay0, PyData.depth]
    exact ⟨q.1, Nat.succ_le_succ q.2⟩
  | .dic _, n, h => by cases n <;> simp [plainD] at h
  | .ins _ _, n, h => by cases n <;> simp [plainD] at h
  | .exn _ _, n, h => by cases n <;> simp [plainD] at h
  | .clo _, n, h => by cases n <;> simp [plainD] at h
theorem lays_py : ∀ (ds : List D) (n : Nat), (∀ x ∈ ds, plainD n x = true) → PyData.canLayAll0 (toPys ds) = true ∧ PyData.depthAll (toPys ds) ≤ n
  | [], _, _ => by simp [toPys, PyData.canLayAll0, PyData.depthAll]
  | d :: ds, n, h => by
    have q1 := lay_py d n (h d List.mem_cons_self)
    have q2 := lays_py ds n (fun x hx => h x (List.mem_cons_of_mem _ hx))
    simp only [toPys, PyData.canLayAll0, PyData.depthAll, q1.1, q2.1, Bool.and_self, true_and]
    exact Nat.max_le.mpr ⟨q1.2, q2.2⟩
end
theorem shaped_py {d : D} (h : plainD 64 d = true) : SeqAt.shaped (toPy d) = true := by
  obtain ⟨h1, h2⟩ := lay_py d 64 h
  unfold SeqAt.shaped
  rw [h1, decide_eq_true h2]; rfl
theorem st_beq (x y : List Nat) : (stOf x == stOf y) = (x == y) := by
  by_cases h : x = y
  · subst h; simp
  · have h2 : stOf x ≠ stOf y := fun e => h (by rw [← stOf_list x, e, stOf_list])
    rw [beq_eq_false_iff_ne.mpr h, beq_eq_false_iff_ne.mpr h2]
theorem eqv_py : ∀ (n : Nat) (a b : D) (m : Nat), plainD n a = true → plainD m b = true → PyData.eqv (toPy a) (toPy b) = eqv a b := by
  intro n
  induction n with
  | zero =>
    intro a b m h1 h2
    cases a <;> first
      | (simp only [plainD] at h1; cases h1; done)
      | (cases b <;> first
          | (cases m <;> simp only [plainD] at h2 <;> cases h2 <;> done)
          | (simp only [toPy, PyData.eqv, eqv, st_beq]; done))
  | succ n ih =>
    have lists : ∀ (xs ys : List D) (m : Nat), (∀ x ∈ xs, plainD n x = true) → (∀ x ∈ ys, plainD m x = true) → PyData.eqvAll (toPys xs) (toPys ys) = eqvs xs ys := by
      intro xs
      induction xs with
      | nil => intro ys m _ _; cases ys <;> simp only [toPys, PyData.eqvAll, eqvs]
      | cons x xs ihx =>
        intro ys m q1 q2
        cases ys with
        | nil => simp only [toPys, PyData.eqvAll, eqvs]
        | cons y ys =>
          simp only [toPys, PyData.eqvAll, eqvs]
          rw [ih x y m (q1 x List.mem_cons_self) (q2 y List.mem_cons_self), ihx ys m (fun z hz => q1 z (List.mem_cons_of_mem _ hz)) fun z hz => q2 z (List.mem_cons_of_mem _ hz)]
    intro a b m h1 h2
    cases a with
    | lst xs =>
      obtain ⟨n', e, q1⟩ := plain_lst h1
      cases e
      cases b with
      | lst ys =>
        obtain ⟨m', rfl, q2⟩ := plain_lst h2
        simp only [toPy, PyData.eqv, eqv]
        exact lists xs ys m' q1 q2
      | _ => first
        | (cases m <;> simp only [plainD] at h2 <;> cases h2 <;> done)
        | (simp only [toPy, PyData.eqv, eqv]; done)
    | tup xs =>
      obtain ⟨n', e, q1⟩ := plain_tup h1
      cases e
      cases b with
      | tup ys =>
        obtain ⟨m', rfl, q2⟩ := plain_tup h2
        simp only [toPy, PyData.eqv, eqv]
        exact lists xs ys m' q1 q2
      | _ => first
        | (cases m <;> simp only [plainD] at h2 <;> cases h2 <;> done)
        | (simp only [toPy, PyData.eqv, eqv]; done)
    | _ => first
      | (simp only [plainD] at h1; cases h1; done)
      | (cases b <;> first
          | (cases m <;> simp only [plainD] at h2 <;> cases h2 <;> done)
          | (simp only [toPy, PyData.eqv, eqv, st_beq]; done))
section
variable {X : Cx} {T : Tx}
theorem ok_eq : OpK T (rEqD T.K) pEq := by
  intro F H x y v w d Q S rx ry e q
  unfold pEq at e
  split at e
  · rename_i h
    obtain ⟨h1, h2⟩ := Bool.and_eq_true_iff.mp h
    cases e
    refine ⟨_, _, rep_dp x 64 v h1 (rx.fle S), rep_dp y 64 w h2 (ry.fle S), shaped_py h1, shaped_py h2, ?_⟩
    rw [eqv_py 64 x y 64 h1 h2]
    exact q F H _ (PX.refl S) (.bl _)
  · cases e
theorem ok_ne : OpK T (rNeD T.K) pNe := by
  intro F H x y v w d Q S rx ry e q
  unfold pNe at e
  split at e
  · rename_i h
    obtain ⟨h1, h2⟩ := Bool.and_eq_true_iff.mp h
    cases e
    refine ⟨_, _, rep_dp x 64 v h1 (rx.fle S), rep_dp y 64 w h2 (ry.fle S), shaped_py h1, shaped_py h2, ?_⟩
    rw [eqv_py 64 x y 64 h1 h2]
    exact q F H _ (PX.refl S) (.bl _)
  · cases e
theorem ok_lt : OpK T (rI0 fun i j => .bl (decide (i < j))) pLt := ok_int20 (g := fun i j => .bl (decide (i < j))) (fun x y d e => by
  unfold pLt at e; split at e <;> cases e; exact ⟨_, _, rfl, rfl, rfl⟩) fun _ _ _ => .bl _
theorem ok_le : OpK T (rI0 fun i j => .bl (decide (i ≤ j))) pLe := ok_int20 (g := fun i j => .bl (decide (i ≤ j))) (fun x y d e => by
  unfold pLe at e; split at e <;> cases e; exact ⟨_, _, rfl, rfl, rfl⟩) fun _ _ _ => .bl _
theorem ok_gt : OpK T (rI0 fun i j => .bl (decide (j < i))) pGt := ok_int20 (g := fun i j => .bl (decide (j < i))) (fun x y d e => by
  unfold pGt at e; split at e <;> cases e; exact ⟨_, _, rfl, rfl, rfl⟩) fun _ _ _ => .bl _
theorem ok_ge : OpK T (rI0 fun i j => .bl (decide (j ≤ i))) pGe := ok_int20 (g := fun i j => .bl (decide (j ≤ i))) (fun x y d e => by
  unfold pGe at e; split at e <;> cases e; exact ⟨_, _, rfl, rfl, rfl⟩) fun _ _ _ => .bl _
theorem isNon_rep {F : Hp} {x : D} {v : V} (r : Rep T F x v) : decide (v = .non) = isNonD x := by
  cases r <;> simp [isNonD]
theorem ok_isB : OpK T rIsB pIsB := by
  intro F H x y v w d Q S rx ry e q
  unfold pIsB at e
  split at e
  · cases e; cases rx; cases ry; exact ⟨_, _, rfl, rfl, q F H _ (PX.refl S) (.bl _)⟩
  · cases e
theorem mem_py : ∀ (ys : List D) (x : D), plainD 63 x = true → (∀ y ∈ ys, plainD 63 y = true) → ((toPys ys).any fun z => PyData.eqv z (toPy x)) = ys.any fun y => eqv y x
  | [], _, _, _ => rfl
  | y :: ys, x, h, h2 => by
    simp only [toPys, List.any_cons]
    rw [eqv_py 63 y x 63 (h2 y List.mem_cons_self) h, mem_py ys x h fun z hz => h2 z (List.mem_cons_of_mem _ hz)]
theorem plain_mono : ∀ {n : Nat} {d : D}, plainD n d = true → plainD (n + 1) d = true
  | n, .non, _ | n, .bl _, _ | n, .int _, _ => by simp [plainD]
  | n, .str s, h => by simpa [plainD] using plain_str h
  | n, .lst xs, h => by
    obtain ⟨m, rfl, h2⟩ := plain_lst h
    have : ∀ x ∈ xs, plainD (m + 1) x = true := fun x hx => plain_mono (h2 x hx)
    simpa [plainD] using this
  | n, .tup xs, h => by
    obtain ⟨m, rfl, h2⟩ := plain_tup h
    have : ∀ x ∈ xs, plainD (m + 1) x = true := fun x hx => plain_mono (h2 x hx)
    simpa [plainD] using this
  | n, .dic _, h | n, .ins _ _, h | n, .exn _ _, h | n, .clo _, h => by cases n <;> simp [plainD] at h
def rInA (K : PySem.W.Frag) : R2 := fun x y H Q => rInD K x y H Q ∨ (fun x y H Q => ∃ (c : Nat) (z : Str), x = .str ⟨#[c]⟩ ∧ y = .str z ∧ Q (.bl (decide (c ∈ z.cps.toList))) H) x y H Q
def rNotInA (K : PySem.W.Frag) : R2 := fun x y H Q => rNotInD K x y H Q ∨ (fun x y H Q => ∃ (c : Nat) (z : Str), x = .str ⟨#[c]⟩ ∧ y = .str z ∧ Q (.bl (!decide (c ∈ z.cps.toList))) H) x y H Q
theorem op_inA (hu : X.A.units + 65 < cLine) : OpR X (compareOp .In) (rInA X.K) := (op_inD hu).or op_in_sign
theorem op_notInA (hu : X.A.units + 65 < cLine) : OpR X (compareOp .NotIn) (rNotInA X.K) := (op_notInD hu).or op_notIn_sign
theorem ok_in : OpK T (rInA T.K) pIn := by
  intro F H x y v w d Q S rx ry e q
  unfold pIn at e
  split at e
  · rename_i ys
    split at e
    · rename_i h
      obtain ⟨h1, h2⟩ := Bool.and_eq_true_iff.mp h
      have h2 : ∀ y ∈ ys, plainD 63 y = true := by simpa using h2
      cases e
      have hp : plainD 64 (.lst ys) = true := by simpa [plainD] using h2
      refine .inl ⟨toPy x, toPys ys, rep_dp x 63 v h1 (rx.fle S), rep_dp (.lst ys) 64 w hp (ry.fle S), shaped_py (plain_mono h1), shaped_py hp, ?_⟩
      rw [mem_py ys x h1 h2]
      exact q F H _ (PX.refl S) (.bl _)
    · cases e
  · cases e
    cases rx
    cases ry
    refine .inr ⟨_, _, rfl, rfl, ?_⟩
    rw [stOf_list]
    exact q F H _ (PX.refl S) (.bl _)
  · cases e
theorem ok_notIn : OpK T (rNotInA T.K) pNotIn := by
  intro F H x y v w d Q S rx ry e q
  unfold pNotIn pIn at e
  split at e
  · rename_i b hb
    cases e
    split at hb
    · rename_i ys
      split at hb
      · rename_i h
        obtain ⟨h1, h2⟩ := Bool.and_eq_true_iff.mp h
        have h2 : ∀ y ∈ ys, plainD 63 y = true := by simpa using h2
        cases hb
        have hp : plainD 64 (.lst ys) = true := by simpa [plainD] using h2
        refine .inl ⟨toPy x, toPys ys, rep_dp x 63 v h1 (rx.fle S), rep_dp (.lst ys) 64 w hp (ry.fle S), shaped_py (plain_mono h1), shaped_py hp, ?_⟩
        rw [mem_py ys x h1 h2]
        exact q F H _ (PX.refl S) (.bl _)
      · cases hb
    · cases hb
      cases rx
      cases ry
      refine .inr ⟨_, _, rfl, rfl, ?_⟩
      rw [stOf_list]
      exact q F H _ (PX.refl S) (.bl _)
    · cases hb
  · cases e
end

/-! ### tests -/
section
variable {X : Cx} {T : Tx} {W : WX} {Γ : List (Kd T)} {pos : Pos} {a b c : Expr} {ta tb te : TE} {ma mb m : EX} {r : R2} {p : P2} {rest : List Expr} {mt mu : TX}
theorem rt_B (h : RE T W Γ te m) : RT T W Γ (tTest te) (uB m) := by
  intro fp F H σ s Q S h1
  refine h fp F H σ s _ S (h1.bind.imp fun x s1 fp1 F1 H1 g1 S1 h2 v rv => ?_)
  cases x with
  | bl b =>
    cases rv
    exact ⟨b, rfl, h2 fp1 F1 H1 Go.refl S1⟩
  | _ => exact h2.elim
theorem xt_cmp {op : CmpOp} (ho : OpR X (compareOp op) r) (hk : OpK T r p) (hm : behindInMarks op b = false) (ha : XE X T W Γ a ma) (hb : XE X T W Γ b mb) : XT X T W Γ (.Compare a [op] [b] pos) (uB (e2 p ma mb)) := by
  obtain ⟨ta, p1, r1⟩ := ha
  obtain ⟨tb, p2, r2⟩ := hb
  exact ⟨_, pt_cmpR ho p1 p2 hm, rt_B (re_e2 hk r1 r2)⟩
theorem xt_val (ha : XE X T W Γ a m) (he : ∀ whole, isTrue a X.env whole = (do let v ← whole; standAt a.pos; holding [v] (truthy v))) : XT X T W Γ a (uB m) := by
  obtain ⟨ta, p1, r1⟩ := ha
  exact ⟨_, pt_val p1 he, rt_B r1⟩
theorem truth_ok {F H : Hp} {x : D} {v : V} {b : Bool} (S : Fle F H) (r : Rep T F x v) (e : truth x = some b) : TruV T.K v H b := by
  cases r with
  | non => cases e; rfl
  | bl c => cases e; rfl
  | int i => cases e; rfl
  | str z =>
    unfold truth at e
    dsimp only at e
    split at e
    · rename_i hz
      cases e
      refine ⟨by rw [stOf_len]; exact line_le hz, ?_⟩
      rw [stOf_len]
      cases z with
      | nil => rfl
      | cons c z =>
        have h2 : ((List.length (c :: z) : Nat) : Int) ≠ 0 := by rw [List.length_cons]; omega
        show true = (((List.length (c :: z) : Nat) : Int) != 0)
        exact (bne_iff_ne.mpr h2).symm
    · cases e
  | @lst a vs ds hl rl =>
    cases e
    refine .inl ⟨vs, SqL.of (S _ _ hl), ?_⟩
    cases rl <;> rfl
  | @tup a vs ds hl rl =>
    cases e
    refine .inr (.inl ⟨vs, sqT_fle S hl, ?_⟩)
    cases rl <;> rfl
  | _ => cases e
theorem xt_tr (hK : X.K = T.K) (ha : XE X T W Γ a m) (he : ∀ whole, isTrue a X.env whole = (do let v ← whole; standAt a.pos; holding [v] (truthy v))) : XT X T W Γ a (uTr m) := by
  obtain ⟨ta, p1, r1⟩ := ha
  refine ⟨_, pt_truth p1 he, ?_⟩
  intro fp F H σ s Q S h1
  refine r1 fp F H σ s _ S (h1.bind.imp fun x s1 fp1 F1 H1 g1 S1 h2 v rv => ?_)
  cases e : truth x with
  | none => rw [e] at h2; exact h2.elim
  | some b =>
    rw [e] at h2
    exact ⟨b, by rw [hK]; exact truth_ok S1.sub rv e, h2 fp1 F1 H1 Go.refl S1⟩
theorem xt_not (ha : XT X T W Γ a mt) : XT X T W Γ (.UnaryOp .Not a pos) (uNot mt) := by
  obtain ⟨ta, p1, r1⟩ := ha
  refine ⟨_, pt_not p1, ?_⟩
  intro fp F H σ s Q S h1
  exact r1 fp F H σ s _ S (h1.bind.imp fun x s1 fp1 F1 H1 g1 S1 h2 => h2 fp1 F1 H1 Go.refl S1)
theorem xw_and1 (ha : XT X T W Γ a mt) : XW X T W Γ (.BoolOp .And [a] pos) mt := by
  obtain ⟨ta, p1, r1⟩ := ha
  exact ⟨_, pw_and1 p1, r1⟩
theorem xw_or1 (ha : XT X T W Γ a mt) : XW X T W Γ (.BoolOp .Or [a] pos) mt := by
  obtain ⟨ta, p1, r1⟩ := ha
  exact ⟨_, pw_or1 p1, r1⟩
theorem rt_and {tA tB' : TT} (h1 : RT T W Γ tA mt) (h2 : RT T W Γ tB' mu) : RT T W Γ (L2.tAnd tA tB') (uAnd mt mu) := by
  intro fp F H σ s Q S h
  refine h1 fp F H σ s _ S (h.bind.imp fun x s1 fp1 F1 H1 g1 S1 q => ?_)
  cases x with
  | true => exact h2 fp1 F1 H1 σ s1 Q S1 q
  | false => exact q fp1 F1 H1 Go.refl S1
theorem rt_or {tA tB' : TT} (h1 : RT T W Γ tA mt) (h2 : RT T W Γ tB' mu) : RT T W Γ (L2.tOr tA tB') (uOr mt mu) := by
  intro fp F H σ s Q S h
  refine h1 fp F H σ s _ S (h.bind.imp fun x s1 fp1 F1 H1 g1 S1 q => ?_)
  cases x with
  | true => exact q fp1 F1 H1 Go.refl S1
  | false => exact h2 fp1 F1 H1 σ s1 Q S1 q
theorem xw_and (ha : XT X T W Γ a mt) (hb : XW X T W Γ (.BoolOp .And (b :: rest) pos) mu) : XW X T W Γ (.BoolOp .And (a :: b :: rest) pos) (uAnd mt mu) := by
  obtain ⟨ta, p1, r1⟩ := ha
  obtain ⟨tb, p2, r2⟩ := hb
  exact ⟨_, pw_and p1 p2, rt_and r1 r2⟩
theorem xw_or (ha : XT X T W Γ a mt) (hb : XW X T W Γ (.BoolOp .Or (b :: rest) pos) mu) : XW X T W Γ (.BoolOp .Or (a :: b :: rest) pos) (uOr mt mu) := by
  obtain ⟨ta, p1, r1⟩ := ha
  obtain ⟨tb, p2, r2⟩ := hb
  exact ⟨_, pw_or p1 p2, rt_or r1 r2⟩
theorem XW.xt (h : XW X T W Γ a mt) : XT X T W Γ a mt := by
  obtain ⟨ta, p1, r1⟩ := h
  exact ⟨_, p1.pt, r1⟩

/-! ### and, or, not, if as values -/
theorem xe_one {op : BoolOp} (ha : XE X T W Γ a ma) : XE X T W Γ (.BoolOp op [a] pos) ma := by
  obtain ⟨ta, p1, r1⟩ := ha
  exact ⟨_, pe_one p1, r1⟩
theorem xe_and (ha : XE X T W Γ a ma) (hb : XE X T W Γ (.BoolOp .And (b :: rest) pos) mb) : XE X T W Γ (.BoolOp .And (a :: b :: rest) pos) (PL.eAnd ma mb) := by
  obtain ⟨ta, p1, r1⟩ := ha
  obtain ⟨tb, p2, r2⟩ := hb
  refine ⟨_, pe_and p1 p2, ?_⟩
  intro fp F H σ s Q S h
  refine r1 fp F H σ s _ S (h.bind.imp fun x s1 fp1 F1 H1 g1 S1 q v rv => ?_)
  cases x with
  | bl c =>
    cases rv
    cases c with
    | true => exact ⟨true, rfl, r2 fp1 F1 H1 σ s1 Q S1 q⟩
    | false => exact ⟨false, rfl, q fp1 F1 H1 Go.refl S1 _ (.bl false)⟩
  | _ => exact q.elim
theorem xe_or (ha : XE X T W Γ a ma) (hb : XE X T W Γ (.BoolOp .Or (b :: rest) pos) mb) : XE X T W Γ (.BoolOp .Or (a :: b :: rest) pos) (PL.eOr ma mb) := by
  obtain ⟨ta, p1, r1⟩ := ha
  obtain ⟨tb, p2, r2⟩ := hb
  refine ⟨_, pe_or p1 p2, ?_⟩
  intro fp F H σ s Q S h
  refine r1 fp F H σ s _ S (h.bind.imp fun x s1 fp1 F1 H1 g1 S1 q v rv => ?_)
  cases x with
  | bl c =>
    cases rv
    cases c with
    | true => exact ⟨true, rfl, q fp1 F1 H1 Go.refl S1 _ (.bl true)⟩
    | false => exact ⟨false, rfl, r2 fp1 F1 H1 σ s1 Q S1 q⟩
  | _ => exact q.elim
theorem xe_not (ha : XE X T W Γ a ma) : XE X T W Γ (.UnaryOp .Not a pos) (PL.eNot ma) := by
  obtain ⟨ta, p1, r1⟩ := ha
  refine ⟨_, pe_not p1, ?_⟩
  intro fp F H σ s Q S h
  refine r1 fp F H σ s _ S (h.bind.imp fun x s1 fp1 F1 H1 g1 S1 q v rv => ?_)
  cases x with
  | bl c =>
    cases rv
    exact ⟨c, rfl, q fp1 F1 H1 Go.refl S1 _ (.bl _)⟩
  | _ => exact q.elim
theorem xe_if (ht : XT X T W Γ c mt) (ha : XE X T W Γ a ma) (hb : XE X T W Γ b mb) : XE X T W Γ (.IfExp c a b pos) (PL.eIf mt ma mb) := by
  obtain ⟨tc, p0, r0⟩ := ht
  obtain ⟨ta, p1, r1⟩ := ha
  obtain ⟨tb, p2, r2⟩ := hb
  refine ⟨_, pe_ifExp p0 p1 p2, ?_⟩
  intro fp F H σ s Q S h
  refine r0 fp F H σ s _ S (h.bind.imp fun x s1 fp1 F1 H1 g1 S1 q => ?_)
  cases x with
  | true => exact r1 fp1 F1 H1 σ s1 Q S1 q
  | false => exact r2 fp1 F1 H1 σ s1 Q S1 q
/-- a op b op' c -/
theorem re_ch {r' : R2} {p' : P2} {tc : TE} {mc : EX} (hk : OpK T r p) (hk' : OpK T r' p') (hb : ∀ x y d, p x y = some d → ∃ b, d = .bl b) (ra : RE T W Γ ta ma) (rb : RE T W Γ tb mb) (rc : RE T W Γ tc mc) : RE T W Γ (tChain r r' ta tb tc) (eCh p p' ma mb mc) := by
  intro fp F H σ s Q S h
  refine ra fp F H σ s _ S (h.bind.imp fun x s1 fp1 F1 H1 g1 S1 h2 v rv => ?_)
  refine rb fp1 F1 H1 σ s1 _ S1 (h2.bind.imp fun y s2 fp2 F2 H2 g2 S2 h3 w rw' => ?_)
  cases e : p x y with
  | none => rw [e] at h3; exact h3.elim
  | some d =>
    rw [e] at h3
    obtain ⟨k, rfl⟩ := hb x y d e
    refine hk F2 H2 x y v w _ _ S2.sub (rv.fle g2.mono) rw' e fun F3 H3 u px ru => ?_
    cases ru
    refine ⟨k, rfl, ?_⟩
    cases k with
    | true =>
      have S3 := px.sta S2
      have h4 : Po T W Γ fp2 F3 H3 σ ((mc s2).bind fun z s => ofO (p' y z) s) (fun d _ _ F' H' => ∀ v, Rep T F' d v → Q v H') := by
        have h3' : Po T W Γ fp2 F2 H2 σ ((mc s2).bind fun z s => ofO (p' y z) s) (fun d _ _ F' H' => ∀ v, Rep T F' d v → Q v H') := h3
        cases e2 : (mc s2).bind fun z s => ofO (p' y z) s with
        | ok d s' => rw [e2] at h3'; exact fun fp' F' H' g => h3' fp' F' H' (px.go.trans g)
        | ex c fs s' => rw [e2] at h3'; exact fun fp' F' H' od g => h3' fp' F' H' od (px.go.trans g)
        | no => rw [e2] at h3'; exact h3'
      show (if true = true then tc σ H3 _ else _)
      rw [if_pos rfl]
      refine rc fp2 F3 H3 σ s2 _ S3 (h4.bind.imp fun z s4 fp4 F4 H4 g4 S4 h5 w' rw'' => ?_)
      obtain ⟨d, e3, q⟩ := po_ofO S4 h5
      exact hk' F4 H4 y z w w' d Q S4.sub ((rw'.fle px.mono).fle g4.mono) rw'' e3 q
    | false =>
      show (if false = true then _ else Q (.bl false) H3)
      rw [if_neg Bool.false_ne_true]
      exact h3 fp2 F3 H3 px.go (px.sta S2) _ (.bl false)
end
end RX

set_option Elab.async false
set_option linter.all false
set_option maxRecDepth 100000
set_option maxHeartbeats 4000000
/-! RX4: displays, places, slices, built-in functions, calls. -/
namespace RX
open PySem PySem.Spec PyProof.Rows L2 PL

section
variable {X : Cx} {T : Tx} {W : WX} {Γ : List (Kd T)} {pos : Pos} {e a b c : Expr} {es : List Expr} {ta tb te : TE} {tl : TA} {ma mb m : EX} {l : LX}
/-! ### argument lists, displays -/
theorem xa_nil : XA X T W Γ [] lNil := ⟨_, pa_nil, fun fp F H σ s Q S h => h fp F H Go.refl S [] .nil⟩
theorem xa_cons (ha : XE X T W Γ e m) (hr : XA X T W Γ es l) (hs : starEach (e :: es) X.env = (false, eval e X.env) :: starEach es X.env) : XA X T W Γ (e :: es) (lCons m l) := by
  obtain ⟨ta, p1, r1⟩ := ha
  obtain ⟨tr, p2, r2⟩ := hr
  refine ⟨_, pa_cons p1 p2 hs, ?_⟩
  intro fp F H σ s Q S h
  refine r1 fp F H σ s _ S (h.bind.imp fun x s1 fp1 F1 H1 g1 S1 h2 v rv => ?_)
  refine r2 fp1 F1 H1 σ s1 _ S1 (h2.bind.imp fun xs s2 fp2 F2 H2 g2 S2 h3 vs rvs => ?_)
  exact h3 fp2 F2 H2 Go.refl S2 (v :: vs) (.cons (rv.fle g2.mono) rvs)
theorem items_rep {F H : Hp} {x : D} {v : V} {ds : List D} (S : Fle F H) (r : Rep T F x v) (h : itemsD x = some ds) : ∃ a vs, v = .ref a ∧ (SqT T.K H a vs ∨ SqL T.K H a vs) ∧ RepL T F ds vs := by
  cases r with
  | lst hl rl => cases h; exact ⟨_, _, rfl, .inr (SqL.of (S _ _ hl)), rl⟩
  | tup hl rl => cases h; exact ⟨_, _, rfl, .inl (sqT_fle S hl), rl⟩
  | _ => cases h
theorem xa_star (hK : X.K = T.K) {p : Pos} (ha : XE X T W Γ e m) (hr : XA X T W Γ es l) (hs : starEach (.Starred e p :: es) X.env = (true, eval e X.env) :: starEach es X.env) : XA X T W Γ (.Starred e p :: es) (lStar m l) := by
  obtain ⟨ta, p1, r1⟩ := ha
  obtain ⟨tr, p2, r2⟩ := hr
  refine ⟨_, StX.pa_star p1 p2 hs, ?_⟩
  intro fp F H σ s Q S h
  refine r1 fp F H σ s _ S (h.bind.imp fun x s1 fp1 F1 H1 g1 S1 h2 v rv => ?_)
  cases e1 : itemsD x with
  | none => rw [e1] at h2; exact h2.elim
  | some ds =>
    rw [e1] at h2
    obtain ⟨p', vs, rfl, hq, rl⟩ := items_rep S1.sub rv e1
    refine ⟨p', vs, rfl, by rw [hK]; exact hq, ?_⟩
    have h2' : Po T W Γ fp1 F1 H1 σ ((l s1).bind fun xs s => .ok (ds ++ xs) s) (fun ds _ _ F' H' => ∀ vs, RepL T F' ds vs → Q vs H') := h2
    refine r2 fp1 F1 H1 σ s1 _ S1 (h2'.bind.imp fun xs s2 fp2 F2 H2 g2 S2 h3 ws rws => ?_)
    exact h3 fp2 F2 H2 Go.refl S2 (vs ++ ws) ((rl.fle g2.mono).app rws)
theorem xe_tup {k : Nat} (ha : XA X T W Γ es l) : XE X T W Γ (.Tuple es k pos) (eTup l) := by
  obtain ⟨ta, p1, r1⟩ := ha
  refine ⟨_, pe_tup p1, ?_⟩
  intro fp F H σ s Q S h
  refine r1 fp F H σ s _ S (h.bind.imp fun ds s1 fp1 F1 H1 g1 S1 h2 vs rv => ?_)
  split at h2
  · rename_i hz
    refine ⟨by rw [← rv.length]; exact line_le hz, fun p hp => ?_⟩
    have px := PX.alloc (o := .tup vs) S1.sub hp
    exact h2 fp1 _ _ px.go (px.sta S1) _ (.tup (SqT.of upd_same) (rv.fle px.mono))
  · exact h2.elim
theorem xe_lst (ha : XA X T W Γ es l) : XE X T W Γ (.List es pos) (eLst l) := by
  obtain ⟨ta, p1, r1⟩ := ha
  refine ⟨_, pe_lst p1, ?_⟩
  intro fp F H σ s Q S h
  refine r1 fp F H σ s _ S (h.bind.imp fun ds s1 fp1 F1 H1 g1 S1 h2 vs rv => ?_)
  split at h2
  · rename_i hz
    refine ⟨by rw [← rv.length]; exact line_le hz, fun p hp => ?_⟩
    have px := PX.alloc (o := .lst vs) S1.sub hp
    exact h2 fp1 _ _ px.go (px.sta S1) _ (.lst upd_same (rv.fle px.mono))
  · exact h2.elim

/-! ### places -/
theorem ixD_eq (n : Nat) (i : Int) : PL.ixD n i = L2.ixN n i := rfl
theorem atD_rep {F : Hp} {ds : List D} {vs : List V} {i : Int} {d : D} (r : RepL T F ds vs) (h : atD ds i = some d) : ∃ v, L2.atI vs i = some v ∧ Rep T F d v := by
  unfold atD at h
  cases e : ixD ds.length i with
  | none => rw [e] at h; cases h
  | some j =>
    rw [e] at h
    obtain ⟨v, h1, h2⟩ := r.get (show ds[j]? = some d from h)
    refine ⟨v, ?_, h2⟩
    unfold L2.atI
    rw [ixD_eq, r.length] at e
    rw [e]
    exact h1
theorem ok_ix : OpK T (rIx T.K) pIx := by
  intro F H x y v w d Q S rx ry e q
  unfold pIx at e
  split at e
  · cases rx with
    | @lst p vs ds hl rl =>
      cases ry
      obtain ⟨u, h1, h2⟩ := atD_rep rl e
      exact .inl ⟨p, vs, _, u, rfl, rfl, SqL.of (S _ _ hl), h1, q F H u (PX.refl S) h2⟩
  · cases rx with
    | @tup p vs ds hl rl =>
      cases ry
      obtain ⟨u, h1, h2⟩ := atD_rep rl e
      exact .inr (.inl ⟨p, vs, _, u, rfl, rfl, sqT_fle S hl, h1, q F H u (PX.refl S) h2⟩)
  · split at e
    · rename_i z i hz
      cases rx
      cases ry
      cases e2 : atD z i with
      | none => rw [e2] at e; cases e
      | some c =>
        rw [e2] at e
        cases e
        refine .inr (.inr ⟨stOf z, i, c, rfl, rfl, by rw [stOf_len]; exact line_le hz, by rw [stOf_list]; exact e2, ?_⟩)
        exact q F H _ (PX.refl S) (.str [c])
    · cases e
  · cases e
theorem xe_ix (hK : X.K = T.K) (hp : PlainIx b) (ha : XE X T W Γ a ma) (hb : XE X T W Γ b mb) : XE X T W Γ (.Subscript a b pos) (e2 pIx ma mb) := by
  obtain ⟨ta, p1, r1⟩ := ha
  obtain ⟨tb, p2, r2⟩ := hb
  refine ⟨_, pe_ix ix_seq p1 p2 hp, ?_⟩
  rw [hK]
  exact re_e2 ok_ix r1 r2

/-! ### slices -/
def RO (T : Tx) (W : WX) (Γ : List (Kd T)) (to : TO) (m : OX) : Prop :=
  ∀ (fp : Nat → List Addr) (F H : Hp) (σ : L2.St) (s : En) (Q : Option Int → Hp → Prop), Sta T Γ fp F H σ s → Po T W Γ fp F H σ (m s) (fun o _ _ _ H' => Q o H') → to σ H Q
def XO (X : Cx) (T : Tx) (W : WX) (Γ : List (Kd T)) (e : Option Expr) (m : OX) : Prop := ∃ to, PO X e to ∧ RO T W Γ to m
theorem xo_none : XO X T W Γ none oNone := ⟨_, po_none, fun fp F H σ s Q S h => h fp F H Go.refl S⟩
theorem xo_some (ha : XE X T W Γ e m) : XO X T W Γ (some e) (oSome m) := by
  obtain ⟨ta, p1, r1⟩ := ha
  refine ⟨_, po_some p1, ?_⟩
  intro fp F H σ s Q S h
  refine r1 fp F H σ s _ S (h.bind.imp fun x s1 fp1 F1 H1 g1 S1 h2 v rv => ?_)
  cases x with
  | int i => cases rv; exact ⟨i, rfl, h2 fp1 F1 H1 Go.refl S1⟩
  | _ => exact h2.elim
theorem sIx_eq (n d : Nat) (o : Option Int) : HT.sIx n d o = PL.sIx n d o := by cases o <;> rfl
theorem cut_rep {F : Hp} {ds : List D} {vs : List V} (r : RepL T F ds vs) (lo hi : Option Int) : RepL T F (cutL ds lo hi) (cutV vs lo hi) := by
  have e := r.length
  unfold cutL cutV
  rw [sIx_eq, sIx_eq, e]
  exact (r.drop _).take _
def rSlAll (K : PySem.W.Frag) : V → Option Int → Option Int → Hp → VK → Prop := fun x lo hi H Q => rSlL K x lo hi H Q ∨ (fun x lo hi H Q => rSlA K x lo hi H Q ∨ rSlS x lo hi H Q) x lo hi H Q
theorem sl_all : SlR X (rSlAll X.K) := sl_list.or (sl_tupA.or sl_str)
theorem cutL_whole {A : Type} {xs : List A} {lo hi : Option Int} (h : HT.sIx xs.length 0 lo = 0 ∧ HT.sIx xs.length xs.length hi = xs.length) : cutL xs lo hi = xs := by
  have h1 : PL.sIx xs.length 0 lo = 0 := (sIx_eq _ _ _).symm.trans h.1
  have h2 : PL.sIx xs.length xs.length hi = xs.length := (sIx_eq _ _ _).symm.trans h.2
  unfold cutL
  rw [h1, h2]
  simp
theorem xe_sl (hK : X.K = T.K) {lo hi : Option Expr} {p2 : Pos} {ml mh : OX} (ha : XE X T W Γ a ma) (hl : XO X T W Γ lo ml) (hh : XO X T W Γ hi mh) : XE X T W Γ (.Subscript a (.Slice lo hi none p2) pos) (eSl ma ml mh) := by
  obtain ⟨ta, p1, r1⟩ := ha
  obtain ⟨tl, p3, r3⟩ := hl
  obtain ⟨th, p4, r4⟩ := hh
  refine ⟨_, pe_slice sl_all p1 p3 p4, ?_⟩
  intro fp F H σ s Q S h
  refine r1 fp F H σ s _ S (h.bind.imp fun x s1 fp1 F1 H1 g1 S1 h2 v rv => ?_)
  refine r3 fp1 F1 H1 σ s1 _ S1 (h2.bind.imp fun o s2 fp2 F2 H2 g2 S2 h3 => ?_)
  refine r4 fp2 F2 H2 σ s2 _ S2 (h3.bind.imp fun o2 s3 fp3 F3 H3 g3 S3 h4 => ?_)
  obtain ⟨d, ed, q⟩ := po_ofO S3 h4
  have rv := (rv.fle g2.mono).fle g3.mono
  rw [hK]
  cases rv with
  | @lst p vs ds hl rl =>
    cases ed
    refine .inl ⟨p, vs, rfl, SqL.of (S3.sub _ _ hl), fun p hp => ?_⟩
    have px := PX.alloc (o := .lst (cutV vs o o2)) S3.sub hp
    exact q _ _ _ px (.lst upd_same ((cut_rep rl o o2).fle px.mono))
  | @tup p vs ds hl rl =>
    cases ed
    refine .inr (.inl ⟨p, vs, rfl, sqT_fle S3.sub hl, fun hw => ?_, fun _ p hp => ?_⟩)
    · have hw' : HT.sIx ds.length 0 o = 0 ∧ HT.sIx ds.length ds.length o2 = ds.length := by rw [rl.length]; exact hw
      rw [cutL_whole hw'] at q
      exact q _ _ _ (PX.refl S3.sub) (.tup hl rl)
    · have px := PX.alloc (o := .tup (cutV vs o o2)) S3.sub hp
      exact q _ _ _ px (.tup (SqT.of upd_same) ((cut_rep rl o o2).fle px.mono))
  | str z =>
    unfold sliceD at ed
    dsimp only at ed
    split at ed
    · rename_i hz
      cases ed
      refine .inr (.inr ⟨stOf z, rfl, by rw [stOf_len]; exact line_le hz, ?_⟩)
      have e2 : cutS (stOf z) o o2 = stOf (cutL z o o2) := by
        unfold cutS cutL
        rw [stOf_list, stOf_len, sIx_eq, sIx_eq]
        rfl
      rw [e2]
      exact q _ _ _ (PX.refl S3.sub) (.str _)
    · cases ed
  | _ => cases ed
/-- x[::-1] of a list -/
theorem xe_rev (hK : X.K = T.K) {k : Nat} {p1 p2 p3 : Pos} (ha : XE X T W Γ a ma) : XE X T W Γ (.Subscript a (.Slice none none (some (.UnaryOp .USub (.Constant (.int 1) k p1) p2)) p3) pos) (e1 (fun x => match x with | .lst xs => some (.lst xs.reverse) | _ => none) ma) := by
  obtain ⟨ta, p1, r1⟩ := ha
  refine ⟨_, pe_revL p1, ?_⟩
  intro fp F H σ s Q S h
  refine r1 fp F H σ s _ S (h.bind.imp fun x s1 fp1 F1 H1 g1 S1 h2 v rv => ?_)
  obtain ⟨d, ed, q⟩ := po_ofO S1 h2
  cases rv with
  | @lst p vs ds hl rl =>
    cases ed
    refine ⟨p, vs, rfl, by rw [hK]; exact SqL.of (S1.sub _ _ hl), fun p hp => ?_⟩
    have px := PX.alloc (o := .lst vs.reverse) S1.sub hp
    have rr : ∀ {ds : List D} {vs : List V}, RepL T F1 ds vs → RepL T F1 ds.reverse vs.reverse := by
      intro ds
      induction ds with
      | nil => intro vs r; cases r; exact .nil
      | cons d ds ih => intro vs r; cases r with | cons r1 r2 => rw [List.reverse_cons, List.reverse_cons]; exact (ih r2).app (.cons r1 .nil)
    exact q _ _ _ px (.lst upd_same ((rr rl).fle px.mono))
  | _ => cases ed

/-! ### built-in functions -/
def CaK (T : Tx) (r : List V → Hp → VK → Prop) (p : PL) : Prop := ∀ (F H : Hp) (xs : List D) (vs : List V) (d : D) (Q : VK), Fle F H → RepL T F xs vs → p xs = some d → (∀ F' H' u, PX F H F' H' → Rep T F' d u → Q u H') → r vs H Q
theorem re_CB {r : List V → Hp → VK → Prop} {p : PL} (hk : CaK T r p) (ra : RA T W Γ tl l) : RE T W Γ (tCB r tl) (eB p l) := by
  intro fp F H σ s Q S h
  refine ra fp F H σ s _ S (h.bind.imp fun xs s1 fp1 F1 H1 g1 S1 h2 vs rv => ?_)
  obtain ⟨d, ed, q⟩ := po_ofO S1 h2
  exact hk F1 H1 xs vs d Q S1.sub rv ed q
theorem xe_B {id : String} {x : Str} {r : List V → Hp → VK → Prop} {q : PL} {p : Pos} (hc : CallR X (.builtin id) r) (hk : CaK T r q) (hg : Gl X x) (hm : X.mg x = none) (hv : bootBuiltins x = some (.builtin id)) (ha : XA X T W Γ (e :: es) l) (hn : x ≠ "__name__") (hdb : (x == ("__debug__" : Str)) = false)
    (he : starEach (e :: es) X.env = (false, eval e X.env) :: starEach es X.env) (hpl : (backTo pos (starEach es X.env)).any (·.1) = false) : XE X T W Γ (.Call (.Name x p) (e :: es) [] pos) (eB q l) := by
  obtain ⟨ta, p1, r1⟩ := ha
  exact ⟨_, pe_callB hc hg hm hv p1 hn hdb he hpl, re_CB hk r1⟩
theorem xe_Ty {ty : String} {x : Str} {r : List V → Hp → VK → Prop} {q : PL} {p : Pos} (hc : CallR X (.type ty) r) (hk : CaK T r q) (hg : Gl X x) (hm : X.mg x = none) (hv : bootBuiltins x = some (.type ty)) (ha : XA X T W Γ (e :: es) l) (hn : x ≠ "__name__") (hdb : (x == ("__debug__" : Str)) = false)
    (he : starEach (e :: es) X.env = (false, eval e X.env) :: starEach es X.env) (hpl : (backTo pos (starEach es X.env)).any (·.1) = false) : XE X T W Γ (.Call (.Name x p) (e :: es) [] pos) (eB q l) := by
  obtain ⟨ta, p1, r1⟩ := ha
  exact ⟨_, pe_callTy hc hg hm hv p1 hn hdb he hpl, re_CB hk r1⟩
theorem ck_len {r : List V → Hp → VK → Prop} (hr : r = fun xs H Q => ∃ x n, xs = [x] ∧ LenV T.K x H n ∧ Q (.int n) H) : CaK T r pLen := by
  subst hr
  intro F H xs vs d Q S rv e q
  unfold pLen at e
  split at e
  · cases rv with
    | cons r1 r2 =>
      cases r2
      cases r1 with
      | @lst p vs ds hl rl => cases e; exact ⟨_, _, rfl, .inl ⟨vs, SqL.of (S _ _ hl), rl.length.symm ▸ rfl⟩, q F H _ (PX.refl S) (.int _)⟩
  · cases rv with
    | cons r1 r2 =>
      cases r2
      cases r1 with
      | @tup p vs ds hl rl => cases e; exact ⟨_, _, rfl, .inr ⟨vs, sqT_fle S hl, rl.length.symm ▸ rfl⟩, q F H _ (PX.refl S) (.int _)⟩
  · split at e
    · rename_i z hz
      cases rv with
      | cons r1 r2 =>
        cases r2
        cases r1
        cases e
        exact ⟨_, z.length, rfl, ⟨by rw [stOf_len]; exact line_le hz, (stOf_len z).symm⟩, q F H _ (PX.refl S) (.int _)⟩
    · cases e
  · cases e
end
end RX

set_option Elab.async false
set_option linter.all false
set_option maxRecDepth 100000
set_option maxHeartbeats 4000000
/-! RX5: built-in functions one by one, isinstance, texts, calls, what stands still. -/
namespace RX
open PySem PySem.Spec PyProof.Rows L2 PL

section
variable {X : Cx} {T : Tx} {W : WX} {Γ : List (Kd T)} {pos : Pos} {e a b c : Expr} {es : List Expr} {ta tb te : TE} {tl : TA} {ma mb m : EX} {l : LX}
theorem repl1 {F : Hp} {x : D} {vs : List V} (r : RepL T F [x] vs) : ∃ v, vs = [v] ∧ Rep T F x v := by
  cases r with | cons r1 r2 => cases r2; exact ⟨_, rfl, r1⟩
theorem repl2 {F : Hp} {x y : D} {vs : List V} (r : RepL T F [x, y] vs) : ∃ v w, vs = [v, w] ∧ Rep T F x v ∧ Rep T F y w := by
  cases r with | cons r1 r2 => cases r2 with | cons r2 r3 => cases r3; exact ⟨_, _, rfl, r1, r2⟩
theorem asInts_eq : ∀ {xs : List D} {ns : List Int}, asInts xs = some ns → xs = ns.map D.int
  | [], ns, h => by cases h; rfl
  | x :: xs, ns, h => by
    cases x with
    | int i =>
      simp only [asInts] at h
      cases e : asInts xs with
      | none => rw [e] at h; cases h
      | some ms => rw [e] at h; cases h; rw [List.map_cons, asInts_eq e]
    | _ => simp [asInts] at h
theorem asBls_eq : ∀ {xs : List D} {ns : List Bool}, asBls xs = some ns → xs = ns.map D.bl
  | [], ns, h => by cases h; rfl
  | x :: xs, ns, h => by
    cases x with
    | bl i =>
      simp only [asBls] at h
      cases e : asBls xs with
      | none => rw [e] at h; cases h
      | some ms => rw [e] at h; cases h; rw [List.map_cons, asBls_eq e]
    | _ => simp [asBls] at h
theorem asStrs_eq : ∀ {xs : List D} {ns : List (List Nat)}, asStrs xs = some ns → xs = ns.map D.str
  | [], ns, h => by cases h; rfl
  | x :: xs, ns, h => by
    cases x with
    | str i =>
      simp only [asStrs] at h
      cases e : asStrs xs with
      | none => rw [e] at h; cases h
      | some ms => rw [e] at h; cases h; rw [List.map_cons, asStrs_eq e]
    | _ => simp [asStrs] at h
theorem RepL.bls {F : Hp} {vs : List V} : ∀ {ns : List Bool}, RepL T F (ns.map D.bl) vs → vs = ns.map V.bl
  | [], h => by cases h; rfl
  | n :: ns, h => by cases h with | cons r t => cases r; rw [List.map_cons, ← t.bls]
theorem RepL.strs {F : Hp} {vs : List V} : ∀ {ns : List (List Nat)}, RepL T F (ns.map D.str) vs → vs = (ns.map stOf).map V.str
  | [], h => by cases h; rfl
  | n :: ns, h => by cases h with | cons r t => cases r; rw [List.map_cons, List.map_cons, ← t.strs]
theorem ck_abs : CaK T (fun xs H Q => ∃ i, xs = [.int i] ∧ Q (.int (if i < 0 then -i else i)) H) pAbs := by
  intro F H xs vs d Q S rv e q
  unfold pAbs at e
  split at e
  · cases e; obtain ⟨v, rfl, r⟩ := repl1 rv; cases r; exact ⟨_, rfl, q F H _ (PX.refl S) (.int _)⟩
  · cases e
theorem ck_max2 : CaK T (fun xs H Q => ∃ i j, xs = [.int i, .int j] ∧ Q (.int (if j > i then j else i)) H) pMax2 := by
  intro F H xs vs d Q S rv e q
  unfold pMax2 at e
  split at e
  · cases e; obtain ⟨v, w, rfl, r, r'⟩ := repl2 rv; cases r; cases r'; exact ⟨_, _, rfl, q F H _ (PX.refl S) (.int _)⟩
  · cases e
theorem ck_min2 : CaK T (fun xs H Q => ∃ i j, xs = [.int i, .int j] ∧ Q (.int (if j < i then j else i)) H) pMin2 := by
  intro F H xs vs d Q S rv e q
  unfold pMin2 at e
  split at e
  · cases e; obtain ⟨v, w, rfl, r, r'⟩ := repl2 rv; cases r; cases r'; exact ⟨_, _, rfl, q F H _ (PX.refl S) (.int _)⟩
  · cases e
theorem ck_int : CaK T (fun xs H Q => (∃ i, xs = [.int i] ∧ Q (.int i) H) ∨ ∃ k, xs = [.bl k] ∧ Q (.int (if k then 1 else 0)) H) pInt := by
  intro F H xs vs d Q S rv e q
  unfold pInt at e
  split at e
  · cases e; obtain ⟨v, rfl, r⟩ := repl1 rv; cases r; exact .inl ⟨_, rfl, q F H _ (PX.refl S) (.int _)⟩
  · cases e
theorem ck_sum : CaK T (rSum T.K) pSum := by
  intro F H xs vs d Q S rv e q
  unfold pSum at e
  split at e
  · rename_i ys
    cases e2 : asInts ys with
    | none => rw [e2] at e; cases e
    | some ns =>
      rw [e2] at e; cases e
      obtain ⟨v, rfl, r⟩ := repl1 rv
      cases r with
      | @lst p vs ds hl rl =>
        rw [asInts_eq e2] at rl
        rw [rl.ints] at hl
        exact ⟨p, ns, rfl, SqL.of (S _ _ hl), q F H _ (PX.refl S) (.int _)⟩
  · cases e
theorem ck_all : CaK T (rAll T.K) pAll := by
  intro F H xs vs d Q S rv e q
  unfold pAll at e
  split at e
  · rename_i ys
    cases e2 : asBls ys with
    | none => rw [e2] at e; cases e
    | some ns =>
      rw [e2] at e; cases e
      obtain ⟨v, rfl, r⟩ := repl1 rv
      cases r with
      | @lst p vs ds hl rl =>
        rw [asBls_eq e2] at rl
        rw [rl.bls] at hl
        exact ⟨p, ns, rfl, SqL.of (S _ _ hl), q F H _ (PX.refl S) (.bl _)⟩
  · cases e
theorem ck_any : CaK T (rAny T.K) pAny := by
  intro F H xs vs d Q S rv e q
  unfold pAny at e
  split at e
  · rename_i ys
    cases e2 : asBls ys with
    | none => rw [e2] at e; cases e
    | some ns =>
      rw [e2] at e; cases e
      obtain ⟨v, rfl, r⟩ := repl1 rv
      cases r with
      | @lst p vs ds hl rl =>
        rw [asBls_eq e2] at rl
        rw [rl.bls] at hl
        exact ⟨p, ns, rfl, SqL.of (S _ _ hl), q F H _ (PX.refl S) (.bl _)⟩
  · cases e
theorem ck_tuple : CaK T (fun xs H Q => ∃ p ys, xs = [.ref p] ∧ ((SqL T.K H p ys ∧ ∀ l, H l = none → Q (.ref l) (upd H l (.tup ys))) ∨ (SqT T.K H p ys ∧ Q (.ref p) H))) pTuple := by
  intro F H xs vs d Q S rv e q
  unfold pTuple at e
  split at e
  · cases e
    obtain ⟨v, rfl, r⟩ := repl1 rv
    cases r with
    | @lst p vs ds hl rl =>
      refine ⟨p, vs, rfl, .inl ⟨SqL.of (S _ _ hl), fun l hl' => ?_⟩⟩
      have px := PX.alloc (o := .tup vs) S hl'
      exact q _ _ _ px (.tup (SqT.of upd_same) (rl.fle px.mono))
  · cases e
    obtain ⟨v, rfl, r⟩ := repl1 rv
    cases r with
    | @tup p vs ds hl rl => exact ⟨p, vs, rfl, .inr ⟨sqT_fle S hl, q _ _ _ (PX.refl S) (.tup hl rl)⟩⟩
  · cases e
theorem ck_list : CaK T (fun xs H Q => ∃ p ys, xs = [.ref p] ∧ (SqL T.K H p ys ∨ SqT T.K H p ys) ∧ ∀ l, H l = none → Q (.ref l) (upd H l (.lst ys))) pList := by
  intro F H xs vs d Q S rv e q
  unfold pList at e
  split at e
  · cases e
    obtain ⟨v, rfl, r⟩ := repl1 rv
    cases r with
    | @lst p vs ds hl rl =>
      refine ⟨p, vs, rfl, .inl (SqL.of (S _ _ hl)), fun l hl' => ?_⟩
      have px := PX.alloc (o := .lst vs) S hl'
      exact q _ _ _ px (.lst upd_same (rl.fle px.mono))
  · cases e
    obtain ⟨v, rfl, r⟩ := repl1 rv
    cases r with
    | @tup p vs ds hl rl =>
      refine ⟨p, vs, rfl, .inr (sqT_fle S hl), fun l hl' => ?_⟩
      have px := PX.alloc (o := .lst vs) S hl'
      exact q _ _ _ px (.lst upd_same (rl.fle px.mono))
  · cases e

/-! ### isinstance with built-in classes -/
theorem ty_rep {F H : Hp} {x : D} {v : V} {t : String} (S : Fle F H) (r : Rep T F x v) (h : tyName x = some t) : TyX T.K H v (.type t) := by
  cases r with
  | non => cases h; exact .base .non
  | bl b => cases h; exact .base (.bl b)
  | int i => cases h; exact .base (.int i)
  | str s => cases h; exact .base (.str _)
  | lst hl rl => cases h; exact .base (.lst (S _ _ hl))
  | tup hl rl =>
    cases h
    rcases sqT_fle S hl with (h | ⟨o, h⟩) | ⟨o, its, n, h, hc, _⟩
    · exact .base (.tup h)
    · exact .fTuple h
    · exact .kTuple h hc
  | dic hl => cases h; exact .base (.dK (S _ _ hl))
  | _ => cases h
def tyNames : List String := ["NoneType", "bool", "int", "str", "list", "tuple", "dict"]
theorem tyName_mem {x : D} {t : String} (h : tyName x = some t) : t ∈ tyNames := by
  cases x <;> simp [tyName] at h <;> subst h <;> decide
def isA (t c : String) : Bool := c == t || (t == "bool" && c == "int")
theorem kit_one : ∀ t ∈ tyNames, ∀ c ∈ ["bool", "int", "str", "list", "tuple", "dict"], kitB t c = some (isA t c) := by decide +kernel
theorem xe_isT {c : String} (hc : c ∈ ["bool", "int", "str", "list", "tuple", "dict"]) {x : Str} {p q : Pos} (hK : X.K = T.K) (hg : Gl X "isinstance") (hm : X.mg "isinstance" = none) (hg2 : Gl X x) (hm2 : X.mg x = none) (hv : bootBuiltins x = some (.type c)) (hn : x ≠ "__name__") (hdb : (x == ("__debug__" : Str)) = false)
    (ha : XE X T W Γ a ma) (he : starEach [a, .Name x q] X.env = (false, eval a X.env) :: starEach [.Name x q] X.env) (he2 : starEach [.Name x q] X.env = (false, eval (.Name x q) X.env) :: starEach [] X.env) (hpl : (backTo pos (starEach [.Name x q] X.env)).any (·.1) = false) :
    XE X T W Γ (.Call (.Name "isinstance" p) [a, .Name x q] [] pos) (e1 (pIsT [c]) ma) := by
  obtain ⟨ta, p1, r1⟩ := ha
  refine ⟨_, pe_callB call_isi hg hm boot_isinstance (pa_cons p1 (pa_cons (pe_bltn (v := .ty c) hg2 hm2 hv rfl hn hdb) pa_nil he2) he) (by decide) (by decide) he hpl, ?_⟩
  intro fp F H σ s Q S h
  refine r1 fp F H σ s _ S (h.bind.imp fun x s1 fp1 F1 H1 g1 S1 h2 v rv => ?_)
  obtain ⟨d, ed, q⟩ := po_ofO S1 h2
  unfold pIsT at ed
  cases et : tyName x with
  | none => rw [et] at ed; cases ed
  | some t =>
    rw [et] at ed
    cases ed
    refine ⟨v, .ty c, .type t, .type c, isA t c, rfl, .ty c, by rw [hK]; exact ty_rep S1.sub rv et, kit_ty (kit_one t (tyName_mem et) c hc), ?_⟩
    have := q F1 H1 _ (PX.refl S1.sub) (.bl _)
    simpa [isA] using this
theorem kit_two : ∀ t ∈ tyNames, PySem.W.kitAny [] (.type t) [.type "list", .type "tuple"] = some (isA t "list" || isA t "tuple") := by decide +kernel
/-- isinstance(x, (list, tuple)) -/
theorem xe_isLT {p q1 q2 q3 : Pos} {k : Nat} (hK : X.K = T.K) (hg : Gl X "isinstance") (hm : X.mg "isinstance" = none) (hgl : Gl X "list") (hml : X.mg "list" = none) (hgt : Gl X "tuple") (hmt : X.mg "tuple" = none)
    (ha : XE X T W Γ a ma) (he : starEach [a, .Tuple [.Name "list" q1, .Name "tuple" q2] k q3] X.env = (false, eval a X.env) :: starEach [.Tuple [.Name "list" q1, .Name "tuple" q2] k q3] X.env)
    (he2 : starEach [.Tuple [.Name "list" q1, .Name "tuple" q2] k q3] X.env = (false, eval (.Tuple [.Name "list" q1, .Name "tuple" q2] k q3) X.env) :: starEach [] X.env)
    (he3 : starEach [.Name "list" q1, .Name "tuple" q2] X.env = (false, eval (.Name "list" q1) X.env) :: starEach [.Name "tuple" q2] X.env) (he4 : starEach [.Name "tuple" q2] X.env = (false, eval (.Name "tuple" q2) X.env) :: starEach [] X.env)
    (hpl : (backTo pos (starEach [.Tuple [.Name "list" q1, .Name "tuple" q2] k q3] X.env)).any (·.1) = false) :
    XE X T W Γ (.Call (.Name "isinstance" p) [a, .Tuple [.Name "list" q1, .Name "tuple" q2] k q3] [] pos) (e1 (pIsT ["list", "tuple"]) ma) := by
  obtain ⟨ta, p1, r1⟩ := ha
  refine ⟨_, pe_callB call_isiT hg hm boot_isinstance (pa_cons p1 (pa_cons (pe_tup (pa_cons (pe_bltn (v := .ty "list") hgl hml boot_list rfl) (pa_cons (pe_bltn (v := .ty "tuple") hgt hmt boot_tuple rfl) pa_nil he4) he3)) pa_nil he2) he) (by decide) (by decide) he hpl, ?_⟩
  intro fp F H σ s Q S h
  refine r1 fp F H σ s _ S (h.bind.imp fun x s1 fp1 F1 H1 g1 S1 h2 v rv => ?_)
  obtain ⟨d, ed, q⟩ := po_ofO S1 h2
  unfold pIsT at ed
  cases et : tyName x with
  | none => rw [et] at ed; cases ed
  | some t =>
    rw [et] at ed
    cases ed
    refine ⟨(by show 2 ≤ sizeLine; decide), fun p hp => ?_⟩
    have px := PX.alloc (o := .tup [V.ty "list", V.ty "tuple"]) S1.sub hp
    refine ⟨v, p, [.ty "list", .ty "tuple"], .type t, [.type "list", .type "tuple"], isA t "list" || isA t "tuple", rfl, upd_same, .cons (.ty _) (.cons (.ty _) .nil), by rw [hK]; exact ty_rep px.sub (rv.fle px.mono) et, ?_, ?_⟩
    · have e1 := kit_one t (tyName_mem et) "list" (by decide)
      have e2 := kit_one t (tyName_mem et) "tuple" (by decide)
      refine kitAny_cons (kit_ty e1) (r := isA t "list" || isA t "tuple") (fun hb => ?_) (fun hb => by rw [hb]; rfl)
      refine kitAny_cons (kit_ty e2) (fun hb2 => ?_) (fun hb2 => by rw [hb2, Bool.or_true])
      rw [hb, hb2]; exact kitAny_nil
    · have := q _ _ _ px (.bl _)
      simpa [isA] using this

/-! ### texts -/
theorem sjoin_flat : ∀ ys : List (List Nat), Str.join (stOf []) (ys.map stOf) = stOf ys.flatten := by
  intro ys
  induction ys with
  | nil => rfl
  | cons y ys ih =>
    cases ys with
    | nil =>
      show stOf y = _
      simp
    | cons z zs =>
      have e : Str.join (stOf []) ((y :: z :: zs).map stOf) = stOf y ++ stOf [] ++ Str.join (stOf []) ((z :: zs).map stOf) := rfl
      rw [e, ih, stOf_app, stOf_app]
      simp
theorem join_flat (ys : List (List Nat)) : Txt.join (stOf []) (ys.map stOf) = stOf ys.flatten := by
  rw [TL.join_eq, sjoin_flat]
theorem xe_join {apos p0 : Pos} {x : Str} {j : Nat} (hx : x = stOf []) (hK : X.K = T.K) (ha : XE X T W Γ b mb) (hs : starEach [b] X.env = [(false, eval b X.env)]) (hbase : attributeBase (.Constant (.str x) j p0) "join" X.env (eval (.Constant (.str x) j p0) X.env) = eval (.Constant (.str x) j p0) X.env) (hline : (apos.endLine == pos.line) = true) :
    XE X T W Γ (.Call (.Attribute (.Constant (.str x) j p0) "join" apos) [b] [] pos) (e1 pJoin mb) := by
  subst hx
  obtain ⟨tb, p2, r2⟩ := ha
  refine ⟨_, pe_join pe_str p2 hs hbase hline, ?_⟩
  intro fp F H σ s Q S h
  refine ⟨⟨_, rfl⟩, ?_⟩
  refine r2 fp F H σ s _ S (h.bind.imp fun y s2 fp2 F2 H2 g2 S2 h3 w rw' => ?_)
  obtain ⟨d, ed, q⟩ := po_ofO S2 h3
  cases y with
  | lst ys =>
    unfold pJoin at ed
    dsimp only at ed
    cases e2 : asStrs ys with
    | none => rw [e2] at ed; cases ed
    | some zs =>
      rw [e2] at ed
      change (if (zs.map List.length).sum ≤ line then some (D.str zs.flatten) else none) = some d at ed
      split at ed
      · rename_i hl
        cases ed
        cases rw' with
        | @lst p vs ds hp rl =>
          rw [asStrs_eq e2] at rl
          rw [rl.strs] at hp
          refine ⟨stOf [], p, zs.map stOf, rfl, rfl, .inl (by rw [hK]; exact SqL.of (S2.sub _ _ hp)), ?_, ?_⟩
          · have e3 : ((zs.map stOf).map (·.length)) = zs.map List.length := by
              rw [List.map_map]; exact List.map_congr_left fun y _ => stOf_len y
            rw [e3, stOf_len]
            have hl' : (zs.map List.length).sum ≤ 10000000 := hl
            simp only [List.length_nil, Nat.mul_zero, Nat.add_zero]
            omega
          · rw [join_flat]
            exact q _ _ _ (PX.refl S2.sub) (.str _)
      · cases ed
  | _ => cases ed
/-- text.index(sign) where the sign is there -/
def rIdx : V → List V → Hp → VK → Prop := fun x xs H Q => ∃ (z : List Nat) (c k : Nat), x = .str (stOf z) ∧ xs = [.str (stOf [c])] ∧ posOf c z = some k ∧ Q (.int (k : Nat)) H
theorem posOf_first (c : Nat) : ∀ (z : List Nat) (k : Nat), posOf c z = some k → z[k]? = some c ∧ ∀ j, j < k → z[j]? ≠ some c
  | [], k, h => by cases h
  | d :: r, k, h => by
    unfold posOf at h
    split at h
    · rename_i e; cases h; exact ⟨by simp [e], fun j hj => absurd hj (Nat.not_lt_zero j)⟩
    · rename_i e
      cases e2 : posOf c r with
      | none => rw [e2] at h; cases h
      | some n =>
        rw [e2] at h
        obtain rfl : n + 1 = k := Option.some.inj h
        obtain ⟨q1, q2⟩ := posOf_first c r n e2
        refine ⟨by simpa using q1, fun j hj => ?_⟩
        cases j with
        | zero => simpa using e
        | succ j => simpa using q2 j (by omega)
theorem mt_idx : MtR X "str.index" rIdx := by
  intro pins s σ H x xs v us Q I rx rs h
  obtain ⟨z, c, k, rfl, rfl, hp, q⟩ := h
  obtain ⟨t, rfl⟩ := rx
  obtain ⟨u1, rfl, r1⟩ := vals1 rs
  obtain ⟨t1, rfl⟩ := r1
  obtain ⟨q1, q2⟩ := posOf_first c z k hp
  have at_ : ∀ i, StrLaws.At (stOf z) (stOf [c]) (stOf z).length i ↔ z[i]? = some c := fun i => by
    have w := StrLaws.subAt_one (stOf z) c i
    rw [stOf_list] at w
    exact w
  rcases StrLaws.occ_head (stOf z) (stOf [c]) 1 (Nat.le_refl _) with ⟨_, hn⟩ | ⟨i, r, e, h1, h2⟩
  · exact absurd ((at_ k).mpr q1) (hn k)
  · have ei : i = k := by
      rcases Nat.lt_trichotomy i k with l | l | l
      · exact absurd ((at_ i).mp h1) (q2 i l)
      · exact l
      · exact absurd ((at_ k).mpr q1) (h2 k l)
    subst ei
    exact PySem.SC.index e ⟨.int (i : Nat), H, I.tok _, ⟨_, rfl⟩, q⟩
theorem xe_index {apos : Pos} (ha : XE X T W Γ a ma) (hb : XE X T W Γ b mb) (hbase : attributeBase a "index" X.env (eval a X.env) = eval a X.env)
    (hfew : ((backTo pos (starEach [b] X.env)).all (fun x => !x.1) && (backToKw pos (keywordEach [] X.env)).all (fun x => x.1.isSome)
      && decide (([b] : List Expr).length + ([] : List Keyword).length + (if ([] : List Keyword).isEmpty then 0 else 1) < 30)) = true)
    (hline : (apos.endLine == pos.line) = true) (hs : starEach [b] X.env = (false, eval b X.env) :: starEach [] X.env) (hplain : (backTo pos (starEach [] X.env)).any (·.1) = false) :
    XE X T W Γ (.Call (.Attribute a "index" apos) [b] [] pos) (eIdx ma mb) := by
  obtain ⟨ta, p1, r1⟩ := ha
  obtain ⟨tb, p2, r2⟩ := hb
  refine ⟨_, pe_bm PySem.F.plainAttrs_str PySem.F.slot_str_index PySem.F.type_str_index mt_idx p1 (pa_cons p2 pa_nil hs) hbase hfew hline hs hplain, ?_⟩
  intro fp F H σ s Q S h
  refine r1 fp F H σ s _ S (h.bind.imp fun x s1 fp1 F1 H1 g1 S1 h2 v rv => ?_)
  cases x with
  | str z =>
    cases rv
    refine ⟨rfl, ?_⟩
    have h2' : Po T W Γ fp1 F1 H1 σ ((mb s1).bind fun y s => ofO (pIndex (.str z) y) s) (fun d _ _ F' H' => ∀ v, Rep T F' d v → Q v H') := h2
    refine r2 fp1 F1 H1 σ s1 _ S1 (h2'.bind.imp fun y s2 fp2 F2 H2 g2 S2 h3 w rw' => ?_)
    obtain ⟨d, ed, q⟩ := po_ofO S2 h3
    unfold pIndex at ed
    split at ed
    · rename_i z' c e1 
      cases e1
      split at ed
      · cases e2 : posOf c z with
        | none => rw [e2] at ed; cases ed
        | some k =>
          rw [e2] at ed
          cases ed
          cases rw'
          exact ⟨z, c, k, rfl, rfl, e2, q _ _ _ (PX.refl S2.sub) (.int _)⟩
      · cases ed
    · cases ed
  | _ => exact h2.elim
end
end RX

set_option Elab.async false
set_option linter.all false
set_option maxRecDepth 100000
set_option maxHeartbeats 4000000
/-! RX6: promises of defs, calls; what stands still while it is read. -/
namespace RX
open PySem PySem.Spec PyProof.Rows L2 PL

/-! ### promises -/
/-- what is wanted of a def's result -/
def PoF (T : Tx) (sig : List (Kd T)) (fp : Nat → List Addr) (F H : Hp) (σ : L2.St) (Q : VK) (E : XK) : Res (List D) D → Prop
  | .ok d es => ∀ fp' F' H' v, Go fp fp' F F' H H' → Sta T sig fp' F' H' σ (es.map some) → Rep T F' d v → Q v H'
  | .ex c fs es => ∀ fp' F' H' od, Go fp fp' F F' H H' → Sta T sig fp' F' H' σ (es.map some) → ExnAt T F' od fs → E (.ref (T.CA c)) od H'
  | .no => False
/-- a def with the parameters' kinds sig keeps what f says -/
def spG (T : Tx) (sig : List (Kd T)) (f : FN) : Sp := fun vs H Q E => vs.length = sig.length ∧ ∃ fp F ds, Sta T sig fp F H (vs.map some) (ds.map some) ∧ PoF T sig fp F H (vs.map some) Q E (f ds)
abbrev fzs (T : Tx) (n : Nat) : List (Kd T) := List.replicate n .fz
theorem spG_len {T : Tx} {sig : List (Kd T)} {f : FN} {n : Nat} (h : sig.length = n) : ∀ vs H Q E, spG T sig f vs H Q E → vs.length = n := fun vs H Q E q => q.1.trans h

section
variable {T : Tx} {F H : Hp}
theorem sta_fz : ∀ {ds : List D} {vs : List V}, RepL T F ds vs → Fle F H → Sta T (fzs T ds.length) (fun _ => []) F H (vs.map some) (ds.map some) := fun {ds vs} r S => {
  sub := S
  ls := by rw [List.length_map, List.length_map, r.length]
  lg := by simp
  out := fun _ _ => rfl
  dis := fun _ _ _ h => by cases h
  ok := fun i od ov k h1 h2 h3 => by
    rw [List.getElem?_map] at h1 h2
    rw [List.getElem?_replicate] at h3
    split at h3
    · cases h3
      cases e : ds[i]? with
      | none => rw [e] at h1; cases h1
      | some d =>
        rw [e] at h1
        cases h1
        obtain ⟨v, e2, rv⟩ := r.get e
        rw [e2] at h2
        cases h2
        exact ⟨rfl, v, rfl, rv⟩
    · cases h3 }
/-- no slot has objects of its own: everything that stands is kept -/
theorem go_px {fp fp' : Nat → List Addr} {F' H' : Hp} {Γ : List (Kd T)} {σ : L2.St} {s : En} (g : Go fp fp' F F' H H') (h : ∀ i, fp i = []) (S : Sta T Γ fp' F' H' σ s) : PX F H F' H' where
  keep := fun a o e => g.keep a o e fun i hi => by rw [h i] at hi; cases hi
  mono := g.mono
  sub := S.sub
  new := g.new
end

section
variable {X : Cx} {T : Tx} {W : WX} {Γ : List (Kd T)} {pos : Pos} {e a b c : Expr} {es : List Expr} {ta tb te : TE} {tl : TA} {ma mb m : EX} {l : LX}
theorem re_call {n : Nat} {f : FN} (ra : RA T W Γ tl l) : RE T W Γ (tCallS (spG T (fzs T n) f) (WE W) tl) (eCall n f l) := by
  intro fp F H σ s Q S h
  refine ra fp F H σ s _ S (h.bind.imp fun ds s1 fp1 F1 H1 g1 S1 h2 vs rv => ?_)
  split at h2
  · rename_i hn
    subst hn
    refine ⟨by rw [← rv.length]; simp, fun _ => [], F1, ds, sta_fz rv S1.sub, ?_⟩
    cases er : f ds with
    | ok d es' =>
      rw [er] at h2
      intro fp' F' H' v g S' r
      have px := go_px g (fun _ => rfl) S'
      exact h2 fp1 F' H' px.go (px.sta S1) v r
    | ex c fs es' =>
      rw [er] at h2
      intro fp' F' H' od g S' r
      have px := go_px g (fun _ => rfl) S'
      exact h2 fp1 F' H' od px.go (px.sta S1) r
    | no => rw [er] at h2; exact h2
  · exact h2.elim
theorem xe_call {k n : Nat} {f : Addr} {fd : FuncData} {ps : List Str} {x : Str} {p : Pos} {fn : FN} (tk : Takes X W) (F : FnOk X.prog X.w X.K X.mg X.base (L2.CX X.prog X.w) k f fd ps (spG T (fzs T n) fn)) (hr : Room k X.A) (hg : Gl X x) (hm : X.mg x = some (.ref f)) (hk : PySem.W.keepIn X.K (.ref f) = true) (hb : Binds X.K fd ps [])
    (ha : XA X T W Γ (e :: es) l) (hdb : (x == ("__debug__" : Str)) = false) (he : starEach (e :: es) X.env = (false, eval e X.env) :: starEach es X.env) (hpl : (backTo pos (starEach es X.env)).any (·.1) = false) :
    XE X T W Γ (.Call (.Name x p) (e :: es) [] pos) (eCall n fn l) := by
  obtain ⟨ta, p1, r1⟩ := ha
  exact ⟨_, pe_callS F hr hg hm hk hb (fun σ => passAt tk σ) p1 hdb he hpl, re_call r1⟩
end
end RX

set_option Elab.async false
set_option linter.all false
set_option maxRecDepth 100000
set_option maxHeartbeats 4000000
/-! RX7: what stands still while it is read; calls that change slots. -/
namespace RX
open PySem PySem.Spec PyProof.Rows L2 PL
open Classical in
/-- F with the own lists -/
noncomputable def thF {T : Tx} (Γ : List (Kd T)) (fp : Nat → List Addr) (F H : Hp) : Hp := fun a => if ∃ i, Γ[i]? = some .own ∧ a ∈ fp i then H a else F a
def thK {T : Tx} : Kd T → Kd T
  | .fz => .fz
  | .own => .fz
  | .ab _ => .hid
  | .gh _ => .hid
  | .hid => .hid
section
variable {X : Cx} {T : Tx} {W : WX} {Γ : List (Kd T)} {pos : Pos} {e a b c : Expr} {es : List Expr} {ta tb te : TE} {tl : TA} {ma mb m : EX} {l : LX}
theorem thF_fle {fp : Nat → List Addr} {F H : Hp} {σ : L2.St} {s : En} (S : Sta T Γ fp F H σ s) : Fle F (thF Γ fp F H) := fun a o h => by
  unfold thF
  split
  · rename_i q
    obtain ⟨i, _, hi⟩ := q
    rw [(S.slot_none hi).1] at h; cases h
  · exact h
theorem thF_sub {fp : Nat → List Addr} {F H : Hp} {σ : L2.St} {s : En} (S : Sta T Γ fp F H σ s) : Fle (thF Γ fp F H) H := fun a o h => by
  unfold thF at h
  split at h
  · exact h
  · exact S.sub a o h
theorem sta_th {fp : Nat → List Addr} {F H : Hp} {σ : L2.St} {s : En} (S : Sta T Γ fp F H σ s) : Sta T (Γ.map thK) (fun _ => []) (thF Γ fp F H) H σ s where
  sub := thF_sub S
  ls := S.ls
  lg := by rw [List.length_map]; exact S.lg
  out := fun _ _ => rfl
  dis := fun _ _ _ h => by cases h
  ok := fun i od ov k h1 h2 h3 => by
    rw [List.getElem?_map] at h3
    cases e : Γ[i]? with
    | none => rw [e] at h3; cases h3
    | some k0 =>
      rw [e] at h3
      cases h3
      have q := S.ok i od ov k0 h1 h2 e
      unfold SlotOk at q ⊢
      cases od with
      | none => rfl
      | some d =>
        cases k0 with
        | fz =>
          obtain ⟨_, v, e1, r⟩ := q
          exact ⟨rfl, v, e1, r.fle (thF_fle S)⟩
        | own =>
          obtain ⟨a, ds, vs, rfl, rfl, e3, e4, e5, r⟩ := q
          refine ⟨rfl, _, rfl, .lst (vs := vs) ?_ (r.fle (thF_fle S))⟩
          unfold thF
          rw [if_pos ⟨i, e, by rw [e3]; simp⟩]
          exact e4
        | ab A => rfl
        | gh A => rfl
        | hid => rfl
theorem flat_rep {F G : Hp} {d : D} {v : V} (h : flatD d = true) (r : Rep T F d v) : Rep T G d v := by
  cases r with
  | non => exact .non
  | bl b => exact .bl b
  | int i => exact .int i
  | str s => exact .str s
  | _ => cases h
theorem Sta.same {fp : Nat → List Addr} {F H H' : Hp} {σ : L2.St} {s : En} (S : Sta T Γ fp F H σ s) (k : ∀ a o, H a = some o → H' a = some o) : Sta T Γ fp F H' σ s :=
  S.ext k (Fle.refl F) (fun a o h => k a o (S.sub a o h)) fun _ _ h => .inl h
theorem Go.same {fp : Nat → List Addr} {F H H' : Hp} (k : ∀ a o, H a = some o → H' a = some o) : Go fp fp F F H H' := Go.ext k (Fle.refl F) fun _ _ h => .inl h
theorem th_exn {fp : Nat → List Addr} {F H F' H' : Hp} {σ : L2.St} {s : En} {fs : List (String × D)} {od : Option Addr} (S : Sta T Γ fp F H σ s) (px : PX (thF Γ fp F H) H F' H') (hf : fs.all (fun p => flatD p.2) = true) (x : ExnAt T F' od fs) :
    ∃ F2, Go fp fp F F2 H H' ∧ Sta T Γ fp F2 H' σ s ∧ ExnAt T F2 od fs := by
  rcases x with ⟨rfl, rfl⟩ | ⟨dx, f, d, v, rfl, rfl, hx, r⟩
  · exact ⟨F, Go.same px.keep, S.same px.keep, .inl ⟨rfl, rfl⟩⟩
  · have hfl : flatD d = true := by simpa using hf
    have hH' := px.sub _ _ hx
    cases e : F dx with
    | some o =>
      have e2 := px.mono _ _ (thF_fle S _ _ e)
      rw [hx] at e2
      cases e2
      exact ⟨F, Go.same px.keep, S.same px.keep, .inr ⟨dx, f, d, v, rfl, rfl, e, flat_rep hfl r⟩⟩
    | none =>
      have hn : H dx = none := by
        rcases px.new _ _ hx with q | q
        · unfold thF at q
          split at q
          · rename_i w
            obtain ⟨i, hk, hi⟩ := w
            exfalso
            have hil : i < s.length := Nat.lt_of_not_le fun z => by rw [S.out i z] at hi; cases hi
            have hσ : i < σ.length := by rw [S.ls]; exact hil
            have w := S.ok i _ _ _ (List.getElem?_eq_getElem hil) (List.getElem?_eq_getElem hσ) hk
            unfold SlotOk at w
            cases ed : s[i] with
            | none => rw [ed] at w; rw [w] at hi; cases hi
            | some d' =>
              rw [ed] at w
              obtain ⟨b, ds, vs, _, _, e3, e4, _⟩ := w
              rw [e3] at hi
              have z : dx = b := by simpa using hi
              subst z
              rw [e4] at q; cases q
          · rw [e] at q; cases q
        · exact q
      have k2 : ∀ a o, upd F dx (.xd [(Str.ofString f, v)]) a = some o → H' a = some o := fun a o h => by
        by_cases hb : a = dx
        · subst hb; rw [upd_same] at h; cases h; exact hH'
        · rw [upd_ne hb] at h; exact px.keep _ _ (S.sub _ _ h)
      have k3 : ∀ a o, upd F dx (.xd [(Str.ofString f, v)]) a = some o → F a = some o ∨ H a = none := fun a o h => by
        by_cases hb : a = dx
        · subst hb; exact .inr hn
        · rw [upd_ne hb] at h; exact .inl h
      exact ⟨upd F dx (.xd [(Str.ofString f, v)]), Go.ext px.keep (Fle.up1 e) k3, S.ext px.keep (Fle.up1 e) k2 k3, .inr ⟨dx, f, d, v, rfl, rfl, upd_same, flat_rep hfl r⟩⟩
theorem rt_th {tt : TT} {mt : TX} (h : RT T W (Γ.map thK) tt mt) : RT T W Γ tt (uP mt) := by
  intro fp F H σ s Q S hp
  refine h (fun _ => []) (thF Γ fp F H) H σ s Q (sta_th S) ?_
  unfold uP at hp
  cases e : mt s with
  | ok d s' =>
    rw [e] at hp
    intro fp' F' H' g S'
    have px := go_px g (fun _ => rfl) S'
    exact hp fp F H' (Go.same px.keep) (S.same px.keep)
  | ex c fs s' =>
    rw [e] at hp
    dsimp only at hp
    split at hp
    · rename_i hf
      intro fp' F' H' od g S' x
      have px := go_px g (fun _ => rfl) S'
      obtain ⟨F2, g2, S2, x2⟩ := th_exn S px hf x
      exact hp fp F2 H' od g2 S2 x2
    · exact hp.elim
  | no => rw [e] at hp; exact hp
theorem re_th (h : RE T W (Γ.map thK) te m) : RE T W Γ te (eP m) := by
  intro fp F H σ s Q S hp
  refine h (fun _ => []) (thF Γ fp F H) H σ s Q (sta_th S) ?_
  unfold eP at hp
  cases e : m s with
  | ok d s' =>
    rw [e] at hp
    dsimp only at hp
    split at hp
    · rename_i hf
      intro fp' F' H' g S' v r
      have px := go_px g (fun _ => rfl) S'
      exact hp fp F H' (Go.same px.keep) (S.same px.keep) v (flat_rep hf r)
    · exact hp.elim
  | ex c fs s' =>
    rw [e] at hp
    dsimp only at hp
    split at hp
    · rename_i hf
      intro fp' F' H' od g S' x
      have px := go_px g (fun _ => rfl) S'
      obtain ⟨F2, g2, S2, x2⟩ := th_exn S px hf x
      exact hp fp F2 H' od g2 S2 x2
    · exact hp.elim
  | no => rw [e] at hp; exact hp
theorem xt_th {mt : TX} (h : XT X T W (Γ.map thK) a mt) : XT X T W Γ a (uP mt) := by
  obtain ⟨t, p, r⟩ := h
  exact ⟨t, p, rt_th r⟩
theorem xe_th (h : XE X T W (Γ.map thK) a m) : XE X T W Γ a (eP m) := by
  obtain ⟨t, p, r⟩ := h
  exact ⟨t, p, re_th r⟩
end

/-! ### calls that change slots -/
section
variable {X : Cx} {T : Tx} {W : WX} {Γ : List (Kd T)} {pos : Pos} {e a b c : Expr} {es : List Expr} {ta tb te : TE} {tl : TA} {ma mb m : EX}
/-- the arguments' values: by value, or the slot's own -/
inductive ArgR (T : Tx) (F : Hp) (σ : L2.St) : List AX → List (Option D) → List (Option V) → Prop
  | nil : ArgR T F σ [] [] []
  | v {m : EX} {d : D} {v : V} {l : List AX} {os : List (Option D)} {vs : List (Option V)} : Rep T F d v → ArgR T F σ l os vs → ArgR T F σ (.v m :: l) (some d :: os) (some v :: vs)
  | io {i : Nat} {v : Option V} {l : List AX} {os : List (Option D)} {vs : List (Option V)} : σ[i]? = some v → ArgR T F σ l os vs → ArgR T F σ (.io i :: l) (none :: os) (v :: vs)
def RM (T : Tx) (W : WX) (Γ : List (Kd T)) (ta : TA) (l : List AX) : Prop :=
  ∀ (fp : Nat → List Addr) (F H : Hp) (σ : L2.St) (s : En) (Q : List V → Hp → Prop), Sta T Γ fp F H σ s → (∀ i, .io i ∈ l → ∃ v, σ[i]? = some (some v)) → Po T W Γ fp F H σ (axs l s) (fun os _ _ F' H' => ∀ vs : List V, ArgR T F' σ l os (vs.map some) → Q vs H') → ta σ H Q
def XM (X : Cx) (T : Tx) (W : WX) (Γ : List (Kd T)) (es : List Expr) (l : List AX) : Prop := ∃ ta, PA X es ta ∧ RM T W Γ ta l
end
end RX

set_option Elab.async false
set_option linter.all false
set_option maxRecDepth 100000
set_option maxHeartbeats 4000000
/-! RX8: calls that change slots. -/
namespace RX
open PySem PySem.Spec PyProof.Rows L2 PL
section
variable {X : Cx} {T : Tx} {W : WX} {Γ : List (Kd T)} {pos : Pos} {e a b c : Expr} {es : List Expr} {ta tb te : TE} {tl : TA} {ma mb m : EX} {l : List AX}
theorem ArgR.fle {F G : Hp} {σ : L2.St} (f : Fle F G) : ∀ {l : List AX} {os : List (Option D)} {vs : List (Option V)}, ArgR T F σ l os vs → ArgR T G σ l os vs
  | _, _, _, .nil => .nil
  | _, _, _, .v r t => .v (r.fle f) (t.fle f)
  | _, _, _, .io h t => .io h (t.fle f)
theorem xm_nil : XM X T W Γ [] [] := ⟨_, pa_nil, fun fp F H σ s Q S _ h => h fp F H Go.refl S [] .nil⟩
theorem xm_v (ha : XE X T W Γ e m) (hr : XM X T W Γ es l) (hs : starEach (e :: es) X.env = (false, eval e X.env) :: starEach es X.env) : XM X T W Γ (e :: es) (.v m :: l) := by
  obtain ⟨ta, p1, r1⟩ := ha
  obtain ⟨tr, p2, r2⟩ := hr
  refine ⟨_, pa_cons p1 p2 hs, ?_⟩
  intro fp F H σ s Q S hi h
  refine r1 fp F H σ s _ S (h.bind.imp fun x s1 fp1 F1 H1 g1 S1 h2 v rv => ?_)
  refine r2 fp1 F1 H1 σ s1 _ S1 (fun i hm => hi i (List.mem_cons_of_mem _ hm)) (h2.bind.imp fun os s2 fp2 F2 H2 g2 S2 h3 vs rvs => ?_)
  exact h3 fp2 F2 H2 Go.refl S2 (v :: vs) (.v (rv.fle g2.mono) rvs)
theorem xm_io (i : Nat) {x : Str} {p : Pos} (hN : X.N[i]? = some x) (hv : Vis X.env.scope x) (hd : (x == ("__debug__" : Str)) = false) (hcd : (x == ("__classdict__" : Str)) = false)
    (hr : XM X T W Γ es l) (hs : starEach (.Name x p :: es) X.env = (false, eval (.Name x p) X.env) :: starEach es X.env) : XM X T W Γ (.Name x p :: es) (.io i :: l) := by
  obtain ⟨tr, p2, r2⟩ := hr
  refine ⟨_, pa_cons (pe_var hN hv hd hcd) p2 hs, ?_⟩
  intro fp F H σ s Q S hi h
  obtain ⟨v, hv⟩ := hi i List.mem_cons_self
  refine ⟨v, hv, ?_⟩
  refine r2 fp F H σ s _ S (fun i hm => hi i (List.mem_cons_of_mem _ hm)) (h.bind.imp fun os s2 fp2 F2 H2 g2 S2 h3 vs rvs => ?_)
  exact h3 fp2 F2 H2 Go.refl S2 (v :: vs) (.io hv rvs)

/-- the kinds with objects of their own -/
def ioK : Kd T → Bool
  | .own => true
  | .ab _ => true
  | .gh _ => true
  | _ => false
/-- .. that a value of the frame tells -/
def ioR : Kd T → Bool
  | .own => true
  | .ab _ => true
  | _ => false
/-- the parameters' kinds -/
inductive SigOk (Γ : List (Kd T)) : List AX → List (Kd T) → Prop
  | nil : SigOk Γ [] []
  | v {m : EX} {l : List AX} {sg : List (Kd T)} : SigOk Γ l sg → SigOk Γ (.v m :: l) (.fz :: sg)
  | io {i : Nat} {k : Kd T} {l : List AX} {sg : List (Kd T)} : Γ[i]? = some k → ioR k = true → SigOk Γ l sg → SigOk Γ (.io i :: l) (k :: sg)
/-- the same with ghosts -/
inductive SigK (Γ : List (Kd T)) : List AX → List (Kd T) → Prop
  | nil : SigK Γ [] []
  | v {m : EX} {l : List AX} {sg : List (Kd T)} : SigK Γ l sg → SigK Γ (.v m :: l) (.fz :: sg)
  | io {i : Nat} {k : Kd T} {l : List AX} {sg : List (Kd T)} : Γ[i]? = some k → SigK Γ l sg → SigK Γ (.io i :: l) (k :: sg)
theorem SigOk.k : ∀ {l : List AX} {sg : List (Kd T)}, SigOk Γ l sg → SigK Γ l sg
  | _, _, .nil => .nil
  | _, _, .v g => .v g.k
  | _, _, .io h _ g => .io h g.k
def iosOf : List AX → List Nat
  | [] => []
  | .v _ :: l => iosOf l
  | .io i :: l => i :: iosOf l
/-- the place of the slot among the arguments -/
def ixOf (i : Nat) : List AX → Option Nat
  | [] => none
  | .v _ :: l => (ixOf i l).map (· + 1)
  | .io j :: l => if j = i then some 0 else (ixOf i l).map (· + 1)
def fpC (fp : Nat → List Addr) (l : List AX) (j : Nat) : List Addr := match l[j]? with
  | some (.io i) => fp i
  | _ => []
def fpB (fp fpc : Nat → List Addr) (l : List AX) (i : Nat) : List Addr := match ixOf i l with
  | some j => fpc j
  | none => fp i
theorem mem_ios : ∀ {l : List AX} {i j : Nat}, l[j]? = some (.io i) → i ∈ iosOf l
  | [], _, _, h => by simp at h
  | .v _ :: l, i, 0, h => by simp at h
  | .v _ :: l, i, j + 1, h => by simp only [iosOf]; exact mem_ios (j := j) (by simpa using h)
  | .io k :: l, i, 0, h => by simp at h; simp [iosOf, h]
  | .io k :: l, i, j + 1, h => by simp only [iosOf, List.mem_cons]; exact .inr (mem_ios (j := j) (by simpa using h))
theorem ixOf_at : ∀ {l : List AX} {i j : Nat}, ixOf i l = some j → l[j]? = some (.io i)
  | [], _, _, h => by cases h
  | .v _ :: l, i, j, h => by
    simp only [ixOf] at h
    cases e : ixOf i l with
    | none => rw [e] at h; cases h
    | some k => rw [e] at h; cases h; simpa using ixOf_at e
  | .io k :: l, i, j, h => by
    simp only [ixOf] at h
    split at h
    · rename_i e; cases h; simp [e]
    · cases e : ixOf i l with
      | none => rw [e] at h; cases h
      | some k => rw [e] at h; cases h; simpa using ixOf_at e
theorem ixOf_of : ∀ {l : List AX} {i j : Nat}, (iosOf l).Nodup → l[j]? = some (.io i) → ixOf i l = some j
  | [], _, _, _, h => by simp at h
  | .v _ :: l, i, 0, _, h => by simp at h
  | .v _ :: l, i, j + 1, n, h => by
    have q := ixOf_of (l := l) (i := i) (j := j) n (by simpa using h)
    simp only [ixOf, q]; rfl
  | .io k :: l, i, 0, _, h => by simp at h; simp [ixOf, h]
  | .io k :: l, i, j + 1, n, h => by
    have h' : l[j]? = some (.io i) := by simpa using h
    have n' := List.nodup_cons.mp n
    have ne : ¬ k = i := fun e => n'.1 (e ▸ mem_ios h')
    have q := ixOf_of n'.2 h'
    simp only [ixOf, if_neg ne, q]; rfl
theorem ixOf_none : ∀ {l : List AX} {i : Nat}, ixOf i l = none → i ∉ iosOf l
  | [], _, _ => by simp [iosOf]
  | .v _ :: l, i, h => by
    simp only [ixOf, Option.map_eq_none_iff] at h
    simp only [iosOf]; exact ixOf_none h
  | .io k :: l, i, h => by
    simp only [ixOf] at h
    split at h
    · cases h
    · rename_i e
      simp only [Option.map_eq_none_iff] at h
      simp only [iosOf, List.mem_cons, not_or]
      exact ⟨fun z => e z.symm, ixOf_none h⟩
/-- the arguments place by place -/
theorem arg_at {F : Hp} {σ : L2.St} {s : En} : ∀ {l : List AX} {os : List (Option D)} {vs : List (Option V)} {ds : List D} {sg : List (Kd T)}, ArgR T F σ l os vs → axFill l os s = some ds → SigK Γ l sg →
    ds.length = l.length ∧ vs.length = l.length ∧ sg.length = l.length ∧ ∀ (j : Nat) (d : D) (ov : Option V) (k : Kd T), ds[j]? = some d → vs[j]? = some ov → sg[j]? = some k →
      ((∃ m v, l[j]? = some (AX.v m) ∧ ov = some v ∧ Rep T F d v ∧ k = Kd.fz) ∨ ∃ i, l[j]? = some (AX.io i) ∧ s[i]? = some (some d) ∧ σ[i]? = some ov ∧ Γ[i]? = some k)
  | [], _, _, _, _, .nil, h, .nil => by cases h; exact ⟨rfl, rfl, rfl, fun j d v k h => by simp at h⟩
  | .v m :: l, _, _, ds, _, .v (d := d0) r t, h, .v g => by
    simp only [axFill] at h
    cases e : axFill l _ s with
    | none => rw [e] at h; cases h
    | some ds' =>
      rw [e] at h; cases h
      obtain ⟨q1, q2, q3, q4⟩ := arg_at t e g
      refine ⟨by simp [q1], by simp [q2], by simp [q3], fun j d v k h1 h2 h3 => ?_⟩
      cases j with
      | zero => simp at h1 h2 h3; subst h1 h2 h3; exact .inl ⟨m, _, rfl, rfl, r, rfl⟩
      | succ j => simpa using q4 j d v k (by simpa using h1) (by simpa using h2) (by simpa using h3)
  | .io i :: l, _, _, ds, _, .io hv t, h, .io hg g => by
    simp only [axFill] at h
    split at h
    · rename_i d0 e0
      cases e : axFill l _ s with
      | none => rw [e] at h; cases h
      | some ds' =>
        rw [e] at h; cases h
        obtain ⟨q1, q2, q3, q4⟩ := arg_at t e g
        refine ⟨by simp [q1], by simp [q2], by simp [q3], fun j d v k h1 h2 h3 => ?_⟩
        cases j with
        | zero => simp at h1 h2 h3; subst h1 h2 h3; exact .inr ⟨i, rfl, e0, hv, hg⟩
        | succ j => simpa using q4 j d v k (by simpa using h1) (by simpa using h2) (by simpa using h3)
    · cases h
theorem back_len : ∀ (l : List AX) (es : List D) (s : En), (axBack l es s).length = s.length
  | [], [], _ | [], _ :: _, _ | .v _ :: _, [], _ | .io _ :: _, [], _ => rfl
  | .v _ :: l, _ :: es, s => by simp only [axBack]; exact back_len l es s
  | .io i :: l, d :: es, s => by simp only [axBack]; rw [back_len l es _, List.length_set]
theorem back_out : ∀ {l : List AX} {es : List D} {s : En} {i : Nat}, i ∉ iosOf l → (axBack l es s)[i]? = s[i]?
  | [], [], _, _, _ | [], _ :: _, _, _, _ | .v _ :: _, [], _, _, _ | .io _ :: _, [], _, _, _ => rfl
  | .v _ :: l, _ :: es, s, i, h => by simp only [axBack]; exact back_out (by simpa [iosOf] using h)
  | .io k :: l, d :: es, s, i, h => by
    simp only [iosOf, List.mem_cons, not_or] at h
    simp only [axBack]
    rw [back_out h.2, List.getElem?_set_ne (fun z => h.1 z.symm)]
theorem back_in : ∀ {l : List AX} {es : List D} {s : En} {i j : Nat} {d : D}, (iosOf l).Nodup → l[j]? = some (.io i) → es[j]? = some d → i < s.length → (axBack l es s)[i]? = some (some d)
  | [], _, _, _, _, _, _, h, _, _ => by simp at h
  | .v _ :: l, [], _, _, _, _, _, _, h, _ => by simp at h
  | .v _ :: l, _ :: es, s, i, 0, d, _, h, _, _ => by simp at h
  | .v _ :: l, _ :: es, s, i, j + 1, d, n, h, h2, hl => by simp only [axBack]; exact back_in (j := j) n (by simpa using h) (by simpa using h2) hl
  | .io k :: l, [], _, _, _, _, _, _, h, _ => by simp at h
  | .io k :: l, d0 :: es, s, i, 0, d, n, h, h2, hl => by
    simp at h h2; subst h h2
    simp only [axBack]
    rw [back_out (List.nodup_cons.mp n).1, List.getElem?_set_self hl]
  | .io k :: l, d0 :: es, s, i, j + 1, d, n, h, h2, hl => by
    simp only [axBack]
    exact back_in (j := j) (List.nodup_cons.mp n).2 (by simpa using h) (by simpa using h2) (by rw [List.length_set]; exact hl)
theorem sta_call {fp : Nat → List Addr} {F H : Hp} {σ : L2.St} {s : En} {os : List (Option D)} {vs : List (Option V)} {ds : List D} {sg : List (Kd T)} (S : Sta T Γ fp F H σ s) (n : (iosOf l).Nodup) (r : ArgR T F σ l os vs) (hf : axFill l os s = some ds) (g : SigK Γ l sg) :
    Sta T sg (fpC fp l) F H vs (ds.map some) := by
  obtain ⟨q1, q2, q3, q4⟩ := arg_at r hf g
  refine ⟨S.sub, by simp [q1, q2], by simp [q1, q3], fun j od ov k h1 h2 h3 => ?_, fun j hj => ?_, fun j j' a ha ha' => ?_⟩
  · rw [List.getElem?_map] at h1
    cases e1 : ds[j]? with
    | none => rw [e1] at h1; cases h1
    | some d =>
      rw [e1] at h1; cases h1
      rcases q4 j d ov k e1 h2 h3 with ⟨m, v, hl, rfl, rr, rfl⟩ | ⟨i, hl, hs, hσ, hg⟩
      · have e : fpC fp l j = [] := by unfold fpC; rw [hl]
        rw [e]
        exact ⟨rfl, v, rfl, rr⟩
      · have e : fpC fp l j = fp i := by unfold fpC; rw [hl]
        rw [e]
        exact S.ok i _ _ _ hs hσ hg
  · have hj' : l.length ≤ j := by rw [← q1]; simpa using hj
    unfold fpC
    rw [List.getElem?_eq_none hj']
  · unfold fpC at ha ha'
    split at ha
    · rename_i i hl
      split at ha'
      · rename_i i' hl'
        have e := S.dis i i' a ha ha'
        subst e
        have z1 := ixOf_of n hl
        have z2 := ixOf_of n hl'
        rw [z1] at z2
        exact Option.some.inj z2
      · cases ha'
    · cases ha
theorem sta_back {fp fpc' : Nat → List Addr} {F H F' H' : Hp} {σ : L2.St} {s : En} {os : List (Option D)} {vs : List (Option V)} {ds es : List D} {sg : List (Kd T)} (S : Sta T Γ fp F H σ s) (n : (iosOf l).Nodup) (r : ArgR T F σ l os vs) (hf : axFill l os s = some ds) (g : SigK Γ l sg)
    (go : Go (fpC fp l) fpc' F F' H H') (S' : Sta T sg fpc' F' H' vs (es.map some)) : Go fp (fpB fp fpc' l) F F' H H' ∧ Sta T Γ (fpB fp fpc' l) F' H' σ (axBack l es s) := by
  obtain ⟨q1, q2, q3, q4⟩ := arg_at r hf g
  have les : es.length = l.length := by have := S'.lg; rw [List.length_map] at this; rw [← this, q3]
  -- what stands outside the passed footprints
  have out : ∀ i a, a ∈ fp i → ixOf i l = none → ∀ j, a ∉ fpC fp l j := fun i a ha hi j hj => by
    unfold fpC at hj
    split at hj
    · rename_i i' hl
      have e := S.dis i i' a ha hj
      subst e
      rw [ixOf_of n hl] at hi; cases hi
    · cases hj
  have keepFp : ∀ i a o, a ∈ fp i → ixOf i l = none → H a = some o → H' a = some o := fun i a o ha hi h => go.keep a o h (out i a ha hi)
  have fnone : ∀ i a, a ∈ fp i → ixOf i l = none → F' a = none := fun i a ha hi => by
    obtain ⟨z1, o, z2⟩ := S.slot_none ha
    cases e : F' a with
    | none => rfl
    | some u =>
      rcases go.new a u e with w | w
      · rw [z1] at w; cases w
      · rw [z2] at w; cases w
  have inC : ∀ i j a, ixOf i l = some j → a ∈ fpc' j → a ∈ fp i ∨ H a = none := fun i j a hi ha => by
    rcases go.fpn j a ha with w | w
    · unfold fpC at w
      rw [ixOf_at hi] at w
      exact .inl w
    · exact .inr w
  refine ⟨⟨fun a o h hn => ?_, go.dom, go.mono, go.new, fun i a ha => ?_⟩, ⟨S'.sub, by rw [back_len]; exact S.ls, by rw [back_len]; exact S.lg, fun i od ov k h1 h2 h3 => ?_, fun i hi => ?_, fun i i' a ha ha' => ?_⟩⟩
  · refine go.keep a o h fun j hj => ?_
    unfold fpC at hj
    split at hj
    · exact hn _ hj
    · cases hj
  · unfold fpB at ha
    split at ha
    · rename_i j hi
      exact inC i j a hi ha
    · exact .inl ha
  · unfold fpB
    cases hi : ixOf i l with
    | none =>
      rw [back_out (ixOf_none hi)] at h1
      have w := S.ok i od ov k h1 h2 h3
      unfold SlotOk at w ⊢
      cases od with
      | none => exact w
      | some d =>
        cases k with
        | fz => obtain ⟨w1, v, w2, w3⟩ := w; exact ⟨w1, v, w2, w3.fle go.mono⟩
        | own =>
          obtain ⟨b, ds', vs', e1, e2, e3, e4, e5, e6⟩ := w
          have hb : b ∈ fp i := by rw [e3]; simp
          exact ⟨b, ds', vs', e1, e2, e3, keepFp i b _ hb hi e4, fnone i b hb hi, e6.fle go.mono⟩
        | ab A =>
          obtain ⟨v, e1, e2, e3⟩ := w
          exact ⟨v, e1, A.loc _ _ _ _ _ _ _ e2 go.mono fun b o hb => keepFp i b o hb hi, fun b hb => ⟨fnone i b hb hi, let ⟨o, ho⟩ := (e3 b hb).2; ⟨o, keepFp i b o hb hi ho⟩⟩⟩
        | gh A =>
          obtain ⟨e1, e2, e3⟩ := w
          exact ⟨e1, A.loc _ _ _ _ _ _ _ e2 go.mono fun b o hb => keepFp i b o hb hi, fun b hb => ⟨fnone i b hb hi, let ⟨o, ho⟩ := (e3 b hb).2; ⟨o, keepFp i b o hb hi ho⟩⟩⟩
        | hid => exact w
    | some j =>
      have hl := ixOf_at hi
      have hjl : j < l.length := (List.getElem?_eq_some_iff.mp hl).1
      have hil : i < s.length := by
        have := (List.getElem?_eq_some_iff.mp h1).1
        rw [back_len] at this; exact this
      have ej : es[j]? = some es[j] := List.getElem?_eq_getElem (by omega)
      rw [back_in n hl ej hil] at h1
      cases h1
      have ev : vs[j]? = some vs[j] := List.getElem?_eq_getElem (by omega)
      have ed : ds[j]? = some ds[j] := List.getElem?_eq_getElem (by omega)
      have ek : sg[j]? = some sg[j] := List.getElem?_eq_getElem (by omega)
      rcases q4 j _ _ _ ed ev ek with ⟨m, _, hl', _⟩ | ⟨i', hl', hs, hσ, hg⟩
      · rw [hl] at hl'; cases hl'
      · rw [hl] at hl'; cases hl'
        rw [hσ] at h2; cases h2
        rw [hg] at h3; cases h3
        have w := S'.ok j (some es[j]) vs[j] _ (by rw [List.getElem?_map, ej]; rfl) ev ek
        exact w
  · unfold fpB
    rw [back_len] at hi
    cases h : ixOf i l with
    | none => exact S.out i hi
    | some j =>
      exfalso
      have hl := ixOf_at h
      have hjl : j < l.length := (List.getElem?_eq_some_iff.mp hl).1
      have ev : vs[j]? = some vs[j] := List.getElem?_eq_getElem (by omega)
      have ed : ds[j]? = some ds[j] := List.getElem?_eq_getElem (by omega)
      have ek : sg[j]? = some sg[j] := List.getElem?_eq_getElem (by omega)
      rcases q4 j _ _ _ ed ev ek with ⟨m, _, hl', _⟩ | ⟨i', hl', hs, _⟩
      · rw [hl] at hl'; cases hl'
      · rw [hl] at hl'; cases hl'
        have := (List.getElem?_eq_some_iff.mp hs).1
        omega
  · unfold fpB at ha ha'
    cases h : ixOf i l with
    | none =>
      rw [h] at ha
      cases h' : ixOf i' l with
      | none => rw [h'] at ha'; exact S.dis i i' a ha ha'
      | some j' =>
        rw [h'] at ha'
        rcases inC i' j' a h' ha' with w | w
        · exact S.dis i i' a ha w
        · obtain ⟨_, o, z⟩ := S.slot_none ha; rw [w] at z; cases z
    | some j =>
      rw [h] at ha
      cases h' : ixOf i' l with
      | none =>
        rw [h'] at ha'
        rcases inC i j a h ha with w | w
        · exact S.dis i i' a w ha'
        · obtain ⟨_, o, z⟩ := S.slot_none ha'; rw [w] at z; cases z
      | some j' =>
        rw [h'] at ha'
        have e := S'.dis j j' a ha ha'
        subst e
        have z1 := ixOf_at h
        have z2 := ixOf_at h'
        rw [z1] at z2
        cases z2; rfl
theorem axIn_some {s : En} : ∀ {l : List AX} {i : Nat}, axIn s l = true → .io i ∈ l → ∃ d, s[i]? = some (some d)
  | [], _, _, h => by cases h
  | .v _ :: l, i, h, hm => by
    simp only [axIn] at h
    rcases List.mem_cons.mp hm with e | e
    · cases e
    · exact axIn_some h e
  | .io k :: l, i, h, hm => by
    simp only [axIn, Bool.and_eq_true] at h
    rcases List.mem_cons.mp hm with e | e
    · cases e
      obtain ⟨h1, _⟩ := h
      split at h1
      · rename_i d e; exact ⟨d, e⟩
      · cases h1
    · exact axIn_some h.2 e
theorem sig_ab : ∀ {l : List AX} {sg : List (Kd T)} {i : Nat}, SigOk Γ l sg → .io i ∈ l → ∃ k, Γ[i]? = some k ∧ ioR k = true
  | [], _, _, _, h => by cases h
  | .v _ :: l, _, i, .v g, hm => by
    rcases List.mem_cons.mp hm with e | e
    · cases e
    · exact sig_ab g e
  | .io k :: l, _, i, .io h hk g, hm => by
    rcases List.mem_cons.mp hm with e | e
    · cases e; exact ⟨_, h, hk⟩
    · exact sig_ab g e
theorem re_callIO {sg : List (Kd T)} {f : FN} (n : (iosOf l).Nodup) (g : SigOk Γ l sg) (ra : RM T W Γ tl l) : RE T W Γ (tCallS (spG T sg f) (WE W) tl) (eCallIO f l) := by
  intro fp F H σ s Q S h
  unfold eCallIO at h
  split at h
  · rename_i hin
    refine ra fp F H σ s _ S (fun i hm => ?_) (h.bind.imp fun os s1 fp1 F1 H1 g1 S1 h2 vs rv => ?_)
    · obtain ⟨d, hd⟩ := axIn_some hin hm
      obtain ⟨k, hA, hk⟩ := sig_ab g hm
      have hi : i < s.length := (List.getElem?_eq_some_iff.mp hd).1
      have hσ : i < σ.length := by rw [S.ls]; exact hi
      have w := S.ok i _ _ _ hd (List.getElem?_eq_getElem hσ) hA
      cases k with
      | own => obtain ⟨a, _, _, _, e, _⟩ := w; exact ⟨_, by rw [List.getElem?_eq_getElem hσ, e]⟩
      | ab A => obtain ⟨v, e, _⟩ := w; exact ⟨v, by rw [List.getElem?_eq_getElem hσ, e]⟩
      | fz => cases hk
      | gh A => cases hk
      | hid => cases hk
    · cases hf : axFill l os s1 with
      | none => rw [hf] at h2; exact h2.elim
      | some ds =>
        rw [hf] at h2
        have h2 : Po T W Γ fp1 F1 H1 σ (match f ds with
          | .ok d es => .ok d (axBack l es s1)
          | .ex c fs es => .ex c fs (axBack l es s1)
          | .no => .no) (fun d _ _ F' H' => ∀ v, Rep T F' d v → Q v H') := h2
        obtain ⟨q1, q2, q3, q4⟩ := arg_at rv hf g.k
        rw [List.length_map] at q2
        refine ⟨by rw [q2, q3], fpC fp1 l, F1, ds, sta_call S1 n rv hf g.k, ?_⟩
        cases er : f ds with
        | ok d es' =>
          rw [er] at h2
          intro fp' F' H' v go S' r
          obtain ⟨g2, S2⟩ := sta_back S1 n rv hf g.k go S'
          exact h2 _ F' H' g2 S2 v r
        | ex c fs es' =>
          rw [er] at h2
          intro fp' F' H' od go S' r
          obtain ⟨g2, S2⟩ := sta_back S1 n rv hf g.k go S'
          exact h2 _ F' H' od g2 S2 r
        | no => rw [er] at h2; exact h2
  · exact h.elim
theorem xe_callIO {k : Nat} {sg : List (Kd T)} {f : Addr} {fd : FuncData} {ps : List Str} {x : Str} {p : Pos} {fn : FN} (n : (iosOf l).Nodup) (g : SigOk Γ l sg) (tk : Takes X W) (F : FnOk X.prog X.w X.K X.mg X.base (L2.CX X.prog X.w) k f fd ps (spG T sg fn)) (hr : Room k X.A) (hg : Gl X x) (hm : X.mg x = some (.ref f)) (hk : PySem.W.keepIn X.K (.ref f) = true) (hb : Binds X.K fd ps [])
    (ha : XM X T W Γ (e :: es) l) (hdb : (x == ("__debug__" : Str)) = false) (he : starEach (e :: es) X.env = (false, eval e X.env) :: starEach es X.env) (hpl : (backTo pos (starEach es X.env)).any (·.1) = false) :
    XE X T W Γ (.Call (.Name x p) (e :: es) [] pos) (eCallIO fn l) := by
  obtain ⟨ta, p1, r1⟩ := ha
  exact ⟨_, pe_callS F hr hg hm hk hb (fun σ => passAt tk σ) p1 hdb he hpl, re_callIO n g r1⟩
end
end RX

set_option Elab.async false
set_option linter.all false
set_option maxRecDepth 100000
set_option maxHeartbeats 4000000
/-! RX9: targets, what is walked, comprehensions. -/
namespace RX
open PySem PySem.Spec PyProof.Rows L2 PL

/-! ### slots set -/
def putV (σ : L2.St) (is : List Nat) (vs : List V) : L2.St := (is.zip vs).foldl (fun s p => s.set p.1 (some p.2)) σ
section
variable {T : Tx} {Γ : List (Kd T)} {fp : Nat → List Addr} {F F' H H' : Hp} {σ : L2.St} {s : En}
theorem fp_fz (S : Sta T Γ fp F H σ s) {i : Nat} (h : Γ[i]? = some .fz) : fp i = [] := by
  by_cases hi : i < s.length
  · have hσ : i < σ.length := by rw [S.ls]; exact hi
    have q := S.ok i _ _ _ (List.getElem?_eq_getElem hi) (List.getElem?_eq_getElem hσ) h
    unfold SlotOk at q
    cases e : s[i] with
    | none => rw [e] at q; exact q
    | some d => rw [e] at q; exact q.1
  · exact S.out i (Nat.le_of_not_lt hi)
theorem Sta.setF (S : Sta T Γ fp F H σ s) {i : Nat} {d : D} {v : V} (h : Γ[i]? = some .fz) (r : Rep T F d v) : Sta T Γ fp F H (σ.set i (some v)) (s.set i (some d)) where
  sub := S.sub
  ls := by rw [List.length_set, List.length_set]; exact S.ls
  lg := by rw [List.length_set]; exact S.lg
  out := fun j hj => S.out j (by rw [List.length_set] at hj; exact hj)
  dis := S.dis
  ok := fun j od ov k h1 h2 h3 => by
    by_cases e : i = j
    · subst e
      rw [h] at h3; cases h3
      have hi : i < s.length := by have := (List.getElem?_eq_some_iff.mp h1).1; rw [List.length_set] at this; exact this
      rw [List.getElem?_set_self hi] at h1
      rw [List.getElem?_set_self (by rw [S.ls]; exact hi)] at h2
      cases h1; cases h2
      exact ⟨fp_fz S h, v, rfl, r⟩
    · rw [List.getElem?_set_ne e] at h1 h2
      exact S.ok j od ov k h1 h2 h3
theorem Sta.put : ∀ {is : List Nat} {ds : List D} {vs : List V} {σ : L2.St} {s : En}, Sta T Γ fp F H σ s → (∀ i ∈ is, Γ[i]? = some .fz) → RepL T F ds vs → Sta T Γ fp F H (putV σ is vs) (putE s is ds)
  | [], _, _, _, _, S, _, _ => by simpa [putV, putE] using S
  | i :: is, _, _, _, _, S, _, .nil => by simpa [putV, putE] using S
  | i :: is, _, _, _, _, S, h, .cons r rs => by
    have q := (S.setF (h i List.mem_cons_self) r).put (fun j hj => h j (List.mem_cons_of_mem _ hj)) rs
    simpa [putV, putE] using q
theorem putV_app : ∀ {is js : List Nat} {vs ws : List V} {σ : L2.St}, vs.length = is.length → putV σ (is ++ js) (vs ++ ws) = putV (putV σ is vs) js ws := fun {is js vs ws σ} h => by
  unfold putV
  rw [List.zip_append h.symm, List.foldl_append]
theorem putV_out : ∀ {is : List Nat} {vs : List V} {σ : L2.St} {i : Nat}, i ∉ is → (putV σ is vs)[i]? = σ[i]?
  | [], _, _, _, _ => rfl
  | _ :: _, [], _, _, _ => rfl
  | j :: is, v :: vs, σ, i, h => by
    have h1 : j ≠ i := fun e => h (by rw [e]; exact List.mem_cons_self)
    show (putV (σ.set j (some v)) is vs)[i]? = _
    rw [putV_out (fun m => h (List.mem_cons_of_mem _ m)), List.getElem?_set_ne h1]
theorem putV_length : ∀ {is : List Nat} {vs : List V} {σ : L2.St}, (putV σ is vs).length = σ.length
  | [], _, _ => rfl
  | _ :: _, [], _ => rfl
  | j :: is, v :: vs, σ => by
    show (putV (σ.set j (some v)) is vs).length = _
    rw [putV_length, List.length_set]
end

/-! ### targets -/
structure RG (T : Tx) (t : TG) (is : List Nat) (f : DC) : Prop where
  len : ∀ d ds, f d = some ds → ds.length = is.length
  run : ∀ (F H : Hp) (σ : L2.St) (v : V) (d : D) (ds : List D) (Q : L2.St → Hp → Prop), Fle F H → Rep T F d v → f d = some ds → (∀ vs, RepL T F ds vs → Q (putV σ is vs) H) → t v σ H Q
structure RGs (T : Tx) (t : TGs) (is : List Nat) (fs : List DC) : Prop where
  len : ∀ xs ds, dcs fs xs = some ds → ds.length = is.length
  run : ∀ (F H : Hp) (σ : L2.St) (vs : List V) (xs ds : List D) (Q : L2.St → Hp → Prop), Fle F H → RepL T F xs vs → dcs fs xs = some ds → (∀ ws, RepL T F ds ws → Q (putV σ is ws) H) → t vs σ H Q
def XG (X : Cx) (T : Tx) (e : Expr) (is : List Nat) (f : DC) : Prop := ∃ t, PG X e t ∧ RG T t is f
def XGs (X : Cx) (T : Tx) (es : List Expr) (is : List Nat) (fs : List DC) : Prop := ∃ t, PGs X es t ∧ RGs T t is fs
section
variable {X : Cx} {T : Tx} {e : Expr} {es : List Expr} {pos : Pos} {is js : List Nat} {f : DC} {fs : List DC}
theorem xg_name {i : Nat} {x : Str} (hN : X.N.Nodup) (hi : X.N[i]? = some x) (hx : Loc X.env.scope x) (hf : X.fn x = true ∨ X.env.scope.names.lookup x = some .local) : XG X T (.Name x pos) [i] dNm :=
  ⟨_, pg_name hN hi hx hf, fun d ds h => by cases h; rfl, fun F H σ v d ds Q S r h q => by
    cases h
    exact q [v] (.cons r .nil)⟩
theorem rgs_nil : RGs T gNil [] [] := by
  constructor
  · intro xs ds h
    cases xs with
    | nil => cases h; rfl
    | cons a b => cases h
  · intro F H σ vs xs ds Q S r h q
    cases r with
    | nil => cases h; exact ⟨rfl, q [] .nil⟩
    | cons a b => cases h
theorem xgs_nil : XGs X T [] [] [] := ⟨_, pgs_nil, rgs_nil⟩
theorem dcs_cons {f : DC} {fs : List DC} {d : D} {ds rs : List D} (h : dcs (f :: fs) (d :: ds) = some rs) : ∃ a b, f d = some a ∧ dcs fs ds = some b ∧ rs = a ++ b := by
  simp only [dcs] at h
  split at h
  · rename_i a b h1 h2
    cases h
    exact ⟨a, b, h1, h2, rfl⟩
  · cases h
theorem RepL.split {F : Hp} : ∀ {as bs : List D} {vs : List V}, RepL T F (as ++ bs) vs → ∃ us ws, vs = us ++ ws ∧ RepL T F as us ∧ RepL T F bs ws
  | [], _, vs, r => ⟨[], vs, rfl, .nil, r⟩
  | a :: as, bs, _, .cons r t => by
    obtain ⟨us, ws, e, h1, h2⟩ := RepL.split t
    exact ⟨_ :: us, ws, by rw [e]; rfl, .cons r h1, h2⟩
theorem xgs_cons (h1 : XG X T e is f) (h2 : XGs X T es js fs) (hs : (assignEach (e :: es) X.env).map (·.2) = assign e X.env :: (assignEach es X.env).map (·.2)) : XGs X T (e :: es) (is ++ js) (f :: fs) := by
  obtain ⟨t, p1, r1⟩ := h1
  obtain ⟨u, p2, r2⟩ := h2
  refine ⟨_, pgs_cons p1 p2 hs, fun xs ds h => ?_, fun F H σ vs xs ds Q S r h q => ?_⟩
  · cases xs with
    | nil => cases h
    | cons d xs =>
      obtain ⟨a, b, e1, e2, e3⟩ := dcs_cons h
      rw [e3, List.length_append, List.length_append, r1.len _ _ e1, r2.len _ _ e2]
  · cases r with
    | nil => cases h
    | cons r rs =>
      obtain ⟨a, b, e1, e2, e3⟩ := dcs_cons h
      subst e3
      refine ⟨_, _, rfl, r1.run F H σ _ _ a _ S r e1 fun us ru => r2.run F H _ _ _ b _ S rs e2 fun ws rw' => ?_⟩
      rw [← putV_app (by rw [← ru.length, r1.len _ _ e1])]
      exact q _ (ru.app rw')
theorem xg_tup (hK : X.K = T.K) {k n : Nat} (hc : X.calm = true) (h : XGs X T es is fs) (hn : (assignEach es X.env).length = n) (hst : (assignEach es X.env).findIdx? (·.1) = none) (hl : fs.length = n) : XG X T (.Tuple es k pos) is (dTup fs) := by
  obtain ⟨t, p1, r1⟩ := h
  have lenx : ∀ (fs : List DC) (xs : List D) (ds : List D), dcs fs xs = some ds → xs.length = fs.length := by
    intro fs
    induction fs with
    | nil => intro xs ds h; cases xs with
      | nil => rfl
      | cons a b => cases h
    | cons f fs ih => intro xs ds h; cases xs with
      | nil => cases h
      | cons a b => obtain ⟨_, _, _, e, _⟩ := dcs_cons h; simp [ih _ _ e]
  refine ⟨_, pg_tup hc p1 hn hst, fun d ds h => ?_, fun F H σ v d ds Q S r h q => ?_⟩
  · cases d <;> first | cases h | exact r1.len _ _ h
  · cases d with
    | tup xs =>
      cases r with
      | tup hq rs =>
        exact ⟨_, _, rfl, by rw [hK]; exact sqT_fle S hq, by rw [← rs.length, lenx _ _ _ h, hl], r1.run F H σ _ _ ds Q S rs h q⟩
    | _ => cases h
end

/-! ### what is walked -/
structure ItRep (T : Tx) (J : It) (xs : List D) (F : Hp) : Prop where
  go : ∀ i F' H', Fle F F' → Fle F' H' → i < xs.length → J.go i H'
  stop : ∀ i F' H', Fle F F' → Fle F' H' → xs.length ≤ i → J.stop i H'
  yld : ∀ i F' H' x H'' d, Fle F F' → Fle F' H' → J.yld i H' x H'' → xs[i]? = some d → ∃ F'', PX F' H' F'' H'' ∧ Rep T F'' d x
def RI (T : Tx) (W : WX) (Γ : List (Kd T)) (wi : TI) (m : LX) : Prop :=
  ∀ (fp : Nat → List Addr) (F H : Hp) (σ : L2.St) (s : En) (R : It → Hp → Prop), Sta T Γ fp F H σ s → Po T W Γ fp F H σ (m s) (fun xs _ _ F' H' => ∀ J, ItRep T J xs F' → R J H') → wi σ H R
def XI (X : Cx) (T : Tx) (W : WX) (Γ : List (Kd T)) (tg it : Expr) (m : LX) : Prop := ∃ wi, PI X tg it wi ∧ RI T W Γ wi m
section
variable {T : Tx} {F H : Hp}
theorem itl_rep {a : Addr} {vs : List V} {ds : List D} (h : F a = some (.lst vs)) (r : RepL T F ds vs) : ItRep T (Itl T.K a) ds F where
  go := fun i F' H' f1 f2 hi => by
    have hv : i < vs.length := by rw [← r.length]; exact hi
    exact ⟨vs, vs[i], .inl (.inl (f2 _ _ (f1 _ _ h))), List.getElem?_eq_getElem hv⟩
  stop := fun i F' H' f1 f2 hi => ⟨vs, .inl (.inl (f2 _ _ (f1 _ _ h))), by rw [← r.length]; exact hi⟩
  yld := fun i F' H' x H'' d f1 f2 ⟨e, y⟩ hd => by
    subst e
    obtain ⟨v, e, rv⟩ := r.get hd
    have := y vs (.inl (.inl (f2 _ _ (f1 _ _ h))))
    rw [e] at this; cases this
    exact ⟨F', PX.refl f2, rv.fle f1⟩
theorem itt_rep {a : Addr} {vs : List V} {ds : List D} (h : SqT T.K F a vs) (r : RepL T F ds vs) : ItRep T (Itt T.K a) ds F where
  go := fun i F' H' f1 f2 hi => by
    have hv : i < vs.length := by rw [← r.length]; exact hi
    exact ⟨vs, vs[i], sqT_fle (f1.trans f2) h, List.getElem?_eq_getElem hv⟩
  stop := fun i F' H' f1 f2 hi => ⟨vs, sqT_fle (f1.trans f2) h, by rw [← r.length]; exact hi⟩
  yld := fun i F' H' x H'' d f1 f2 ⟨e, y⟩ hd => by
    subst e
    obtain ⟨v, e, rv⟩ := r.get hd
    have := y vs (sqT_fle (f1.trans f2) h)
    rw [e] at this; cases this
    exact ⟨F', PX.refl f2, rv.fle f1⟩
theorem rangeL_len (lo : Int) (n : Nat) : (rangeL lo n).length = n := by simp [rangeL]
theorem itr_rep (lo : Int) (n : Nat) : ItRep T (Itr lo n) (rangeL lo n) F where
  go := fun i F' H' _ _ hi => by rw [rangeL_len] at hi; exact hi
  stop := fun i F' H' _ _ hi => by rw [rangeL_len] at hi; exact hi
  yld := fun i F' H' x H'' d _ f2 ⟨e, y⟩ hd => by
    subst e y
    have : d = .int (lo + i) := by
      unfold rangeL at hd
      rw [List.getElem?_map] at hd
      cases q : (List.range n)[i]? with
      | none => rw [q] at hd; cases hd
      | some j =>
        rw [q] at hd
        have := List.getElem?_range (n := n) (i := i) (by have := (List.getElem?_eq_some_iff.mp q).1; simpa using this)
        rw [this] at q; cases q; cases hd; rfl
    subst this
    exact ⟨F', PX.refl f2, .int _⟩
theorem its_rep (z : List Nat) : ItRep T (Its (stOf z)) (z.map fun c => .str [c]) F where
  go := fun i F' H' _ _ hi => by
    show i < (stOf z).cps.size
    simp [stOf] at hi ⊢; exact hi
  stop := fun i F' H' _ _ hi => by
    show (stOf z).cps.size ≤ i
    simp [stOf] at hi ⊢; exact hi
  yld := fun i F' H' x H'' d _ f2 ⟨e, c, hc, y⟩ hd => by
    subst e y
    have hc' : z[i]? = some c := by simpa [stOf] using hc
    rw [List.getElem?_map, hc'] at hd
    cases hd
    exact ⟨F', PX.refl f2, .str [c]⟩
theorem enumL_get {xs : List D} {i : Nat} {d : D} (h : (enumL xs)[i]? = some d) : ∃ x, xs[i]? = some x ∧ d = .tup [.int i, x] := by
  unfold enumL at h
  rw [List.getElem?_zipWith] at h
  cases q : (List.range xs.length)[i]? with
  | none => rw [q] at h; cases h
  | some j =>
    have hi := (List.getElem?_eq_some_iff.mp q).1
    have := List.getElem?_range (n := xs.length) (i := i) (by simpa using hi)
    rw [this] at q; cases q
    cases e : xs[i]? with
    | none => rw [this, e] at h; cases h
    | some x => rw [this, e] at h; cases h; exact ⟨x, rfl, rfl⟩
theorem enumL_len (xs : List D) : (enumL xs).length = xs.length := by simp [enumL]
theorem ite_rep {a : Addr} {vs : List V} {ds : List D} (h : F a = some (.lst vs)) (r : RepL T F ds vs) : ItRep T (Ite T.K a) (enumL ds) F where
  go := fun i F' H' f1 f2 hi => by
    rw [enumL_len] at hi
    have hv : i < vs.length := by rw [← r.length]; exact hi
    exact ⟨vs, vs[i], .inl (.inl (f2 _ _ (f1 _ _ h))), List.getElem?_eq_getElem hv⟩
  stop := fun i F' H' f1 f2 hi => ⟨vs, .inl (.inl (f2 _ _ (f1 _ _ h))), by rw [← r.length, ← enumL_len]; exact hi⟩
  yld := fun i F' H' x H'' d f1 f2 ⟨Ta, y, ex, hn, eH, hy⟩ hd => by
    subst ex eH
    obtain ⟨d0, e0, ed⟩ := enumL_get hd
    subst ed
    obtain ⟨v, e, rv⟩ := r.get e0
    have := hy vs (.inl (.inl (f2 _ _ (f1 _ _ h))))
    obtain rfl : v = y := by rw [e] at this; exact Option.some.inj this
    have fl : Fle F' (upd F' Ta (.tup [.int (i : Nat), v])) := Fle.up1 (f2.none hn)
    exact ⟨_, PX.alloc f2 hn, .tup (vs := [.int (i : Nat), v]) (.inl (.inl upd_same)) (.cons (.int _) (.cons ((rv.fle f1).fle fl) .nil))⟩
theorem zipL_get {xs ys : List D} {i : Nat} {d : D} (h : (zipL xs ys)[i]? = some d) : ∃ x y, xs[i]? = some x ∧ ys[i]? = some y ∧ d = .tup [x, y] := by
  unfold zipL at h
  rw [List.getElem?_zipWith] at h
  cases e : xs[i]? with
  | none => rw [e] at h; cases h
  | some x =>
    cases e2 : ys[i]? with
    | none => rw [e, e2] at h; cases h
    | some y => rw [e, e2] at h; cases h; exact ⟨x, y, rfl, rfl, rfl⟩
theorem zipL_len (xs ys : List D) : (zipL xs ys).length = min xs.length ys.length := by simp [zipL]
theorem itz_rep {a b : Addr} {vs ws : List V} {ds es : List D} (h : F a = some (.lst vs)) (r : RepL T F ds vs) (h2 : F b = some (.lst ws)) (r2 : RepL T F es ws) : ItRep T (Itz T.K a b) (zipL ds es) F where
  go := fun i F' H' f1 f2 hi => by
    rw [zipL_len] at hi
    have hv : i < vs.length := by rw [← r.length]; omega
    have hw : i < ws.length := by rw [← r2.length]; omega
    exact ⟨vs, ws, vs[i], ws[i], .inl (.inl (f2 _ _ (f1 _ _ h))), .inl (.inl (f2 _ _ (f1 _ _ h2))), List.getElem?_eq_getElem hv, List.getElem?_eq_getElem hw⟩
  stop := fun i F' H' f1 f2 hi => ⟨vs, ws, .inl (.inl (f2 _ _ (f1 _ _ h))), .inl (.inl (f2 _ _ (f1 _ _ h2))), by rw [zipL_len] at hi; rw [← r.length, ← r2.length]; omega⟩
  yld := fun i F' H' x H'' d f1 f2 ⟨Ta, y, y2, ex, hn, eH, hy, hy2⟩ hd => by
    subst ex eH
    obtain ⟨d0, d1, e0, e1, ed⟩ := zipL_get hd
    subst ed
    obtain ⟨v, e, rv⟩ := r.get e0
    obtain ⟨w, e', rw'⟩ := r2.get e1
    have := hy vs (.inl (.inl (f2 _ _ (f1 _ _ h))))
    obtain rfl : v = y := by rw [e] at this; exact Option.some.inj this
    have := hy2 ws (.inl (.inl (f2 _ _ (f1 _ _ h2))))
    obtain rfl : w = y2 := by rw [e'] at this; exact Option.some.inj this
    have fl : Fle F' (upd F' Ta (.tup [v, w])) := Fle.up1 (f2.none hn)
    exact ⟨_, PX.alloc f2 hn, .tup (vs := [v, w]) (.inl (.inl upd_same)) (.cons ((rv.fle f1).fle fl) (.cons ((rw'.fle f1).fle fl) .nil))⟩
theorem itzT_rep {a b : Addr} {vs ws : List V} {ds es : List D} (h : SqT T.K F a vs) (r : RepL T F ds vs) (h2 : SqT T.K F b ws) (r2 : RepL T F es ws) : ItRep T (RZ.ItzT T.K a b) (zipL ds es) F where
  go := fun i F' H' f1 f2 hi => by
    rw [zipL_len] at hi
    have hv : i < vs.length := by rw [← r.length]; omega
    have hw : i < ws.length := by rw [← r2.length]; omega
    exact ⟨vs, ws, vs[i], ws[i], sqT_fle (f1.trans f2) h, sqT_fle (f1.trans f2) h2, List.getElem?_eq_getElem hv, List.getElem?_eq_getElem hw⟩
  stop := fun i F' H' f1 f2 hi => ⟨vs, ws, sqT_fle (f1.trans f2) h, sqT_fle (f1.trans f2) h2, by rw [zipL_len] at hi; rw [← r.length, ← r2.length]; omega⟩
  yld := fun i F' H' x H'' d f1 f2 ⟨Ta, y, y2, ex, hn, eH, hy, hy2⟩ hd => by
    subst ex eH
    obtain ⟨d0, d1, e0, e1, ed⟩ := zipL_get hd
    subst ed
    obtain ⟨v, e, rv⟩ := r.get e0
    obtain ⟨w, e', rw'⟩ := r2.get e1
    have := hy vs (sqT_fle (f1.trans f2) h)
    obtain rfl : v = y := by rw [e] at this; exact Option.some.inj this
    have := hy2 ws (sqT_fle (f1.trans f2) h2)
    obtain rfl : w = y2 := by rw [e'] at this; exact Option.some.inj this
    have fl : Fle F' (upd F' Ta (.tup [v, w])) := Fle.up1 (f2.none hn)
    exact ⟨_, PX.alloc f2 hn, .tup (vs := [v, w]) (.inl (.inl upd_same)) (.cons ((rv.fle f1).fle fl) (.cons ((rw'.fle f1).fle fl) .nil))⟩
end
section
variable {X : Cx} {T : Tx} {W : WX} {Γ : List (Kd T)} {pos : Pos} {tg e a b c : Expr} {es : List Expr} {tl : TE} {ta : TA} {m ma mb : EX} {l : LX}
/-- a list or a tuple, walked -/
def iSeq (K : PySem.W.Frag) (tl : TE) : TI := fun σ H R => tl σ H fun x H1 => ∃ a, x = .ref a ∧ (((∃ xs, SqL K H1 a xs) ∧ R (Itl K a) H1) ∨ ((∃ xs, SqT K H1 a xs) ∧ R (Itt K a) H1))
theorem pi_seq (hl : PE X e tl) : PI X tg e (iSeq X.K tl) := by
  refine ⟨fun pins s σ H R I h => ?_⟩
  refine thn (hl.run pins s σ H _ I h) fun v s1 ⟨x, H1, I1, r1, q1⟩ => ?_
  obtain ⟨a, e, q⟩ := q1
  subst e
  cases r1
  rcases q with ⟨⟨xs, hq⟩, q⟩ | ⟨⟨xs, hq⟩, q⟩
  · obtain ⟨its, rv, p, hz⟩ := I1.list hq
    refine wpAny_pyIter_list p.isList ?_
    refine ⟨s1.heap.objs.size, [s1.heap.objs.size], _, _, H1, rfl, I1.kept (t' := s1.toks) fun b o e => Heap.get?_push_of_some _ e, turn_list a _, ⟨_, Heap.get?_push_size _ rfl, rfl, rfl⟩, fun b hb => ?_, q⟩
    have e : b = s1.heap.objs.size := by simpa using hb
    subst e
    exact I1.fpOk (Nat.le_refl _) (I1.hok.fresh (Nat.le_refl _))
  · obtain ⟨its, rv, p, hz⟩ := I1.tuple hq
    refine wpAny_pyIter_tuple (show s1.heap.IsTuple a its.toArray from p) ?_
    refine ⟨s1.heap.objs.size, [s1.heap.objs.size], _, _, H1, rfl, I1.kept (t' := s1.toks) fun b o e => Heap.get?_push_of_some _ e, turn_tuple a _, ⟨_, Heap.get?_push_size _ rfl, rfl, rfl⟩, fun b hb => ?_, q⟩
    have e : b = s1.heap.objs.size := by simpa using hb
    subst e
    exact I1.fpOk (Nat.le_refl _) (I1.hok.fresh (Nat.le_refl _))
theorem xi_seq (hK : X.K = T.K) (ha : XE X T W Γ e m) : XI X T W Γ tg e (itSeq m) := by
  obtain ⟨te, p1, r1⟩ := ha
  refine ⟨_, pi_seq p1, fun fp F H σ s R S h => ?_⟩
  refine r1 fp F H σ s _ S (h.bind.imp fun x s1 fp1 F1 H1 g1 S1 h2 v rv => ?_)
  rw [hK]
  cases x with
  | lst xs =>
    cases rv with
    | lst hq rs => exact ⟨_, rfl, .inl ⟨⟨_, .inl (.inl (S1.sub _ _ hq))⟩, h2 fp1 F1 H1 Go.refl S1 _ (itl_rep hq rs)⟩⟩
  | tup xs =>
    cases rv with
    | tup hq rs => exact ⟨_, rfl, .inr ⟨⟨_, sqT_fle S1.sub hq⟩, h2 fp1 F1 H1 Go.refl S1 _ (itt_rep hq rs)⟩⟩
  | _ => exact h2.elim
theorem xi_str (ha : XE X T W Γ e m) : XI X T W Γ tg e (itStr m) := by
  obtain ⟨te, p1, r1⟩ := ha
  refine ⟨_, pi_str p1, fun fp F H σ s R S h => ?_⟩
  refine r1 fp F H σ s _ S (h.bind.imp fun x s1 fp1 F1 H1 g1 S1 h2 v rv => ?_)
  cases x with
  | str z =>
    cases rv
    exact ⟨_, rfl, h2 fp1 F1 H1 Go.refl S1 _ (its_rep z)⟩
  | _ => exact h2.elim
/-- a text, a list or a tuple, walked -/
def iAny (K : PySem.W.Frag) (tl : TE) : TI := fun σ H R => tl σ H fun x H1 => (∃ z, x = .str z ∧ R (Its z) H1) ∨ ∃ a, x = .ref a ∧ (((∃ xs, SqL K H1 a xs) ∧ R (Itl K a) H1) ∨ ((∃ xs, SqT K H1 a xs) ∧ R (Itt K a) H1))
theorem pi_any (hl : PE X e tl) : PI X tg e (iAny X.K tl) := by
  refine ⟨fun pins s σ H R I h => ?_⟩
  refine thn (hl.run pins s σ H _ I h) fun v s1 ⟨x, H1, I1, r1, q1⟩ => ?_
  rcases q1 with ⟨z, ez, q⟩ | ⟨a, e, q⟩
  · subst ez
    obtain ⟨t, rfl⟩ := r1
    cases ha : z.cps.all (· < 128)
    · exact wpAny_pyIter_wide ha (pi_one (tk := s1.toks) I1 _ (turn_str _ z t "str_iterator" (.inr rfl)) ⟨_, Heap.get?_push_size _ rfl, rfl, rfl⟩ q)
    · exact wpAny_pyIter_ascii ha (pi_one (tk := s1.toks) I1 _ (turn_str _ z t "str_ascii_iterator" (.inl rfl)) ⟨_, Heap.get?_push_size _ rfl, rfl, rfl⟩ q)
  · subst e
    cases r1
    rcases q with ⟨⟨xs, hq⟩, q⟩ | ⟨⟨xs, hq⟩, q⟩
    · obtain ⟨its, rv, p, hz⟩ := I1.list hq
      exact wpAny_pyIter_list p.isList (pi_one (tk := s1.toks) I1 _ (turn_list a _) ⟨_, Heap.get?_push_size _ rfl, rfl, rfl⟩ q)
    · obtain ⟨its, rv, p, hz⟩ := I1.tuple hq
      exact wpAny_pyIter_tuple (show s1.heap.IsTuple a its.toArray from p) (pi_one (tk := s1.toks) I1 _ (turn_tuple a _) ⟨_, Heap.get?_push_size _ rfl, rfl, rfl⟩ q)
theorem xi_any (hK : X.K = T.K) (ha : XE X T W Γ e m) : XI X T W Γ tg e (itAny m) := by
  obtain ⟨te, p1, r1⟩ := ha
  refine ⟨_, pi_any p1, fun fp F H σ s R S h => ?_⟩
  refine r1 fp F H σ s _ S (h.bind.imp fun x s1 fp1 F1 H1 g1 S1 h2 v rv => ?_)
  rw [hK]
  cases x with
  | str z =>
    cases rv
    exact .inl ⟨_, rfl, h2 fp1 F1 H1 Go.refl S1 _ (its_rep z)⟩
  | lst xs =>
    cases rv with
    | lst hq rs => exact .inr ⟨_, rfl, .inl ⟨⟨_, .inl (.inl (S1.sub _ _ hq))⟩, h2 fp1 F1 H1 Go.refl S1 _ (itl_rep hq rs)⟩⟩
  | tup xs =>
    cases rv with
    | tup hq rs => exact .inr ⟨_, rfl, .inr ⟨⟨_, sqT_fle S1.sub hq⟩, h2 fp1 F1 H1 Go.refl S1 _ (itt_rep hq rs)⟩⟩
  | _ => exact h2.elim
theorem small62_of {j : Int} (h : small62 j = true) : -(2 ^ 62) ≤ j ∧ j < 2 ^ 62 := by
  unfold small62 at h
  exact of_decide_eq_true h
theorem ra_one (r : RE T W Γ tl m) : RA T W Γ (tCons tl tNil) (lCons m lNil) := by
  intro fp F H σ s Q S h
  refine r fp F H σ s _ S (h.bind.imp fun x s1 fp1 F1 H1 g1 S1 h2 v rv => ?_)
  exact h2 fp1 F1 H1 Go.refl S1 [v] (.cons rv .nil)
theorem xi_r1 {p : Pos} (hg : Gl X "range") (hm : X.mg "range" = none) (ha : XE X T W Γ a m) (hs : starEach [a] X.env = [(false, eval a X.env)]) : XI X T W Γ tg (.Call (.Name "range" p) [a] [] pos) (itR1 m) := by
  obtain ⟨te, p1, r1⟩ := ha
  refine ⟨_, pi_range1 hg hm (pa_cons p1 pa_nil hs) hs, fun fp F H σ s R S h => ?_⟩
  refine r1 fp F H σ s _ S (h.bind.imp fun x s1 fp1 F1 H1 g1 S1 h2 v rv => ?_)
  cases x with
  | int j =>
    cases rv
    dsimp only at h2
    split at h2
    · rename_i hj
      obtain ⟨q1, q2⟩ := small62_of hj
      exact ⟨j, rfl, q1, q2, h2 fp1 F1 H1 Go.refl S1 _ (itr_rep 0 j.toNat)⟩
    · exact h2.elim
  | _ => exact h2.elim
theorem xi_r2 {p : Pos} (hg : Gl X "range") (hm : X.mg "range" = none) (ha : XE X T W Γ a ma) (hb : XE X T W Γ b mb) (hs : starEach [a, b] X.env = [(false, eval a X.env), (false, eval b X.env)]) (hs2 : starEach [b] X.env = [(false, eval b X.env)]) : XI X T W Γ tg (.Call (.Name "range" p) [a, b] [] pos) (itR2 ma mb) := by
  obtain ⟨te, p1, r1⟩ := ha
  obtain ⟨tf, p2, r2⟩ := hb
  refine ⟨_, pi_range2 hg hm (pa_cons p1 (pa_cons p2 pa_nil hs2) (by rw [hs, hs2])) hs hs2, fun fp F H σ s R S h => ?_⟩
  refine r1 fp F H σ s _ S (h.bind.imp fun x s1 fp1 F1 H1 g1 S1 h2 v rv => ?_)
  refine r2 fp1 F1 H1 σ s1 _ S1 (h2.bind.imp fun y s2 fp2 F2 H2 g2 S2 h3 w rw' => ?_)
  have h3 : Po T W Γ fp2 F2 H2 σ (match x, y with
    | .int i, .int j => if small62 i && small62 j then .ok (rangeL i (j - i).toNat) s2 else .no
    | _, _ => .no) (fun xs _ _ F' H' => ∀ J, ItRep T J xs F' → R J H') := h3
  cases x with
  | int i =>
    cases y with
    | int j =>
      cases rv
      cases rw'
      dsimp only at h3
      split at h3
      · rename_i hj
        rw [Bool.and_eq_true] at hj
        obtain ⟨q1, q2⟩ := small62_of hj.1
        obtain ⟨q3, q4⟩ := small62_of hj.2
        exact ⟨i, j, rfl, ⟨q1, q2, q3, q4⟩, h3 fp2 F2 H2 Go.refl S2 _ (itr_rep i (j - i).toNat)⟩
      · exact h3.elim
    | _ => exact h3.elim
  | _ => exact h3.elim
theorem xi_enum (hK : X.K = T.K) {p tpos : Pos} {elts : List Expr} {kk : Nat} (hg : Gl X "enumerate") (hm : X.mg "enumerate" = none) (ha : XE X T W Γ e m) (hs : starEach [e] X.env = [(false, eval e X.env)]) : XI X T W Γ (.Tuple elts kk tpos) (.Call (.Name "enumerate" p) [e] [] pos) (itEnum m) := by
  obtain ⟨te, p1, r1⟩ := ha
  refine ⟨_, pi_enum hg hm (pa_cons p1 pa_nil hs) hs, fun fp F H σ s R S h => ?_⟩
  refine r1 fp F H σ s _ S (h.bind.imp fun x s1 fp1 F1 H1 g1 S1 h2 v rv => ?_)
  rw [hK]
  cases x with
  | lst xs =>
    cases rv with
    | lst hq rs => exact ⟨_, _, rfl, .inl (.inl (S1.sub _ _ hq)), h2 fp1 F1 H1 Go.refl S1 _ (ite_rep hq rs)⟩
  | _ => exact h2.elim
theorem xi_zip (hK : X.K = T.K) {p tpos : Pos} {elts : List Expr} {kk : Nat} (hg : Gl X "zip") (hm : X.mg "zip" = none) (ha : XE X T W Γ a ma) (hb : XE X T W Γ b mb)
    (hs : starEach [a, b] X.env = (false, eval a X.env) :: starEach [b] X.env) (hs2 : starEach [b] X.env = (false, eval b X.env) :: starEach [] X.env) (hpl : (backTo pos (starEach [b] X.env)).any (·.1) = false) : XI X T W Γ (.Tuple elts kk tpos) (.Call (.Name "zip" p) [a, b] [] pos) (itZip ma mb) := by
  obtain ⟨te, p1, r1⟩ := ha
  obtain ⟨tf, p2, r2⟩ := hb
  refine ⟨_, RZ.pi_zipA hg hm (pa_cons p1 (pa_cons p2 pa_nil hs2) hs) hs hpl, fun fp F H σ s R S h => ?_⟩
  refine r1 fp F H σ s _ S (h.bind.imp fun x s1 fp1 F1 H1 g1 S1 h2 v rv => ?_)
  refine r2 fp1 F1 H1 σ s1 _ S1 (h2.bind.imp fun y s2 fp2 F2 H2 g2 S2 h3 w rw' => ?_)
  have h3 : Po T W Γ fp2 F2 H2 σ (match x, y with
    | .lst xs, .lst ys => if xs.length = ys.length then .ok (zipL xs ys) s2 else .no
    | .tup xs, .tup ys => if xs.length = ys.length then .ok (zipL xs ys) s2 else .no
    | _, _ => .no) (fun xs _ _ F' H' => ∀ J, ItRep T J xs F' → R J H') := h3
  rw [hK]
  cases x with
  | lst xs =>
    cases y with
    | lst ys =>
      cases rv with
      | lst hq rs =>
        cases rw' with
        | lst hq2 rs2 =>
          dsimp only at h3
          split at h3
          · have hq := g2.mono _ _ hq
            exact ⟨_, _, _, _, rfl, .inl ⟨.inl (.inl (S2.sub _ _ hq)), .inl (.inl (S2.sub _ _ hq2)), h3 fp2 F2 H2 Go.refl S2 _ (itz_rep hq (rs.fle g2.mono) hq2 rs2)⟩⟩
          · exact h3.elim
    | _ => exact h3.elim
  | tup xs =>
    cases y with
    | tup ys =>
      cases rv with
      | tup hq rs =>
        cases rw' with
        | tup hq2 rs2 =>
          dsimp only at h3
          split at h3
          · have hq := sqT_fle g2.mono hq
            exact ⟨_, _, _, _, rfl, .inr ⟨sqT_fle S2.sub hq, sqT_fle S2.sub hq2, h3 fp2 F2 H2 Go.refl S2 _ (itzT_rep hq (rs.fle g2.mono) hq2 rs2)⟩⟩
          · exact h3.elim
    | _ => exact h3.elim
  | _ => exact h3.elim
end
end RX

set_option Elab.async false
set_option linter.all false
set_option maxRecDepth 100000
set_option maxHeartbeats 4000000
/-! RX10: comprehensions; new lists. -/
namespace RX
open PySem PySem.Spec PyProof.Rows L2 PL

def W0 : WX := fun _ _ _ _ => False
section
variable {T : Tx} {Γ : List (Kd T)} {fp : Nat → List Addr} {F F' H H' : Hp} {σ : L2.St} {s : En}
theorem wipeD_length (s : En) : ∀ vs : List Nat, (wipeD s vs).length = s.length
  | [] => rfl
  | v :: vs => by unfold wipeD; rw [List.length_set, wipeD_length s vs]
theorem wipeD_out {s : En} {i : Nat} : ∀ {vs : List Nat}, i ∉ vs → (wipeD s vs)[i]? = s[i]?
  | [], _ => rfl
  | v :: vs, h => by
    have h1 : v ≠ i := fun e => h (by rw [e]; exact List.mem_cons_self)
    unfold wipeD
    rw [List.getElem?_set_ne h1, wipeD_out (fun m => h (List.mem_cons_of_mem _ m))]
theorem wipeD_in {s : En} {i : Nat} : ∀ {vs : List Nat}, i ∈ vs → i < s.length → (wipeD s vs)[i]? = some none
  | v :: vs, h, hl => by
    unfold wipeD
    by_cases e : v = i
    · subst e; rw [List.getElem?_set_self (by rw [wipeD_length]; exact hl)]
    · rw [List.getElem?_set_ne e]
      rcases List.mem_cons.mp h with q | q
      · exact absurd q.symm e
      · exact wipeD_in q hl
theorem Sta.wipe (S : Sta T Γ fp F H σ s) {vs : List Nat} (h : ∀ i ∈ vs, Γ[i]? = some .fz) : Sta T Γ fp F H (L2.wipe σ vs) (wipeD s vs) where
  sub := S.sub
  ls := by rw [wipe_length, wipeD_length]; exact S.ls
  lg := by rw [wipeD_length]; exact S.lg
  out := fun j hj => S.out j (by rw [wipeD_length] at hj; exact hj)
  dis := S.dis
  ok := fun j od ov k h1 h2 h3 => by
    by_cases e : j ∈ vs
    · have hj : j < s.length := by have := (List.getElem?_eq_some_iff.mp h1).1; rw [wipeD_length] at this; exact this
      rw [wipeD_in e hj] at h1; cases h1
      exact fp_fz S (h j e)
    · rw [wipeD_out e] at h1
      rw [wipe_out e] at h2
      exact S.ok j od ov k h1 h2 h3
/-- the slots' values behind a wipe: the same for states that differ in own names alone -/
theorem Sta.wipeAgain {σw : L2.St} {vs : List Nat} (S : Sta T Γ fp F H σw s) (h : ∀ i ∈ vs, Γ[i]? = some .fz) (e : L2.wipe σw vs = L2.wipe σ vs) : Sta T Γ fp F H (L2.wipe σ vs) (wipeD s vs) := by
  rw [← e]; exact S.wipe h
theorem unwipeD_length : ∀ (own : List Nat) (s0 s : En), (unwipeD own s0 s).length = s.length
  | [], _, _ => rfl
  | i :: own, s0, s => by
    show (unwipeD own s0 (s.set i (s0.getD i none))).length = _
    rw [unwipeD_length, List.length_set]
theorem unwipeD_out {i : Nat} : ∀ {own : List Nat} {s0 s : En}, i ∉ own → (unwipeD own s0 s)[i]? = s[i]?
  | [], _, _, _ => rfl
  | j :: own, s0, s, h => by
    have h1 : j ≠ i := fun e => h (by rw [e]; exact List.mem_cons_self)
    show (unwipeD own s0 (s.set j (s0.getD j none)))[i]? = _
    rw [unwipeD_out (fun m => h (List.mem_cons_of_mem _ m)), List.getElem?_set_ne h1]
theorem unwipeD_in {i : Nat} : ∀ {own : List Nat} {s0 s : En}, i ∈ own → i < s.length → (unwipeD own s0 s)[i]? = some (s0.getD i none)
  | j :: own, s0, s, h, hl => by
    show (unwipeD own s0 (s.set j (s0.getD j none)))[i]? = _
    by_cases m : i ∈ own
    · exact unwipeD_in m (by rw [List.length_set]; exact hl)
    · rcases List.mem_cons.mp h with q | q
      · subst q
        rw [unwipeD_out m, List.getElem?_set_self hl]
      · exact absurd q m
/-- behind the comprehension -/
theorem Sta.unwipe {fp0 : Nat → List Addr} {F0 H0 : Hp} {s0 : En} {vs : List Nat} (S0 : Sta T Γ fp0 F0 H0 σ s0) (S : Sta T Γ fp F H (L2.wipe σ vs) s) (m : Fle F0 F) (h : ∀ i ∈ vs, Γ[i]? = some .fz) : Sta T Γ fp F H σ (unwipeD vs s0 s) where
  sub := S.sub
  ls := by rw [unwipeD_length, ← S.ls, wipe_length]
  lg := by rw [unwipeD_length]; exact S.lg
  out := fun j hj => S.out j (by rw [unwipeD_length] at hj; exact hj)
  dis := S.dis
  ok := fun j od ov k h1 h2 h3 => by
    have ll : s.length = s0.length := by rw [← S.ls, wipe_length, S0.ls]
    by_cases e : j ∈ vs
    · have hj : j < s.length := by have := (List.getElem?_eq_some_iff.mp h1).1; rw [unwipeD_length] at this; exact this
      rw [unwipeD_in e hj] at h1
      have hk := h j e
      rw [hk] at h3; cases h3
      have hf : fp j = [] := fp_fz S hk
      have hj0 : j < s0.length := by rw [← ll]; exact hj
      have e0 : s0[j]? = some (s0.getD j none) := by rw [List.getD_eq_getElem?_getD, List.getElem?_eq_getElem hj0]; rfl
      have q := S0.ok j _ _ _ e0 h2 hk
      have h1' := Option.some.inj h1
      rw [h1'] at q
      unfold SlotOk at q ⊢
      cases od with
      | none => exact hf
      | some d =>
        obtain ⟨_, v, e1, r⟩ := q
        exact ⟨hf, v, e1, r.fle m⟩
    · rw [unwipeD_out e] at h1
      exact S.ok j od ov k h1 (by rw [wipe_out e]; exact h2) h3
end

/-! ### objects beside the slots -/
section
variable {T : Tx} {W : WX} {Γ : List (Kd T)} {fp fp' : Nat → List Addr} {F F' H H' : Hp} {σ : L2.St} {s : En} {a : Addr} {o : HO}
/-- all slots stand if what they lean on stands -/
theorem Sta.same2 (S : Sta T Γ fp F H σ s) (hk : ∀ i b u, b ∈ fp i → H b = some u → H' b = some u) (hF : Fle F F') (hFH : Fle F' H') (hn : ∀ i b, b ∈ fp i → F' b = none) : Sta T Γ fp F' H' σ s where
  sub := hFH
  ls := S.ls
  lg := S.lg
  out := S.out
  dis := S.dis
  ok := fun i od ov k h1 h2 h3 => by
    have q := S.ok i od ov k h1 h2 h3
    unfold SlotOk at q ⊢
    cases od with
    | none => exact q
    | some d =>
      cases k with
      | fz =>
        obtain ⟨q1, v, q2, q3⟩ := q
        exact ⟨q1, v, q2, q3.fle hF⟩
      | own =>
        obtain ⟨b, ds, vs, e1, e2, e3, e4, e5, e6⟩ := q
        have hb : b ∈ fp i := by rw [e3]; simp
        exact ⟨b, ds, vs, e1, e2, e3, hk i _ _ hb e4, hn i b hb, e6.fle hF⟩
      | ab A =>
        obtain ⟨v, e1, e2, e3⟩ := q
        exact ⟨v, e1, A.loc _ _ _ _ _ _ _ e2 hF fun b o hb => hk i b o hb, fun b hb => ⟨hn i b hb, let ⟨o, ho⟩ := (e3 b hb).2; ⟨o, hk i b o hb ho⟩⟩⟩
      | gh A =>
        obtain ⟨e1, e2, e3⟩ := q
        exact ⟨e1, A.loc _ _ _ _ _ _ _ e2 hF fun b o hb => hk i b o hb, fun b hb => ⟨hn i b hb, let ⟨o, ho⟩ := (e3 b hb).2; ⟨o, hk i b o hb ho⟩⟩⟩
      | hid => exact q
theorem Sta.froze (S : Sta T Γ fp F H σ s) (h : H a = some o) (hf : ∀ i, a ∉ fp i) (hn : F a = none) : Sta T Γ fp (upd F a o) H σ s :=
  S.same2 (fun _ _ _ _ e => e) (Fle.up1 hn) (fun b u e => by
    by_cases hb : b = a
    · subst hb; rw [upd_same] at e; cases e; exact h
    · rw [upd_ne hb] at e; exact S.sub b u e) fun i b hb => by
    have : b ≠ a := fun z => hf i (z ▸ hb)
    rw [upd_ne this]
    exact (S.slot_none hb).1
theorem Sta.updOut (S : Sta T Γ fp F H σ s) (hf : ∀ i, a ∉ fp i) (hn : F a = none) : Sta T Γ fp F (upd H a o) σ s :=
  S.same2 (fun i b u hb e => by
    have : b ≠ a := fun z => hf i (z ▸ hb)
    rw [upd_ne this]; exact e) (Fle.refl F) (fun b u e => by
    have : b ≠ a := ne_of_none e hn
    rw [upd_ne this]; exact S.sub b u e) fun i b hb => (S.slot_none hb).1
theorem Go.freeze (g : Go fp fp' F F' H H') (h : H a = none) (hn : F' a = none) : Go fp fp' F (upd F' a o) H H' where
  keep := g.keep
  dom := g.dom
  mono := g.mono.trans (Fle.up1 hn)
  new := fun b u e => by
    by_cases hb : b = a
    · subst hb; exact .inr h
    · rw [upd_ne hb] at e; exact g.new b u e
  fpn := g.fpn
theorem Go.updNew (g : Go fp fp' F F' H H') (h : H a = none) : Go fp fp' F F' H (upd H' a o) where
  keep := fun b u e hf => by rw [upd_ne (ne_of_none e h)]; exact g.keep b u e hf
  dom := fun b e => by
    by_cases hb : b = a
    · subst hb; exact h
    · rw [upd_ne hb] at e; exact g.dom b e
  mono := g.mono
  new := g.new
  fpn := g.fpn
end

/-! ### new lists -/
/-- an expression whose value is a new list -/
def RL (T : Tx) (W : WX) (Γ : List (Kd T)) (te : TE) (m : EX) : Prop :=
  ∀ (fp : Nat → List Addr) (F H : Hp) (σ : L2.St) (s : En) (Q : VK), Sta T Γ fp F H σ s →
    Po T W Γ fp F H σ (m s) (fun d s' fp' F' H' => ∀ a vs ds, d = .lst ds → H a = none → H' a = some (.lst vs) → F' a = none → (∀ i, a ∉ fp' i) → RepL T F' ds vs → Q (.ref a) H') → te σ H Q
def XL (X : Cx) (T : Tx) (W : WX) (Γ : List (Kd T)) (e : Expr) (m : EX) : Prop := ∃ te, PE X e te ∧ RL T W Γ te m
section
variable {X : Cx} {T : Tx} {W : WX} {Γ : List (Kd T)} {pos : Pos} {e tg iter elt : Expr} {es : List Expr} {te : TE} {tl : TA} {m : EX} {l : LX}
theorem RL.re (r : RL T W Γ te m) (hl : ∀ s d s', m s = .ok d s' → ∃ ds, d = .lst ds) : RE T W Γ te m := by
  intro fp F H σ s Q S h
  refine r fp F H σ s Q S ?_
  cases e : m s with
  | ok d s' =>
    rw [e] at h
    intro fp' F' H' g S' a vs ds ed ha ha' hn hf rs
    subst ed
    exact h fp' _ H' (g.freeze ha hn) (S'.froze ha' hf hn) _ (.lst upd_same (rs.fle (Fle.up1 hn)))
  | ex c fs s' => rw [e] at h; exact h
  | no => rw [e] at h; exact h
theorem rl_lst (r : RA T W Γ tl l) : RL T W Γ (tLst tl) (eLst l) := by
  intro fp F H σ s Q S h
  refine r fp F H σ s _ S (h.bind.imp fun xs s1 fp1 F1 H1 g1 S1 h2 vs rv => ?_)
  split at h2
  · rename_i hl
    refine ⟨by rw [← rv.length]; exact line_le hl, fun p hp => ?_⟩
    have hF : F1 p = none := S1.sub.none hp
    have hf : ∀ i, p ∉ fp1 i := fun i hi => by obtain ⟨_, o, q⟩ := S1.slot_none hi; rw [hp] at q; cases q
    exact h2 fp1 F1 _ (Go.refl.updNew hp) (S1.updOut hf hF) p vs xs rfl (g1.dom p hp) upd_same hF hf rv
  · exact h2.elim
theorem xl_lst (h : XA X T W Γ es l) : XL X T W Γ (.List es pos) (eLst l) := by
  obtain ⟨t, p, r⟩ := h
  exact ⟨_, pe_lst p, rl_lst r⟩

/-! ### canonical readings -/
def reW (T : Tx) (W : WX) (Γ : List (Kd T)) (m : EX) : TE := fun σ H Q => ∃ fp F s, Sta T Γ fp F H σ s ∧ Po T W Γ fp F H σ (m s) (fun d _ _ F' H' => ∀ v, Rep T F' d v → Q v H')
def rtW (T : Tx) (W : WX) (Γ : List (Kd T)) (m : TX) : TT := fun σ H Q => ∃ fp F s, Sta T Γ fp F H σ s ∧ Po T W Γ fp F H σ (m s) (fun b _ _ _ H' => Q b H')
def rgW (T : Tx) (is : List Nat) (f : DC) : TG := fun v σ H Q => ∃ F d ds, Fle F H ∧ Rep T F d v ∧ f d = some ds ∧ ∀ vs, RepL T F ds vs → Q (putV σ is vs) H
theorem XE.can (h : XE X T W Γ e m) : PE X e (reW T W Γ m) := by
  obtain ⟨t, p, r⟩ := h
  exact ⟨fun pins s σ H Q I ⟨fp, F, s0, S, q⟩ => p.run pins s σ H Q I (r fp F H σ s0 Q S q)⟩
theorem XT.can {m : TX} (h : XT X T W Γ e m) : PT X e (rtW T W Γ m) := by
  obtain ⟨t, p, r⟩ := h
  exact ⟨fun pins s σ H Q I ⟨fp, F, s0, S, q⟩ => p.run pins s σ H Q I (r fp F H σ s0 Q S q)⟩
theorem XG.can {is : List Nat} {f : DC} (h : XG X T e is f) : PG X e (rgW T is f) := by
  obtain ⟨t, p, r⟩ := h
  exact ⟨fun pins s σ H v u Q I rv ⟨F, d, ds, S, rd, ef, q⟩ => p.run pins s σ H v u Q I rv (r.run F H σ v d ds Q S rd ef q)⟩
theorem XG.len {is : List Nat} {f : DC} (h : XG X T e is f) : ∀ d ds, f d = some ds → ds.length = is.length := by
  obtain ⟨t, p, r⟩ := h
  exact r.len
theorem re_can : RE T W Γ (reW T W Γ m) m := fun fp F H σ s Q S h => ⟨fp, F, s, S, h⟩
theorem rt_can {m : TX} : RT T W Γ (rtW T W Γ m) m := fun fp F H σ s Q S h => ⟨fp, F, s, S, h⟩

/-! ### comprehensions -/
/-- the tests of a comprehension -/
def XTs (X : Cx) (T : Tx) (W : WX) (Γ : List (Kd T)) (es : List Expr) (m : TX) : Prop := PTs X es (rtW T W Γ m)
theorem xts_nil : XTs X T W Γ [] uYes := ⟨fun pins s σ H Q I ⟨fp, F, s0, S, q⟩ => pts_nil.run pins s σ H Q I (q fp F H Go.refl S)⟩
theorem xts_one {m : TX} (h : XT X T W Γ e m) : XTs X T W Γ [e] m := pts_one h.can
theorem wipe_in {σ : L2.St} {i : Nat} : ∀ {vs : List Nat}, i ∈ vs → i < σ.length → (L2.wipe σ vs)[i]? = some none
  | v :: vs, h, hl => by
    unfold L2.wipe
    by_cases e : v = i
    · subst e; rw [List.getElem?_set_self (by rw [wipe_length]; exact hl)]
    · rw [List.getElem?_set_ne e]
      rcases List.mem_cons.mp h with q | q
      · exact absurd q.symm e
      · exact wipe_in q hl
theorem wipe_put {σ : L2.St} {own is : List Nat} {ws : List V} (h : ∀ i ∈ is, i ∈ own) : L2.wipe (putV (L2.wipe σ own) is ws) own = L2.wipe σ own := by
  apply List.ext_getElem?
  intro i
  by_cases hi : i ∈ own
  · by_cases hl : i < σ.length
    · rw [wipe_in hi (by rw [putV_length, wipe_length]; exact hl), wipe_in hi hl]
    · rw [List.getElem?_eq_none (by rw [wipe_length, putV_length, wipe_length]; omega), List.getElem?_eq_none (by rw [wipe_length]; omega)]
  · rw [wipe_out hi, putV_out (fun q => hi (h i q)), wipe_out hi]
theorem Sta.wipeW {fp : Nat → List Addr} {F H : Hp} {σ : L2.St} {s : En} {vs : List Nat} (S : Sta T Γ fp F H (L2.wipe σ vs) s) (h : ∀ i ∈ vs, Γ[i]? = some .fz) : Sta T Γ fp F H (L2.wipe σ vs) (wipeD s vs) := by
  have q := S.wipe h
  have e : L2.wipe (L2.wipe σ vs) vs = L2.wipe σ vs := by
    have := wipe_put (σ := σ) (own := vs) (is := []) (ws := []) (by simp)
    simpa [putV] using this
  rw [e] at q
  exact q
theorem Po.ofOk {fp : Nat → List Addr} {F H : Hp} {σ : L2.St} {A : Type} {r : Res En A} {P : A → En → (Nat → List Addr) → Hp → Hp → Prop} (a : A) (s' : En) (e : r = .ok a s') (h : ∀ fp' F' H', Go fp fp' F F' H H' → Sta T Γ fp' F' H' σ s' → P a s' fp' F' H') : Po T W Γ fp F H σ r P := by rw [e]; exact h
theorem rl_lc {wi : TI} {it : LX} {g : TG} {is own : List Nat} {f : DC} {tt : TT} {t : TX} {te : TE} {e : EX} (ri : RI T W Γ wi it) (rg : RG T g is f) (hso : ∀ i ∈ is, i ∈ own) (hz : ∀ i ∈ own, Γ[i]? = some .fz) (rt : RT T W0 Γ tt t) (re : RE T W0 Γ te e) :
    RL T W Γ (tLc wi g tt te own) (eLc it own (gT is f) t e) := by
  intro fp F H σ s Q S h
  unfold eLc at h
  refine ri fp F H σ s _ S (h.bind.imp fun xs s1 fp1 F1 H1 g1 S1 h2 J hJ => ?_)
  intro D hD
  have hDF : F1 D = none := S1.sub.none hD
  have hDf : ∀ i, D ∉ fp1 i := fun i hi => by obtain ⟨_, o, q⟩ := S1.slot_none hi; rw [hD] at q; cases q
  generalize hr : lcGo own (gT is f) t e xs [] (wipeD s1 own) = r at h2
  have hno : r ≠ .no := fun z => by rw [z] at h2; exact h2
  refine ⟨fun i m Hc => m = xs.length - i ∧ i ≤ xs.length ∧ ∃ fpc Fc sc acc vs, Go fp1 fpc F1 Fc H1 Hc ∧ Sta T Γ fpc Fc Hc (L2.wipe σ own) sc ∧ Hc D = some (.lst vs) ∧ Fc D = none ∧ (∀ i, D ∉ fpc i) ∧ RepL T Fc acc vs ∧ lcGo own (gT is f) t e (xs.drop i) acc sc = r,
    ⟨_, rfl, Nat.zero_le _, fp1, F1, wipeD s1 own, [], [], Go.refl.updNew hD, (S1.wipe hz).updOut hDf hDF, upd_same, hDF, hDf, .nil, hr⟩, ?_⟩
  rintro i m Hc ⟨rfl, hi, fpc, Fc, sc, acc, vs, gc, Sc, hDc, hFc, hfc, ra, hgo⟩
  by_cases hlt : i < xs.length
  · refine .inr ⟨hJ.go i Fc Hc gc.mono Sc.sub hlt, fun H' => xs.length - (i + 1) = xs.length - (i + 1) ∧ i + 1 ≤ xs.length ∧ ∃ fpc Fc sc acc vs, Go fp1 fpc F1 Fc H1 H' ∧ Sta T Γ fpc Fc H' (L2.wipe σ own) sc ∧ H' D = some (.lst vs) ∧ Fc D = none ∧ (∀ i, D ∉ fpc i) ∧ RepL T Fc acc vs ∧ lcGo own (gT is f) t e (xs.drop (i + 1)) acc sc = r,
      fun H' w => ⟨_, by omega, w⟩, fun x H' y => ?_⟩
    obtain ⟨F2, px, rx⟩ := hJ.yld i Fc Hc x H' xs[i] gc.mono Sc.sub y (List.getElem?_eq_getElem hlt)
    rw [List.drop_eq_getElem_cons hlt] at hgo
    simp only [lcGo] at hgo
    have S2 := px.sta Sc
    have g2 : Go fp1 fpc F1 F2 H1 H' := gc.trans px.go
    have d2 : H' D = some (.lst vs) := px.keep _ _ hDc
    have n2 : F2 D = none := by
      cases q : F2 D with
      | none => rfl
      | some o =>
        rcases px.new _ _ q with z | z
        · rw [hFc] at z; cases z
        · rw [hDc] at z; cases z
    cases ef : f xs[i] with
    | none =>
      exfalso; apply hno; rw [← hgo]; unfold gT; rw [ef]; rfl
    | some ds =>
      have hlen := rg.len _ _ ef
      have eg : gT is f xs[i] (wipeD sc own) = .ok () (putE (wipeD sc own) is ds) := by unfold gT; rw [ef]; dsimp only; rw [if_pos hlen]
      rw [eg] at hgo
      refine rg.run F2 H' _ x xs[i] ds _ S2.sub rx ef fun ws rw' => ⟨wipe_put hso, ?_⟩
      have S3 : Sta T Γ fpc F2 H' (putV (L2.wipe σ own) is ws) (putE (wipeD sc own) is ds) := (S2.wipeW hz).put (fun i hi => hz i (hso i hi)) rw'
      generalize putE (wipeD sc own) is ds = s3 at hgo S3
      have hgo : (noX (t s3)).bind (fun c s => if c then (noX (e s)).bind fun d s => if acc.length < line then lcGo own (gT is f) t e (xs.drop (i + 1)) (acc ++ [d]) (wipeD s own) else .no else lcGo own (gT is f) t e (xs.drop (i + 1)) acc (wipeD s own)) = r := hgo
      cases et : t s3 with
      | ex c fs s' => rw [et] at hgo; exact absurd hgo.symm hno
      | no => rw [et] at hgo; exact absurd hgo.symm hno
      | ok b s4 =>
        rw [et] at hgo
        refine rt fpc F2 H' _ s3 _ S3 (Po.ofOk b s4 et fun fp4 F4 H4 g4 S4 => ?_)
        have d4 : H4 D = some (.lst vs) := g4.keep _ _ d2 hfc
        have n4 : F4 D = none := by
          cases q : F4 D with
          | none => rfl
          | some o =>
            rcases g4.new _ _ q with z | z
            · rw [n2] at z; cases z
            · rw [d2] at z; cases z
        have f4 : ∀ i, D ∉ fp4 i := fun i hi => by
          rcases g4.fpn i D hi with z | z
          · exact hfc i z
          · rw [d2] at z; cases z
        cases b with
        | false =>
          rw [if_neg (by simp)]
          have hgo : lcGo own (gT is f) t e (xs.drop (i + 1)) acc (wipeD s4 own) = r := hgo
          exact ⟨rfl, hlt, fp4, F4, _, acc, vs, g2.trans g4, S4.wipeAgain hz (wipe_put hso), d4, n4, f4, (ra.fle (px.mono.trans g4.mono)), hgo⟩
        | true =>
          rw [if_pos rfl]
          have hgo : (noX (e s4)).bind (fun d s => if acc.length < line then lcGo own (gT is f) t e (xs.drop (i + 1)) (acc ++ [d]) (wipeD s own) else .no) = r := hgo
          cases ee : e s4 with
          | ex c fs s' => rw [ee] at hgo; exact absurd hgo.symm hno
          | no => rw [ee] at hgo; exact absurd hgo.symm hno
          | ok d s5 =>
            rw [ee] at hgo
            have hgo : (if acc.length < line then lcGo own (gT is f) t e (xs.drop (i + 1)) (acc ++ [d]) (wipeD s5 own) else .no) = r := hgo
            split at hgo
            · rename_i hal
              refine re fp4 F4 H4 _ s4 _ S4 (Po.ofOk d s5 ee fun fp5 F5 H5 g5 S5 v rv => ?_)
              have d5 : H5 D = some (.lst vs) := g5.keep _ _ d4 f4
              have n5 : F5 D = none := by
                cases q : F5 D with
                | none => rfl
                | some o =>
                  rcases g5.new _ _ q with z | z
                  · rw [n4] at z; cases z
                  · rw [d4] at z; cases z
              have f5 : ∀ i, D ∉ fp5 i := fun i hi => by
                rcases g5.fpn i D hi with z | z
                · exact f4 i z
                · rw [d4] at z; cases z
              have raf : RepL T F5 acc vs := ra.fle (px.mono.trans (g4.mono.trans g5.mono))
              refine ⟨vs, d5, by rw [← raf.length]; exact Nat.lt_of_lt_of_le hal (by decide), rfl, hlt, fp5, F5, _, acc ++ [d], vs ++ [v], (g2.trans (g4.trans g5)).updNew hD, (S5.wipeAgain hz (wipe_put hso)).updOut f5 n5, upd_same, n5, f5, raf.app (.cons rv .nil), hgo⟩
            · exact absurd hgo.symm hno
  · have e0 : i = xs.length := by omega
    refine .inl ⟨hJ.stop i Fc Hc gc.mono Sc.sub (by omega), ?_⟩
    rw [e0, List.drop_length] at hgo
    have hgo : Res.ok acc sc = r := hgo
    rw [← hgo] at h2
    exact h2 fpc Fc Hc gc (S1.unwipe Sc gc.mono hz) D vs acc rfl (g1.dom D hD) hDc hFc hfc ra
theorem lc_list : ∀ s d s' {it : LX} {own : List Nat} {g : GX} {t : TX} {e : EX}, eLc it own g t e s = .ok d s' → ∃ ds, d = .lst ds := by
  intro s d s' it own g t e h
  unfold eLc at h
  cases e1 : it s with
  | ok xs s1 =>
    rw [e1] at h
    dsimp only [Res.bind] at h
    cases e2 : lcGo own g t e xs [] (wipeD s1 own) with
    | ok ds s2 => rw [e2] at h; cases h; exact ⟨ds, rfl⟩
    | ex c fs s2 => rw [e2] at h; cases h
    | no => rw [e2] at h; cases h
  | ex c fs s1 => rw [e1] at h; cases h
  | no => rw [e1] at h; cases h
/-- the block's contexts -/
structure LcX (X : Cx) (T : Tx) (Γ : List (Kd T)) (tg : Expr) (ifs : List Expr) (elt : Expr) (scope : Scope) (own : List (Str × Nat)) (is : List Nat) (f : DC) (t : TX) (e : EX) : Prop where
  g : ∀ (s : Shared) (H : Hp) (C : Addr) (cl : List (Str × Addr)) (fp : List Addr), XG (X.blk s H scope (compEnvC scope cl C X.env) fp) T tg is f
  t : ∀ (s : Shared) (H : Hp) (C : Addr) (cl : List (Str × Addr)) (fp : List Addr), XTs (X.blk s H scope (compEnvC scope cl C X.env) fp) T W0 Γ ifs t
  e : ∀ (s : Shared) (H : Hp) (C : Addr) (cl : List (Str × Addr)) (fp : List Addr), XE (X.blk s H scope (compEnvC scope cl C X.env) fp) T W0 Γ elt e
theorem rg_can {is : List Nat} {f : DC} (h : ∀ d ds, f d = some ds → ds.length = is.length) : RG T (rgW T is f) is f := ⟨h, fun F H σ v d ds Q S r e q => ⟨F, d, ds, S, r, e, q⟩⟩
theorem xl_lc {ifs : List Expr} {scope : Scope} {own : List (Str × Nat)} {it : LX} {is : List Nat} {f : DC} {t : TX} {e : EX} (hc : X.calm = true) (hN : X.N.Nodup) (hi : XI X T W Γ tg iter it) (ok : BlkOk X.N X.env.scope scope own) (L : LcX X T Γ tg ifs elt scope own is f t e)
    (hl : ∀ d ds, f d = some ds → ds.length = is.length) (hso : ∀ i ∈ is, i ∈ own.map (·.2)) (hz : ∀ i ∈ own.map (·.2), Γ[i]? = some .fz) (hs : ∀ x, foldedSetIterable iter X.env x = pure x) : XL X T W Γ (.ListComp elt [⟨tg, iter, ifs, 0⟩] scope pos) (eLc it (own.map (·.2)) (gT is f) t e) := by
  obtain ⟨wi, p1, r1⟩ := hi
  exact ⟨_, pe_lc hc hN p1 ok (fun s H C cl fp => (L.g s H C cl fp).can) L.t (fun s H C cl fp => (L.e s H C cl fp).can) hs, rl_lc r1 (rg_can hl) hso hz rt_can re_can⟩
theorem xe_lc {ifs : List Expr} {scope : Scope} {own : List (Str × Nat)} {it : LX} {is : List Nat} {f : DC} {t : TX} {e : EX} (hc : X.calm = true) (hN : X.N.Nodup) (hi : XI X T W Γ tg iter it) (ok : BlkOk X.N X.env.scope scope own) (L : LcX X T Γ tg ifs elt scope own is f t e)
    (hl : ∀ d ds, f d = some ds → ds.length = is.length) (hso : ∀ i ∈ is, i ∈ own.map (·.2)) (hz : ∀ i ∈ own.map (·.2), Γ[i]? = some .fz) (hs : ∀ x, foldedSetIterable iter X.env x = pure x) : XE X T W Γ (.ListComp elt [⟨tg, iter, ifs, 0⟩] scope pos) (eLc it (own.map (·.2)) (gT is f) t e) := by
  obtain ⟨te, p, r⟩ := xl_lc (pos := pos) hc hN hi ok L hl hso hz hs
  exact ⟨te, p, r.re fun s d s' h => lc_list s d s' h⟩
end
end RX

set_option Elab.async false
set_option linter.all false
set_option maxRecDepth 100000
set_option maxHeartbeats 4000000
/-! RX11: statements. -/
namespace RX
open PySem PySem.Spec PyProof.Rows L2 PL

/-- the kinds agree at the parameters -/
structure KS {T : Tx} (np : Nat) (Γ Γ' : List (Kd T)) : Prop where
  len : Γ'.length = Γ.length
  par : ∀ i, i < np → Γ'[i]? = Γ[i]?
/-- from one state to a later one: own lists may be frozen -/
structure GoS {T : Tx} (np : Nat) (Γ : List (Kd T)) (fp fp' : Nat → List Addr) (F F' H H' : Hp) (σ σ' : L2.St) : Prop where
  keep : ∀ a o, H a = some o → (∀ i, a ∉ fp i) → H' a = some o
  dom : ∀ a, H' a = none → H a = none
  mono : Fle F F'
  new : ∀ a o, F' a = some o → F a = some o ∨ H a = none ∨ ∃ i, np ≤ i ∧ a ∈ fp i
  fpn : ∀ i a, a ∈ fp' i → a ∈ fp i ∨ H a = none
  par : ∀ i k, i < np → Γ[i]? = some k → ioK k = true → σ'[i]? = σ[i]?
section
variable {T : Tx} {np : Nat} {Γ Γ' Γ'' : List (Kd T)} {fp fp' fp'' : Nat → List Addr} {F F' F'' H H' H'' : Hp} {σ σ' σ'' : L2.St} {s s' : En}
theorem KS.refl : KS np Γ Γ := ⟨rfl, fun _ _ => rfl⟩
theorem KS.trans (a : KS np Γ Γ') (b : KS np Γ' Γ'') : KS np Γ Γ'' := ⟨b.len.trans a.len, fun i h => (b.par i h).trans (a.par i h)⟩
theorem KS.set {i : Nat} {k : Kd T} (h : np ≤ i) : KS np Γ (Γ.set i k) := ⟨by simp, fun j hj => by rw [List.getElem?_set_ne (by omega)]⟩
theorem GoS.of (g : Go fp fp' F F' H H') : GoS np Γ fp fp' F F' H H' σ σ := ⟨g.keep, g.dom, g.mono, fun a o h => (g.new a o h).elim .inl fun q => .inr (.inl q), g.fpn, fun _ _ _ _ _ => rfl⟩
theorem GoS.refl : GoS np Γ fp fp F F H H σ σ := .of Go.refl
theorem GoS.trans (ks : KS np Γ Γ') (a : GoS np Γ fp fp' F F' H H' σ σ') (b : GoS np Γ' fp' fp'' F' F'' H' H'' σ' σ'') : GoS np Γ fp fp'' F F'' H H'' σ σ'' where
  keep := fun x o h n => b.keep x o (a.keep x o h n) fun i hi => by
    rcases a.fpn i x hi with q | q
    · exact n i q
    · rw [h] at q; cases q
  dom := fun x h => a.dom x (b.dom x h)
  mono := a.mono.trans b.mono
  new := fun x o h => by
    rcases b.new x o h with q | q | ⟨i, hi, q⟩
    · exact a.new x o q
    · exact .inr (.inl (a.dom x q))
    · rcases a.fpn i x q with w | w
      · exact .inr (.inr ⟨i, hi, w⟩)
      · exact .inr (.inl w)
  fpn := fun i x h => by
    rcases b.fpn i x h with q | q
    · exact a.fpn i x q
    · exact .inr (a.dom x q)
  par := fun i k hi hk ho => (b.par i k hi (by rw [ks.par i hi]; exact hk) ho).trans (a.par i k hi hk ho)
/-- own lists set free: the slot is told by F from now on -/
theorem Sta.free (S : Sta T Γ fp F H σ s) {i : Nat} (hi : np ≤ i) (hk : Γ[i]? = some .own) : ∃ fp' F', GoS np Γ fp fp' F F' H H σ σ ∧ Sta T (Γ.set i .fz) fp' F' H σ s := by
  by_cases hl : i < s.length
  · have hσ : i < σ.length := by rw [S.ls]; exact hl
    have hΓ : i < Γ.length := by rw [S.lg]; exact hl
    have q := S.ok i _ _ _ (List.getElem?_eq_getElem hl) (List.getElem?_eq_getElem hσ) hk
    unfold SlotOk at q
    cases e : s[i] with
    | none =>
      rw [e] at q
      refine ⟨fp, F, .refl, ⟨S.sub, S.ls, by rw [List.length_set]; exact S.lg, fun j od ov k h1 h2 h3 => ?_, S.out, S.dis⟩⟩
      by_cases hj : i = j
      · subst hj
        rw [List.getElem?_eq_getElem hl, e] at h1; cases h1
        exact q
      · rw [List.getElem?_set_ne hj] at h3
        exact S.ok j od ov k h1 h2 h3
    | some d =>
      rw [e] at q
      obtain ⟨a, ds, vs, ed, ev, ef, eH, eF, r⟩ := q
      have ha : ∀ j, i ≠ j → a ∉ fp j := fun j hj h => hj (S.dis i j a (by rw [ef]; simp) h)
      have m := Fle.up1 (o := .lst vs) eF
      have sub : Fle (upd F a (.lst vs)) H := fun b u h => by
        by_cases hb : b = a
        · subst hb; rw [upd_same] at h; cases h; exact eH
        · rw [upd_ne hb] at h; exact S.sub b u h
      refine ⟨fun j => if j = i then [] else fp j, upd F a (.lst vs), ⟨fun _ _ h _ => h, fun _ h => h, m, fun b u h => ?_, fun j b h => ?_, fun _ _ _ _ _ => rfl⟩, ⟨sub, S.ls, by rw [List.length_set]; exact S.lg, fun j od ov k h1 h2 h3 => ?_, fun j hj => ?_, fun j j' b h h' => ?_⟩⟩
      · by_cases hb : b = a
        · subst hb; exact .inr (.inr ⟨i, hi, by rw [ef]; simp⟩)
        · rw [upd_ne hb] at h; exact .inl h
      · try dsimp only at h
        split at h
        · cases h
        · exact .inl h
      · by_cases hj : i = j
        · subst hj
          rw [List.getElem?_set_self hΓ] at h3; cases h3
          rw [List.getElem?_eq_getElem hl, e] at h1; cases h1
          rw [List.getElem?_eq_getElem hσ] at h2
          have h2 := Option.some.inj h2
          rw [if_pos rfl]
          exact ⟨rfl, _, by rw [← h2, ev], by rw [ed]; exact .lst upd_same (r.fle m)⟩
        · rw [List.getElem?_set_ne hj] at h3
          have w := S.ok j od ov k h1 h2 h3
          rw [if_neg (Ne.symm hj)]
          have nn : ∀ b, b ∈ fp j → upd F a (.lst vs) b = none := fun b hb => by
            have : b ≠ a := fun z => ha j hj (z ▸ hb)
            rw [upd_ne this]; exact (S.slot_none hb).1
          unfold SlotOk at w ⊢
          cases od with
          | none => exact w
          | some d' =>
            cases k with
            | fz => obtain ⟨w1, v, w2, w3⟩ := w; exact ⟨w1, v, w2, w3.fle m⟩
            | own =>
              obtain ⟨b, ds', vs', e1, e2, e3, e4, e5, e6⟩ := w
              exact ⟨b, ds', vs', e1, e2, e3, e4, nn b (by rw [e3]; simp), e6.fle m⟩
            | ab A =>
              obtain ⟨v, e1, e2, e3⟩ := w
              exact ⟨v, e1, A.loc _ _ _ _ _ _ _ e2 m fun _ _ _ h => h, fun b hb => ⟨nn b hb, (e3 b hb).2⟩⟩
            | gh A =>
              obtain ⟨e1, e2, e3⟩ := w
              exact ⟨e1, A.loc _ _ _ _ _ _ _ e2 m fun _ _ _ h => h, fun b hb => ⟨nn b hb, (e3 b hb).2⟩⟩
            | hid => exact w
      · try dsimp only
        split
        · rfl
        · exact S.out j hj
      · try dsimp only at h h'
        split at h
        · cases h
        · split at h'
          · cases h'
          · exact S.dis j j' b h h'
  · have hn : Γ.set i .fz = Γ := List.set_eq_of_length_le (by rw [S.lg]; omega)
    rw [hn]
    exact ⟨fp, F, .refl, S⟩
end

/-- what is wanted behind a pure statement -/
def PoS (T : Tx) (W : WX) (np : Nat) (Γl Γ Γ' : List (Kd T)) (fp : Nat → List Addr) (F H : Hp) (σ : L2.St) (r : Res En PL.Flow) (D : Ends) : Prop :=
  match r with
  | .ok .nx s' => ∀ fp' F' H' σ', GoS np Γ fp fp' F F' H H' σ σ' → Sta T Γ' fp' F' H' σ' s' → D.nx σ' H'
  | .ok (.rt d) s' => ∀ Γr fp' F' H' σ' v, KS np Γ Γr → GoS np Γ fp fp' F F' H H' σ σ' → Sta T Γr fp' F' H' σ' s' → Rep T F' d v → D.rt v H'
  | .ok .bk s' => ∀ fp' F' H' σ', GoS np Γ fp fp' F F' H H' σ σ' → Sta T Γl fp' F' H' σ' s' → D.bk σ' H'
  | .ok .ct s' => ∀ fp' F' H' σ', GoS np Γ fp fp' F F' H H' σ σ' → Sta T Γl fp' F' H' σ' s' → D.ct σ' H'
  | .ex c fs s' => ∀ Γr fp' F' H' σ' od, KS np Γ Γr → GoS np Γ fp fp' F F' H H' σ σ' → Sta T Γr fp' F' H' σ' s' → ExnAt T F' od fs → W (.ref (T.CA c)) od σ' H'
  | .no => False
structure RS (T : Tx) (W : WX) (np : Nat) (Γl Γ Γ' : List (Kd T)) (ts : TS) (m : ST) : Prop where
  ks : KS np Γ Γ'
  run : ∀ (fp : Nat → List Addr) (F H : Hp) (σ : L2.St) (s : En) (D : Ends), Sta T Γ fp F H σ s → PoS T W np Γl Γ Γ' fp F H σ (m s) D → ts D σ H
def XS (X : Cx) (T : Tx) (W : WX) (np : Nat) (Γl Γ Γ' : List (Kd T)) (st : Stmt) (m : ST) : Prop := ∃ ts, PS X st ts ∧ RS T W np Γl Γ Γ' ts m
def XB (X : Cx) (T : Tx) (W : WX) (np : Nat) (Γl Γ Γ' : List (Kd T)) (st : List Stmt) (m : ST) : Prop := ∃ ts, PSs X st ts ∧ RS T W np Γl Γ Γ' ts m
section
variable {T : Tx} {W : WX} {np : Nat} {Γl Γ Γ1 Γ' Γ'' : List (Kd T)} {fp fp1 : Nat → List Addr} {F F1 H H1 : Hp} {σ σ1 : L2.St} {s : En} {D D' : Ends}
/-- the same result, wanted from a later state -/
theorem PoS.later {r : Res En PL.Flow} (ks : KS np Γ Γ1) (g : GoS np Γ fp fp1 F F1 H H1 σ σ1) (h : PoS T W np Γl Γ Γ' fp F H σ r D) : PoS T W np Γl Γ1 Γ' fp1 F1 H1 σ1 r D := by
  cases r with
  | ok f s' =>
    cases f with
    | nx => exact fun fp' F' H' σ' g' S => h fp' F' H' σ' (g.trans ks g') S
    | rt d => exact fun Γr fp' F' H' σ' v k g' S => h Γr fp' F' H' σ' v (ks.trans k) (g.trans ks g') S
    | bk => exact fun fp' F' H' σ' g' S => h fp' F' H' σ' (g.trans ks g') S
    | ct => exact fun fp' F' H' σ' g' S => h fp' F' H' σ' (g.trans ks g') S
  | ex c fs s' => exact fun Γr fp' F' H' σ' od k g' S => h Γr fp' F' H' σ' od (ks.trans k) (g.trans ks g') S
  | no => exact h
/-- an expression first -/
theorem PoS.bindE {A : Type} {r : Res En A} {k : A → En → Res En PL.Flow} (h : PoS T W np Γl Γ Γ' fp F H σ (r.bind k) D) :
    Po T W Γ fp F H σ r fun a s1 fp1 F1 H1 => PoS T W np Γl Γ Γ' fp1 F1 H1 σ (k a s1) D := by
  cases r with
  | ok a s1 => exact fun fp' F' H' g S => PoS.later (Γ1 := Γ) .refl (.of g) h
  | ex c fs s1 => exact fun fp' F' H' od g S x => h Γ fp' F' H' σ od .refl (.of g) S x
  | no => exact h
end
section
variable {X : Cx} {T : Tx} {W : WX} {np : Nat} {Γl Γ Γ1 Γ' Γ'' : List (Kd T)} {pos : Pos} {e a b c tg iter : Expr} {es : List Expr} {st : Stmt} {sts : List Stmt} {m m1 m2 : ST} {me : EX} {mt : TX} {l : LX}
theorem XS.one (h : XS X T W np Γl Γ Γ' st m) : XB X T W np Γl Γ Γ' [st] m := by
  obtain ⟨t, p, r⟩ := h
  exact ⟨t, pss_one p, r⟩
theorem rs_seq {t u : TS} (r1 : RS T W np Γl Γ Γ1 t m1) (r2 : RS T W np Γl Γ1 Γ' u m2) : RS T W np Γl Γ Γ' (tSeq t u) (sSeq m1 m2) := by
  refine ⟨r1.ks.trans r2.ks, fun fp F H σ s D S h => r1.run fp F H σ s _ S ?_⟩
  unfold sSeq at h
  cases e : m1 s with
  | ok f s1 =>
    rw [e] at h
    cases f with
    | nx => exact fun fp1 F1 H1 σ1 g1 S1 => r2.run fp1 F1 H1 σ1 s1 D S1 (PoS.later r1.ks g1 h)
    | rt d => exact h
    | bk => exact h
    | ct => exact h
  | ex c fs s1 => rw [e] at h; exact h
  | no => rw [e] at h; exact h
theorem xb_cons (h1 : XS X T W np Γl Γ Γ1 st m1) (h2 : XB X T W np Γl Γ1 Γ' sts m2) : XB X T W np Γl Γ Γ' (st :: sts) (sSeq m1 m2) := by
  obtain ⟨t, p1, r1⟩ := h1
  obtain ⟨u, p2, r2⟩ := h2
  exact ⟨_, pss_cons p1 p2, rs_seq r1 r2⟩
theorem xb_nil : XB X T W np Γl Γ Γ [] sSkip := ⟨_, pss_nil, .refl, fun fp F H σ s D S h => h fp F H σ .refl S⟩
theorem xs_pass : XS X T W np Γl Γ Γ (.Pass pos) sSkip := ⟨_, ps_pass, .refl, fun fp F H σ s D S h => h fp F H σ .refl S⟩
theorem xs_doc {x j pos'} : XS X T W np Γl Γ Γ (.Expr (.Constant (.str x) j pos) pos') sSkip := ⟨_, ps_doc, .refl, fun fp F H σ s D S h => h fp F H σ .refl S⟩
theorem xs_brk : XS X T W np Γ Γ Γ (.Break pos) sBrk := ⟨_, ps_break, .refl, fun fp F H σ s D S h => h fp F H σ .refl S⟩
theorem xs_cnt : XS X T W np Γ Γ Γ (.Continue pos) sCnt := ⟨_, ps_continue, .refl, fun fp F H σ s D S h => h fp F H σ .refl S⟩
/-- an own list told by F from here on: behind a statement, ahead of one -/
theorem RS.free {t : TS} {i : Nat} (hi : np ≤ i) (hk : Γ'[i]? = some .own) (r : RS T W np Γl Γ Γ' t m) : RS T W np Γl Γ (Γ'.set i .fz) t m := by
  refine ⟨r.ks.trans (.set hi), fun fp F H σ s D S h => r.run fp F H σ s _ S ?_⟩
  cases e : m s with
  | ok f s' =>
    rw [e] at h
    cases f with
    | nx =>
      intro fp' F' H' σ' g S'
      obtain ⟨fp2, F2, g2, S2⟩ := S'.free hi hk
      exact h fp2 F2 H' σ' (g.trans r.ks g2) S2
    | _ => exact h
  | ex c fs s' => rw [e] at h; exact h
  | no => rw [e] at h; exact h
theorem RS.freeL {t : TS} {i : Nat} (hi : np ≤ i) (hk : Γ[i]? = some .own) (r : RS T W np Γl (Γ.set i .fz) Γ' t m) : RS T W np Γl Γ Γ' t m := by
  have ks : KS np Γ (Γ.set i .fz) := .set hi
  refine ⟨ks.trans r.ks, fun fp F H σ s D S h => ?_⟩
  obtain ⟨fp2, F2, g2, S2⟩ := S.free hi hk
  exact r.run fp2 F2 H σ s D S2 (PoS.later ks g2 h)
theorem xs_free (i : Nat) (hi : np ≤ i) (hk : Γ'[i]? = some .own) (h : XS X T W np Γl Γ Γ' st m) : XS X T W np Γl Γ (Γ'.set i .fz) st m := by
  obtain ⟨t, p, r⟩ := h
  exact ⟨t, p, r.free hi hk⟩
theorem xs_freeL (i : Nat) (hi : np ≤ i) (hk : Γ[i]? = some .own) (h : XS X T W np Γl (Γ.set i .fz) Γ' st m) : XS X T W np Γl Γ Γ' st m := by
  obtain ⟨t, p, r⟩ := h
  exact ⟨t, p, r.freeL hi hk⟩
theorem xb_freeL (i : Nat) (hi : np ≤ i) (hk : Γ[i]? = some .own) (h : XB X T W np Γl (Γ.set i .fz) Γ' sts m) : XB X T W np Γl Γ Γ' sts m := by
  obtain ⟨t, p, r⟩ := h
  exact ⟨t, p, r.freeL hi hk⟩

/-! ### slots set -/
theorem Sta.fzAt {fp : Nat → List Addr} {F H : Hp} {σ : L2.St} {s : En} (S : Sta T Γ fp F H σ s) {i : Nat} {d : D} {v : V} (r : Rep T F d v) (hio : ∀ k, Γ[i]? = some k → np ≤ i ∨ ioK k = false) :
    ∃ fp', GoS np Γ fp fp' F F H H σ (σ.set i (some v)) ∧ Sta T (Γ.set i .fz) fp' F H (σ.set i (some v)) (s.set i (some d)) := by
  refine ⟨fun j => if j = i then [] else fp j, ⟨fun _ _ h _ => h, fun _ h => h, Fle.refl F, fun _ _ h => .inl h, fun j b h => ?_, fun j k hj hk ho => ?_⟩, ⟨S.sub, by rw [List.length_set, List.length_set]; exact S.ls, by rw [List.length_set, List.length_set]; exact S.lg, fun j od ov k h1 h2 h3 => ?_, fun j hj => ?_, fun j j' b h h' => ?_⟩⟩
  · try dsimp only at h
    split at h
    · cases h
    · exact .inl h
  · by_cases e : i = j
    · subst e
      rcases hio k hk with q | q
      · omega
      · rw [ho] at q; cases q
    · rw [List.getElem?_set_ne e]
  · by_cases e : i = j
    · subst e
      have hi : i < s.length := by have := (List.getElem?_eq_some_iff.mp h1).1; rw [List.length_set] at this; exact this
      rw [List.getElem?_set_self hi] at h1
      rw [List.getElem?_set_self (by rw [S.ls]; exact hi)] at h2
      rw [List.getElem?_set_self (by rw [S.lg]; exact hi)] at h3
      cases h1; cases h2; cases h3
      rw [if_pos rfl]
      exact ⟨rfl, v, rfl, r⟩
    · rw [List.getElem?_set_ne e] at h1 h2 h3
      rw [if_neg (Ne.symm e)]
      exact S.ok j od ov k h1 h2 h3
  · try dsimp only
    rw [List.length_set] at hj
    split
    · rfl
    · exact S.out j hj
  · try dsimp only at h h'
    split at h
    · cases h
    · split at h'
      · cases h'
      · exact S.dis j j' b h h'
def slotFree (np i : Nat) (Γ : List (Kd T)) : Bool := decide (np ≤ i) || (match Γ[i]? with
  | some k => !ioK k
  | none => true)
theorem slotFree_of {i : Nat} (h : slotFree np i Γ = true) : ∀ k, Γ[i]? = some k → np ≤ i ∨ ioK k = false := fun k hk => by
  unfold slotFree at h
  rw [hk] at h
  simpa using h
theorem ks_set {i : Nat} (h : slotFree np i Γ = true) (hz : np ≤ i ∨ Γ[i]? = some .fz) {k : Kd T} (hk : np ≤ i ∨ k = .fz) : KS np Γ (Γ.set i k) := ⟨by simp, fun j hj => by
  by_cases e : i = j
  · subst e
    rcases hz with q | q
    · omega
    · rcases hk with q' | q'
      · omega
      · subst q'
        rw [List.getElem?_set_self (List.getElem?_eq_some_iff.mp q).1, q]
  · rw [List.getElem?_set_ne e]⟩
/-- the slot may be set to a value told by F -/
def SetF (np i : Nat) (Γ : List (Kd T)) : Prop := np ≤ i ∨ Γ[i]? = some .fz
theorem SetF.ks {i : Nat} (h : SetF np i Γ) : KS np Γ (Γ.set i .fz) := ⟨by simp, fun j hj => by
  by_cases e : i = j
  · subst e
    rcases h with q | q
    · omega
    · rw [List.getElem?_set_self (List.getElem?_eq_some_iff.mp q).1, q]
  · rw [List.getElem?_set_ne e]⟩
theorem SetF.io {i : Nat} (h : SetF np i Γ) : ∀ k, Γ[i]? = some k → np ≤ i ∨ ioK k = false := fun k hk => by
  rcases h with q | q
  · exact .inl q
  · rw [q] at hk; cases hk; exact .inr rfl
theorem rs_set {te : TE} {i : Nat} (hz : SetF np i Γ) (r : RE T W Γ te me) : RS T W np Γl Γ (Γ.set i .fz) (tAsg te (gName i)) (sSet i me) := by
  refine ⟨hz.ks, fun fp F H σ s D S h => r fp F H σ s _ S (h.bindE.imp fun d s1 fp1 F1 H1 g1 S1 h2 v rv => ?_)⟩
  obtain ⟨fp', g, S'⟩ := S1.fzAt rv hz.io
  exact h2 fp' F1 H1 _ g S'
theorem xs_set {i : Nat} {x : Str} {pos' : Pos} (hN : X.N.Nodup) (hi : X.N[i]? = some x) (hx : Loc X.env.scope x) (hf : X.fn x = true ∨ X.env.scope.names.lookup x = some .local) (hz : SetF np i Γ) (he : XE X T W Γ e me) (hs : swapsWith e (some (.Name x pos')) pos.line X.env = pure false) :
    XS X T W np Γl Γ (Γ.set i .fz) (.Assign [.Name x pos'] e pos) (sSet i me) := by
  obtain ⟨te, p, r⟩ := he
  exact ⟨_, ps_set hN hi hx p hs hf, rs_set hz r⟩
/-- name = a new list that is the slot's own -/
theorem Sta.ownAt {fp : Nat → List Addr} {F H : Hp} {σ : L2.St} {s : En} (S : Sta T Γ fp F H σ s) {i : Nat} {a : Addr} {ds : List D} {vs : List V} (hi : np ≤ i) (ha : H a = some (.lst vs)) (hn : F a = none) (hf : ∀ j, a ∉ fp j) (r : RepL T F ds vs) {H0 : Hp} (hl : i < s.length) :
    ∃ fp', (∀ j, j ≠ i → fp' j = fp j) ∧ fp' i = [a] ∧ Sta T (Γ.set i .own) fp' F H (σ.set i (some (.ref a))) (s.set i (some (.lst ds))) := by
  refine ⟨fun j => if j = i then [a] else fp j, fun j hj => if_neg hj, if_pos rfl, ⟨S.sub, by rw [List.length_set, List.length_set]; exact S.ls, by rw [List.length_set, List.length_set]; exact S.lg, fun j od ov k h1 h2 h3 => ?_, fun j hj => ?_, fun j j' b h h' => ?_⟩⟩
  · by_cases e : i = j
    · subst e
      rw [List.getElem?_set_self hl] at h1
      rw [List.getElem?_set_self (by rw [S.ls]; exact hl)] at h2
      rw [List.getElem?_set_self (by rw [S.lg]; exact hl)] at h3
      cases h1; cases h2; cases h3
      rw [if_pos rfl]
      exact ⟨a, ds, vs, rfl, rfl, rfl, ha, hn, r⟩
    · rw [List.getElem?_set_ne e] at h1 h2 h3
      rw [if_neg (Ne.symm e)]
      exact S.ok j od ov k h1 h2 h3
  · try dsimp only
    rw [List.length_set] at hj
    rw [if_neg (by omega)]
    exact S.out j hj
  · try dsimp only at h h'
    split at h
    · rename_i e1
      split at h'
      · rename_i e2; rw [e1, e2]
      · simp only [List.mem_singleton] at h; subst h; exact absurd h' (hf _)
    · split at h'
      · simp only [List.mem_singleton] at h'; subst h'; exact absurd h (hf _)
      · exact S.dis j j' b h h'
theorem rs_own {te : TE} {i : Nat} (hi : np ≤ i) (hl : i < Γ.length) (r : RL T W Γ te me) (hlst : ∀ s d s', me s = .ok d s' → ∃ ds, d = .lst ds) : RS T W np Γl Γ (Γ.set i .own) (tAsg te (gName i)) (sSet i me) := by
  refine ⟨.set hi, fun fp F H σ s D S h => r fp F H σ s _ S ?_⟩
  unfold sSet at h
  cases e : me s with
  | ok d s1 =>
    rw [e] at h
    have h : PoS T W np Γl Γ (Γ.set i .own) fp F H σ (.ok .nx (s1.set i (some d))) D := h
    intro fp1 F1 H1 g1 S1 a vs ds ed hH ha hn hf rs
    subst ed
    obtain ⟨fp', e1, e2, S'⟩ := S1.ownAt (np := np) (H0 := H) hi ha hn hf rs (by rw [← S1.lg]; exact hl)
    refine h fp' F1 H1 _ ⟨g1.keep, g1.dom, g1.mono, fun b o q => (g1.new b o q).elim .inl fun w => .inr (.inl w), fun j b hb => ?_, fun j k hj _ _ => by rw [List.getElem?_set_ne (by omega)]⟩ S'
    by_cases hj : j = i
    · subst hj
      rw [e2] at hb
      simp only [List.mem_singleton] at hb
      subst hb
      exact .inr hH
    · rw [e1 j hj] at hb
      exact g1.fpn j b hb
  | ex c fs s1 => rw [e] at h; exact h.bindE
  | no => rw [e] at h; exact h
theorem eLst_lst : ∀ s d s', eLst l s = .ok d s' → ∃ ds, d = .lst ds := by
  intro s d s' h
  unfold eLst at h
  cases e : l s with
  | ok xs s1 =>
    rw [e] at h
    dsimp only [Res.bind] at h
    split at h
    · cases h; exact ⟨_, rfl⟩
    · cases h
  | ex c fs s1 => rw [e] at h; cases h
  | no => rw [e] at h; cases h
theorem xs_own {i : Nat} {x : Str} {pos' : Pos} (hN : X.N.Nodup) (hi : X.N[i]? = some x) (hx : Loc X.env.scope x) (hf : X.fn x = true ∨ X.env.scope.names.lookup x = some .local) (hp : np ≤ i) (hl : i < Γ.length) (he : XL X T W Γ e me) (hlst : ∀ s d s', me s = .ok d s' → ∃ ds, d = .lst ds) (hs : swapsWith e (some (.Name x pos')) pos.line X.env = pure false) :
    XS X T W np Γl Γ (Γ.set i .own) (.Assign [.Name x pos'] e pos) (sSet i me) := by
  obtain ⟨te, p, r⟩ := he
  exact ⟨_, ps_set hN hi hx p hs hf, rs_own hp hl r hlst⟩
end
end RX

set_option Elab.async false
set_option linter.all false
set_option maxRecDepth 100000
set_option maxHeartbeats 4000000
/-! RX12: statements: more slots at once, choices, loops, ends; own lists changed. -/
namespace RX
open PySem PySem.Spec PyProof.Rows L2 PL
section
variable {X : Cx} {T : Tx} {W : WX} {np : Nat} {Γl Γ Γ1 Γ' Γ'' : List (Kd T)} {pos : Pos} {e a b c tg iter : Expr} {es : List Expr} {st : Stmt} {sts : List Stmt} {m m1 m2 : ST} {me ma mb : EX} {mt : TX} {l : LX}
/-! ### more slots at once: all of the kind fz -/
def AllF (is : List Nat) (Γ : List (Kd T)) : Prop := ∀ i ∈ is, Γ[i]? = some .fz
theorem allF_nil : AllF [] Γ := fun _ h => by cases h
theorem allF_cons {i : Nat} {is : List Nat} (h : Γ[i]? = some .fz) (t : AllF is Γ) : AllF (i :: is) Γ := fun j hj => by
  rcases List.mem_cons.mp hj with e | e
  · rw [e]; exact h
  · exact t j e
theorem AllF.goS {is : List Nat} {vs : List V} {fp : Nat → List Addr} {F H : Hp} {σ : L2.St} (h : AllF is Γ) : GoS np Γ fp fp F F H H σ (putV σ is vs) :=
  ⟨fun _ _ h _ => h, fun _ h => h, Fle.refl F, fun _ _ h => .inl h, fun _ _ h => .inl h, fun i k _ hk ho => putV_out fun hm => by
    rw [h i hm] at hk; cases hk; cases ho⟩
theorem PoS.put {is : List Nat} {ds : List D} {vs : List V} {fp : Nat → List Addr} {F H : Hp} {σ : L2.St} {s : En} {D : Ends} (hz : AllF is Γ) (S : Sta T Γ fp F H σ s) (r : RepL T F ds vs) (h : PoS T W np Γl Γ Γ fp F H σ (.ok .nx (putE s is ds)) D) : D.nx (putV σ is vs) H :=
  h fp F H _ hz.goS (S.put hz r)
theorem rs_par {ta : TA} {i j : Nat} (hz : AllF [i, j] Γ) (r : RA T W Γ ta l) : RS T W np Γl Γ Γ (tPar i j ta) (sPar [i, j] l) := by
  refine ⟨.refl, fun fp F H σ s D S h => r fp F H σ s _ S (h.bindE.imp fun ds s1 fp1 F1 H1 g1 S1 h2 vs rv => ?_)⟩
  split at h2
  · rename_i hl
    match vs, rv.length.symm.trans hl with
    | [v, w], _ => exact ⟨v, w, rfl, PoS.put hz S1 rv h2⟩
  · exact h2.elim
theorem xs_par {i j : Nat} {x y : Str} {px py pt : Pos} {kt k2 pt2} (hc : X.calm = true) (hN : X.N.Nodup) (hi : X.N[i]? = some x) (hj : X.N[j]? = some y) (hij : i ≠ j) (hz : AllF [i, j] Γ)
    (hx : X.env.scope.names.lookup x = some .local) (hy : X.env.scope.names.lookup y = some .local) (ha : XA X T W Γ [a, b] l)
    (hw : swappedStores [.Tuple [.Name x px, .Name y py] kt pt] (.Tuple [a, b] k2 pt2) X.env = pure (some [x, y]))
    (hs : swapsWithSole [.Tuple [.Name x px, .Name y py] kt pt] (.Tuple [a, b] k2 pt2) pos.line X.env = pure false) :
    XS X T W np Γl Γ Γ (.Assign [.Tuple [.Name x px, .Name y py] kt pt] (.Tuple [a, b] k2 pt2) pos) (sPar [i, j] l) := by
  obtain ⟨ta, p, r⟩ := ha
  exact ⟨_, ps_par hc hN hi hj hij hx hy p hw hs, rs_par hz r⟩
theorem rs_par3 {ta : TA} {i j k : Nat} (hz : AllF [i, j, k] Γ) (r : RA T W Γ ta l) : RS T W np Γl Γ Γ (tPar3 i j k ta) (sPar [i, j, k] l) := by
  refine ⟨.refl, fun fp F H σ s D S h => r fp F H σ s _ S (h.bindE.imp fun ds s1 fp1 F1 H1 g1 S1 h2 vs rv => ?_)⟩
  split at h2
  · rename_i hl
    match vs, rv.length.symm.trans hl with
    | [u, v, w], _ => exact ⟨u, v, w, rfl, PoS.put hz S1 rv h2⟩
  · exact h2.elim
theorem xs_par3 {i j k : Nat} {x y z : Str} {px py pz pt : Pos} {kt k2 pt2} (hc : X.calm = true) (hN : X.N.Nodup) (hi : X.N[i]? = some x) (hj : X.N[j]? = some y) (hk : X.N[k]? = some z) (hij : i ≠ j) (hik : i ≠ k) (hjk : j ≠ k) (hz : AllF [i, j, k] Γ)
    (hx : X.env.scope.names.lookup x = some .local) (hy : X.env.scope.names.lookup y = some .local) (hz' : X.env.scope.names.lookup z = some .local) (ha : XA X T W Γ [a, b, c] l)
    (hw : swappedStores [.Tuple [.Name x px, .Name y py, .Name z pz] kt pt] (.Tuple [a, b, c] k2 pt2) X.env = pure (some [x, y, z]))
    (hs : swapsWithSole [.Tuple [.Name x px, .Name y py, .Name z pz] kt pt] (.Tuple [a, b, c] k2 pt2) pos.line X.env = pure false) :
    XS X T W np Γl Γ Γ (.Assign [.Tuple [.Name x px, .Name y py, .Name z pz] kt pt] (.Tuple [a, b, c] k2 pt2) pos) (sPar [i, j, k] l) := by
  obtain ⟨ta, p, r⟩ := ha
  exact ⟨_, ps_par3 hc hN hi hj hk hij hik hjk hx hy hz' p hw hs, rs_par3 hz r⟩
theorem rs_asg {te : TE} {g : TG} {is : List Nat} {f : DC} (hz : AllF is Γ) (rg : RG T g is f) (r : RE T W Γ te me) : RS T W np Γl Γ Γ (tAsg te g) (sAsg is f me) := by
  refine ⟨.refl, fun fp F H σ s D S h => r fp F H σ s _ S (h.bindE.imp fun d s1 fp1 F1 H1 g1 S1 h2 v rv => ?_)⟩
  cases ef : f d with
  | none => unfold gT at h2; rw [ef] at h2; exact h2.elim
  | some ds =>
    unfold gT at h2
    rw [ef] at h2
    dsimp only at h2
    rw [if_pos (rg.len _ _ ef)] at h2
    exact rg.run F1 H1 σ v d ds _ S1.sub rv ef fun vs rvs => PoS.put hz S1 rvs h2
theorem xs_asg {is : List Nat} {f : DC} (hz : AllF is Γ) (hg : XG X T tg is f) (he : XE X T W Γ e me) (hs : swapsWithSole [tg] e pos.line X.env = pure false) (hw : swappedStores [tg] e X.env = pure none)
    (h1 : (assignEach [tg] X.env).map (·.2) = [assign tg X.env]) : XS X T W np Γl Γ Γ (.Assign [tg] e pos) (sAsg is f me) := by
  obtain ⟨g, pg, rg⟩ := hg
  obtain ⟨t, p, r⟩ := he
  exact ⟨_, ps_asg p pg hs hw h1, rs_asg hz rg r⟩

/-! ### ends -/
theorem xs_ret (he : XE X T W Γ e me) : XS X T W np Γl Γ Γ (.Return (some e) pos) (sRet me) := by
  obtain ⟨t, p, r⟩ := he
  exact ⟨_, ps_ret p, .refl, fun fp F H σ s D S h => r fp F H σ s _ S (h.bindE.imp fun d s1 fp1 F1 H1 g1 S1 h2 v rv => h2 Γ fp1 F1 H1 σ v .refl .refl S1 rv)⟩
theorem xs_retN : XS X T W np Γl Γ Γ (.Return none pos) (sRet (eC .non)) :=
  ⟨_, ps_retN, .refl, fun fp F H σ s D S h => h Γ fp F H σ .non .refl .refl S .non⟩
theorem xs_exp (he : XE X T W Γ e me) (hs : swapsWith e none pos.line X.env = pure false) : XS X T W np Γl Γ Γ (.Expr e pos) (sExp me) := by
  obtain ⟨t, p, r⟩ := he
  refine ⟨_, ps_expr p hs, .refl, fun fp F H σ s D S h => r fp F H σ s _ S (h.bindE.imp fun d s1 fp1 F1 H1 g1 S1 h2 v rv => ?_)⟩
  exact h2 fp1 F1 H1 σ .refl S1

/-! ### choices, loops -/
theorem rs_if {tt : TT} {t u : TS} (rc : RT T W Γ tt mt) (r1 : RS T W np Γl Γ Γ' t m1) (r2 : RS T W np Γl Γ Γ' u m2) : RS T W np Γl Γ Γ' (tIfS tt t u) (sIf mt m1 m2) := by
  refine ⟨r1.ks, fun fp F H σ s D S h => rc fp F H σ s _ S (h.bindE.imp fun c s1 fp1 F1 H1 g1 S1 h2 => ?_)⟩
  cases c with
  | true => rw [if_pos rfl] at h2 ⊢; exact r1.run fp1 F1 H1 σ s1 D S1 h2
  | false => rw [if_neg (by simp)] at h2 ⊢; exact r2.run fp1 F1 H1 σ s1 D S1 h2
theorem xs_if {p q : List Stmt} (hc : XT X T W Γ c mt) (h1 : XB X T W np Γl Γ Γ' p m1) (h2 : XB X T W np Γl Γ Γ' q m2) : XS X T W np Γl Γ Γ' (.If c p q pos) (sIf mt m1 m2) := by
  obtain ⟨tt, p0, r0⟩ := hc
  obtain ⟨t, p1, r1⟩ := h1
  obtain ⟨u, p2, r2⟩ := h2
  exact ⟨_, ps_if p0 p1 p2, rs_if r0 r1 r2⟩
/-- the branches' ends made alike: own lists set free in one of them -/
theorem XB.free (i : Nat) (hi : np ≤ i) (hk : Γ'[i]? = some .own) (h : XB X T W np Γl Γ Γ' sts m) : XB X T W np Γl Γ (Γ'.set i .fz) sts m := by
  obtain ⟨t, p, r⟩ := h
  exact ⟨t, p, r.free hi hk⟩
theorem rs_for {wi : TI} {it : LX} {g : TG} {is : List Nat} {f : DC} {tb : TS} (hz : AllF is Γ) (ri : RI T W Γ wi it) (rg : RG T g is f) (rb : RS T W np Γ Γ Γ tb m) : RS T W np Γl Γ Γ (tFor wi g tb) (sFor it (gT is f) m) := by
  refine ⟨.refl, fun fp F H σ s D S h => ri fp F H σ s _ S (h.bindE.imp fun xs s1 fp1 F1 H1 g1 S1 h2 J hJ => ?_)⟩
  generalize hr : loop (gT is f) m xs s1 = r at h2
  have hno : r ≠ .no := fun z => by rw [z] at h2; exact h2
  refine ⟨fun i n σc Hc => n = xs.length - i ∧ i ≤ xs.length ∧ ∃ fpc Fc sc, GoS np Γ fp1 fpc F1 Fc H1 Hc σ σc ∧ Sta T Γ fpc Fc Hc σc sc ∧ loop (gT is f) m (xs.drop i) sc = r, ⟨_, rfl, Nat.zero_le _, fp1, F1, s1, .refl, S1, hr⟩, ?_⟩
  rintro i n σc Hc ⟨rfl, hi, fpc, Fc, sc, gc, Sc, hgo⟩
  by_cases hlt : i < xs.length
  · refine .inr ⟨hJ.go i Fc Hc gc.mono Sc.sub hlt, fun σ' H' => xs.length - (i + 1) = xs.length - (i + 1) ∧ i + 1 ≤ xs.length ∧ ∃ fpc Fc sc, GoS np Γ fp1 fpc F1 Fc H1 H' σ σ' ∧ Sta T Γ fpc Fc H' σ' sc ∧ loop (gT is f) m (xs.drop (i + 1)) sc = r,
      fun σ' H' w => ⟨_, by omega, w⟩, fun x H' y => ?_⟩
    obtain ⟨F2, px, rx⟩ := hJ.yld i Fc Hc x H' xs[i] gc.mono Sc.sub y (List.getElem?_eq_getElem hlt)
    rw [List.drop_eq_getElem_cons hlt] at hgo
    simp only [loop] at hgo
    have S2 := px.sta Sc
    have g2 : GoS np Γ fp1 fpc F1 F2 H1 H' σ σc := gc.trans .refl (.of px.go)
    cases ef : f xs[i] with
    | none => exfalso; apply hno; rw [← hgo]; unfold gT; rw [ef]; rfl
    | some ds =>
      have hlen := rg.len _ _ ef
      have eg : gT is f xs[i] sc = .ok () (putE sc is ds) := by unfold gT; rw [ef]; dsimp only; rw [if_pos hlen]
      rw [eg] at hgo
      refine rg.run F2 H' _ x xs[i] ds _ S2.sub rx ef fun ws rw' => ?_
      have S3 : Sta T Γ fpc F2 H' (putV σc is ws) (putE sc is ds) := S2.put hz rw'
      have g3 : GoS np Γ fp1 fpc F1 F2 H1 H' σ (putV σc is ws) := g2.trans .refl hz.goS
      generalize putE sc is ds = s3 at hgo S3
      generalize putV σc is ws = σ3 at g3 S3
      have hgo : (m s3).bind (fun w s => match w with
        | .nx => loop (gT is f) m (xs.drop (i + 1)) s
        | .ct => loop (gT is f) m (xs.drop (i + 1)) s
        | .bk => .ok .nx s
        | .rt d => .ok (.rt d) s) = r := hgo
      refine rb.run fpc F2 H' σ3 s3 _ S3 ?_
      have h3 : PoS T W np Γl Γ Γ fpc F2 H' σ3 r D := h2.later .refl g3
      cases em : m s3 with
      | ok fl s4 =>
        rw [em] at hgo
        cases fl with
        | nx => exact fun fp4 F4 H4 σ4 g4 S4 => ⟨rfl, hlt, fp4, F4, s4, g3.trans .refl g4, S4, hgo⟩
        | ct => exact fun fp4 F4 H4 σ4 g4 S4 => ⟨rfl, hlt, fp4, F4, s4, g3.trans .refl g4, S4, hgo⟩
        | bk =>
          have hgo : Res.ok PL.Flow.nx s4 = r := hgo
          rw [← hgo] at h3
          exact h3
        | rt d =>
          have hgo : Res.ok (PL.Flow.rt d) s4 = r := hgo
          rw [← hgo] at h3
          exact h3
      | ex c fs s4 =>
        rw [em] at hgo
        have hgo : Res.ex c fs s4 = r := hgo
        rw [← hgo] at h3
        exact h3
      | no => rw [em] at hgo; exact absurd hgo.symm hno
  · have e0 : i = xs.length := by omega
    refine .inl ⟨hJ.stop i Fc Hc gc.mono Sc.sub (by omega), ?_⟩
    rw [e0, List.drop_length] at hgo
    have hgo : Res.ok PL.Flow.nx sc = r := hgo
    rw [← hgo] at h2
    exact h2 fpc Fc Hc σc gc Sc
theorem xs_for {body : List Stmt} {it : LX} {is : List Nat} {f : DC} (hp : PassesOwn (model X.prog X.w) X.A X.env X.xe) (hc : X.calm = true) (hz : AllF is Γ) (hi : XI X T W Γ tg iter it) (hg : XG X T tg is f) (hb : XB X T W np Γ Γ Γ body m)
    (hs : ∀ x, foldedSetIterable iter X.env x = pure x) : XS X T W np Γl Γ Γ (.For tg iter body [] pos) (sFor it (gT is f) m) := by
  obtain ⟨wi, p1, r1⟩ := hi
  obtain ⟨g, p2, r2⟩ := hg
  obtain ⟨tb, p3, r3⟩ := hb
  exact ⟨_, ps_for hp hc p1 p2 p3 hs, rs_for hz r1 r2 r3⟩
theorem rs_while {tt : TT} {tb : TS} (fuel : En → Nat) (rc : RT T W Γ tt mt) (rb : RS T W np Γ Γ Γ tb m) : RS T W np Γl Γ Γ (tWhile tt tb) (sWhile fuel mt m) := by
  refine ⟨.refl, fun fp F H σ s D S h => ?_⟩
  unfold sWhile at h
  generalize hr : whileN mt m (fuel s) s = r at h
  have hno : r ≠ .no := fun z => by rw [z] at h; exact h
  refine ⟨fun n σc Hc => ∃ fpc Fc sc, GoS np Γ fp fpc F Fc H Hc σ σc ∧ Sta T Γ fpc Fc Hc σc sc ∧ whileN mt m n sc = r, ⟨fuel s, fp, F, s, .refl, S, hr⟩, ?_⟩
  rintro n σc Hc ⟨fpc, Fc, sc, gc, Sc, hgo⟩
  cases n with
  | zero => exact absurd hgo.symm hno
  | succ n =>
    simp only [whileN] at hgo
    have h3 : PoS T W np Γl Γ Γ fpc Fc Hc σc r D := h.later .refl gc
    refine rc fpc Fc Hc σc sc _ Sc ?_
    cases ec : mt sc with
    | ex c fs s1 =>
      rw [ec] at hgo
      have hgo : Res.ex c fs s1 = r := hgo
      rw [← hgo] at h3
      exact fun fp' F' H' od g S x => h3 Γ fp' F' H' σc od .refl (.of g) S x
    | no => rw [ec] at hgo; exact absurd hgo.symm hno
    | ok b s1 =>
      rw [ec] at hgo
      have hgo : (if b then (m s1).bind (fun w s => match w with
        | .nx => whileN mt m n s
        | .ct => whileN mt m n s
        | .bk => .ok .nx s
        | .rt d => .ok (.rt d) s) else .ok .nx s1) = r := hgo
      intro fp1 F1 H1 g1 S1
      have g4 : GoS np Γ fp fp1 F F1 H H1 σ σc := gc.trans .refl (.of g1)
      have h3 : PoS T W np Γl Γ Γ fp1 F1 H1 σc r D := h3.later .refl (.of g1)
      cases b with
      | false =>
        rw [if_neg (by simp)]
        rw [if_neg (by simp)] at hgo
        rw [← hgo] at h3
        exact h3 fp1 F1 H1 σc .refl S1
      | true =>
        rw [if_pos rfl]
        rw [if_pos rfl] at hgo
        refine ⟨fun σ' H' => ∃ fpc Fc sc, GoS np Γ fp fpc F Fc H H' σ σ' ∧ Sta T Γ fpc Fc H' σ' sc ∧ whileN mt m n sc = r, fun σ' H' w => ⟨n, Nat.lt_succ_self n, w⟩, ?_⟩
        refine rb.run fp1 F1 H1 σc s1 _ S1 ?_
        cases em : m s1 with
        | ok fl s4 =>
          rw [em] at hgo
          cases fl with
          | nx => exact fun fp4 F4 H4 σ4 g5 S4 => ⟨fp4, F4, s4, g4.trans .refl g5, S4, hgo⟩
          | ct => exact fun fp4 F4 H4 σ4 g5 S4 => ⟨fp4, F4, s4, g4.trans .refl g5, S4, hgo⟩
          | bk =>
            have hgo : Res.ok PL.Flow.nx s4 = r := hgo
            rw [← hgo] at h3
            exact h3
          | rt d =>
            have hgo : Res.ok (PL.Flow.rt d) s4 = r := hgo
            rw [← hgo] at h3
            exact h3
        | ex c fs s4 =>
          rw [em] at hgo
          have hgo : Res.ex c fs s4 = r := hgo
          rw [← hgo] at h3
          exact h3
        | no => rw [em] at hgo; exact absurd hgo.symm hno
theorem xs_while {body : List Stmt} (fuel : En → Nat) (hp : PassesOwn (model X.prog X.w) X.A X.env X.xe) (hc : XT X T W Γ c mt) (hb : XB X T W np Γ Γ Γ body m) : XS X T W np Γl Γ Γ (.While c body [] pos) (sWhile fuel mt m) := by
  obtain ⟨tt, p1, r1⟩ := hc
  obtain ⟨tb, p2, r2⟩ := hb
  exact ⟨_, ps_while hp p1 p2, rs_while fuel r1 r2⟩
/-- a branch that does not come to its end may end as one likes -/
theorem xb_dead {Γ2 : List (Kd T)} (hd : ∀ s s', m s ≠ .ok .nx s') (ks : KS np Γ Γ2) (h : XB X T W np Γl Γ Γ' sts m) : XB X T W np Γl Γ Γ2 sts m := by
  obtain ⟨t, p, r⟩ := h
  refine ⟨t, p, ks, fun fp F H σ s D S q => r.run fp F H σ s D S ?_⟩
  cases e : m s with
  | ok f s' =>
    rw [e] at q
    cases f with
    | nx => exact absurd e (hd s s')
    | _ => exact q
  | ex c fs s' => rw [e] at q; exact q
  | no => rw [e] at q; exact q

/-! ### own lists changed -/
theorem Sta.own {fp : Nat → List Addr} {F H : Hp} {σ : L2.St} {s : En} (S : Sta T Γ fp F H σ s) {i : Nat} {d : D} (hk : Γ[i]? = some .own) (h : s[i]? = some (some d)) :
    ∃ a ds vs, d = .lst ds ∧ σ[i]? = some (some (.ref a)) ∧ fp i = [a] ∧ H a = some (.lst vs) ∧ F a = none ∧ RepL T F ds vs := by
  have hi : i < s.length := (List.getElem?_eq_some_iff.mp h).1
  have hσ : i < σ.length := by rw [S.ls]; exact hi
  have q := S.ok i _ _ _ h (List.getElem?_eq_getElem hσ) hk
  obtain ⟨a, ds, vs, e1, e2, e3, e4, e5, e6⟩ := q
  exact ⟨a, ds, vs, e1, by rw [List.getElem?_eq_getElem hσ, e2], e3, e4, e5, e6⟩
/-- an own list rewritten -/
theorem Sta.rewrite {fp : Nat → List Addr} {F H : Hp} {σ : L2.St} {s : En} (S : Sta T Γ fp F H σ s) {i : Nat} {a : Addr} {d : D} {ds : List D} {vs : List V} (hk : Γ[i]? = some .own) (h : s[i]? = some (some d)) (hσ : σ[i]? = some (some (.ref a))) (hf : fp i = [a]) (hF : F a = none) (r : RepL T F ds vs) {w : HO} (hH : H a = some w) :
    Go fp fp F F H (upd H a (.lst vs)) ∧ Sta T Γ fp F (upd H a (.lst vs)) σ (s.set i (some (.lst ds))) := by
  have hl : i < s.length := (List.getElem?_eq_some_iff.mp h).1
  refine ⟨⟨fun b o hb hn => ?_, fun b hb => ?_, Fle.refl F, fun _ _ h => .inl h, fun _ _ h => .inl h⟩, ⟨fun b o hb => ?_, by rw [List.length_set]; exact S.ls, by rw [List.length_set]; exact S.lg, fun j od ov k h1 h2 h3 => ?_, fun j hj => S.out j (by rw [List.length_set] at hj; exact hj), S.dis⟩⟩
  · have : b ≠ a := fun z => hn i (by rw [hf, z]; simp)
    rw [upd_ne this]; exact hb
  · by_cases z : b = a
    · subst z; rw [upd_same] at hb; cases hb
    · rw [upd_ne z] at hb; exact hb
  · have : b ≠ a := ne_of_none hb hF
    rw [upd_ne this]; exact S.sub b o hb
  · by_cases e : i = j
    · subst e
      rw [List.getElem?_set_self hl] at h1
      rw [hσ] at h2
      rw [hk] at h3
      cases h1; cases h2; cases h3
      exact ⟨a, ds, vs, rfl, rfl, hf, upd_same, hF, r⟩
    · rw [List.getElem?_set_ne e] at h1
      have w := S.ok j od ov k h1 h2 h3
      have nn : ∀ b, b ∈ fp j → b ≠ a := fun b hb z => e (S.dis i j a (by rw [hf]; simp) (z ▸ hb))
      unfold SlotOk at w ⊢
      cases od with
      | none => exact w
      | some d' =>
        cases k with
        | fz => exact w
        | own =>
          obtain ⟨b, ds', vs', e1, e2, e3, e4, e5, e6⟩ := w
          exact ⟨b, ds', vs', e1, e2, e3, by rw [upd_ne (nn b (by rw [e3]; simp))]; exact e4, e5, e6⟩
        | ab A =>
          obtain ⟨v, e1, e2, e3⟩ := w
          exact ⟨v, e1, A.loc _ _ _ _ _ _ _ e2 (Fle.refl F) fun b o hb ho => by rw [upd_ne (nn b hb)]; exact ho, fun b hb => ⟨(e3 b hb).1, let ⟨o, ho⟩ := (e3 b hb).2; ⟨o, by rw [upd_ne (nn b hb)]; exact ho⟩⟩⟩
        | gh A =>
          obtain ⟨e1, e2, e3⟩ := w
          exact ⟨e1, A.loc _ _ _ _ _ _ _ e2 (Fle.refl F) fun b o hb ho => by rw [upd_ne (nn b hb)]; exact ho, fun b hb => ⟨(e3 b hb).1, let ⟨o, ho⟩ := (e3 b hb).2; ⟨o, by rw [upd_ne (nn b hb)]; exact ho⟩⟩⟩
        | hid => exact w
theorem hasL_of {s : En} {i : Nat} (h : hasL s i = true) : ∃ xs, s[i]? = some (some (.lst xs)) := by
  unfold hasL at h
  split at h
  · rename_i xs e; exact ⟨xs, e⟩
  · cases h
theorem xs_app {x : Str} {px p2 cpos : Pos} {i : Nat} (hN : X.N[i]? = some x) (hv : Vis X.env.scope x) (hd : (x == ("__debug__" : Str)) = false) (hcd : (x == ("__classdict__" : Str)) = false) (hk : Γ[i]? = some .own) (he : XE X T W Γ e me)
    (hbase : attributeBase (.Name x px) "append" X.env (eval (.Name x px) X.env) = eval (.Name x px) X.env)
    (hfew : ((backTo cpos (starEach [e] X.env)).all (fun x => !x.1) && (backToKw cpos (keywordEach [] X.env)).all (fun x => x.1.isSome) && decide (([e] : List Expr).length + ([] : List Keyword).length + (if ([] : List Keyword).isEmpty then 0 else 1) < 30)) = true)
    (hline : (p2.endLine == cpos.line) = true) (hs : starEach [e] X.env = (false, eval e X.env) :: starEach [] X.env) (hplain : (backTo cpos (starEach [] X.env)).any (·.1) = false)
    (hsw : swapsWith (.Call (.Attribute (.Name x px) "append" p2) [e] [] cpos) none pos.line X.env = pure false) :
    XS X T W np Γl Γ Γ (.Expr (.Call (.Attribute (.Name x px) "append" p2) [e] [] cpos) pos) (sApp i me) := by
  obtain ⟨te, p, r⟩ := he
  refine ⟨_, ps_expr (pe_bm PySem.F.plainAttrs_list PySem.F.slot_list_append PySem.F.type_list_append mt_append (pe_var hN hv hd hcd) (pa_cons p pa_nil hs) hbase hfew hline hs hplain) hsw, .refl, fun fp F H σ s D S h => ?_⟩
  unfold sApp at h
  split at h
  · rename_i hl
    obtain ⟨xs0, e0⟩ := hasL_of hl
    obtain ⟨a0, ds0, vs0, _, eσ, ef, eH, _, _⟩ := S.own hk e0
    refine ⟨_, eσ, .inl ⟨rfl, _, .inl (.inl eH)⟩, r fp F H σ s _ S (h.bindE.imp fun d s1 fp1 F1 H1 g1 S1 h2 v rv => ?_)⟩
    split at h2
    · rename_i xs e1
      split at h2
      · rename_i hlt
        obtain ⟨a1, ds1, vs1, q1, eσ1, ef1, eH1, eF1, r1⟩ := S1.own hk e1
        rw [eσ] at eσ1; cases eσ1
        cases q1
        obtain ⟨g, S'⟩ := S1.rewrite hk e1 eσ ef1 eF1 (r1.app (.cons rv .nil)) eH1
        exact ⟨_, vs1, v, rfl, rfl, eH1, by rw [← r1.length]; exact Nat.lt_of_lt_of_le hlt (by decide), h2 fp1 F1 _ σ (.of g) S'⟩
      · exact h2.elim
    · exact h2.elim
  · exact h.elim
theorem xs_ext {x : Str} {px p2 cpos : Pos} {i : Nat} (hN : X.N[i]? = some x) (hv : Vis X.env.scope x) (hd : (x == ("__debug__" : Str)) = false) (hcd : (x == ("__classdict__" : Str)) = false) (hk : Γ[i]? = some .own) (he : XE X T W Γ e me)
    (hbase : attributeBase (.Name x px) "extend" X.env (eval (.Name x px) X.env) = eval (.Name x px) X.env)
    (hfew : ((backTo cpos (starEach [e] X.env)).all (fun x => !x.1) && (backToKw cpos (keywordEach [] X.env)).all (fun x => x.1.isSome) && decide (([e] : List Expr).length + ([] : List Keyword).length + (if ([] : List Keyword).isEmpty then 0 else 1) < 30)) = true)
    (hline : (p2.endLine == cpos.line) = true) (hs : starEach [e] X.env = (false, eval e X.env) :: starEach [] X.env) (hplain : (backTo cpos (starEach [] X.env)).any (·.1) = false)
    (hsw : swapsWith (.Call (.Attribute (.Name x px) "extend" p2) [e] [] cpos) none pos.line X.env = pure false) :
    XS X T W np Γl Γ Γ (.Expr (.Call (.Attribute (.Name x px) "extend" p2) [e] [] cpos) pos) (sExt i me) := by
  obtain ⟨te, p, r⟩ := he
  refine ⟨_, ps_expr (pe_bm PySem.F.plainAttrs_list PySem.F.slot_list_extend PySem.F.type_list_extend mt_extend (pe_var hN hv hd hcd) (pa_cons p pa_nil hs) hbase hfew hline hs hplain) hsw, .refl, fun fp F H σ s D S h => ?_⟩
  unfold sExt at h
  split at h
  · rename_i hl
    obtain ⟨xs0, e0⟩ := hasL_of hl
    obtain ⟨a0, ds0, vs0, _, eσ, ef, eH, _, _⟩ := S.own hk e0
    refine ⟨_, eσ, .inl ⟨rfl, _, .inl (.inl eH)⟩, r fp F H σ s _ S (h.bindE.imp fun d s1 fp1 F1 H1 g1 S1 h2 v rv => ?_)⟩
    split at h2
    · rename_i xs ys e1 
      split at h2
      · rename_i hlt
        obtain ⟨a1, ds1, vs1, q1, eσ1, ef1, eH1, eF1, r1⟩ := S1.own hk e1
        rw [eσ] at eσ1; cases eσ1
        cases q1
        cases rv with
        | lst hb rb =>
          obtain ⟨g, S'⟩ := S1.rewrite hk e1 eσ ef1 eF1 (r1.app rb) eH1
          exact ⟨_, _, vs1, _, rfl, rfl, eH1, S1.sub _ _ hb, by rw [← r1.length, ← rb.length]; exact line_le hlt, h2 fp1 F1 _ σ (.of g) S'⟩
      · exact h2.elim
    · exact h2.elim
  · exact h.elim
theorem RepL.setAt {F : Hp} {ds : List D} {vs : List V} (r : RepL T F ds vs) (n : Nat) {d : D} {v : V} (rv : Rep T F d v) : RepL T F (ds.set n d) (vs.set n v) := RepL.set rv n r
theorem xs_put {x : Str} {px p2 : Pos} {i : Nat} {k : Expr} {mk : EX} (hN : X.N[i]? = some x) (hv : Vis X.env.scope x) (hd : (x == ("__debug__" : Str)) = false) (hcd : (x == ("__classdict__" : Str)) = false) (hk : Γ[i]? = some .own) (hkx : XE X T W Γ k mk) (he : XE X T W Γ e me)
    (ha : ∀ v, assign (.Subscript (.Name x px) k p2) X.env v = (do
      let ov ← holding [v] (eval (.Name x px) X.env)
      let iv ← holding [v, ov] (eval k X.env)
      standAt p2
      holding [v, ov, iv] (setItem ov iv v)
      release [v, ov, iv] []))
    (hs : swapsWithSole [.Subscript (.Name x px) k p2] e pos.line X.env = pure false) (hw : swappedStores [.Subscript (.Name x px) k p2] e X.env = pure none)
    (h1 : (assignEach [.Subscript (.Name x px) k p2] X.env).map (·.2) = [assign (.Subscript (.Name x px) k p2) X.env]) :
    XS X T W np Γl Γ Γ (.Assign [.Subscript (.Name x px) k p2] e pos) (sPut i mk me) := by
  obtain ⟨te, p, r⟩ := he
  obtain ⟨tk, pk, rk⟩ := hkx
  refine ⟨_, ps_asg p (pg_sub (pe_var hN hv hd hcd) pk set_list ha) hs hw h1, .refl, fun fp F H σ s D S h => ?_⟩
  refine r fp F H σ s _ S (h.bindE.imp fun d s1 fp1 F1 H1 g1 S1 h2 v rv => ?_)
  split at h2
  · rename_i hl
    obtain ⟨xs0, e0⟩ := hasL_of hl
    obtain ⟨a0, ds0, vs0, _, eσ, ef, eH, _, _⟩ := S1.own hk e0
    refine ⟨_, eσ, rk fp1 F1 H1 σ s1 _ S1 (h2.bindE.imp fun y s2 fp2 F2 H2 g2 S2 h3 w rw' => ?_)⟩
    split at h3
    · rename_i xs j e1
      split at h3
      · rename_i n en
        obtain ⟨a1, ds1, vs1, q1, eσ1, ef1, eH1, eF1, r1⟩ := S2.own hk e1
        rw [eσ] at eσ1; cases eσ1
        cases q1
        cases rw'
        obtain ⟨g, S'⟩ := S2.rewrite hk e1 eσ ef1 eF1 (r1.setAt n (rv.fle g2.mono)) eH1
        exact ⟨_, vs1, j, n, rfl, rfl, eH1, by rw [← r1.length]; exact en, h3 fp2 F2 _ σ (.of g) S'⟩
      · exact h3.elim
    · exact h3.elim
  · exact h2.elim
/-- name = [..] on one line -/
theorem xs_lc {i : Nat} {y : Str} {py : Pos} {elt : Expr} {ifs : List Expr} {scope : Scope} {own : List (Str × Nat)} {lpos : Pos} {it : LX} {is : List Nat} {f : DC} {t : TX} {e : EX} (hc : X.calm = true) (hN : X.N.Nodup) (hy : X.N[i]? = some y) (hyl : X.env.scope.names.lookup y = some .local) (hz : SetF np i Γ)
    (hsw : swapsWith (.ListComp elt [⟨tg, iter, ifs, 0⟩] scope lpos) (some (.Name y py)) pos.line X.env = pure true) (hi : XI X T W Γ tg iter it) (ok : BlkOk X.N X.env.scope scope own) (L : LcX X T Γ tg ifs elt scope own is f t e)
    (hl : ∀ d ds, f d = some ds → ds.length = is.length) (hso : ∀ i ∈ is, i ∈ own.map (·.2)) (hzo : ∀ i ∈ own.map (·.2), Γ[i]? = some .fz) (hs : ∀ x, foldedSetIterable iter X.env x = pure x) :
    XS X T W np Γl Γ (Γ.set i .fz) (.Assign [.Name y py] (.ListComp elt [⟨tg, iter, ifs, 0⟩] scope lpos) pos) (sSet i (eLc it (own.map (·.2)) (gT is f) t e)) := by
  obtain ⟨wi, p1, r1⟩ := hi
  exact ⟨_, ps_setLc hc hN hy hyl hsw p1 ok (fun s H C cl fp => (L.g s H C cl fp).can) L.t (fun s H C cl fp => (L.e s H C cl fp).can) hs, rs_set hz ((rl_lc r1 (rg_can hl) hso hzo rt_can re_can).re fun s d s' h => lc_list s d s' h)⟩
theorem xs_lcOwn {i : Nat} {y : Str} {py : Pos} {elt : Expr} {ifs : List Expr} {scope : Scope} {own : List (Str × Nat)} {lpos : Pos} {it : LX} {is : List Nat} {f : DC} {t : TX} {e : EX} (hc : X.calm = true) (hN : X.N.Nodup) (hy : X.N[i]? = some y) (hyl : X.env.scope.names.lookup y = some .local) (hp : np ≤ i) (hlt : i < Γ.length)
    (hsw : swapsWith (.ListComp elt [⟨tg, iter, ifs, 0⟩] scope lpos) (some (.Name y py)) pos.line X.env = pure true) (hi : XI X T W Γ tg iter it) (ok : BlkOk X.N X.env.scope scope own) (L : LcX X T Γ tg ifs elt scope own is f t e)
    (hl : ∀ d ds, f d = some ds → ds.length = is.length) (hso : ∀ i ∈ is, i ∈ own.map (·.2)) (hzo : ∀ i ∈ own.map (·.2), Γ[i]? = some .fz) (hs : ∀ x, foldedSetIterable iter X.env x = pure x) :
    XS X T W np Γl Γ (Γ.set i .own) (.Assign [.Name y py] (.ListComp elt [⟨tg, iter, ifs, 0⟩] scope lpos) pos) (sSet i (eLc it (own.map (·.2)) (gT is f) t e)) := by
  obtain ⟨wi, p1, r1⟩ := hi
  exact ⟨_, ps_setLc hc hN hy hyl hsw p1 ok (fun s H C cl fp => (L.g s H C cl fp).can) L.t (fun s H C cl fp => (L.e s H C cl fp).can) hs, rs_own hp hlt (rl_lc r1 (rg_can hl) hso hzo rt_can re_can) fun s d s' h => lc_list s d s' h⟩
end
end RX

set_option Elab.async false
set_option linter.all false
set_option maxRecDepth 100000
set_option maxHeartbeats 4000000
/-! RXE: own exceptions whose __init__ says super().__init__(text) and stores one field. -/
namespace RX
open PySem PySem.Spec PyProof.Rows L2 PL

/-- the body -/
def sBody (m fld sf pn : Str) (j : Nat) (p0 p1 p2 p3 p4 p5 p6 p7 p8 p9 : Pos) : List Stmt :=
  [.Expr (.Call (.Attribute (.Call (.Name "super" p0) [] [] p1) "__init__" p2) [.Constant (.str m) j p3] [] p4) p5, .Assign [.Attribute (.Name sf p6) fld p7] (.Name pn p8) p9]
/-- a scope for the two names alone -/
def sc2 (sf pn : Str) : Scope := { kind := .function, names := [(sf, .local), (pn, .local)], isGenerator := false, isCoroutine := false }

section
open PySem.W PySem.Calls
variable {prog : Program} {w : World} {A : Around} {E : Value → Shared → Prop} {h : Heap} {g : Array GenState} {d : Drawn} {t : Nat} {os : OsState}
variable {nm q : Str} {C N : Addr} {bs bm : List Value} {hdct : Bool} {sn : List Str} {sub : List Value} {ab : Bool} {col : Option Bool} {dd : Option Addr} {k0 k1 k2 k3 k5 : Option Value}
theorem call_mw {u e t0 : Addr} {rest : List Value} {Q : Value → Shared → Prop}
    (hC : h.get? C = some (excClassObj nm q C N bs bm hdct sn sub ab col dd k0 k1 k2 k3 k5 "ValueError.__new__")) (he : h.get? e = some (HandSPX.excO C t0)) (hu : h.get? u = some (kxs_mw "ValueError.__init__" e)) (hrest : rest.length ≤ sizeLine)
    (hq : ∀ h' t1, (∀ b o, b ≠ e → h.get? b = some o → h'.get? b = some o) → h'.get? e = some (HandSPX.excO C t1) → Q .none ⟨h', g, d, t, os⟩) :
    wpAny (model prog w) A (call (.ref u) rest) Q E ⟨h, g, d, t, os⟩ := by
  refine wpAny_call (codeAny_of_tree ?_)
  show wpAny _ A.in1 (callAny (.ref u) ⟨rest, []⟩) _ _ _
  simp only [callAny]
  refine wpAny_bind (wpAny_load hu ?_)
  simp only [kxs_mw, show (Value.type "method-wrapper" == Value.type "method" || Value.type "method-wrapper" == Value.type "builtin_function_or_method" || Value.type "method-wrapper" == Value.type "method-wrapper") = true by decide, if_true]
  refine W.KFB.if_so (by decide) ?_
  refine wpAny_bind (ESX.check_bound F.excBase_ValueError hC he rfl ?_)
  refine wpAny_bind (wpAny_pure (wpAny_pure ?_))
  refine ⟨Code.quiet_builtin _ (by decide +kernel), codeAny_builtin F.excBase_ValueError.initEntry ?_⟩
  rw [Around.under_plainId F.excBase_ValueError.init.plain _]
  wp_walk
  refine hq _ h.objs.size (fun b o hb ho => ?_) ?_
  · rw [Heap.get?_update_other _ _ (Ne.symm hb)]
    exact Heap.get?_push_of_some _ ho
  · rw [Heap.get?_update_self _ (Heap.get?_push_of_some _ he) rfl]
    rfl
end
/-- what is known of the class's __init__ -/
structure InitF (P : Program) (K : PySem.W.Frag) (f : Addr) (fd : FuncData) (C : Addr) (m fld sf pn : Str) : Prop where
  ex : ∃ (name qual : Str) (params : Arguments) (scope : Scope) (dV kV doc pm : Value) (an : Option Addr) (cda : Addr) (ct : Value) (cc : Addr) (oc : Value) (od : Option Addr) (osl : Array (Option Value)) (j : Nat) (p0 p1 p2 p3 p4 p5 p6 p7 p8 p9 : Pos) (ccl : Value) (cdd : Option Addr) (vs : Array Value) (ccs : Array (Option Value)) (file : Str) (tf : Tok) (cl : Value) (cld : Option Addr) (csl : Array (Option Value)) (D : Addr) (cdD : ClassData) (ar : Arg),
    fd = PySem.W.ksFn name qual params (sBody m fld sf pn j p0 p1 p2 p3 p4 p5 p6 p7 p8 p9) scope dV kV doc pm an (.ref cda) ct cc ∧ K.lookup f = some ⟨oc, od, .func fd, osl⟩ ∧ PySem.W.codeIn K (.ref cda) qual = true ∧
    (K.lookup cda = some ⟨ccl, cdd, .fields vs, ccs⟩ ∧ vs[2]? = some (.str file tf) ∧ ((P.main.file : Str) == file) = true) ∧
    (K.lookup cc = some ⟨cl, cld, .cell (some (.ref D)), csl⟩ ∧ PySem.W.clsIn K D = some cdD ∧ PySem.W.mroIn K C (.ref D) = some true ∧ PySem.W.ks_superIn K C D "__init__" = some (some (.builtin "ValueError.__init__"))) ∧
    (scope.kind = .function ∧ scope.isCoroutine = false ∧ scope.isGenerator = false ∧ (∀ x ∈ scope.names, x.2 ≠ .cell) ∧ scope.names.lookup ("super" : Str) = some .globalImplicit ∧ scope.names.lookup ("__class__" : Str) = some .free ∧ scope.names.lookup sf = some .local ∧ scope.names.lookup pn = some .local) ∧
    ((params.posonlyargs ++ params.args).head? = some ar ∧ ar.arg = sf) ∧
    (∃ pl : Sem Bool, ∀ env : Env, eval (.Call (.Attribute (.Call (.Name "super" p0) [] [] p1) "__init__" p2) [.Constant (.str m) j p3] [] p4) env = (do
      let ov ← attributeBase (.Call (.Name "super" p0) [] [] p1) "__init__" env (eval (.Call (.Name "super" p0) [] [] p1) env)
      standAt p2.atName
      let (f, first) ← holding [ov] (getMethod ov "__init__" pl)
      callWith p4 f first (backTo p4 (starEach [Expr.Constant (.str m) j p3] env)) []))
  sub : PySem.W.subIn K (.ref C) (.type "ValueError") = some true
  ho : PySem.W.nsIn K cStatics "thirdparty.any" = some none
  cls : OexC K C
  no : PySem.W.findIn K (.ref C) fld = some none
  top : (P.main.scope.names.lookup ("super" : Str)).isSome = false
  hne : sf ≠ pn
  hd1 : (sf == ("__debug__" : Str)) = false
  hd2 : (pn == ("__debug__" : Str)) = false
/-- what the __init__ promises -/
def spInit (C : Addr) (fld : Str) : Sp := fun vs H Q E => ∃ a y, vs = [.ref a, y] ∧ H a = some (exo a C none) ∧ ∀ dx, H dx = none → dx ≠ a → Q .non (upd (upd H dx (exd dx [(fld, y)])) a (exo a C (some dx)))
theorem hint (env : Env) (hk : env.scope.kind = .function) : interactive env = false := by simp [interactive, hk]
theorem ok_init {P : Program} {w : World} {K : PySem.W.Frag} {mg : Str → Option Value} {base : Heap} {CX : CXT} {f : Addr} {fd : FuncData} {C : Addr} {m fld sf pn : Str} (I0 : InitF P K f fd C m fld sf pn) (hm : mg "super" = none) :
    FnOk P w K mg base CX 1 f fd [sf, pn] (spInit C fld) := by
  obtain ⟨name, qual, params, scope, dV, kV, doc, pm, an, cda, ct, cc, oc, od, osl, j, p0, p1, p2, p3, p4, p5, p6, p7, p8, p9, ccl, cdd, vsc, ccs, file, tf, cl, cld, csl, D, cdD, ar, efd, lk, hcd, ⟨hcda, hv2, hfile⟩, ⟨hcc, hcD, hmro, hsup⟩, ⟨hk, hco, hgen, hcell, hks, hkc, hsf, hpn⟩, ⟨hpar, har⟩, ⟨pl, hpl⟩⟩ := I0.ex
  refine ⟨fun vs H Q E ⟨a, y, e, _⟩ => by rw [e]; rfl, fun A outer s H args us vs Q E hr e0 hb r hsp => ?_⟩
  obtain ⟨a, y, rfl, ha, hq⟩ := hsp
  obtain ⟨u0, u, rfl, r0, ru⟩ := Vals.two r
  obtain rfl : u0 = Value.ref a := r0
  have KX : K.In s.heap := e0.mod.kin.keeps fun b o e => (e0.bs b o e).1
  have lim : s.heap.NoLimit := e0.mod.nolimit.keeps fun b o e => (e0.bs b o e).1
  rw [efd] at lk
  subst efd
  refine PySem.ks_codeAny_call_defAt (body := sBody m fld sf pn j p0 p1 p2 p3 p4 p5 p6 p7 p8 p9) (binds := [(sf, .ref a), (pn, u)]) hr.depth (KX _ _ lk) rfl lim (PySem.W.codeRec_of KX hcd) rfl hb hcell (fun x hx => ?_) (fun h₀ hns keep => ?_) hco hgen hk
  · rcases List.mem_cons.mp hx with z | z
    · rw [z]; exact hsf
    · rcases List.mem_cons.mp z with z | z
      · rw [z]; exact hpn
      · cases z
  -- a context to tell the heap by
  have hoa := exo_at e0.hok ha
  obtain ⟨t1, hoa⟩ := hoa
  have S2 : FnScope [sf, pn] [sf, pn] (sc2 sf pn) := by
    refine ⟨rfl, rfl, rfl, by simp [I0.hne], rfl, fun x hx => ?_, fun y hy => ?_⟩
    · have hps : (pn == sf) = false := by simp; exact fun z => I0.hne z.symm
      rcases List.mem_cons.mp hx with z | z
      · rw [z]; exact .inl (by simp [sc2, List.lookup])
      · rcases List.mem_cons.mp z with z | z
        · rw [z]; exact .inl (by simp [sc2, List.lookup, hps])
        · cases z
    · rcases List.mem_cons.mp hy with z | z
      · rw [z]; exact fun q => nomatch q
      · rcases List.mem_cons.mp z with z | z
        · rw [z]; exact fun q => nomatch q
        · cases z
  have hps : (pn == sf) = false := by simp; exact fun z => I0.hne z.symm
  have xin : InCallC s s.heap.objs.size (bindL (envOfC qual (sc2 sf pn) s.heap.objs.size f (.ref cda)).kindOf ([sf, pn].zip [.ref a, u]) fun _ => none) (cellsFrom (s.heap.objs.size + 1) (sc2 sf pn).names []) (bindC (envOfC qual (sc2 sf pn) s.heap.objs.size f (.ref cda)).kindOf ([sf, pn].zip [.ref a, u]) fun _ => none) { s with heap := h₀, toks := s.toks + 2 } := by
    refine ⟨⟨⟨_, _, rfl⟩, ?_, keep, Nat.le_refl _⟩, fun n c h => ?_, ?_, fun n c h => ?_⟩
    · have e : (bindL (envOfC qual (sc2 sf pn) s.heap.objs.size f (.ref cda)).kindOf ([sf, pn].zip [.ref a, u]) fun _ => none) = fun x => [(sf, Value.ref a), (pn, u)].reverse.lookup x := by
        have k1 : (envOfC qual (sc2 sf pn) s.heap.objs.size f (.ref cda)).kindOf sf = some .local := by show (sc2 sf pn).names.lookup sf = _; simp [sc2, List.lookup]
        have k2 : (envOfC qual (sc2 sf pn) s.heap.objs.size f (.ref cda)).kindOf pn = some .local := by show (sc2 sf pn).names.lookup pn = _; simp [sc2, List.lookup, hps]
        funext x
        simp only [List.zip_cons_cons, List.zip_nil_left, bindL, k1, k2, if_pos]
        show (if x = pn then some u else if x = sf then some (Value.ref a) else none) = List.lookup x [(pn, u), (sf, Value.ref a)]
        simp only [List.lookup]
        by_cases h1 : x = pn
        · rw [if_pos h1]; simp [h1]
        · by_cases h2 : x = sf
          · rw [if_neg h1, if_pos h2]; simp [h1, h2]
            rw [show (sf == pn) = false by simp; exact I0.hne]
          · rw [if_neg h1, if_neg h2]
            rw [show (x == pn) = false by simp; exact h1, show (x == sf) = false by simp; exact h2]
      rw [e]
      exact hns
    · have : (cellsFrom (s.heap.objs.size + 1) (sc2 sf pn).names []).lookup n = none := by rfl
      rw [this] at h; cases h
    · exact List.Pairwise.nil
    · cases h
  have I1 : Inv (cxOf CX P w K mg base [sf, pn] qual (sc2 sf pn) f (.ref cda) A outer s H E) [] (start [sf, pn] [.ref a, y]) H { s with heap := h₀, toks := s.toks + 2 } := inv_start (us := [.ref a, u]) (ps := [sf, pn]) S2 hr.hd e0 rfl (.cons rfl (.cons ru .nil)) xin
  have fin : ∀ {s' : Shared} {σ' : L2.St} {H' : Hp}, Inv (cxOf CX P w K mg base [sf, pn] qual (sc2 sf pn) f (.ref cda) A outer s H E) [] σ' H' s' → Q .non H' → CE outer P w H s Q .none s' := fun {s' σ' H'} J q => ⟨.non, H', J.os, J.bare, J.base, J.hok, rfl, q⟩
  have loc1 : ∀ {s' : Shared} {H' : Hp}, Inv (cxOf CX P w K mg base [sf, pn] qual (sc2 sf pn) f (.ref cda) A outer s H E) [] (start [sf, pn] [.ref a, y]) H' s' → ∃ m u', s'.heap.Ns s.heap.objs.size m ∧ m sf = some (.ref a) ∧ m pn = some u' ∧ RelV y u' := fun {s' H'} J => by
    obtain ⟨m, hn, hl⟩ := J.loc
    have k1 : Vis (sc2 sf pn) sf := .inl (by simp [sc2, List.lookup])
    have k2 : Vis (sc2 sf pn) pn := .inl (by simp [sc2, List.lookup, hps])
    obtain ⟨u1, r1, l1⟩ := hl 0 sf (.ref a) rfl rfl k1
    obtain ⟨u2, r2, l2⟩ := hl 1 pn y rfl rfl k2
    obtain rfl : u1 = Value.ref a := r1
    have q1 : (envOfC qual (sc2 sf pn) s.heap.objs.size f (.ref cda)).kindOf sf = some .local := by show (sc2 sf pn).names.lookup sf = _; simp [sc2, List.lookup]
    have q2 : (envOfC qual (sc2 sf pn) s.heap.objs.size f (.ref cda)).kindOf pn = some .local := by show (sc2 sf pn).names.lookup pn = _; simp [sc2, List.lookup, hps]
    refine ⟨m, u2, hn, ?_, ?_, r2⟩
    · rcases l1 with ⟨_, e⟩ | ⟨e, _⟩
      · exact e
      · have e : (envOfC qual (sc2 sf pn) s.heap.objs.size f (.ref cda)).kindOf sf = some .cell ∨ (envOfC qual (sc2 sf pn) s.heap.objs.size f (.ref cda)).kindOf sf = some .free := e
        rw [q1] at e; rcases e with e | e <;> cases e
    · rcases l2 with ⟨_, e⟩ | ⟨e, _⟩
      · exact e
      · have e : (envOfC qual (sc2 sf pn) s.heap.objs.size f (.ref cda)).kindOf pn = some .cell ∨ (envOfC qual (sc2 sf pn) s.heap.objs.size f (.ref cda)).kindOf pn = some .free := e
        rw [q2] at e; rcases e with e | e <;> cases e
  have nclo : Heap.Ns h₀ mainGlobals mg := e0.mod.glob.keeps fun b o e => keep b o (e0.bs b o e).1
  obtain ⟨mb, nblt, hblt⟩ := e0.mod.blt
  have KX0 : K.In h₀ := KX.keeps keep
  have hoa0 := keep _ _ hoa
  obtain ⟨nm, q, N, bs, bm, sn, sub, ab, col, dd, k0, k1, k2, k3, k5, hC, hbm⟩ := I0.cls.cls
  obtain ⟨oD, hD1, hD2⟩ : ∃ oD, K.lookup D = some oD ∧ oD.data = .cls cdD := by
    unfold PySem.W.clsIn at hcD
    split at hcD
    · rename_i c d cd' sl ho
      cases hcD
      exact ⟨_, ho, rfl⟩
    · cases hcD
  obtain ⟨cdC, hcC, hal⟩ : ∃ cdC, PySem.W.clsIn K C = some cdC ∧ PySem.W.alongIn K "__init__" ((cdC.mro.dropWhile (· != .ref D)).drop 1) = some (some (.builtin "ValueError.__init__")) := by
    cases hc : PySem.W.clsIn K C with
    | none => unfold PySem.W.ks_superIn at hsup; rw [hc] at hsup; cases hsup
    | some cd =>
      unfold PySem.W.ks_superIn at hsup
      rw [hc] at hsup
      exact ⟨cd, rfl, hsup⟩
  refine PySem.ks_wpAt_execs_cons (PySem.ks_wpAt_Expr_any (PySem.ks_wpAt_MethodCall (pl := pl) ?_ (hpl _)) (hint _ hk) ?_)
  · refine PySem.ks_wpAt_super_base (cc := cda) (f := f) hks hkc (by decide) rfl (KX0 _ _ lk) rfl hpar rfl (KX0 _ _ hcda) rfl hv2 hfile I0.top ?_
    have nf0 : Heap.Ns h₀ s.heap.objs.size fun x => [(sf, Value.ref a), (pn, u)].reverse.lookup x := hns
    have vsf : [(sf, Value.ref a), (pn, u)].reverse.lookup sf = some (.ref a) := by
      show List.lookup sf [(pn, u), (sf, Value.ref a)] = _
      simp [List.lookup, show (sf == pn) = false by simp; exact I0.hne]
    have vpn : [(sf, Value.ref a), (pn, u)].reverse.lookup pn = some u := by
      show List.lookup pn [(pn, u), (sf, Value.ref a)] = _
      simp [List.lookup]
    refine PySem.W.ks_loadName_global hk hks (Calls.loadGlobal_builtin (mg := mg) (mb := mb) nclo hm (nblt.keeps fun b o e => keep b o (e0.bs b o e).1) ((hblt _ (by decide)).trans (by first | rfl | kernel_rfl)) ⟨rfl, ?_⟩)
    refine wpAny_loadName_free hk hkc rfl ⟨_, KX0 _ _ hcc, rfl⟩ ?_
    refine wpAny_loadName_local hk (by show scope.names.lookup ar.arg = _; rw [har]; exact hsf) nf0 (by rw [har]; exact vsf) ?_
    refine PySem.ks_wpAny_isType_cls (KX0 _ _ hD1) hD2 ⟨rfl, ?_⟩
    refine PySem.ks_wpAny_call_super (KX0 _ _ hD1) hD2 hoa0 rfl (fun c e => by cases e) (PySem.W.looks_mroIn KX0 hmro) (fun h1 hso k1 => ?_)
    have KX1 : K.In h1 := KX0.keeps k1
    have hoa1 := k1 _ _ hoa0
    have IA : PySem.W.InstAt h1 a (HandSPX.excO C t1) C none := ⟨hoa1, rfl, rfl, trivial⟩
    refine PySem.W.kxs_getMethod PySem.W.kxs_ValueError hso (PySem.W.looks_opaque KX1 I0.ho) (l₀ := cdC.mro) (fun A Q E s k q => wpAny_bind ((PySem.W.looks_clsIn KX1 hcC) A _ E s k (wpAny_pure q))) rfl KX1 hal (IA.type.andThen (PySem.W.looks_subIn KX1 I0.sub)) (PySem.W.ks_ne KX1 IA hcC) (by decide) ?_
    have k2 : ∀ b o, h1.get? b = some o → (h1.push (PySem.W.kxs_mw "ValueError.__init__" a)).get? b = some o := fun b o e => Heap.get?_push_of_some _ e
    have hu2 : (h1.push (PySem.W.kxs_mw "ValueError.__init__" a)).get? h1.objs.size = some (PySem.W.kxs_mw "ValueError.__init__" a) := Heap.get?_push_at rfl rfl
    have I2 := (I1.kept (t' := s.toks + 2) k1).kept (t' := s.toks + 2 + 1) k2
    generalize h1.push (PySem.W.kxs_mw "ValueError.__init__" a) = h2 at hu2 I2 k2 ⊢
    generalize h1.objs.size = uu at hu2 ⊢
    have I3 : Inv (cxOf CX P w K mg base [sf, pn] qual (sc2 sf pn) f (.ref cda) A outer s H E) [] (start [sf, pn] [.ref a, y]) H { s with heap := h2, toks := s.toks + 2 + 1 } := I2
    show wpAny _ _ (callWith p4 (.ref uu) [] (backTo p4 (starEach [Expr.Constant (Const.str m) j p3] _)) []) _ _ _
    refine PySem.W.kxs_callWith (i := "ValueError.__init__") (x := a) (by rfl) (Calls.evalArgs_plain ?_)
    refine Calls.spliced_cons (Calls.Constant_str (k := j) (pos := p3) (Calls.spliced_nil ⟨hu2, ?_⟩))
    have KX2 : K.In h2 := KX1.keeps k2
    have hoa2 := k2 _ _ hoa1
    refine call_mw (KX2 _ _ hC) hoa2 hu2 (by show 1 ≤ sizeLine; decide) fun h3 t3 k3 e3 => ?_
    have I4 : Inv (cxOf CX P w K mg base [sf, pn] qual (sc2 sf pn) f (.ref cda) A outer s H E) [] (start [sf, pn] [.ref a, y]) H { s with heap := h3, toks := s.toks + 2 + 1 + 1 } := by
      have J := I3.write (t' := s.toks + 2 + 1 + 1) (x := a) (e := a) (o := exo a C none) (by rw [ha]; exact True.intro) (.inl rfl) k3 ⟨_, e3⟩ (exo_ok e3)
      have eu : upd H a (exo a C none) = H := by
        funext b
        by_cases hb : b = a
        · rw [hb, upd_same, ha]
        · rw [upd_ne hb]
      rw [eu] at J
      exact J
    -- self.f = e
    refine PySem.ks_wpAt_execs_cons (wpAt_of_wpAny ?_)
    obtain ⟨m4, u4, n4, ms4, mp4, r4⟩ := loc1 I4
    refine plainObj_wpAny_Assign_Attribute (wpAny_Name (wpAny_loadName_local hk hpn n4 mp4 ?_) I0.hd2) (by rfl)
    refine wpAny_Name (wpAny_loadName_local hk hsf n4 ms4 ?_) I0.hd1
    refine ost_new (X := cxOf CX P w K mg base [sf, pn] qual (sc2 sf pn) f (.ref cda) A outer s H E) I0.cls I4 ha I0.no r4 fun dx s' nd ne J => ?_
    refine wpAt_of_wpAny (wpAny_execs_nil ?_)
    exact fin J (hq dx nd ne)
  · rfl
end RX

set_option Elab.async false
set_option linter.all false
set_option maxRecDepth 100000
set_option maxHeartbeats 4000000
/-! RX13: raise; defs. -/
namespace RX
open PySem PySem.Spec PyProof.Rows L2 PL
abbrev bmVE : List Value := [.type "ValueError", .type "Exception", .type "BaseException", .type "object"]
section
variable {X : Cx} {T : Tx} {W : WX} {np : Nat} {Γl Γ Γ1 Γ' Γ'' : List (Kd T)} {pos : Pos} {e a b c tg iter : Expr} {es : List Expr} {st : Stmt} {sts : List Stmt} {m m1 m2 : ST} {me ma mb : EX} {mt : TX} {l : LX}
/-- raise X('text') -/
theorem xs_raise0 {C : Addr} {cn : String} {x mm : Str} {j : Nat} {p p2 pos1 : Pos} (hc : X.calm = true) (tk : Takes X W) (q : PySem.W.excIn X.K C bmVE "ValueError.__new__" = true) (gC : X.mg x = some (.ref C)) (kC : PySem.W.keepIn X.K (.ref C) = true) (r : Raises X (.ref C)) (hg : Gl X x)
    (hdb : (x == ("__debug__" : Str)) = false) (hT : T.CA cn = C) : XS X T W np Γl Γ Γ (.Raise (some (.Call (.Name x p) [.Constant (.str mm) j p2] [] pos1)) none pos) (sRaise0 cn) :=
  ⟨_, L2.ps_raise hc tk (pmk_own PySem.F.excBase_ValueError q gC kC r hg hdb), .refl, fun fp F H σ s D S h => by
    have q := h Γ fp F H σ none .refl .refl S (.inl ⟨rfl, rfl⟩)
    rw [hT] at q
    exact q⟩
theorem upd_del {H : Hp} {a dx : Addr} {o1 o2 o3 o4 : HO} (ha : H a = none) (hd : dx ≠ a) : upd (del (upd (upd (upd H a o1) dx o2) a o3) a) dx o4 = upd H dx o4 := by
  funext b
  by_cases h1 : b = dx
  · subst h1; rw [upd_same, upd_same]
  · rw [upd_ne h1, upd_ne h1]
    by_cases h2 : b = a
    · subst h2; rw [del_same, ha]
    · rw [del_ne h2, upd_ne h2, upd_ne h1, upd_ne h2]
/-- raise X(e): X keeps e in a field -/
theorem xs_raise1 {C fI : Addr} {fd : FuncData} {cn fld : String} {mm sf pn : Str} {x : Str} {p pos1 : Pos} (hc : X.calm = true) (tk : Takes X W) (I0 : InitF X.prog X.K fI fd C mm (Str.ofString fld) sf pn) (hm0 : X.mg "super" = none)
    (iC : PySem.W.findIn X.K (.ref C) "__init__" = some (some (.ref fI))) (tI : PySem.W.typeIn X.K (.ref fI) = some (.type "function")) (hr : Room 2 X.A) (hb : Binds X.K fd [sf, pn] []) (hg : Gl X x) (hm : X.mg x = some (.ref C))
    (he : XE X T W Γ e me) (hdb : (x == ("__debug__" : Str)) = false) (hs : starEach [e] X.env = (false, eval e X.env) :: starEach [] X.env) (hpl : (backTo pos1 (starEach [] X.env)).any (·.1) = false) (hT : T.CA cn = C) :
    XS X T W np Γl Γ Γ (.Raise (some (.Call (.Name x p) [e] [] pos1)) none pos) (sRaise1 cn fld me) := by
  obtain ⟨te, pe, re⟩ := he
  have F1 : FnOk X.prog X.w X.K X.mg X.base (L2.CX X.prog X.w) 1 fI fd [sf, pn] (spInit C (Str.ofString fld)) := ok_init I0 hm0
  refine ⟨_, L2.ps_raise hc tk (pmk_oex I0.cls iC tI F1 hr hb .nil passL hg hm (pa_cons pe pa_nil hs) hdb hs hpl), .refl, fun fp F H σ s D S h => ?_⟩
  refine re fp F H σ s _ S (h.bindE.imp fun d s1 fp1 F1 H1 g1 S1 h2 v rv => ⟨by show 1 ≤ 1000; decide, fun a ha => ⟨a, v, rfl, upd_same, fun dx hd hne => ⟨rfl, dx, [(Str.ofString fld, v)], upd_same, ?_, ?_, ?_⟩⟩⟩)
  · rw [upd_ne hne, upd_same]
  · rw [upd_ne hne] at hd; exact hd
  · rw [upd_del ha hne]
    have hd1 : H1 dx = none := by rw [upd_ne hne] at hd; exact hd
    have px := PX.alloc (o := .xd [(Str.ofString fld, v)]) S1.sub hd1
    have q := h2 Γ fp1 _ _ σ (some dx) .refl (.of px.go) (px.sta S1) (.inr ⟨dx, fld, d, v, rfl, rfl, upd_same, rv.fle px.mono⟩)
    rw [hT] at q
    exact q
end
/-! ### defs -/
/-- the slots of a def: its parameters, then its own names -/
def sigIo (k : Nat) {T : Tx} : List (Kd T) → List Nat
  | [] => []
  | k0 :: r => if ioK k0 then k :: sigIo (k + 1) r else sigIo (k + 1) r
theorem sigIo_mem {T : Tx} : ∀ {sig : List (Kd T)} {k i : Nat}, i ∈ sigIo k sig ↔ k ≤ i ∧ ∃ kd, sig[i - k]? = some kd ∧ ioK kd = true
  | [], k, i => by simp [sigIo]
  | k0 :: r, k, i => by
    unfold sigIo
    have ih := sigIo_mem (sig := r) (k := k + 1) (i := i)
    by_cases hi : i = k
    · subst hi
      cases h : ioK k0 with
      | true => simp [h]
      | false =>
        rw [if_neg (by simp), ih]
        constructor
        · rintro ⟨h1, _⟩; omega
        · rintro ⟨_, kd, h2, h3⟩
          simp at h2; subst h2; rw [h] at h3; cases h3
    · have e : k ≤ i ∧ (∃ kd, (k0 :: r)[i - k]? = some kd ∧ ioK kd = true) ↔ k + 1 ≤ i ∧ ∃ kd, r[i - (k + 1)]? = some kd ∧ ioK kd = true := by
        constructor
        · rintro ⟨h1, kd, h2, h3⟩
          refine ⟨by omega, kd, ?_, h3⟩
          have : i - k = (i - (k + 1)) + 1 := by omega
          rw [this, List.getElem?_cons_succ] at h2
          exact h2
        · rintro ⟨h1, kd, h2, h3⟩
          refine ⟨by omega, kd, ?_, h3⟩
          have : i - k = (i - (k + 1)) + 1 := by omega
          rw [this, List.getElem?_cons_succ]
          exact h2
      split
      · rw [List.mem_cons, ih, e]
        exact ⟨fun q => q.elim (fun z => absurd z hi) id, .inr⟩
      · rw [ih, e]
section
variable {T : Tx} {sig Γr : List (Kd T)} {fp fp' : Nat → List Addr} {F F' H H' : Hp} {σ' : L2.St} {vs : L2.St} {ds : List D} {s' : En} {n : Nat}
theorem sta_start (hn : sig.length ≤ n) (hv : vs.length = sig.length) (S : Sta T sig fp F H vs (ds.map some)) :
    Sta T (sig ++ List.replicate (n - sig.length) .fz) fp F H (vs ++ List.replicate (n - vs.length) none) (ds.map some ++ List.replicate (n - ds.length) none) := by
  have hd : ds.length = vs.length := by have := S.ls; simp at this; exact this.symm
  refine ⟨S.sub, by simp [hd], by simp [hd, hv], fun i od ov k h1 h2 h3 => ?_, fun i hi => S.out i (by simp at hi ⊢; omega), S.dis⟩
  by_cases hi : i < sig.length
  · rw [List.getElem?_append_left (by simp; omega)] at h1
    rw [List.getElem?_append_left (by omega)] at h2
    rw [List.getElem?_append_left hi] at h3
    exact S.ok i od ov k h1 h2 h3
  · rw [List.getElem?_append_right (by simp; omega)] at h1
    rw [List.getElem?_replicate] at h1
    split at h1
    · cases h1
      exact S.out i (by simp; omega)
    · cases h1
/-- a def's end: what its parameters hold -/
theorem sta_fin (hn : sig.length ≤ n) (hv : vs.length = sig.length) (S : Sta T sig fp F H vs (ds.map some)) (ks : KS sig.length (sig ++ List.replicate (n - sig.length) .fz) Γr)
    (g : GoS sig.length (sig ++ List.replicate (n - sig.length) .fz) fp fp' F F' H H' (vs ++ List.replicate (n - vs.length) none) σ') (S' : Sta T Γr fp' F' H' σ' s') (hio : ioOk (sigIo 0 sig) s' = true) :
    ∃ fp2, Go fp fp2 F F' H H' ∧ Sta T sig fp2 F' H' vs ((finD ds (sigIo 0 sig) s').map some) := by
  have hd : ds.length = vs.length := by have := S.ls; simp at this; exact this.symm
  have hΓ : ∀ i, i < sig.length → Γr[i]? = sig[i]? := fun i hi => by rw [ks.par i hi, List.getElem?_append_left hi]
  have mem : ∀ i kd, sig[i]? = some kd → (i ∈ sigIo 0 sig ↔ ioK kd = true) := fun i kd hk => by
    rw [sigIo_mem]
    simp only [Nat.zero_le, Nat.sub_zero, true_and]
    constructor
    · rintro ⟨kd', h1, h2⟩; rw [hk] at h1; cases h1; exact h2
    · intro h; exact ⟨kd, hk, h⟩
  have ls' : s'.length = Γr.length := S'.lg.symm
  have lΓr : Γr.length = sig.length + (n - sig.length) := by rw [ks.len]; simp
  have fin : ∀ i, (finD ds (sigIo 0 sig) s')[i]? = (ds[i]?).map fun d => if (sigIo 0 sig).contains i then ((s'.getD i none).getD d) else d := fun i => by
    unfold finD
    rw [List.getElem?_zipWith]
    by_cases hi : i < ds.length
    · rw [List.getElem?_range hi, List.getElem?_eq_getElem hi]; rfl
    · rw [List.getElem?_eq_none (by simpa using hi)]
      rw [List.getElem?_eq_none (Nat.le_of_not_lt hi)]; rfl
  have flen : (finD ds (sigIo 0 sig) s').length = ds.length := by unfold finD; simp
  refine ⟨fun i => if i < sig.length then fp' i else [], ⟨g.keep, g.dom, g.mono, fun a o h => ?_, fun i a h => ?_⟩, ⟨S'.sub, by simp [flen, hd], by simp [flen, hd, hv], fun i od ov k h1 h2 h3 => ?_, fun i hi => ?_, fun i j a h h' => ?_⟩⟩
  · rcases g.new a o h with q | q | ⟨i, hi, q⟩
    · exact .inl q
    · exact .inr q
    · rw [S.out i (by simp [hd, hv]; exact hi)] at q; cases q
  · try dsimp only at h
    split at h
    · exact g.fpn i a h
    · cases h
  · have hi : i < sig.length := (List.getElem?_eq_some_iff.mp h3).1
    rw [if_pos hi]
    rw [List.getElem?_map] at h1
    rw [fin i] at h1
    have hid : i < ds.length := by omega
    have hiv : i < vs.length := by omega
    have e1 : ds[i]? = some ds[i] := List.getElem?_eq_getElem hid
    have e2 : vs[i]? = some vs[i] := List.getElem?_eq_getElem hiv
    rw [e1] at h1
    rw [e2] at h2
    have h1 : some (some (if (sigIo 0 sig).contains i then ((s'.getD i none).getD ds[i]) else ds[i])) = some od := h1
    cases h2
    cases h1
    have hk' : Γr[i]? = some k := by rw [hΓ i hi]; exact h3
    cases hko : ioK k with
    | true =>
      have hm : i ∈ sigIo 0 sig := (mem i k h3).mpr hko
      rw [if_pos (by simpa using hm)]
      have hsome : (s'.getD i none).isSome = true := by
        unfold ioOk at hio
        rw [List.all_eq_true] at hio
        exact hio i hm
      have hil : i < s'.length := by omega
      have es : s'[i]? = some (s'.getD i none) := by rw [List.getD_eq_getElem?_getD, List.getElem?_eq_getElem hil]; rfl
      obtain ⟨d', ed⟩ := Option.isSome_iff_exists.mp hsome
      rw [ed] at es ⊢
      have eσ : σ'[i]? = some vs[i] := by
        rw [g.par i k hi (by rw [List.getElem?_append_left hi]; exact h3) hko, List.getElem?_append_left hiv, e2]
      exact S'.ok i _ _ _ es eσ hk'
    | false =>
      have hm : ¬ i ∈ sigIo 0 sig := fun z => by rw [(mem i k h3).mp z] at hko; cases hko
      rw [if_neg (by simpa using hm)]
      have q := S.ok i _ _ _ (by rw [List.getElem?_map, e1]; rfl) e2 h3
      have hil : i < s'.length := by omega
      have hσl : i < σ'.length := by rw [S'.ls]; exact hil
      have w := S'.ok i _ _ _ (List.getElem?_eq_getElem hil) (List.getElem?_eq_getElem hσl) hk'
      cases k with
      | fz =>
        obtain ⟨_, v, ev, r⟩ := q
        have hf : fp' i = [] := fp_fz S' hk'
        exact ⟨hf, v, ev, r.fle g.mono⟩
      | hid =>
        unfold SlotOk at w
        cases hs : s'[i] with
        | none => rw [hs] at w; exact w
        | some d' => rw [hs] at w; exact w
      | own => cases hko
      | ab A => cases hko
      | gh A => cases hko
  · try dsimp only
    split
    · rename_i hlt
      simp [flen] at hi
      omega
    · rfl
  · try dsimp only at h h'
    split at h
    · split at h'
      · exact S'.dis i j a h h'
      · cases h'
    · cases h
theorem ok_def {P : Program} {w : World} {mg : Str → Option Value} {base : Heap} {x qual : Str} {params : Arguments} {body : List Stmt} {scope : Scope} {f : Addr} {fd : FuncData} {N ps : List Str} {k : Nat} {K : PySem.W.Frag} {dvs : List V} {kws : List (Str × V)} {Γl Γ' : List (Kd T)} {m : ST} (Fd : FunD K x qual params body scope dvs kws f fd) (Sc : FnScope N ps scope) (hl : sig.length = ps.length)
    (hb : ∀ (cdv : Value) (A : Around) (outer : List Env) (s : Shared) (H : Hp) (E : XK), Room k (A.deeper (envOfC qual scope s.heap.objs.size f cdv)) →
      XB (cxOf (L2.CX P w) P w K mg base N qual scope f cdv A outer s H E) T (fun cls d _ H' => E cls d H') sig.length Γl (sig ++ List.replicate (N.length - sig.length) .fz) Γ' body m) :
    FnOk P w K mg base (L2.CX P w) (k + 1) f fd ps (spG T sig (fnB N.length (sigIo 0 sig) m)) := by
  have hpl : ps.length ≤ N.length := by have := congrArg List.length Sc.pre; rw [List.length_take] at this; omega
  refine Fd.ok Sc (spG_len hl) fun cdv A outer s H vs Q E hr hsp => ?_
  obtain ⟨t, pb, rb⟩ := hb cdv A outer s H E hr
  refine ⟨t, pb, ?_⟩
  obtain ⟨hv, fp, F, ds, S, hq⟩ := hsp
  have hn : sig.length ≤ N.length := by omega
  have hv' : (vs.map some : L2.St).length = sig.length := by simpa using hv
  have es : start N vs = (vs.map some : L2.St) ++ List.replicate (N.length - (vs.map some : L2.St).length) none := by simp [L2.start]
  rw [es]
  refine rb.run fp F H _ _ _ (sta_start hn hv' S) ?_
  unfold fnB at hq
  cases er : m (ds.map some ++ List.replicate (N.length - ds.length) none) with
  | ok fl s' =>
    rw [er] at hq
    cases fl with
    | nx =>
      dsimp only at hq
      split at hq
      · rename_i hio
        intro fp' F' H' σ' g S'
        obtain ⟨fp2, g2, S2⟩ := sta_fin hn hv' S rb.ks g S' hio
        exact hq fp2 F' H' .non g2 S2 .non
      · exact hq.elim
    | rt d =>
      dsimp only at hq
      split at hq
      · rename_i hio
        intro Γr fp' F' H' σ' v ks g S' r
        obtain ⟨fp2, g2, S2⟩ := sta_fin hn hv' S ks g S' hio
        exact hq fp2 F' H' v g2 S2 r
      · exact hq.elim
    | bk => exact hq.elim
    | ct => exact hq.elim
  | ex c fs s' =>
    rw [er] at hq
    dsimp only at hq
    split at hq
    · rename_i hio
      intro Γr fp' F' H' σ' od ks g S' x
      obtain ⟨fp2, g2, S2⟩ := sta_fin hn hv' S ks g S' hio
      exact hq fp2 F' H' od g2 S2 x
    · exact hq.elim
  | no => rw [er] at hq; exact hq
end
end RX

set_option Elab.async false
set_option linter.all false
set_option maxRecDepth 100000
set_option maxHeartbeats 4000000
/-! RXG: the rules as a program of mine prints them. -/
namespace RX
open PySem PySem.Spec PyProof.Rows L2 PL
def visB (sc : Scope) (x : Str) : Bool := (match sc.names.lookup x with
  | some .local => true
  | some .cell => true
  | some .free => true
  | _ => false) && !(x == ("__debug__" : Str)) && !(x == ("__classdict__" : Str))
theorem visB_of {sc : Scope} {x : Str} (h : visB sc x = true) : Vis sc x ∧ (x == ("__debug__" : Str)) = false ∧ (x == ("__classdict__" : Str)) = false := by
  unfold visB at h
  simp only [Bool.and_eq_true, Bool.not_eq_true'] at h
  obtain ⟨⟨h1, h2⟩, h3⟩ := h
  refine ⟨?_, h2, h3⟩
  unfold Vis
  split at h1 <;> simp_all
def locB (sc : Scope) (x : Str) : Bool := match sc.names.lookup x with
  | some .local => true
  | some .cell => true
  | _ => false
theorem locB_of {sc : Scope} {x : Str} (h : locB sc x = true) : L2.Loc sc x := by
  unfold locB at h
  unfold L2.Loc
  split at h <;> simp_all
section
variable {X : Cx} {T : Tx} {W : WX} {np : Nat} {Γl Γ Γ1 Γ' Γ'' : List (Kd T)} {pos : Pos} {e a b c tg iter : Expr} {es rest : List Expr} {st : Stmt} {sts : List Stmt} {m m1 m2 : ST} {me ma mb mc : EX} {mt mu : TX} {l : LX}
theorem gv (i : Nat) {x : Str} (hk : Γ[i]? = some .fz) (hN : X.N[i]? = some x) (hv : visB X.env.scope x = true) : XE X T W Γ (.Name x pos) (eV i) :=
  let q := visB_of hv
  xe_var i hk hN q.1 q.2.1 q.2.2
theorem gI {x : Str} {i : Int} (hg : Gl X x) (hm : ∃ t, X.mg x = some (.int i t)) (hd : (x == ("__debug__" : Str)) = false) : XE X T W Γ (.Name x pos) (eC (.int i)) := by
  obtain ⟨t, h⟩ := hm
  exact xe_globI hg h hd
theorem gS {x y : Str} (s : List Nat) (h : y = stOf s) (hg : Gl X x) (hm : ∃ t, X.mg x = some (.str y t)) (hd : (x == ("__debug__" : Str)) = false) : XE X T W Γ (.Name x pos) (eC (.str s)) := by
  obtain ⟨t, h2⟩ := hm
  exact xe_globS s h hg h2 hd
/-- is None -/
theorem isNonD_rep {F : Hp} {d : D} {v : V} (r : Rep T F d v) : decide (v = .non) = isNonD d := by
  cases r <;> rfl
theorem re_isN {ta : TE} (r1 : RE T W Γ ta ma) : RE T W Γ (tIsN ta) (e1 pIsN ma) := by
  intro fp F H σ s Q S h
  refine r1 fp F H σ s _ S (h.bind.imp fun x s1 fp1 F1 H1 g1 S1 h2 v rv => ?_)
  rw [isNonD_rep rv]
  exact h2 fp1 F1 H1 Go.refl S1 _ (.bl _)
theorem re_notN {ta : TE} (r1 : RE T W Γ ta ma) : RE T W Γ (tNotN ta) (e1 pNotN ma) := by
  intro fp F H σ s Q S h
  refine r1 fp F H σ s _ S (h.bind.imp fun x s1 fp1 F1 H1 g1 S1 h2 v rv => ?_)
  rw [isNonD_rep rv]
  exact h2 fp1 F1 H1 Go.refl S1 _ (.bl _)
theorem gIsN {j : Nat} {p2 : Pos} (ha : XE X T W Γ a ma) : XE X T W Γ (.Compare a [.Is] [.Constant .none j p2] pos) (e1 pIsN ma) := by
  obtain ⟨ta, p1, r1⟩ := ha
  exact ⟨_, pe_cmp (pc_isN p1), re_isN r1⟩
theorem gNotN {j : Nat} {p2 : Pos} (ha : XE X T W Γ a ma) : XE X T W Γ (.Compare a [.IsNot] [.Constant .none j p2] pos) (e1 pNotN ma) := by
  obtain ⟨ta, p1, r1⟩ := ha
  exact ⟨_, pe_cmp (pc_notN p1), re_notN r1⟩
theorem tIsNt {j : Nat} {p2 : Pos} (ha : XE X T W Γ a ma) : XT X T W Γ (.Compare a [.Is] [.Constant .none j p2] pos) (uB (e1 pIsN ma)) := by
  obtain ⟨ta, p1, r1⟩ := ha
  exact ⟨_, pt_cmp (pc_isN p1), rt_B (re_isN r1)⟩
theorem tNotNt {j : Nat} {p2 : Pos} (ha : XE X T W Γ a ma) : XT X T W Γ (.Compare a [.IsNot] [.Constant .none j p2] pos) (uB (e1 pNotN ma)) := by
  obtain ⟨ta, p1, r1⟩ := ha
  exact ⟨_, pt_cmp (pc_notN p1), rt_B (re_notN r1)⟩
theorem bl_lt {x y d : D} (h : pLt x y = some d) : ∃ b, d = .bl b := by
  unfold pLt at h
  split at h
  · cases h; exact ⟨_, rfl⟩
  · cases h
theorem bl_le {x y d : D} (h : pLe x y = some d) : ∃ b, d = .bl b := by
  unfold pLe at h
  split at h
  · cases h; exact ⟨_, rfl⟩
  · cases h
theorem xe_ch {op op' : CmpOp} {r r' : R2} {p p' : P2} (ho : OpR X (compareOp op) r) (ho' : OpR X (compareOp op') r') (hk : OpK T r p) (hk' : OpK T r' p') (hb : ∀ x y d, p x y = some d → ∃ b, d = .bl b) (ra : XE X T W Γ a ma) (rb : XE X T W Γ b mb) (rc : XE X T W Γ c mc)
    (hm : lastMarks [op, op'] [b, c] = false) : XE X T W Γ (.Compare a [op, op'] [b, c] pos) (eCh p p' ma mb mc) := by
  obtain ⟨ta, p1, r1⟩ := ra
  obtain ⟨tb, p2, r2⟩ := rb
  obtain ⟨tc, p3, r3⟩ := rc
  exact ⟨_, pe_chain ho ho' p1 p2 p3 hm, re_ch hk hk' hb r1 r2 r3⟩
theorem xt_ch {op op' : CmpOp} {r r' : R2} {p p' : P2} (ho : OpR X (compareOp op) r) (ho' : OpR X (compareOp op') r') (hk : OpK T r p) (hk' : OpK T r' p') (hb : ∀ x y d, p x y = some d → ∃ b, d = .bl b) (ra : XE X T W Γ a ma) (rb : XE X T W Γ b mb) (rc : XE X T W Γ c mc)
    (hm : lastMarks [op, op'] [b, c] = false) : XT X T W Γ (.Compare a [op, op'] [b, c] pos) (uB (eCh p p' ma mb mc)) := by
  obtain ⟨ta, p1, r1⟩ := ra
  obtain ⟨tb, p2, r2⟩ := rb
  obtain ⟨tc, p3, r3⟩ := rc
  exact ⟨_, pt_chain ho ho' p1 p2 p3 hm, rt_B (re_ch hk hk' hb r1 r2 r3)⟩
theorem tChLeLt (ra : XE X T W Γ a ma) (rb : XE X T W Γ b mb) (rc : XE X T W Γ c mc) (hm : lastMarks [.LtE, .Lt] [b, c] = false) : XT X T W Γ (.Compare a [.LtE, .Lt] [b, c] pos) (uB (eCh pLe pLt ma mb mc)) := xt_ch op_le op_lt ok_le ok_lt (fun _ _ _ h => bl_le h) ra rb rc hm
theorem tChLeLe (ra : XE X T W Γ a ma) (rb : XE X T W Γ b mb) (rc : XE X T W Γ c mc) (hm : lastMarks [.LtE, .LtE] [b, c] = false) : XT X T W Γ (.Compare a [.LtE, .LtE] [b, c] pos) (uB (eCh pLe pLe ma mb mc)) := xt_ch op_le op_le ok_le ok_le (fun _ _ _ h => bl_le h) ra rb rc hm
theorem tChLtLt (ra : XE X T W Γ a ma) (rb : XE X T W Γ b mb) (rc : XE X T W Γ c mc) (hm : lastMarks [.Lt, .Lt] [b, c] = false) : XT X T W Γ (.Compare a [.Lt, .Lt] [b, c] pos) (uB (eCh pLt pLt ma mb mc)) := xt_ch op_lt op_lt ok_lt ok_lt (fun _ _ _ h => bl_lt h) ra rb rc hm
theorem tChLtLe (ra : XE X T W Γ a ma) (rb : XE X T W Γ b mb) (rc : XE X T W Γ c mc) (hm : lastMarks [.Lt, .LtE] [b, c] = false) : XT X T W Γ (.Compare a [.Lt, .LtE] [b, c] pos) (uB (eCh pLt pLe ma mb mc)) := xt_ch op_lt op_le ok_lt ok_le (fun _ _ _ h => bl_lt h) ra rb rc hm
theorem xe_chLeLt (ra : XE X T W Γ a ma) (rb : XE X T W Γ b mb) (rc : XE X T W Γ c mc) (hm : lastMarks [.LtE, .Lt] [b, c] = false) : XE X T W Γ (.Compare a [.LtE, .Lt] [b, c] pos) (eCh pLe pLt ma mb mc) := xe_ch op_le op_lt ok_le ok_lt (fun _ _ _ h => bl_le h) ra rb rc hm
theorem xe_chLeLe (ra : XE X T W Γ a ma) (rb : XE X T W Γ b mb) (rc : XE X T W Γ c mc) (hm : lastMarks [.LtE, .LtE] [b, c] = false) : XE X T W Γ (.Compare a [.LtE, .LtE] [b, c] pos) (eCh pLe pLe ma mb mc) := xe_ch op_le op_le ok_le ok_le (fun _ _ _ h => bl_le h) ra rb rc hm
theorem xe_chLtLt (ra : XE X T W Γ a ma) (rb : XE X T W Γ b mb) (rc : XE X T W Γ c mc) (hm : lastMarks [.Lt, .Lt] [b, c] = false) : XE X T W Γ (.Compare a [.Lt, .Lt] [b, c] pos) (eCh pLt pLt ma mb mc) := xe_ch op_lt op_lt ok_lt ok_lt (fun _ _ _ h => bl_lt h) ra rb rc hm
theorem xe_chLtLe (ra : XE X T W Γ a ma) (rb : XE X T W Γ b mb) (rc : XE X T W Γ c mc) (hm : lastMarks [.Lt, .LtE] [b, c] = false) : XE X T W Γ (.Compare a [.Lt, .LtE] [b, c] pos) (eCh pLt pLe ma mb mc) := xe_ch op_lt op_le ok_lt ok_le (fun _ _ _ h => bl_lt h) ra rb rc hm
/-- a def that serves nothing -/
theorem ok_no {P : Program} {w : World} {K : PySem.W.Frag} {mg : Str → Option Value} {base : Heap} {CX : CXT} {k : Nat} {f : Addr} {fd : FuncData} {ps : List Str} {sig : List (Kd T)} (hl : sig.length = ps.length) : FnOk P w K mg base CX k f fd ps (spG T sig fnNo) :=
  ⟨spG_len hl, fun A outer s H args us vs Q E hr e0 hb r ⟨_, _, _, _, _, h⟩ => h.elim⟩
/-- an end that is no end: any kinds behind it -/
theorem ks_of (h : Γ'.length = Γ.length) (h2 : Γ'.take np = Γ.take np) : KS np Γ Γ' := ⟨h, fun i hi => by
  have := congrArg (fun l => l[i]?) h2
  simpa [List.getElem?_take, hi] using this⟩
theorem gRet (ks : KS np Γ Γ') (he : XE X T W Γ e me) : XS X T W np Γl Γ Γ' (.Return (some e) pos) (sRet me) := by
  obtain ⟨t, p, r⟩ := he
  exact ⟨_, ps_ret p, ks, fun fp F H σ s D S h => r fp F H σ s _ S (h.bindE.imp fun d s1 fp1 F1 H1 g1 S1 h2 v rv => h2 Γ fp1 F1 H1 σ v .refl .refl S1 rv)⟩
theorem gRetN (ks : KS np Γ Γ') : XS X T W np Γl Γ Γ' (.Return none pos) (sRet (eC .non)) :=
  ⟨_, ps_retN, ks, fun fp F H σ s D S h => h Γ fp F H σ .non .refl .refl S .non⟩
theorem gBrk (ks : KS np Γ Γ') : XS X T W np Γ Γ Γ' (.Break pos) sBrk := ⟨_, ps_break, ks, fun fp F H σ s D S h => h fp F H σ .refl S⟩
theorem gCnt (ks : KS np Γ Γ') : XS X T W np Γ Γ Γ' (.Continue pos) sCnt := ⟨_, ps_continue, ks, fun fp F H σ s D S h => h fp F H σ .refl S⟩
theorem gDead (hd : ∀ s s', m s ≠ .ok .nx s') (ks : KS np Γ Γ'') (h : XS X T W np Γl Γ Γ' st m) : XS X T W np Γl Γ Γ'' st m := by
  obtain ⟨t, p, r⟩ := h
  refine ⟨t, p, ks, fun fp F H σ s D S q => r.run fp F H σ s D S ?_⟩
  cases e : m s with
  | ok f s' =>
    rw [e] at q
    cases f with
    | nx => exact absurd e (hd s s')
    | _ => exact q
  | ex c fs s' => rw [e] at q; exact q
  | no => rw [e] at q; exact q
theorem dead0 {cn : String} : ∀ s s', sRaise0 cn s ≠ .ok .nx s' := fun s s' h => by cases h
theorem dead1 {cn f : String} : ∀ s s', sRaise1 cn f me s ≠ .ok .nx s' := fun s s' h => by
  unfold sRaise1 at h
  cases e : me s with
  | ok d s1 => rw [e] at h; cases h
  | ex c fs s1 => rw [e] at h; cases h
  | no => rw [e] at h; cases h
theorem gSet (i : Nat) {x : Str} {pos' : Pos} (hN : X.N.Nodup) (hi : X.N[i]? = some x) (hx : locB X.env.scope x = true) (hf : X.fn x = true) (hz : SetF np i Γ) (hs : swapsWith e (some (.Name x pos')) pos.line X.env = pure false) (he : XE X T W Γ e me) :
    XS X T W np Γl Γ (Γ.set i .fz) (.Assign [.Name x pos'] e pos) (sSet i me) := xs_set hN hi (locB_of hx) (.inl hf) hz he hs
theorem gOwnL (i : Nat) {x : Str} {pos' p2 : Pos} (hN : X.N.Nodup) (hi : X.N[i]? = some x) (hx : locB X.env.scope x = true) (hf : X.fn x = true) (hp : np ≤ i) (hl : i < Γ.length) (hs : swapsWith (.List es p2) (some (.Name x pos')) pos.line X.env = pure false) (he : XA X T W Γ es l) :
    XS X T W np Γl Γ (Γ.set i .own) (.Assign [.Name x pos'] (.List es p2) pos) (sSet i (eLst l)) := xs_own hN hi (locB_of hx) (.inl hf) hp hl (xl_lst he) eLst_lst hs
theorem gName {x : Str} {p : Pos} (i : Nat) (hN : X.N.Nodup) (hi : X.N[i]? = some x) (hx : locB X.env.scope x = true) (hf : X.fn x = true) : XG X T (.Name x p) [i] dNm := xg_name hN hi (locB_of hx) (.inl hf)
theorem gNameB {x : Str} {p : Pos} (i : Nat) (hN : X.N.Nodup) (hi : X.N[i]? = some x) (hx : locB X.env.scope x = true) (hf : X.env.scope.names.lookup x = some .local) : XG X T (.Name x p) [i] dNm := xg_name hN hi (locB_of hx) (.inr hf)
theorem lens_nm : ∀ (fs : List DC), (∀ f ∈ fs, f = dNm) → ∀ d ds, dTup fs d = some ds → ds.length = fs.length := by
  intro fs hf d ds h
  cases d <;> first | cases h | skip
  rename_i xs
  have h : dcs fs xs = some ds := h
  induction fs generalizing xs ds with
  | nil => cases xs with
    | nil => cases h; rfl
    | cons a b => cases h
  | cons f fs ih => cases xs with
    | nil => cases h
    | cons a b =>
      obtain ⟨u, v, e1, e2, e3⟩ := dcs_cons h
      have := hf f List.mem_cons_self
      subst this
      cases e1
      rw [e3, List.length_append, ih (fun g hg => hf g (List.mem_cons_of_mem _ hg)) v b e2 e2, List.length_cons]
      simp [Nat.add_comm]
theorem leB {a b : Nat} (h : Nat.ble a b = true) : a ≤ b := Nat.le_of_ble_eq_true h
theorem ltB {a b : Nat} (h : Nat.ble (a + 1) b = true) : a < b := Nat.le_of_ble_eq_true h
/-- own lists read: place by place -/
theorem gIxO (hK : X.K = T.K) (i : Nat) {x : Str} {p : Pos} (hp : PlainIx b) (hk : Γ[i]? = some .own) (hN : X.N[i]? = some x) (hv : visB X.env.scope x = true) (hb : XE X T W Γ b mb) :
    XE X T W Γ (.Subscript (.Name x p) b pos) (eIxO i mb) := by
  obtain ⟨tb, p1, r1⟩ := hb
  have q := visB_of hv
  refine ⟨_, pe_ix ix_seq (pe_var hN q.1 q.2.1 q.2.2) p1 hp, fun fp F H σ s Q S h => ?_⟩
  unfold eIxO at h
  split at h
  · rename_i hl
    obtain ⟨xs0, e0⟩ := hasL_of hl
    obtain ⟨a0, ds0, vs0, _, eσ, _, _, _, _⟩ := S.own hk e0
    refine ⟨_, eσ, r1 fp F H σ s _ S (h.bind.imp fun y s1 fp1 F1 H1 g1 S1 h2 w rw' => ?_)⟩
    split at h2
    · rename_i xs e1
      obtain ⟨a1, ds1, vs1, q1, eσ1, _, eH1, _, rr⟩ := S1.own hk e1
      rw [eσ] at eσ1; cases eσ1
      cases q1
      obtain ⟨d, e3, q3⟩ := po_ofO S1 h2
      unfold pIx at e3
      cases y with
      | int j =>
        cases rw'
        obtain ⟨u, h5, h6⟩ := atD_rep rr e3
        rw [hK]
        exact .inl ⟨a0, vs1, j, u, rfl, rfl, SqL.of eH1, h5, q3 F1 H1 u (PX.refl S1.sub) h6⟩
      | _ => cases e3
    · exact h2.elim
  · exact h.elim
theorem u65 {k : Nat} {A : Around} (h : Room k A) : A.units + 65 < cLine := by have := h.un; omega
/-- a tuple of names: x, y = e -/
theorem setF_of {i : Nat} (h : np ≤ i) : SetF np i Γ := .inl h
theorem setF_par {i : Nat} (h : Γ[i]? = some .fz) : SetF np i Γ := .inr h
/-- a, xs = e, [..] on one line: xs is the slot's own -/
theorem rs_parO {te tl : TE} {i j : Nat} {ml : EX} (hij : i ≠ j) (hi : Γ[i]? = some .fz) (hj : np ≤ j) (hl : j < Γ.length) (re : RE T W Γ te me) (rl : RL T W Γ tl ml) (hlst : ∀ s d s', ml s = .ok d s' → ∃ ds, d = .lst ds) :
    RS T W np Γl Γ (Γ.set j .own) (tPar i j (tCons te (tCons tl tNil))) (sPar [i, j] (lCons me (lCons ml lNil))) := by
  refine ⟨.set hj, fun fp F H σ s D S h => ?_⟩
  unfold sPar lCons at h
  cases e1 : me s with
  | no => rw [e1] at h; exact h.elim
  | ex c fs s1 =>
    rw [e1] at h
    exact re fp F H σ s _ S (by rw [e1]; exact fun fp' F' H' od g S' x => h Γ fp' F' H' σ od .refl (.of g) S' x)
  | ok d1 s1 =>
    rw [e1] at h
    refine re fp F H σ s _ S (Po.ofOk d1 s1 e1 fun fp1 F1 H1 g1 S1 v1 rv1 => ?_)
    cases e2 : ml s1 with
    | no => have h : PoS T W np Γl Γ (Γ.set j .own) fp F H σ ((((ml s1).bind fun x s => (lNil s).bind fun xs s => .ok (x :: xs) s).bind fun xs s => .ok (d1 :: xs) s).bind fun ds s => if ds.length = [i, j].length then .ok .nx (putE s [i, j] ds) else .no) D := h
            rw [e2] at h; exact h.elim
    | ex c fs s2 =>
      have h : PoS T W np Γl Γ (Γ.set j .own) fp F H σ ((((ml s1).bind fun x s => (lNil s).bind fun xs s => .ok (x :: xs) s).bind fun xs s => .ok (d1 :: xs) s).bind fun ds s => if ds.length = [i, j].length then .ok .nx (putE s [i, j] ds) else .no) D := h
      rw [e2] at h
      exact rl fp1 F1 H1 σ s1 _ S1 (by rw [e2]; exact fun fp' F' H' od g S' x => h Γ fp' F' H' σ od .refl (.of (g1.trans g)) S' x)
    | ok d2 s2 =>
      have h : PoS T W np Γl Γ (Γ.set j .own) fp F H σ ((((ml s1).bind fun x s => (lNil s).bind fun xs s => .ok (x :: xs) s).bind fun xs s => .ok (d1 :: xs) s).bind fun ds s => if ds.length = [i, j].length then .ok .nx (putE s [i, j] ds) else .no) D := h
      rw [e2] at h
      have h : PoS T W np Γl Γ (Γ.set j .own) fp F H σ (.ok .nx ((s2.set i (some d1)).set j (some d2))) D := h
      refine rl fp1 F1 H1 σ s1 _ S1 (Po.ofOk d2 s2 e2 fun fp2 F2 H2 g2 S2 a vs ds ed hH ha hn hf rs => ?_)
      subst ed
      refine ⟨v1, .ref a, rfl, ?_⟩
      have S3 := S2.setF hi (rv1.fle g2.mono)
      obtain ⟨fp', q1, q2, S'⟩ := S3.ownAt (np := np) (H0 := H) hj ha hn hf rs (by rw [List.length_set, ← S2.lg]; exact hl)
      have g := g1.trans g2
      refine h fp' F2 H2 _ ⟨g.keep, g.dom, g.mono, fun b o q => (g.new b o q).elim .inl fun w => .inr (.inl w), fun k b hb => ?_, fun k kd hk hkd ho => ?_⟩ S'
      · by_cases hk : k = j
        · subst hk
          rw [q2] at hb
          simp only [List.mem_singleton] at hb
          subst hb
          exact .inr (g1.dom _ hH)
        · rw [q1 k hk] at hb
          exact g.fpn k b hb
      · rw [List.getElem?_set_ne (by omega)]
        by_cases hik : i = k
        · subst hik; rw [hi] at hkd; cases hkd; cases ho
        · rw [List.getElem?_set_ne hik]
theorem xs_parO {i j : Nat} {x y : Str} {px py pt p2 : Pos} {kt k2 pt2} (hc : X.calm = true) (hN : X.N.Nodup) (hi : X.N[i]? = some x) (hj : X.N[j]? = some y) (hij : i ≠ j) (hz : Γ[i]? = some .fz) (hp : np ≤ j) (hl : j < Γ.length)
    (hx : X.env.scope.names.lookup x = some .local) (hy : X.env.scope.names.lookup y = some .local) (ha : XE X T W Γ a me) (hb : XA X T W Γ es l) (hs1 : starEach [a, .List es p2] X.env = (false, eval a X.env) :: starEach [.List es p2] X.env) (hs2 : starEach [.List es p2] X.env = (false, eval (.List es p2) X.env) :: starEach [] X.env)
    (hw : swappedStores [.Tuple [.Name x px, .Name y py] kt pt] (.Tuple [a, .List es p2] k2 pt2) X.env = pure (some [x, y]))
    (hs : swapsWithSole [.Tuple [.Name x px, .Name y py] kt pt] (.Tuple [a, .List es p2] k2 pt2) pos.line X.env = pure false) :
    XS X T W np Γl Γ (Γ.set j .own) (.Assign [.Tuple [.Name x px, .Name y py] kt pt] (.Tuple [a, .List es p2] k2 pt2) pos) (sPar [i, j] (lCons me (lCons (eLst l) lNil))) := by
  obtain ⟨te, p, r⟩ := ha
  obtain ⟨tl, q, rl⟩ := xl_lst (pos := p2) hb
  exact ⟨_, ps_par hc hN hi hj hij hx hy (pa_cons p (pa_cons q pa_nil hs2) hs1) hw hs, rs_parO hij hz hp hl r rl eLst_lst⟩
theorem ok_mulI : OpK T (rI CMul fun i j => .int (i * j)) pMulI := ok_int2 (g := fun i j => .int (i * j)) (fun x y d e => by
  unfold pMulI at e
  split at e
  · split at e
    · rename_i i j h
      cases e
      refine ⟨i, j, rfl, rfl, ?_, rfl⟩
      rw [Bool.or_eq_true] at h
      rcases h with h | h
      · exact .inl (of_decide_eq_true h)
      · exact .inr (of_decide_eq_true h)
    · cases e
  · cases e) fun _ _ _ => .int _
theorem xe_dic : XE X T W Γ (.Dict [] [] pos) (eC (.dic [])) := by
  refine ⟨_, pe_dnewK, fun fp F H σ s Q S h => ?_⟩
  intro p hp
  have px := PX.alloc (o := .dK []) S.sub hp
  exact h fp _ _ px.go (px.sta S) _ (.dic upd_same)
theorem xe_call0 {k : Nat} {f : Addr} {fd : FuncData} {ps : List Str} {x : Str} {p : Pos} {fn : FN} (tk : Takes X W) (F : FnOk X.prog X.w X.K X.mg X.base (L2.CX X.prog X.w) k f fd ps (spG T [] fn)) (hr : Room k X.A) (hg : Gl X x) (hm : X.mg x = some (.ref f)) (hk : PySem.W.keepIn X.K (.ref f) = true) (hb : Binds X.K fd ps [])
    (hdb : (x == ("__debug__" : Str)) = false) : XE X T W Γ (.Call (.Name x p) [] [] pos) (eCall0 fn) := by
  refine ⟨_, pe_call0 F hr hg hm hk hb .nil passL hdb, fun fp F H σ s Q S h => ?_⟩
  refine ⟨rfl, fun _ => [], F, [], sta_fz .nil S.sub, ?_⟩
  unfold eCall0 at h
  cases er : fn [] with
  | ok d es' =>
    rw [er] at h
    intro fp' F' H' v g S' r
    have px := go_px g (fun _ => rfl) S'
    exact h fp F' H' px.go (px.sta S) v r
  | ex c fs es' => rw [er] at h; exact h.elim
  | no => rw [er] at h; exact h.elim
/-- own lists grown -/
theorem gApp (i : Nat) {x : Str} {px p2 cpos : Pos} (hk : Γ[i]? = some .own) (hN : X.N[i]? = some x) (hv : visB X.env.scope x = true)
    (hbase : attributeBase (.Name x px) "append" X.env (eval (.Name x px) X.env) = eval (.Name x px) X.env)
    (hfew : ((backTo cpos (starEach [e] X.env)).all (fun x => !x.1) && (backToKw cpos (keywordEach [] X.env)).all (fun x => x.1.isSome) && decide (([e] : List Expr).length + ([] : List Keyword).length + (if ([] : List Keyword).isEmpty then 0 else 1) < 30)) = true)
    (hline : (p2.endLine == cpos.line) = true) (hs : starEach [e] X.env = (false, eval e X.env) :: starEach [] X.env) (hplain : (backTo cpos (starEach [] X.env)).any (·.1) = false)
    (hsw : swapsWith (.Call (.Attribute (.Name x px) "append" p2) [e] [] cpos) none pos.line X.env = pure false) (he : XE X T W Γ e me) :
    XS X T W np Γl Γ Γ (.Expr (.Call (.Attribute (.Name x px) "append" p2) [e] [] cpos) pos) (sApp i me) :=
  let q := visB_of hv
  xs_app hN q.1 q.2.1 q.2.2 hk he hbase hfew hline hs hplain hsw
theorem gExt (i : Nat) {x : Str} {px p2 cpos : Pos} (hk : Γ[i]? = some .own) (hN : X.N[i]? = some x) (hv : visB X.env.scope x = true)
    (hbase : attributeBase (.Name x px) "extend" X.env (eval (.Name x px) X.env) = eval (.Name x px) X.env)
    (hfew : ((backTo cpos (starEach [e] X.env)).all (fun x => !x.1) && (backToKw cpos (keywordEach [] X.env)).all (fun x => x.1.isSome) && decide (([e] : List Expr).length + ([] : List Keyword).length + (if ([] : List Keyword).isEmpty then 0 else 1) < 30)) = true)
    (hline : (p2.endLine == cpos.line) = true) (hs : starEach [e] X.env = (false, eval e X.env) :: starEach [] X.env) (hplain : (backTo cpos (starEach [] X.env)).any (·.1) = false)
    (hsw : swapsWith (.Call (.Attribute (.Name x px) "extend" p2) [e] [] cpos) none pos.line X.env = pure false) (he : XE X T W Γ e me) :
    XS X T W np Γl Γ Γ (.Expr (.Call (.Attribute (.Name x px) "extend" p2) [e] [] cpos) pos) (sExt i me) :=
  let q := visB_of hv
  xs_ext hN q.1 q.2.1 q.2.2 hk he hbase hfew hline hs hplain hsw
theorem gIo (j : Nat) {x : Str} {p : Pos} {l : List AX} (hN : X.N[j]? = some x) (hv : visB X.env.scope x = true) (hr : XM X T W Γ es l) (hs : starEach (.Name x p :: es) X.env = (false, eval (.Name x p) X.env) :: starEach es X.env) : XM X T W Γ (.Name x p :: es) (.io j :: l) :=
  let q := visB_of hv
  xm_io j hN q.1 q.2.1 q.2.2 hr hs
theorem ok_body {Γ0 : List (Kd T)} (h0 : Γ0 = Γ) (h : XB X T W np Γl Γ Γ' sts m) : XB X T W np Γl Γ0 Γ' sts m := h0 ▸ h
end
theorem ok_defN {P : Program} {w : World} {mg : Str → Option Value} {base : Heap} {T : Tx} {sig : List (Kd T)} {x qual : Str} {params : Arguments} {body : List Stmt} {scope : Scope} {f : Addr} {fd : FuncData} (N ps : List Str) {k : Nat} {K : PySem.W.Frag} {dvs : List V} {kws : List (Str × V)} (n : Nat) (io : List Nat) (Γ : List (Kd T)) (m : ST) (Fd : FunD K x qual params body scope dvs kws f fd) (Sc : FnScope N ps scope) (hl : sig.length = ps.length) (hn : N.length = n) (hio : sigIo 0 sig = io) (hΓ : sig ++ List.replicate (n - sig.length) .fz = Γ)
    (hb : ∀ (cdv : Value) (A : Around) (outer : List Env) (s : Shared) (H : Hp) (E : XK), Room k (A.deeper (envOfC qual scope s.heap.objs.size f cdv)) →
      XB (cxOf (L2.CX P w) P w K mg base N qual scope f cdv A outer s H E) T (fun cls d _ H' => E cls d H') sig.length Γ Γ Γ body m) :
    FnOk P w K mg base (L2.CX P w) (k + 1) f fd ps (spG T sig (fnB n io m)) := by
  subst hn hio hΓ
  exact ok_def Fd Sc hl hb
/-- facts of an exception class without an own __init__ -/
structure ExF0 (K : PySem.W.Frag) (mg : Str → Option Value) (x : Str) : Prop where
  ex : PySem.W.excIn K (He.ga K x) bmVE "ValueError.__new__" = true
  g : mg x = some (.ref (He.ga K x))
  k : PySem.W.keepIn K (.ref (He.ga K x)) = true
  s : PySem.W.subIn K (.ref (He.ga K x)) (.type "BaseException") = some true
  t : PySem.W.typeIn K (.ref (He.ga K x)) = some (.type "type")
theorem ExF0.r {X : Cx} {x : Str} (h : ExF0 X.K X.mg x) : Raises X (.ref (He.ga X.K x)) := raises_own h.s h.t
/-- facts of one with an own __init__ -/
structure ExF1 (P : Program) (K : PySem.W.Frag) (mg : Str → Option Value) (x : Str) (fI : Addr) (fd : FuncData) (mm fld sf pn : Str) : Prop where
  i : InitF P K fI fd (He.ga K x) mm fld sf pn
  iC : PySem.W.findIn K (.ref (He.ga K x)) "__init__" = some (some (.ref fI))
  tI : PySem.W.typeIn K (.ref fI) = some (.type "function")
  b : Binds K fd [sf, pn] []
  g : mg x = some (.ref (He.ga K x))
abbrev TT (K : PySem.W.Frag) : Tx := ⟨K, fun c => He.ga K (Str.ofString c)⟩
end RX

set_option Elab.async false
set_option linter.all false
set_option maxRecDepth 100000
set_option maxHeartbeats 4000000
/-! RX14: calls by keywords; new lists handed over; a name and an own list's place set at once. -/
namespace RX
open PySem PySem.Spec PyProof.Rows L2 PL
section
variable {X : Cx} {T : Tx} {W : WX} {np : Nat} {Γl Γ Γ1 Γ' Γ'' : List (Kd T)} {pos : Pos} {e a b c tg iter : Expr} {es rest : List Expr} {st : Stmt} {sts : List Stmt} {m m1 m2 : ST} {me ma mb mc : EX} {mt mu : TX} {l : LX}
/-- keywords alone, in the parameters' order -/
def KwB (fd : FuncData) (ps : List Str) : Prop := ∀ us : List Value, us.length = ps.length → bindArgs fd ⟨[], ps.zip us⟩ = pure (ps.zip us)
theorem pe_callKS0 {CX : CXT} {k : Nat} {f : Addr} {fd : FuncData} {ps : List Str} {sp : Sp} {E : L2.St → XK} {x : Str} {p : Pos} {kws : List Keyword} {tk : TA} (F : FnOk X.prog X.w X.K X.mg X.base CX k f fd ps sp) (hr : Room k X.A) (hg : Gl X x) (hm : X.mg x = some (.ref f)) (hk : PySem.W.keepIn X.K (.ref f) = true) (hb : KwB fd ps) (hx : ∀ σ, PassesAt CX X σ (E σ))
    (hkw : PK X kws tk) (hall : (backToKw pos (keywordEach kws X.env)).all (·.1.isSome) = true) (hks : (backToKw pos (keywordEach kws X.env)).filterMap (·.1) = ps) (hdb : (x == ("__debug__" : Str)) = false)
    (hpl : (backToKw pos (keywordEach kws X.env)).any (·.1.isNone) = false) : PE X (.Call (.Name x p) [] kws pos) (tCallS sp E tk) := by
  refine ⟨fun pins s σ H Q I h => ?_⟩
  refine wpAny_Call_Name_kw (ld_glob I hg hm ?_ hdb)
  refine PySem.W.callWith_KW0 (h₀ := X.base) I.ok.mod.kin hk hall (thn (hkw.run pos pins s σ H _ I h) fun ws s2 ⟨zs, H2, I2, rz, q2⟩ => ⟨I2.kIn, ?_⟩) hpl
  rw [hks]
  have hl : ws.length = ps.length := by rw [← rz.length]; exact F.len _ _ _ _ q2
  refine wpAny_call (codeAny_mono (F.run X.A X.stack s2 H2 ⟨[], ps.zip ws⟩ ws zs Q (E σ) hr I2.env0 (.of_eq (hb ws hl)) rz q2) fun r s' hq => ?_)
  cases r with
  | error e => exact hx σ pins H2 s2 e s' I2 hq
  | ok fl =>
    cases fl with
    | ret u => exact I2.after hq
    | next => exact False.elim hq
    | brk => exact False.elim hq
    | cont => exact False.elim hq
def XK (X : Cx) (T : Tx) (W : WX) (Γ : List (Kd T)) (kws : List Keyword) (m : LX) : Prop := ∃ te, PK X kws te ∧ RA T W Γ te m
theorem xk_nil : XK X T W Γ [] lNil := ⟨_, pk_nil, fun fp F H σ s Q S h => h fp F H Go.refl S [] .nil⟩
theorem xk_cons {nm : Option Str} {kpos : Pos} {kws : List Keyword} (ha : XE X T W Γ e me) (hr : XK X T W Γ kws l) : XK X T W Γ (⟨nm, e, kpos⟩ :: kws) (lCons me l) := by
  obtain ⟨ta, p1, r1⟩ := ha
  obtain ⟨tr, p2, r2⟩ := hr
  refine ⟨_, pk_cons p1 p2, fun fp F H σ s Q S h => ?_⟩
  refine r1 fp F H σ s _ S (h.bind.imp fun x s1 fp1 F1 H1 g1 S1 h2 v rv => ?_)
  refine r2 fp1 F1 H1 σ s1 _ S1 (h2.bind.imp fun xs s2 fp2 F2 H2 g2 S2 h3 vs rvs => ?_)
  exact h3 fp2 F2 H2 Go.refl S2 (v :: vs) (.cons (rv.fle g2.mono) rvs)
theorem xe_callKw {k n : Nat} {f : Addr} {fd : FuncData} {ps : List Str} {x : Str} {p : Pos} {fn : FN} {kws : List Keyword} (tk : Takes X W) (F : FnOk X.prog X.w X.K X.mg X.base (L2.CX X.prog X.w) k f fd ps (spG T (fzs T n) fn)) (hr : Room k X.A) (hg : Gl X x) (hm : X.mg x = some (.ref f)) (hk : PySem.W.keepIn X.K (.ref f) = true) (hb : KwB fd ps)
    (ha : XK X T W Γ kws l) (hall : (backToKw pos (keywordEach kws X.env)).all (·.1.isSome) = true) (hks : (backToKw pos (keywordEach kws X.env)).filterMap (·.1) = ps) (hdb : (x == ("__debug__" : Str)) = false)
    (hpl : (backToKw pos (keywordEach kws X.env)).any (·.1.isNone) = false) : XE X T W Γ (.Call (.Name x p) [] kws pos) (eCall n fn l) := by
  obtain ⟨ta, p1, r1⟩ := ha
  exact ⟨_, pe_callKS0 F hr hg hm hk hb (fun σ => passAt tk σ) p1 hall hks hdb hpl, re_call r1⟩
theorem FunD.kwB {K : PySem.W.Frag} {x qual : Str} {params : Arguments} {body : List Stmt} {scope : Scope} {f : Addr} {fd : FuncData} {ps : List Str} (F : FunD K x qual params body scope [] [] f fd)
    (h : ∀ (kV doc pm : Value) (an : Option Addr) (cdv ct : Value) (us : List Value), us.length = ps.length → bindArgs (PySem.W.fnOf x qual params body scope .none kV doc pm an cdv ct) ⟨[], ps.zip us⟩ = pure (ps.zip us)) : KwB fd ps := by
  obtain ⟨oc, od, dV, kV, doc, pm, an, cdv, ct, osl, rfl, lk, hcd, hD, hK⟩ := F.ex
  rcases hD with ⟨_, rfl⟩ | ⟨e, _⟩
  · exact fun us hl => h kV doc pm an cdv ct us hl
  · exact absurd rfl e

/-! ### a new list as the last argument -/
/-- one more slot with an own list -/
theorem Sta.push {fp : Nat → List Addr} {F H : Hp} {σ : L2.St} {s : En} (S : Sta T Γ fp F H σ s) {a0 : Addr} {ds : List D} {vs : List V} (ha : H a0 = some (.lst vs)) (hn : F a0 = none) (hf : ∀ j, a0 ∉ fp j) (r : RepL T F ds vs) :
    Sta T (Γ ++ [.own]) (fun i => if i = s.length then [a0] else fp i) F H (σ ++ [some (.ref a0)]) (s ++ [some (.lst ds)]) where
  sub := S.sub
  ls := by simp [S.ls]
  lg := by simp [S.lg]
  out := fun j hj => by
    simp at hj
    rw [if_neg (by omega)]
    exact S.out j (by omega)
  dis := fun i j b h h' => by
    try dsimp only at h h'
    split at h
    · rename_i e1
      split at h'
      · rename_i e2; rw [e1, e2]
      · simp only [List.mem_singleton] at h; subst h; exact absurd h' (hf _)
    · split at h'
      · simp only [List.mem_singleton] at h'; subst h'; exact absurd h (hf _)
      · exact S.dis i j b h h'
  ok := fun i od ov k h1 h2 h3 => by
    by_cases hi : i < s.length
    · rw [List.getElem?_append_left hi] at h1
      rw [List.getElem?_append_left (by rw [S.ls]; exact hi)] at h2
      rw [List.getElem?_append_left (by rw [S.lg]; exact hi)] at h3
      rw [if_neg (by omega)]
      exact S.ok i od ov k h1 h2 h3
    · by_cases e : i = s.length
      · subst e
        rw [List.getElem?_append_right (by omega)] at h1
        rw [List.getElem?_append_right (by rw [S.ls]; omega)] at h2
        rw [List.getElem?_append_right (by rw [S.lg]; omega)] at h3
        simp [S.ls, S.lg] at h1 h2 h3
        subst h1 h2 h3
        rw [if_pos rfl]
        exact ⟨a0, ds, vs, rfl, rfl, rfl, ha, hn, r⟩
      · have := (List.getElem?_eq_some_iff.mp h1).1
        simp at this
        omega
/-- the last slot let go -/
theorem Sta.pop {fp : Nat → List Addr} {F H : Hp} {σ : L2.St} {s : En} {ov : Option V} {k : Kd T} (S : Sta T (Γ ++ [k]) fp F H (σ ++ [ov]) s) : Sta T Γ (fun i => if i < Γ.length then fp i else []) F H σ (s.take Γ.length) where
  sub := S.sub
  ls := by have := S.ls; have := S.lg; simp at *; omega
  lg := by have := S.lg; simp at *; omega
  out := fun j hj => by
    have := S.lg
    simp at hj this
    rw [if_neg (by omega)]
  dis := fun i j b h h' => by
    try dsimp only at h h'
    split at h
    · split at h'
      · exact S.dis i j b h h'
      · cases h'
    · cases h
  ok := fun i od ov' k' h1 h2 h3 => by
    have l1 := S.ls
    have l2 := S.lg
    simp at l1 l2
    have hi : i < Γ.length := (List.getElem?_eq_some_iff.mp h3).1
    rw [if_pos hi]
    rw [List.getElem?_take, if_pos hi] at h1
    exact S.ok i od ov' k' h1 (by rw [List.getElem?_append_left (by omega)]; exact h2) (by rw [List.getElem?_append_left hi]; exact h3)
def RMN (T : Tx) (W : WX) (Γ : List (Kd T)) (ta : TA) (l : List AX) (mm : EX) : Prop :=
  ∀ (fp : Nat → List Addr) (F H : Hp) (σ : L2.St) (s : En) (Q : List V → Hp → Prop), Sta T Γ fp F H σ s → (∀ i, .io i ∈ l → ∃ v, σ[i]? = some (some v)) →
    Po T W Γ fp F H σ ((axs l s).bind fun os s => (mm s).bind fun d s => .ok (os, d) s) (fun od s' fp' F' H' => ∀ (vs : List V) a0 ws ds, ArgR T F' σ l od.1 (vs.map some) → od.2 = .lst ds → H a0 = none → H' a0 = some (.lst ws) → F' a0 = none → (∀ i, a0 ∉ fp' i) → RepL T F' ds ws → Q (vs ++ [.ref a0]) H') → ta σ H Q
def XMN (X : Cx) (T : Tx) (W : WX) (Γ : List (Kd T)) (es : List Expr) (l : List AX) (mm : EX) : Prop := ∃ ta, PA X es ta ∧ RMN T W Γ ta l mm
theorem xmn_nil (h : XL X T W Γ e me) (hs : starEach [e] X.env = (false, eval e X.env) :: starEach [] X.env) : XMN X T W Γ [e] [] me := by
  obtain ⟨te, p, r⟩ := h
  refine ⟨_, pa_cons p pa_nil hs, fun fp F H σ s Q S hi h => ?_⟩
  have h : Po T W Γ fp F H σ ((me s).bind fun d s => .ok (([] : List (Option D)), d) s) (fun od s' fp' F' H' => ∀ (vs : List V) a0 ws ds, ArgR T F' σ [] od.1 (vs.map some) → od.2 = .lst ds → H a0 = none → H' a0 = some (.lst ws) → F' a0 = none → (∀ i, a0 ∉ fp' i) → RepL T F' ds ws → Q (vs ++ [.ref a0]) H') := h
  refine r fp F H σ s _ S (h.bind.imp fun d s1 fp1 F1 H1 g1 S1 h2 a0 ws ds ed hH ha hn hf rs => ?_)
  exact h2 fp1 F1 H1 Go.refl S1 [] a0 ws ds .nil ed hH ha hn hf rs
theorem xmn_v {l : List AX} {mm : EX} (ha : XE X T W Γ e me) (hr : XMN X T W Γ es l mm) (hs : starEach (e :: es) X.env = (false, eval e X.env) :: starEach es X.env) : XMN X T W Γ (e :: es) (.v me :: l) mm := by
  obtain ⟨ta, p1, r1⟩ := ha
  obtain ⟨tr, p2, r2⟩ := hr
  refine ⟨_, pa_cons p1 p2 hs, fun fp F H σ s Q S hi h => ?_⟩
  have e0 : ((axs (.v me :: l) s).bind fun os s => (mm s).bind fun d s => Res.ok (os, d) s) = (me s).bind fun x s => ((axs l s).bind fun os s => (mm s).bind fun d s => Res.ok (os, d) s).bind fun od s => .ok ((some x :: od.1), od.2) s := by
    show (((me s).bind fun d s => (axs l s).bind fun ds s => Res.ok (some d :: ds) s).bind _) = _
    cases me s with
    | ok x s1 =>
      show ((axs l s1).bind fun ds s => Res.ok (some x :: ds) s).bind _ = ((axs l s1).bind _).bind _
      cases axs l s1 with
      | ok os s2 =>
        show (mm s2).bind _ = ((mm s2).bind _).bind _
        cases mm s2 <;> rfl
      | ex c fs s2 => rfl
      | no => rfl
    | ex c fs s1 => rfl
    | no => rfl
  rw [e0] at h
  refine r1 fp F H σ s _ S (h.bind.imp fun x s1 fp1 F1 H1 g1 S1 h2 v rv => ?_)
  refine r2 fp1 F1 H1 σ s1 _ S1 (fun i hm => hi i (List.mem_cons_of_mem _ hm)) (h2.bind.imp fun od s2 fp2 F2 H2 g2 S2 h3 vs a0 ws ds ra ed hH ha hn hf rs => ?_)
  exact h3 fp2 F2 H2 Go.refl S2 (v :: vs) a0 ws ds (.v (rv.fle g2.mono) ra) ed (g1.dom a0 hH) ha hn hf rs
theorem xmn_io {l : List AX} {mm : EX} (i : Nat) {x : Str} {p : Pos} (hN : X.N[i]? = some x) (hv : visB X.env.scope x = true) (hr : XMN X T W Γ es l mm) (hs : starEach (.Name x p :: es) X.env = (false, eval (.Name x p) X.env) :: starEach es X.env) : XMN X T W Γ (.Name x p :: es) (.io i :: l) mm := by
  obtain ⟨tr, p2, r2⟩ := hr
  have q := visB_of hv
  refine ⟨_, pa_cons (pe_var hN q.1 q.2.1 q.2.2) p2 hs, fun fp F H σ s Q S hi h => ?_⟩
  obtain ⟨v, hv⟩ := hi i List.mem_cons_self
  refine ⟨v, hv, ?_⟩
  have e0 : ((axs (.io i :: l) s).bind fun os s => (mm s).bind fun d s => Res.ok (os, d) s) = ((axs l s).bind fun os s => (mm s).bind fun d s => Res.ok (os, d) s).bind fun od s => .ok ((none :: od.1), od.2) s := by
    show (((axs l s).bind fun ds s => Res.ok (none :: ds) s).bind _) = _
    cases axs l s with
    | ok os s2 =>
      show (mm s2).bind _ = ((mm s2).bind _).bind _
      cases mm s2 <;> rfl
    | ex c fs s2 => rfl
    | no => rfl
  rw [e0] at h
  refine r2 fp F H σ s _ S (fun i hm => hi i (List.mem_cons_of_mem _ hm)) (h.bind.imp fun od s2 fp2 F2 H2 g2 S2 h3 vs a0 ws ds ra ed hH ha hn hf rs => ?_)
  exact h3 fp2 F2 H2 Go.refl S2 (v :: vs) a0 ws ds (.io hv ra) ed hH ha hn hf rs
theorem argR_snoc {F : Hp} {σ : L2.St} {v : Option V} {n : Nat} (hn : σ.length = n) : ∀ {l : List AX} {os : List (Option D)} {vs : List (Option V)}, ArgR T F σ l os vs → ArgR T F (σ ++ [v]) (l ++ [.io n]) (os ++ [none]) (vs ++ [v])
  | _, _, _, .nil => .io (by rw [List.getElem?_append_right (by omega)]; simp [hn]) .nil
  | _, _, _, .v r t => .v r (argR_snoc hn t)
  | _, _, _, .io h t => .io (by rw [List.getElem?_append_left (List.getElem?_eq_some_iff.mp h).1]; exact h) (argR_snoc hn t)
theorem sig_snoc : ∀ {l : List AX} {sg : List (Kd T)}, SigOk Γ l sg → SigOk (Γ ++ [.own]) (l ++ [.io Γ.length]) (sg ++ [.own])
  | _, _, .nil => .io (by rw [List.getElem?_append_right (by omega)]; simp) rfl .nil
  | _, _, .v g => .v (sig_snoc g)
  | _, _, .io h k g => .io (by rw [List.getElem?_append_left (List.getElem?_eq_some_iff.mp h).1]; exact h) k (sig_snoc g)
theorem ios_snoc : ∀ (l : List AX) (n : Nat), iosOf (l ++ [.io n]) = iosOf l ++ [n]
  | [], _ => rfl
  | .v _ :: l, n => by simp only [List.cons_append, iosOf]; exact ios_snoc l n
  | .io i :: l, n => by simp only [List.cons_append, iosOf, ios_snoc l n]
theorem sig_lt : ∀ {l : List AX} {sg : List (Kd T)}, SigOk Γ l sg → ∀ i ∈ iosOf l, i < Γ.length
  | _, _, .nil, i, h => by cases h
  | _, _, .v g, i, h => sig_lt g i h
  | _, _, .io h _ g, i, hm => by
    rcases List.mem_cons.mp hm with e | e
    · rw [e]; exact (List.getElem?_eq_some_iff.mp h).1
    · exact sig_lt g i e
theorem re_callION {ta : TA} {l : List AX} {mm : EX} {sg : List (Kd T)} {f : FN} (n : (iosOf l).Nodup) (g : SigOk Γ l sg) (ra : RMN T W Γ ta l mm) : RE T W Γ (tCallS (spG T (sg ++ [.own]) f) (WE W) ta) (eCallION f l mm) := by
  intro fp F H σ s Q S h
  unfold eCallION at h
  split at h
  · rename_i hin
    have hio : ∀ i, .io i ∈ l → ∃ v, σ[i]? = some (some v) := fun i hm => by
      obtain ⟨d, hd⟩ := axIn_some hin hm
      obtain ⟨k, hA, hk⟩ := sig_ab g hm
      have hi : i < s.length := (List.getElem?_eq_some_iff.mp hd).1
      have hσ : i < σ.length := by rw [S.ls]; exact hi
      have w := S.ok i _ _ _ hd (List.getElem?_eq_getElem hσ) hA
      cases k with
      | own => obtain ⟨a, _, _, _, e, _⟩ := w; exact ⟨_, by rw [List.getElem?_eq_getElem hσ, e]⟩
      | ab A => obtain ⟨v, e, _⟩ := w; exact ⟨v, by rw [List.getElem?_eq_getElem hσ, e]⟩
      | fz => cases hk
      | gh A => cases hk
      | hid => cases hk
    cases hr : ((axs l s).bind fun os s => (mm s).bind fun d s => Res.ok (os, d) s) with
    | no => rw [hr] at h; exact h.elim
    | ex c fs s1 => rw [hr] at h; exact ra fp F H σ s _ S hio (by rw [hr]; exact h)
    | ok od s1 =>
      rw [hr] at h
      refine ra fp F H σ s _ S hio (Po.ofOk od s1 hr fun fp1 F1 H1 g1 S1 vs a0 ws ds0 rv ed hH ha hn hf rs => ?_)
      have lΓ : Γ.length = s1.length := S1.lg
      have hl : σ.length = s1.length := S1.ls
      obtain ⟨os, d0⟩ := od
      have ed : d0 = .lst ds0 := ed
      subst ed
      have SE := S1.push ha hn hf rs
      have nE : (iosOf (l ++ [.io s1.length])).Nodup := by
        rw [ios_snoc]
        refine List.nodup_append.mpr ⟨n, by simp, fun i hi j hj => ?_⟩
        simp at hj
        have := sig_lt g i hi
        omega
      have gE : SigOk (Γ ++ [.own]) (l ++ [.io s1.length]) (sg ++ [.own]) := by rw [← lΓ]; exact sig_snoc g
      have rE : ArgR T F1 (σ ++ [some (.ref a0)]) (l ++ [.io s1.length]) (os ++ [none]) (vs.map some ++ [some (.ref a0)]) := argR_snoc hl rv
      have h : Po T W Γ fp F H σ (match axFill (l ++ [.io s1.length]) (os ++ [none]) (s1 ++ [some (.lst ds0)]) with
        | some ds => match f ds with
          | .ok d es => Res.ok d ((axBack (l ++ [.io s1.length]) es (s1 ++ [some (.lst ds0)])).take s1.length)
          | .ex c fs es => .ex c fs ((axBack (l ++ [.io s1.length]) es (s1 ++ [some (.lst ds0)])).take s1.length)
          | .no => .no
        | none => .no) (fun d _ _ F' H' => ∀ v, Rep T F' d v → Q v H') := h
      cases hfl : axFill (l ++ [.io s1.length]) (os ++ [none]) (s1 ++ [some (.lst ds0)]) with
      | none => rw [hfl] at h; exact h.elim
      | some ds =>
        rw [hfl] at h
        dsimp only at h
        obtain ⟨q1, q2, q3, q4⟩ := arg_at rE hfl gE.k
        have fin : ∀ {fp' : Nat → List Addr} {F' H' : Hp} {es' : List D}, Go (fpC (fun i => if i = s1.length then [a0] else fp1 i) (l ++ [.io s1.length])) fp' F1 F' H1 H' → Sta T (sg ++ [.own]) fp' F' H' (vs.map some ++ [some (V.ref a0)]) (es'.map some) →
            ∃ fp2, Go fp fp2 F F' H H' ∧ Sta T Γ fp2 F' H' σ ((axBack (l ++ [.io s1.length]) es' (s1 ++ [some (.lst ds0)])).take s1.length) := fun {fp' F' H' es'} go S' => by
          obtain ⟨g2, S2⟩ := sta_back SE nE rE hfl gE.k go S'
          have S3 := S2.pop
          rw [lΓ] at S3
          refine ⟨_, ⟨fun a o ea hna => ?_, fun a ea => g1.dom a (g2.dom a ea), g1.mono.trans g2.mono, fun a o ea => ?_, fun i a hi => ?_⟩, S3⟩
          · have ne : a ≠ a0 := fun z => by rw [z, hH] at ea; cases ea
            refine g2.keep a o (g1.keep a o ea hna) fun i hi => ?_
            try dsimp only at hi
            split at hi
            · simp only [List.mem_singleton] at hi; exact ne hi
            · rcases g1.fpn i a hi with q | q
              · exact hna i q
              · rw [ea] at q; cases q
          · rcases g2.new a o ea with q | q
            · exact g1.new a o q
            · exact .inr (g1.dom a q)
          · try dsimp only at hi
            split at hi
            · rename_i hlt
              rcases g2.fpn i a hi with q | q
              · try dsimp only at q
                rw [if_neg (by omega)] at q
                exact g1.fpn i a q
              · exact .inr (g1.dom a q)
            · cases hi
        have ev : (vs ++ [V.ref a0]).map some = vs.map some ++ [some (V.ref a0)] := by simp
        refine ⟨by have := q2; simp at this; simp [this, q3], _, F1, ds, by rw [ev]; exact sta_call SE nE rE hfl gE.k, ?_⟩
        rw [ev]
        cases er : f ds with
        | ok d es' =>
          rw [er] at h
          intro fp' F' H' v go S' r
          obtain ⟨fp2, g2, S2⟩ := fin go S'
          exact h fp2 F' H' g2 S2 v r
        | ex c fs es' =>
          rw [er] at h
          intro fp' F' H' od go S' x
          obtain ⟨fp2, g2, S2⟩ := fin go S'
          exact h fp2 F' H' od g2 S2 x
        | no => rw [er] at h; exact h
  · exact h.elim
theorem xe_callION {k : Nat} {sg : List (Kd T)} {f : Addr} {fd : FuncData} {ps : List Str} {x : Str} {p : Pos} {fn : FN} {l : List AX} {mm : EX} (n : (iosOf l).Nodup) (g : SigOk Γ l sg) (tk : Takes X W) (F : FnOk X.prog X.w X.K X.mg X.base (L2.CX X.prog X.w) k f fd ps (spG T (sg ++ [.own]) fn)) (hr : Room k X.A) (hg : Gl X x) (hm : X.mg x = some (.ref f)) (hk : PySem.W.keepIn X.K (.ref f) = true) (hb : Binds X.K fd ps [])
    (ha : XMN X T W Γ (e :: es) l mm) (hdb : (x == ("__debug__" : Str)) = false) (he : starEach (e :: es) X.env = (false, eval e X.env) :: starEach es X.env) (hpl : (backTo pos (starEach es X.env)).any (·.1) = false) :
    XE X T W Γ (.Call (.Name x p) (e :: es) [] pos) (eCallION fn l mm) := by
  obtain ⟨ta, p1, r1⟩ := ha
  exact ⟨_, pe_callS F hr hg hm hk hb (fun σ => passAt tk σ) p1 hdb he hpl, re_callION n g r1⟩
/-- x, ys[k] = e: ys an own list -/
theorem xs_asgNS {x y : Str} {px py p2 pt : Pos} {i j kk : Nat} {k : Expr} {mk : EX} (hK : X.K = T.K) (hc : X.calm = true) (hN : X.N.Nodup) (hi : X.N[i]? = some x) (hx : locB X.env.scope x = true) (hf : X.fn x = true) (hz : Γ[i]? = some .fz) (hj : X.N[j]? = some y) (hv : visB X.env.scope y = true) (hk : Γ[j]? = some .own) (hkx : XE X T W Γ k mk) (he : XE X T W Γ e me)
    (ha : ∀ v, assign (.Subscript (.Name y py) k p2) X.env v = (do
      let ov ← holding [v] (eval (.Name y py) X.env)
      let iv ← holding [v, ov] (eval k X.env)
      standAt p2
      holding [v, ov, iv] (setItem ov iv v)
      release [v, ov, iv] []))
    (hs0 : (assignEach [.Name x px, .Subscript (.Name y py) k p2] X.env).map (·.2) = assign (.Name x px) X.env :: (assignEach [.Subscript (.Name y py) k p2] X.env).map (·.2))
    (hs1 : (assignEach [.Subscript (.Name y py) k p2] X.env).map (·.2) = assign (.Subscript (.Name y py) k p2) X.env :: (assignEach [] X.env).map (·.2))
    (hn : (assignEach [.Name x px, .Subscript (.Name y py) k p2] X.env).length = 2) (hst : (assignEach [.Name x px, .Subscript (.Name y py) k p2] X.env).findIdx? (·.1) = none)
    (hs : swapsWithSole [.Tuple [.Name x px, .Subscript (.Name y py) k p2] kk pt] e pos.line X.env = pure false) (hw : swappedStores [.Tuple [.Name x px, .Subscript (.Name y py) k p2] kk pt] e X.env = pure none)
    (h1 : (assignEach [.Tuple [.Name x px, .Subscript (.Name y py) k p2] kk pt] X.env).map (·.2) = [assign (.Tuple [.Name x px, .Subscript (.Name y py) k p2] kk pt) X.env]) :
    XS X T W np Γl Γ Γ (.Assign [.Tuple [.Name x px, .Subscript (.Name y py) k p2] kk pt] e pos) (sAsgNS i j mk me) := by
  obtain ⟨te, p, r⟩ := he
  obtain ⟨tk, pk, rk⟩ := hkx
  have q := visB_of hv
  refine ⟨_, ps_asg p (pg_tup hc (pgs_cons (pg_name hN hi (locB_of hx) (.inl hf)) (pgs_cons (pg_sub (pe_var hj q.1 q.2.1 q.2.2) pk set_list ha) pgs_nil hs1) hs0) hn hst) hs hw h1, .refl, fun fp F H σ s D S h => ?_⟩
  refine r fp F H σ s _ S (h.bindE.imp fun d s1 fp1 F1 H1 g1 S1 h2 v rv => ?_)
  split at h2
  · rename_i dx dy
    cases rv with
    | tup hq rl =>
      cases rl with
      | cons ra rl =>
        rename_i va _ 
        cases rl with
        | cons rb rl =>
          rename_i vb _
          cases rl
          split at h2
          · rename_i hl
            have S2 := S1.setF hz ra
            have gz : GoS np Γ fp1 fp1 F1 F1 H1 H1 σ (σ.set i (some va)) := by
              have := (allF_cons hz allF_nil : AllF [i] Γ).goS (np := np) (fp := fp1) (F := F1) (H := H1) (σ := σ) (vs := [va])
              simpa [putV] using this
            obtain ⟨xs0, e0⟩ := hasL_of hl
            obtain ⟨a0, ds0, vs0, _, eσ, ef, eH, _, _⟩ := S2.own hk e0
            rw [hK]
            refine ⟨_, _, rfl, sqT_fle S1.sub hq, rfl, ⟨_, _, rfl, ?_⟩⟩
            refine ⟨_, _, rfl, ⟨_, eσ, ?_⟩⟩
            refine rk fp1 F1 H1 (σ.set i (some va)) _ _ S2 ((PoS.later (.refl : KS np Γ Γ) gz h2).bindE.imp fun z s2 fp2 F2 H2 g2 S3 h3 w rw' => ?_)
            split at h3
            · rename_i xs m e1
              split at h3
              · rename_i n en
                obtain ⟨a1, ds1, vs1, q1, eσ1, ef1, eH1, eF1, r1⟩ := S3.own hk e1
                rw [eσ] at eσ1; cases eσ1
                cases q1
                cases rw'
                obtain ⟨g, S'⟩ := S3.rewrite hk e1 eσ ef1 eF1 (r1.setAt n (rb.fle g2.mono)) eH1
                exact ⟨_, vs1, m, n, rfl, rfl, eH1, by rw [← r1.length]; exact en, rfl, h3 fp2 F2 _ _ (.of g) S'⟩
              · exact h3.elim
            · exact h3.elim
          · exact h2.elim
  · exact h2.elim
end
end RX

set_option Elab.async false
set_option linter.all false
set_option maxRecDepth 100000
set_option maxHeartbeats 4000000
/-! RXD: the draws of the laws: a dict that a slot holds for its own. -/
namespace RX
open PySem PySem.Spec PyProof.Rows L2 PL
def kS (s : String) : Key := .inr (Str.ofString s)
def drKvs (pl pc : Addr) (rest turn : Int) : List (Key × V) := [(kS "large", .ref pl), (kS "rest", .int rest), (kS "cells", .ref pc), (kS "turn", .int turn)]
/-- what a draw is -/
def DrP (F H : Hp) (d : D) (v : V) (fp : List Addr) : Prop := ∃ (p pl pc : Addr) (large cells : List Int) (rest turn : Int), v = .ref p ∧ fp = [p, pl] ∧ p ≠ pl ∧ d = .tup [.lst (large.map .int), .int rest, .lst (cells.map .int), .int turn] ∧
  H p = some (.dK (drKvs pl pc rest turn)) ∧ H pl = some (.lst (large.map .int)) ∧ F pc = some (.lst (cells.map .int))
def Draw {T : Tx} : Ab T := ⟨DrP, fun F H F' H' d v fp ⟨p, pl, pc, large, cells, rest, turn, e1, e2, e3, e4, h1, h2, h3⟩ hF hk =>
  ⟨p, pl, pc, large, cells, rest, turn, e1, e2, e3, e4, hk p _ (by rw [e2]; simp) h1, hk pl _ (by rw [e2]; simp) h2, hF _ _ h3⟩⟩
section
variable {X : Cx} {T : Tx} {W : WX} {np : Nat} {Γl Γ Γ1 Γ' Γ'' : List (Kd T)} {pos : Pos} {e a b c tg iter : Expr} {es rest : List Expr} {st : Stmt} {sts : List Stmt} {m m1 m2 : ST} {me ma mb mc : EX} {mt mu : TX} {l : LX}
theorem Sta.abAt {A : Ab T} {fp : Nat → List Addr} {F H : Hp} {σ : L2.St} {s : En} (S : Sta T Γ fp F H σ s) {i : Nat} {d : D} (hk : Γ[i]? = some (.ab A)) (h : s[i]? = some (some d)) : ∃ v, σ[i]? = some (some v) ∧ A.P F H d v (fp i) := by
  have hi : i < s.length := (List.getElem?_eq_some_iff.mp h).1
  have hσ : i < σ.length := by rw [S.ls]; exact hi
  obtain ⟨v, e1, e2, _⟩ := S.ok i _ _ _ h (List.getElem?_eq_getElem hσ) hk
  exact ⟨v, by rw [List.getElem?_eq_getElem hσ, e1], e2⟩
/-- an object of a slot's own changed -/
theorem Sta.abW {A : Ab T} {fp : Nat → List Addr} {F H H' : Hp} {σ : L2.St} {s : En} (S : Sta T Γ fp F H σ s) {i : Nat} {d d' : D} {v : V} (hk : Γ[i]? = some (.ab A)) (h : s[i]? = some (some d)) (hσ : σ[i]? = some (some v)) (hP : A.P F H' d' v (fp i)) (hd : ∀ b, b ∉ fp i → H' b = H b) (hs : ∀ b ∈ fp i, ∃ o, H' b = some o) :
    Go fp fp F F H H' ∧ Sta T Γ fp F H' σ (s.set i (some d')) := by
  have hl : i < s.length := (List.getElem?_eq_some_iff.mp h).1
  have nin : ∀ j b, i ≠ j → b ∈ fp j → b ∉ fp i := fun j b hj hb hi => hj (S.dis i j b hi hb)
  refine ⟨⟨fun b o hb hn => by rw [hd b (hn i)]; exact hb, fun b hb => ?_, Fle.refl F, fun _ _ h => .inl h, fun _ _ h => .inl h⟩, ⟨fun b o hb => ?_, by rw [List.length_set]; exact S.ls, by rw [List.length_set]; exact S.lg, fun j od ov k h1 h2 h3 => ?_, fun j hj => S.out j (by rw [List.length_set] at hj; exact hj), S.dis⟩⟩
  · by_cases z : b ∈ fp i
    · obtain ⟨o, q⟩ := hs b z; rw [hb] at q; cases q
    · rw [← hd b z]; exact hb
  · have : b ∉ fp i := fun z => by rw [(S.slot_none z).1] at hb; cases hb
    rw [hd b this]; exact S.sub b o hb
  · by_cases e : i = j
    · subst e
      rw [List.getElem?_set_self hl] at h1
      rw [hσ] at h2
      rw [hk] at h3
      cases h1; cases h2; cases h3
      exact ⟨v, rfl, hP, fun b hb => ⟨(S.slot_none hb).1, hs b hb⟩⟩
    · rw [List.getElem?_set_ne e] at h1
      have w := S.ok j od ov k h1 h2 h3
      have nn : ∀ b, b ∈ fp j → H' b = H b := fun b hb => hd b (nin j b e hb)
      unfold SlotOk at w ⊢
      cases od with
      | none => exact w
      | some d'' =>
        cases k with
        | fz => exact w
        | own =>
          obtain ⟨b, ds', vs', e1, e2, e3, e4, e5, e6⟩ := w
          exact ⟨b, ds', vs', e1, e2, e3, by rw [nn b (by rw [e3]; simp)]; exact e4, e5, e6⟩
        | ab A2 =>
          obtain ⟨v2, e1, e2, e3⟩ := w
          exact ⟨v2, e1, A2.loc _ _ _ _ _ _ _ e2 (Fle.refl F) fun b o hb ho => by rw [nn b hb]; exact ho, fun b hb => ⟨(e3 b hb).1, let ⟨o, ho⟩ := (e3 b hb).2; ⟨o, by rw [nn b hb]; exact ho⟩⟩⟩
        | gh A2 =>
          obtain ⟨e1, e2, e3⟩ := w
          exact ⟨e1, A2.loc _ _ _ _ _ _ _ e2 (Fle.refl F) fun b o hb ho => by rw [nn b hb]; exact ho, fun b hb => ⟨(e3 b hb).1, let ⟨o, ho⟩ := (e3 b hb).2; ⟨o, by rw [nn b hb]; exact ho⟩⟩⟩
        | hid => exact w
def drKey : DrF → String
  | .rest => "rest"
  | .turn => "turn"
  | .cells => "cells"
theorem gDr (hu : X.A.units + 1 < cLine) (i : Nat) (k : DrF) {x y : Str} {j : Nat} {p p2 : Pos} (hy : y = Str.ofString (drKey k)) (hk : Γ[i]? = some (.ab Draw)) (hN : X.N[i]? = some x) (hv : visB X.env.scope x = true) (hs : NoSl (.Constant (.str y) j p2)) :
    XE X T W Γ (.Subscript (.Name x p) (.Constant (.str y) j p2) pos) (eDr i k) := by
  have q := visB_of hv
  refine ⟨_, pe_dget hu (pe_var hN q.1 q.2.1 q.2.2) pe_str hs, fun fp F H σ s Q S h => ?_⟩
  unfold eDr at h
  split at h
  · rename_i d e0
    obtain ⟨v, eσ, p0, pl, pc, large, cells, rest, turn, rfl, ef, hne, rfl, h1, h2, h3⟩ := S.abAt hk e0
    refine ⟨_, eσ, p0, ?_⟩
    subst hy
    cases k with
    | rest => exact ⟨.int rest, rfl, .inl ⟨_, kS "rest", .inl h1, rfl, by first | rfl | kernel_rfl | decide +kernel⟩, h fp F H Go.refl S _ (.int _)⟩
    | turn => exact ⟨.int turn, rfl, .inl ⟨_, kS "turn", .inl h1, rfl, by first | rfl | kernel_rfl | decide +kernel⟩, h fp F H Go.refl S _ (.int _)⟩
    | cells => exact ⟨.ref pc, rfl, .inl ⟨_, kS "cells", .inl h1, rfl, by first | rfl | kernel_rfl | decide +kernel⟩, h fp F H Go.refl S _ (.lst h3 (RepL.ofInts cells))⟩
  · exact h.elim
theorem put_rest {pl pc : Addr} {rest turn v : Int} : putK (drKvs pl pc rest turn) (kS "rest") (.int v) = drKvs pl pc v turn := by first | rfl | kernel_rfl | decide +kernel
theorem put_turn {pl pc : Addr} {rest turn v : Int} : putK (drKvs pl pc rest turn) (kS "turn") (.int v) = drKvs pl pc rest v := by first | rfl | kernel_rfl | decide +kernel
theorem gDrPut (hu : X.A.units + 1 < cLine) (i : Nat) (k : DrF) {x y : Str} {j : Nat} {p p2 p3 : Pos} (hy : y = Str.ofString (drKey k)) (hk : Γ[i]? = some (.ab Draw)) (hN : X.N[i]? = some x) (hv : visB X.env.scope x = true)
    (hs : swapsWith e (some (.Subscript (.Name x p) (.Constant (.str y) j p2) p3)) pos.line X.env = pure false) (he : XE X T W Γ e me) : XS X T W np Γl Γ Γ (.Assign [.Subscript (.Name x p) (.Constant (.str y) j p2) p3] e pos) (sDr i k me) := by
  obtain ⟨te, pe, re⟩ := he
  have q := visB_of hv
  refine ⟨_, ps_dput hu (pe_var hN q.1 q.2.1 q.2.2) pe_str pe hs, .refl, fun fp F H σ s D S h => ?_⟩
  refine re fp F H σ s _ S (h.bindE.imp fun d s1 fp1 F1 H1 g1 S1 h2 v rv => ?_)
  split at h2
  · rename_i n w e0
    cases rv
    obtain ⟨v, eσ, p0, pl, pc, large, cells, rest, turn, rfl, ef, hne, rfl, h3, h4, h5⟩ := S1.abAt hk e0
    refine ⟨_, eσ, p0, ?_⟩
    subst hy
    have big : ∀ r t, (drKvs pl pc r t).length < sizeLine := fun r t => by show 4 < sizeLine; decide
    have fin : ∀ (r' t' : Int), PoS T W np Γl Γ Γ fp1 F1 H1 σ (.ok .nx (s1.set i (some (.tup [.lst (large.map .int), .int r', .lst (cells.map .int), .int t'])))) D → D.nx σ (upd H1 p0 (.dK (drKvs pl pc r' t'))) := fun r' t' h2 => by
      obtain ⟨g, S2⟩ := S1.abW (H' := upd H1 p0 (.dK (drKvs pl pc r' t'))) hk e0 eσ ⟨p0, pl, pc, large, cells, r', t', rfl, ef, hne, rfl, upd_same, by rw [upd_ne (Ne.symm hne)]; exact h4, h5⟩ (fun b hb => upd_ne (fun z => hb (by rw [ef, z]; simp))) (fun b hb => by
        by_cases z : b = p0
        · exact ⟨_, by rw [z, upd_same]⟩
        · rw [ef] at hb
          simp [z] at hb
          exact ⟨_, by rw [upd_ne z, hb]; exact h4⟩)
      exact h2 fp1 F1 _ σ (.of g) S2
    cases k with
    | rest =>
      refine ⟨_, rfl, .inl ⟨_, kS "rest", h3, rfl, big _ _, rfl⟩, ?_⟩
      rw [put_rest]
      exact fin _ _ h2
    | turn =>
      refine ⟨_, rfl, .inl ⟨_, kS "turn", h3, rfl, big _ _, rfl⟩, ?_⟩
      rw [put_turn]
      exact fin _ _ h2
    | cells => exact h2.elim
  · exact h2.elim
theorem plain_ints (n : Nat) (l : List Int) : (l.map D.int).all (plainD n) = true := by
  rw [List.all_eq_true]
  intro d hd
  obtain ⟨i, _, rfl⟩ := List.mem_map.mp hd
  cases n <;> rfl
theorem re_drHas (i : Nat) {y : Str} (hK : X.K = T.K) (hy : y = Str.ofString "large") (hk : Γ[i]? = some (.ab Draw)) : RE T W Γ (tOp (rNeD X.K) (tDGet (tVar i) (tC (.str y))) (tLst tNil)) (eDrHas i) := by
  intro fp F H σ s Q S h
  unfold eDrHas at h
  split at h
  · rename_i l0 r0 c0 t0 e0
    obtain ⟨v, eσ, p0, pl, pc, large, cells, rest, turn, rfl, ef, hne, ed, h1, h2, h3⟩ := S.abAt hk e0
    cases ed
    refine ⟨_, eσ, p0, .ref pl, rfl, ?_⟩
    subst hy
    refine ⟨.inl ⟨_, kS "large", .inl h1, rfl, by first | rfl | kernel_rfl | decide +kernel⟩, ⟨Nat.zero_le _, fun z hz => ?_⟩⟩
    have hpl : F pl = none := (S.slot_none (i := i) (by rw [ef]; simp)).1
    have zl : z ≠ pl := fun e => by rw [e, h2] at hz; cases hz
    have f1 : Fle (upd F pl (.lst (large.map .int))) H := fun b u e => by
      by_cases hb : b = pl
      · subst hb; rw [upd_same] at e; cases e; exact h2
      · rw [upd_ne hb] at e; exact S.sub b u e
    have f2 : Fle (upd (upd F pl (.lst (large.map .int))) z (.lst [])) (upd H z (.lst [])) := f1.up2
    have r1 : Rep T (upd (upd F pl (.lst (large.map .int))) z (.lst [])) (.lst (large.map .int)) (.ref pl) := .lst (by rw [upd_ne (Ne.symm zl), upd_same]) (RepL.ofInts large)
    have r2 : Rep T (upd (upd F pl (.lst (large.map .int))) z (.lst [])) (.lst []) (.ref z) := .lst upd_same .nil
    have hp : pNe (.lst (large.map .int)) (.lst []) = some (.bl (!(large.map D.int).isEmpty)) := by
      unfold pNe
      have e1 : plainD 64 (.lst (large.map .int)) = true := plain_ints 63 large
      have e2 : plainD 64 (.lst []) = true := rfl
      rw [e1, e2]
      cases large <;> rfl
    rw [hK]
    refine ok_ne _ _ _ _ _ _ _ _ f2 r1 r2 hp fun F' H' u px ru => ?_
    cases ru
    have kk : ∀ b o, H b = some o → H' b = some o := fun b o e => px.keep _ _ (by rw [upd_ne (ne_of_none e hz)]; exact e)
    exact h fp F H' (Go.same kk) (S.same kk) _ (.bl _)
  · exact h.elim
theorem gDrHas (hu : X.A.units + 64 < cLine) (i : Nat) {x y : Str} {j : Nat} {p p2 p3 p4 : Pos} (hK : X.K = T.K) (hy : y = Str.ofString "large") (hk : Γ[i]? = some (.ab Draw)) (hN : X.N[i]? = some x) (hv : visB X.env.scope x = true) (hs : NoSl (.Constant (.str y) j p2)) :
    XE X T W Γ (.Compare (.Subscript (.Name x p) (.Constant (.str y) j p2) p3) [.NotEq] [.List [] p4] pos) (eDrHas i) := by
  have q := visB_of hv
  have hu1 : X.A.units + 1 < cLine := by omega
  exact ⟨_, pe_cmpR (op_neD hu) (pe_dget hu1 (pe_var hN q.1 q.2.1 q.2.2) pe_str hs) (pe_lst pa_nil) (nomark _), re_drHas i hK hy hk⟩
theorem tDrHas (hu : X.A.units + 64 < cLine) (i : Nat) {x y : Str} {j : Nat} {p p2 p3 p4 : Pos} (hK : X.K = T.K) (hy : y = Str.ofString "large") (hk : Γ[i]? = some (.ab Draw)) (hN : X.N[i]? = some x) (hv : visB X.env.scope x = true) (hs : NoSl (.Constant (.str y) j p2)) :
    XT X T W Γ (.Compare (.Subscript (.Name x p) (.Constant (.str y) j p2) p3) [.NotEq] [.List [] p4] pos) (uB (eDrHas i)) := by
  have q := visB_of hv
  have hu1 : X.A.units + 1 < cLine := by omega
  exact ⟨_, pt_cmpR (op_neD hu) (pe_dget hu1 (pe_var hN q.1 q.2.1 q.2.2) pe_str hs) (pe_lst pa_nil) (nomark _), rt_B (re_drHas i hK hy hk)⟩
theorem gDrPop (hu : X.A.units + 1 < cLine) (i : Nat) {x y : Str} {j k0 : Nat} {p p2 p3 p4 apos cpos : Pos} (hy : y = Str.ofString "large") (hk : Γ[i]? = some (.ab Draw)) (hN : X.N[i]? = some x) (hv : visB X.env.scope x = true) (hs : NoSl (.Constant (.str y) j p2))
    (hbase : attributeBase (.Subscript (.Name x p) (.Constant (.str y) j p2) p3) "pop" X.env (eval (.Subscript (.Name x p) (.Constant (.str y) j p2) p3) X.env) = eval (.Subscript (.Name x p) (.Constant (.str y) j p2) p3) X.env)
    (hfew : ((backTo cpos (starEach [.Constant (.int 0) k0 p4] X.env)).all (fun x => !x.1) && (backToKw cpos (keywordEach [] X.env)).all (fun x => x.1.isSome) && decide (([.Constant (.int 0) k0 p4] : List Expr).length + ([] : List Keyword).length + (if ([] : List Keyword).isEmpty then 0 else 1) < 30)) = true)
    (hline : (apos.endLine == cpos.line) = true) (hst : starEach [.Constant (.int 0) k0 p4] X.env = (false, eval (.Constant (.int 0) k0 p4) X.env) :: starEach [] X.env) (hplain : (backTo cpos (starEach [] X.env)).any (·.1) = false) :
    XE X T W Γ (.Call (.Attribute (.Subscript (.Name x p) (.Constant (.str y) j p2) p3) "pop" apos) [.Constant (.int 0) k0 p4] [] cpos) (eDrPop i) := by
  have q := visB_of hv
  refine ⟨_, pe_bm PySem.F.plainAttrs_list PySem.F.slot_list_pop PySem.F.type_list_pop mt_popAt (pe_dget hu (pe_var hN q.1 q.2.1 q.2.2) pe_str hs) (pa_cons pe_int pa_nil hst) hbase hfew hline hst hplain, fun fp F H σ s Q S h => ?_⟩
  unfold eDrPop at h
  split at h
  · rename_i x0 l0 r0 c0 t0 e0
    obtain ⟨v, eσ, p0, pl, pc, large, cells, rest, turn, rfl, ef, hne, ed, h1, h2, h3⟩ := S.abAt hk e0
    cases large with
    | nil => simp at ed
    | cons x1 large =>
      simp at ed
      obtain ⟨⟨rfl, rfl⟩, rfl, rfl, rfl⟩ := ed
      subst hy
      refine ⟨_, eσ, p0, .ref pl, rfl, .inl ⟨_, kS "large", .inl h1, rfl, by first | rfl | kernel_rfl | decide +kernel⟩, ⟨.inl ⟨rfl, _, SqL.of h2⟩, ?_⟩⟩
      refine ⟨pl, _, 0, 0, .int x0, rfl, rfl, h2, by decide, by decide, by simp [seqIndex?], rfl, ?_⟩
      obtain ⟨g, S2⟩ := S.abW (H' := upd H pl (.lst (large.map .int))) (d' := .tup [.lst (large.map .int), .int r0, .lst (cells.map .int), .int t0]) hk e0 eσ ⟨p0, pl, pc, large, cells, r0, t0, rfl, ef, hne, rfl, by rw [upd_ne hne]; exact h1, upd_same, h3⟩ (fun b hb => upd_ne (fun z => hb (by rw [ef, z]; simp))) (fun b hb => by
        by_cases z : b = pl
        · exact ⟨_, by rw [z, upd_same]⟩
        · rw [ef] at hb
          simp [z] at hb
          exact ⟨_, by rw [upd_ne z, hb]; exact h1⟩)
      exact h fp F _ g S2 _ (.int _)
  · exact h.elim
theorem u1 {k : Nat} {A : Around} (h : Room k A) : A.units + 1 < cLine := by have := h.un; omega

/-! ### the script -/
def ScrP (K : PySem.W.Frag) (F : Hp) (d : D) (v : V) (fp : List Addr) : Prop := ∃ (a : Addr) (ns : List Int), fp = [] ∧ v = .ref a ∧ d = .lst (ns.map .int) ∧ SqL K F a (ns.map V.int)
def Scr {T : Tx} : Ab T := ⟨fun F _ d v fp => ScrP T.K F d v fp, fun F H F' H' d v fp ⟨a, ns, e1, e2, e3, h⟩ hF _ => ⟨a, ns, e1, e2, e3, sqL_fle hF h⟩⟩
/-- the script walked -/
theorem its_scr {K : PySem.W.Frag} {F : Hp} {a : Addr} {ns : List Int} (hT : T.K = K) (h : SqL K F a (ns.map V.int)) : ItRep T (Itl K a) (ns.map .int) F where
  go := fun i F' H' f1 f2 hi => by
    simp at hi
    exact ⟨_, .int ns[i], sqL_fle (f1.trans f2) h, by rw [List.getElem?_map, List.getElem?_eq_getElem hi]; rfl⟩
  stop := fun i F' H' f1 f2 hi => ⟨_, sqL_fle (f1.trans f2) h, by simpa using hi⟩
  yld := fun i F' H' x H'' d f1 f2 ⟨e, y⟩ hd => by
    subst e
    have q := y _ (sqL_fle (f1.trans f2) h)
    rw [List.getElem?_map] at hd q
    cases e : ns[i]? with
    | none => rw [e] at hd; cases hd
    | some n =>
      rw [e] at hd q
      cases hd; cases q
      exact ⟨F', PX.refl f2, .int n⟩
theorem xi_scr (hK : X.K = T.K) (i : Nat) {x : Str} {p : Pos} (hk : Γ[i]? = some (.ab Scr)) (hN : X.N[i]? = some x) (hv : visB X.env.scope x = true) : XI X T W Γ tg (.Name x p) (itScr i) := by
  have q := visB_of hv
  refine ⟨_, pi_list (pe_var hN q.1 q.2.1 q.2.2), fun fp F H σ s R S h => ?_⟩
  unfold itScr at h
  split at h
  · rename_i d e0
    obtain ⟨v, eσ, a, ns, _, rfl, ed, hq⟩ := S.abAt hk e0
    cases ed
    refine ⟨_, eσ, a, rfl, ⟨_, by rw [hK]; exact sqL_fle S.sub hq⟩, ?_⟩
    exact h fp F H Go.refl S _ (its_scr hK.symm (by rw [hK]; exact hq))
  · exact h.elim
theorem gLenScr (hK : X.K = T.K) (i : Nat) {x : Str} {p p2 : Pos} (hg : Gl X "len") (hm : X.mg "len" = none) (hk : Γ[i]? = some (.ab Scr)) (hN : X.N[i]? = some x) (hv : visB X.env.scope x = true) (hs : starEach [.Name x p] X.env = (false, eval (.Name x p) X.env) :: starEach [] X.env) (hpl : (backTo pos (starEach [] X.env)).any (·.1) = false) :
    XE X T W Γ (.Call (.Name "len" p2) [.Name x p] [] pos) (eLenScr i) := by
  have q := visB_of hv
  refine ⟨_, pe_callB call_len hg hm boot_len (pa_cons (pe_var hN q.1 q.2.1 q.2.2) pa_nil hs) (by decide) rfl hs hpl, fun fp F H σ s Q S h => ?_⟩
  unfold eLenScr at h
  split at h
  · rename_i d e0
    obtain ⟨v, eσ, a, ns, _, rfl, ed, hq⟩ := S.abAt hk e0
    cases ed
    refine ⟨_, eσ, _, (ns.map V.int).length, rfl, .inl ⟨_, by rw [hK]; exact sqL_fle S.sub hq, rfl⟩, ?_⟩
    have q := h fp F H Go.refl S (.int (ns.map V.int).length) (by simp; exact .int _)
    exact q
  · exact h.elim
end
end RX

set_option linter.all false
/-! HP: what the laws' drawing defs compute. A draw is told by (large, rest, cells, turn). -/
namespace HP
open PL
def drawD (large : List Int) (rest : Int) (cells : List Int) (turn : Int) : D := .tup [.lst (large.map .int), .int rest, .lst (cells.map .int), .int turn]
def blendOf (turn : Int) (cells : List Int) (great : Int) : Int := cells.foldl (fun b g => (b * 48271 + g) % great) ((turn * 69621 + great / 7) % great)
def mixStep (turn : Int) (cells : List Int) (found great : Int) : Int := found * 2147483647 + blendOf turn cells great ^ 5 % great
def mixed (turn : Int) (cells : List Int) : Int := [2147483629, 2147483587, 2147483579].foldl (mixStep turn cells) 0
/-- a draw's rest, fresh if there is none -/
def refill (large : List Int) (rest : Int) (cells : List Int) (turn : Int) : List Int × Int × Int :=
  if rest = 0 then match large with
    | x :: r => (r, x, turn)
    | [] => ([], mixed (turn + 1) cells, turn + 1)
  else (large, rest, turn)
def asDraw : D → Option (List Int × Int × List Int × Int)
  | .tup [.lst large, .int rest, .lst cells, .int turn] => match asInts large, asInts cells with
    | some l, some c => some (l, rest, c, turn)
    | _, _ => none
  | _ => none
def f__law_mixed : FN
  | [d] => match asDraw d with
    | some (l, r, c, t) => .ok (.int (mixed (t + 1) c)) [drawD l r c (t + 1)]
    | none => .no
  | _ => .no
def f__law_take : FN
  | [d, .int a] => if 0 < a ∧ a.natAbs < 2 ^ 9000 then match asDraw d with
    | some (l, r, c, t) => match refill l r c t with
      | (l', r', t') => .ok (.int (r' % a)) [drawD l' (r' / a) c t', .int a]
    | none => .no
    else .no
  | _ => .no
end HP

set_option Elab.async false
set_option linter.all false
set_option maxRecDepth 100000
set_option maxHeartbeats 4000000
/-! RXS: a draw made of a script. -/
namespace RX
open PySem PySem.Spec PyProof.Rows L2 PL
/-- what _law_begun promises -/
def spBegun (T : Tx) : Sp := fun vs H Q _ => ∃ (F : Hp) (ns : List Int) (v : V), vs = [v] ∧ Fle F H ∧ ScrP T.K F (.lst (ns.map .int)) v [] ∧ ns.length ≤ 1000000 ∧
  ∀ (F' H' : Hp) (p pl pc : Addr), (∀ b o, H b = some o → H' b = some o) → Fle F F' → Fle F' H' → (∀ b o, F' b = some o → F b = some o ∨ H b = none) → p ≠ pl → F' p = none → F' pl = none → H p = none → H pl = none →
    H' p = some (.dK (drKvs pl pc 0 0)) → H' pl = some (.lst ((beLarge ns).map .int)) → F' pc = some (.lst ((beCells ns).map .int)) → Q (.ref p) H'
abbrev beM1 : EX := eLc (itScr 0) [2] (gT [2] dNm) (uB (e2 pGe (eB pAbs (lCons (eV 2) lNil)) (e2 pPow (eC (.int 10)) (eC (.int 18))))) (e2 pSub (eB pAbs (lCons (eV 2) lNil)) (e2 pPow (eC (.int 10)) (eC (.int 18))))
abbrev beM3 : EX := eLc (itScr 0) [2] (gT [2] dNm) uYes (eB pAbs (lCons (eV 2) lNil))
theorem p1018 : pPow (.int 10) (.int 18) = some (.int (10 ^ 18)) := by first | rfl | simp [pPow] | kernel_rfl
theorem be_go1 (x0 x1 : Option D) : ∀ (ns : List Int) (acc : List Int) (z : Option D), acc.length + ns.length ≤ 1000000 →
    lcGo [2] (gT [2] dNm) (uB (e2 pGe (eB pAbs (lCons (eV 2) lNil)) (e2 pPow (eC (.int 10)) (eC (.int 18))))) (e2 pSub (eB pAbs (lCons (eV 2) lNil)) (e2 pPow (eC (.int 10)) (eC (.int 18)))) (ns.map .int) (acc.map .int) [x0, x1, none] = .ok ((acc ++ beLarge ns).map .int) [x0, x1, none]
  | [], acc, z, _ => by simp [lcGo, beLarge]
  | n :: ns, acc, z, h => by
    have hl : acc.length < line := by simp at h; unfold line; omega
    have e : lcGo [2] (gT [2] dNm) (uB (e2 pGe (eB pAbs (lCons (eV 2) lNil)) (e2 pPow (eC (.int 10)) (eC (.int 18))))) (e2 pSub (eB pAbs (lCons (eV 2) lNil)) (e2 pPow (eC (.int 10)) (eC (.int 18)))) ((n :: ns).map .int) (acc.map .int) [x0, x1, none] =
        if decide ((10 : Int) ^ 18 ≤ absI n) then lcGo [2] (gT [2] dNm) (uB (e2 pGe (eB pAbs (lCons (eV 2) lNil)) (e2 pPow (eC (.int 10)) (eC (.int 18))))) (e2 pSub (eB pAbs (lCons (eV 2) lNil)) (e2 pPow (eC (.int 10)) (eC (.int 18)))) (ns.map .int) ((acc ++ [absI n - 10 ^ 18]).map .int) [x0, x1, none]
        else lcGo [2] (gT [2] dNm) (uB (e2 pGe (eB pAbs (lCons (eV 2) lNil)) (e2 pPow (eC (.int 10)) (eC (.int 18))))) (e2 pSub (eB pAbs (lCons (eV 2) lNil)) (e2 pPow (eC (.int 10)) (eC (.int 18)))) (ns.map .int) (acc.map .int) [x0, x1, none] := by
      simp only [List.map_cons, lcGo]
      have e1 : gT [2] dNm (.int n) (wipeD [x0, x1, none] [2]) = .ok () [x0, x1, some (.int n)] := rfl
      rw [e1]
      simp only [noX, Res.bind]
      have e2 : uB (e2 pGe (eB pAbs (lCons (eV 2) lNil)) (e2 pPow (eC (.int 10)) (eC (.int 18)))) [x0, x1, some (.int n)] = .ok (decide ((10 : Int) ^ 18 ≤ absI n)) [x0, x1, some (.int n)] := by
        simp [uB, PL.e2, eB, lCons, lNil, eV, eC, Res.bind, ofO, pAbs, p1018, pGe, absI]
        try exact decide_eq_decide.mpr Iff.rfl
      rw [e2]
      simp only [noX, Res.bind]
      split
      · have e3 : PL.e2 pSub (eB pAbs (lCons (eV 2) lNil)) (PL.e2 pPow (eC (.int 10)) (eC (.int 18))) [x0, x1, some (.int n)] = .ok (.int (absI n - 10 ^ 18)) [x0, x1, some (.int n)] := by
          simp [PL.e2, eB, lCons, lNil, eV, eC, Res.bind, ofO, pAbs, p1018, pSub, absI]
        rw [e3]
        simp only [noX, Res.bind]
        rw [if_pos (by simpa using hl)]
        simp [wipeD]
      · simp [wipeD]
    rw [e]
    have ih := be_go1 x0 x1 ns
    by_cases hc : (10 : Int) ^ 18 ≤ absI n
    · rw [if_pos (by simpa using hc), ih (acc ++ [absI n - 10 ^ 18]) none (by simp at h ⊢; omega)]
      unfold beLarge
      rw [List.filter_cons_of_pos (by exact decide_eq_true hc)]
      simp
    · rw [if_neg (by simpa using hc), ih acc none (by simp at h ⊢; omega)]
      unfold beLarge
      rw [List.filter_cons_of_neg (by simpa using hc)]
theorem be_go3 (x0 x1 : Option D) : ∀ (ns : List Int) (acc : List Int), acc.length + ns.length ≤ 1000000 →
    lcGo [2] (gT [2] dNm) uYes (eB pAbs (lCons (eV 2) lNil)) (ns.map .int) (acc.map .int) [x0, x1, none] = .ok ((acc ++ beCells ns).map .int) [x0, x1, none]
  | [], acc, _ => by simp [lcGo, beCells]
  | n :: ns, acc, h => by
    have hl : acc.length < line := by simp at h; unfold line; omega
    simp only [List.map_cons, lcGo]
    have e1 : gT [2] dNm (.int n) (wipeD [x0, x1, none] [2]) = .ok () [x0, x1, some (.int n)] := rfl
    rw [e1]
    simp only [noX, Res.bind, uYes, if_true]
    have e3 : eB pAbs (lCons (eV 2) lNil) [x0, x1, some (.int n)] = .ok (.int (absI n)) [x0, x1, some (.int n)] := by
      simp [eB, lCons, lNil, eV, Res.bind, ofO, pAbs, absI]
    rw [e3]
    simp only [noX, Res.bind]
    rw [if_pos (by simpa using hl)]
    have ih := be_go3 x0 x1 ns (acc ++ [absI n]) (by simp at h ⊢; omega)
    simp [wipeD] at ih ⊢
    rw [ih]
    simp [beCells]
theorem be_m1 (ns : List Int) (x2 : Option D) (h : ns.length ≤ 1000000) : beM1 [some (.lst (ns.map .int)), none, none] = .ok (.lst ((beLarge ns).map .int)) [some (.lst (ns.map .int)), none, none] := by
  have q := be_go1 (some (.lst (ns.map .int))) none ns [] none (by simpa using h)
  simp only [List.map_nil, List.nil_append] at q
  unfold beM1 eLc itScr
  simp only [List.getElem?_cons_zero, Res.bind, wipeD, List.set, List.set_cons_succ, List.set_cons_zero]
  rw [q]
  simp [unwipeD]
theorem be_m3 (ns : List Int) (x1 : Option D) (h : ns.length ≤ 1000000) : beM3 [some (.lst (ns.map .int)), x1, none] = .ok (.lst ((beCells ns).map .int)) [some (.lst (ns.map .int)), x1, none] := by
  have q := be_go3 (some (.lst (ns.map .int))) x1 ns [] (by simpa using h)
  simp only [List.map_nil, List.nil_append] at q
  unfold beM3 eLc itScr
  simp only [List.getElem?_cons_zero, Res.bind, wipeD, List.set, List.set_cons_succ, List.set_cons_zero]
  rw [q]
  simp [unwipeD]
theorem dr_disp {pl pc : Addr} : mergeK [] (drKvs pl pc 0 0) = drKvs pl pc 0 0 := by first | rfl | kernel_rfl | decide +kernel
section
variable {X : Cx} {T : Tx} {W : WX} {pos pos2 p0 q1 q2 q3 q4 q5 q6 : Pos} {e3 : Expr} {st1 : Stmt}
theorem begun_body {j1 j2 j3 j4 j5 j6 : Nat} {x1 : Str} {vs : List V} {H : Hp} {Q : VK} {E : L2.XK} (h1 : XS X T W 1 [.ab Scr, .fz, .fz] [.ab Scr, .fz, .fz] [.ab Scr, .own, .fz] st1 (sSet 1 beM1)) (h3 : XL X T W [.ab Scr, .own, .fz] e3 beM3) (hN : X.N[1]? = some x1) (hv : visB X.env.scope x1 = true)
    (hsp : spBegun T vs H Q E) :
    ∃ t, PSs X [st1, .Return (some (.Dict [some (.Constant (.str "large") j1 q1), some (.Constant (.str "rest") j2 q2), some (.Constant (.str "cells") j3 q3), some (.Constant (.str "turn") j4 q4)] [.Name x1 p0, .Constant (.int 0) j5 q5, e3, .Constant (.int 0) j6 q6] pos)) pos2] t ∧
      t { nx := fun _ H' => Q .non H', rt := Q } (vs.map some ++ List.replicate (3 - vs.length) none) H := by
  obtain ⟨t1, p1, r1⟩ := h1
  obtain ⟨t3, p3, r3⟩ := h3
  have q := visB_of hv
  refine ⟨_, pss_cons p1 (pss_one (ps_ret (pe_disp (pps_cons pe_str (pe_var hN q.1 q.2.1 q.2.2) (pps_cons pe_str pe_int (pps_cons pe_str p3 (pps_cons pe_str pe_int pps_nil)))) rfl rfl (by simp) (by simp)))), ?_⟩
  obtain ⟨F, ns, v, rfl, hF, hscr, hl, hQ⟩ := hsp
  have S0 : Sta T [.ab Scr, .fz, .fz] (fun _ => []) F H [some v, none, none] [some (.lst (ns.map .int)), none, none] := by
    refine ⟨hF, rfl, rfl, fun i od ov k h1 h2 h3 => ?_, fun _ _ => rfl, fun _ _ _ h => by cases h⟩
    match i, h1, h2, h3 with
    | 0, h1, h2, h3 => cases h1; cases h2; cases h3; exact ⟨v, rfl, hscr, fun _ h => by cases h⟩
    | 1, h1, h2, h3 => cases h1; cases h2; cases h3; rfl
    | 2, h1, h2, h3 => cases h1; cases h2; cases h3; rfl
    | i + 3, h1, _, _ => simp at h1
  refine r1.run (fun _ => []) F H _ _ _ S0 ?_
  unfold sSet
  rw [be_m1 ns none hl]
  intro fp1 F1 H1 σ1 g1 S1
  have S1 : Sta T [.ab Scr, .own, .fz] fp1 F1 H1 σ1 [some (.lst (ns.map .int)), some (.lst ((beLarge ns).map .int)), none] := S1
  obtain ⟨pl, ds, ws, ed, eσ, ef, eH, eF, rl⟩ := S1.own (i := 1) rfl rfl
  cases ed
  have ews : ws = (beLarge ns).map V.int := rl.ints
  subst ews
  have hpl0 : H pl = none := by
    rcases g1.fpn 1 pl (by rw [ef]; simp) with z | z
    · cases z
    · exact z
  intro p hp
  have hpF : F1 p = none := S1.sub.none hp
  have hpf : ∀ i, p ∉ fp1 i := fun i hi => by obtain ⟨_, o, z⟩ := S1.slot_none hi; rw [hp] at z; cases z
  have S2 : Sta T [.ab Scr, .own, .fz] fp1 F1 (upd H1 p (.dK [])) σ1 _ := S1.updOut hpf hpF
  refine ⟨.ref pl, eσ, ?_⟩
  refine r3 fp1 F1 _ σ1 _ _ S2 (Po.ofOk _ _ (be_m3 ns _ hl) fun fp3 F3 H3 g3 S3 a ws3 ds3 ed ha0 ha hn hf rs => ?_)
  cases ed
  have ews : ws3 = (beCells ns).map V.int := rs.ints
  subst ews
  have hp3 : H3 p = some (.dK []) := g3.keep _ _ upd_same hpf
  obtain ⟨pl', ds', ws', ed', eσ', ef', eH', eF', rl'⟩ := S3.own (i := 1) rfl rfl
  rw [eσ] at eσ'; cases eσ'
  cases ed'
  have ews : ws' = (beLarge ns).map V.int := rl'.ints
  subst ews
  refine ⟨hp3, drKvs pl a 0 0, rfl, by simp [drKvs], ?_⟩
  rw [dr_disp]
  have npl : p ≠ pl := fun z => by rw [z] at hp; rw [eH] at hp; cases hp
  have npa : p ≠ a := fun z => by rw [← z, upd_same] at ha0; cases ha0
  have na : a ≠ pl := fun z => by
    rw [z] at ha0
    have := ha0
    rw [upd_ne (Ne.symm npl), eH] at this; cases this
  have hp3F : F3 p = none := by
    cases e : F3 p with
    | none => rfl
    | some o =>
      rcases g3.new _ _ e with z | z
      · rw [hpF] at z; cases z
      · rw [upd_same] at z; cases z
  have hpH : H p = none := by
    cases e : H p with
    | none => rfl
    | some o => rw [g1.keep p o e (fun _ h => by cases h)] at hp; cases hp
  have haF : (upd F3 a (.lst ((beCells ns).map V.int))) pl = none := by rw [upd_ne (Ne.symm na)]; exact eF'
  have k1 : ∀ b o, H b = some o → H1 b = some o := fun b o e => g1.keep b o e fun _ h => by cases h
  have haH : H a = none := by
    cases e : H a with
    | none => rfl
    | some o =>
      have := k1 a o e
      rw [upd_ne (fun z => npa z.symm)] at ha0
      rw [this] at ha0; cases ha0
  refine hQ (upd F3 a (.lst ((beCells ns).map V.int))) (upd H3 p (.dK (drKvs pl a 0 0))) p pl a (fun b o e => ?_) (g1.mono.trans (g3.mono.trans (Fle.up1 hn))) (fun b o e => ?_) (fun b o e => ?_) npl (by rw [upd_ne npa]; exact hp3F) haF hpH hpl0 upd_same (by rw [upd_ne (Ne.symm npl)]; exact eH') upd_same
  · have b1 : b ≠ p := fun z => by rw [z, hpH] at e; cases e
    have b2 : b ≠ pl := fun z => by rw [z, hpl0] at e; cases e
    rw [upd_ne b1]
    refine g3.keep b o (by rw [upd_ne b1]; exact k1 b o e) fun i hi => ?_
    rcases g1.fpn i b hi with z | z
    · cases z
    · rw [e] at z; cases z
  · by_cases hb : b = a
    · subst hb
      rw [upd_same] at e; cases e
      rw [upd_ne (Ne.symm npa)]; exact ha
    · rw [upd_ne hb] at e
      have b1 : b ≠ p := fun z => by rw [z, hp3F] at e; cases e
      rw [upd_ne b1]; exact S3.sub b o e
  · by_cases hb : b = a
    · subst hb; exact .inr haH
    · rw [upd_ne hb] at e
      rcases g3.new b o e with z | z
      · rcases g1.new b o z with w | w | ⟨i, _, w⟩
        · exact .inl w
        · exact .inr w
        · cases w
      · refine .inr ?_
        cases e2 : H b with
        | none => rfl
        | some u =>
          have b1 : b ≠ p := fun z => by rw [z, hpH] at e2; cases e2
          rw [upd_ne b1, k1 b u e2] at z; cases z
theorem asInts_map : ∀ ns : List Int, asInts (ns.map D.int) = some ns
  | [] => rfl
  | n :: ns => by simp [asInts, asInts_map ns]
theorem Sta.abNew {Γ : List (Kd T)} {A : Ab T} {fp : Nat → List Addr} {F H : Hp} {σ : L2.St} {s : En} (S : Sta T Γ fp F H σ s) {i : Nat} {d : D} {v : V} {fn : List Addr} (hP : A.P F H d v fn) (ho : ∀ b ∈ fn, F b = none ∧ ∃ o, H b = some o) (hf : ∀ b ∈ fn, ∀ j, b ∉ fp j) (hl : i < s.length) :
    Sta T (Γ.set i (.ab A)) (fun k => if k = i then fn else fp k) F H (σ.set i (some v)) (s.set i (some d)) where
  sub := S.sub
  ls := by rw [List.length_set, List.length_set]; exact S.ls
  lg := by rw [List.length_set, List.length_set]; exact S.lg
  out := fun j hj => by
    rw [List.length_set] at hj
    rw [if_neg (by omega)]
    exact S.out j hj
  dis := fun j j' b h h' => by
    try dsimp only at h h'
    split at h
    · rename_i e1
      split at h'
      · rename_i e2; rw [e1, e2]
      · exact absurd h' (hf b h _)
    · split at h'
      · exact absurd h (hf b h' _)
      · exact S.dis j j' b h h'
  ok := fun j od ov k h1 h2 h3 => by
    by_cases e : i = j
    · subst e
      rw [List.getElem?_set_self hl] at h1
      rw [List.getElem?_set_self (by rw [S.ls]; exact hl)] at h2
      rw [List.getElem?_set_self (by rw [S.lg]; exact hl)] at h3
      cases h1; cases h2; cases h3
      rw [if_pos rfl]
      exact ⟨v, rfl, hP, ho⟩
    · rw [List.getElem?_set_ne e] at h1 h2 h3
      rw [if_neg (Ne.symm e)]
      exact S.ok j od ov k h1 h2 h3
theorem xs_begun {np : Nat} {Γl Γ : List (Kd T)} (i j : Nat) {x y z : Str} {pos' p p1 : Pos} {k : Nat} {f : Addr} {fd : FuncData} {ps : List Str} (hN : X.N.Nodup) (hi : X.N[i]? = some x) (hx : locB X.env.scope x = true) (hfn : X.fn x = true) (hp : np ≤ i) (hl : i < Γ.length) (hj : X.N[j]? = some y) (hv : visB X.env.scope y = true) (hk : Γ[j]? = some (.ab Scr))
    (tk : Takes X W) (F : FnOk X.prog X.w X.K X.mg X.base (L2.CX X.prog X.w) k f fd ps (spBegun T)) (hr : Room k X.A) (hg : Gl X z) (hm : X.mg z = some (.ref f)) (hkp : PySem.W.keepIn X.K (.ref f) = true) (hb : Binds X.K fd ps []) (hdb : (z == ("__debug__" : Str)) = false)
    (hs1 : starEach [.Name y p] X.env = (false, eval (.Name y p) X.env) :: starEach [] X.env) (hpl : (backTo pos2 (starEach [] X.env)).any (·.1) = false) (hs : swapsWith (.Call (.Name z p1) [.Name y p] [] pos2) (some (.Name x pos')) pos.line X.env = pure false) :
    XS X T W np Γl Γ (Γ.set i (.ab Draw)) (.Assign [.Name x pos'] (.Call (.Name z p1) [.Name y p] [] pos2) pos) (sBegun i j) := by
  have q := visB_of hv
  refine ⟨_, ps_set hN hi (locB_of hx) (pe_callS F hr hg hm hkp hb (fun σ => passAt tk σ) (pa_cons (pe_var hj q.1 q.2.1 q.2.2) pa_nil hs1) hdb hs1 hpl) hs (.inl hfn), .set hp, fun fp Fh H σ s D S h => ?_⟩
  unfold sBegun at h
  split at h
  · rename_i l e0
    split at h
    · rename_i ns0 ei
      split at h
      · rename_i hlen
        obtain ⟨v, eσ, a, ns, ef, rfl, ed, hq⟩ := S.abAt hk e0
        cases ed
        rw [asInts_map] at ei
        cases ei
        refine ⟨_, eσ, Fh, ns0, _, rfl, S.sub, ⟨a, ns0, rfl, rfl, rfl, hq⟩, hlen, fun F' H' p pl pc kk mono sub new npl hpF hplF hpH hplH e1 e2 e3 => ?_⟩
        have S1 := S.ext kk mono sub new
        have nf : ∀ b ∈ [p, pl], ∀ j, b ∉ fp j := fun b hb j hj => by
          obtain ⟨_, o, z⟩ := S.slot_none hj
          simp at hb
          rcases hb with w | w
          · rw [w, hpH] at z; cases z
          · rw [w, hplH] at z; cases z
        have S2 := S1.abNew (A := Draw) (i := i) (v := .ref p) (fn := [p, pl]) (d := .tup [.lst ((beLarge ns0).map .int), .int 0, .lst ((beCells ns0).map .int), .int 0]) ⟨p, pl, pc, beLarge ns0, beCells ns0, 0, 0, rfl, rfl, npl, rfl, e1, e2, e3⟩ (fun b hb => by
          simp at hb
          rcases hb with w | w
          · rw [w]; exact ⟨hpF, _, e1⟩
          · rw [w]; exact ⟨hplF, _, e2⟩) nf (by rw [← S.lg]; exact hl)
        refine h _ F' H' _ ⟨fun b o e _ => kk b o e, fun b e => ?_, mono, fun b o e => (new b o e).elim .inl fun z => .inr (.inl z), fun k b hb => ?_, fun k kd hk' _ _ => by rw [List.getElem?_set_ne (by omega)]⟩ S2
        · cases z : H b with
          | none => rfl
          | some o => rw [kk b o z] at e; cases e
        · try dsimp only at hb
          split at hb
          · simp at hb
            rcases hb with w | w
            · rw [w]; exact .inr hpH
            · rw [w]; exact .inr hplH
          · exact .inl hb
      · exact h.elim
    · exact h.elim
  · exact h.elim
end
end RX

set_option Elab.async false
set_option linter.all false
set_option maxRecDepth 100000
set_option maxHeartbeats 4000000
/-! RXH: defs that change a ghost slot (the tables of code objects). -/
namespace RX
open PySem PySem.Spec PyProof.Rows L2 PL
/-- as spG, the ghost slot behind the parameters -/
def spH (T : Tx) (sig : List (Kd T)) (A : Ab T) (f : FN) : Sp := fun vs H Q E => vs.length = sig.length ∧ ∃ fp F ds, Sta T (sig ++ [.gh A]) fp F H (vs.map some ++ [none]) (ds.map some) ∧ PoF T (sig ++ [.gh A]) fp F H (vs.map some ++ [none]) Q E (f ds)
theorem spH_len {T : Tx} {sig : List (Kd T)} {A : Ab T} {f : FN} {n : Nat} (h : sig.length = n) : ∀ vs H Q E, spH T sig A f vs H Q E → vs.length = n := fun vs H Q E q => q.1.trans h
section
variable {X : Cx} {T : Tx} {W : WX} {np : Nat} {Γl Γ Γ1 Γ' Γ'' : List (Kd T)} {pos : Pos} {e a b c tg iter : Expr} {es rest : List Expr} {tl : TA}
theorem argR_snocI {F : Hp} {σ : L2.St} {v : Option V} {n : Nat} (hn : σ[n]? = some v) : ∀ {l : List AX} {os : List (Option D)} {vs : List (Option V)}, ArgR T F σ l os vs → ArgR T F σ (l ++ [.io n]) (os ++ [none]) (vs ++ [v])
  | _, _, _, .nil => .io hn .nil
  | _, _, _, .v r t => .v r (argR_snocI hn t)
  | _, _, _, .io h t => .io h (argR_snocI hn t)
theorem sigK_snoc {k : Kd T} {n : Nat} (hn : Γ[n]? = some k) : ∀ {l : List AX} {sg : List (Kd T)}, SigK Γ l sg → SigK Γ (l ++ [.io n]) (sg ++ [k])
  | _, _, .nil => .io hn .nil
  | _, _, .v g => .v (sigK_snoc hn g)
  | _, _, .io h g => .io h (sigK_snoc hn g)
/-- the arguments' slots hold values -/
theorem io_vals {fp : Nat → List Addr} {F H : Hp} {σ : L2.St} {s : En} {l : List AX} {sg : List (Kd T)} (S : Sta T Γ fp F H σ s) (hin : axIn s l = true) (g : SigOk Γ l sg) : ∀ i, .io i ∈ l → ∃ v, σ[i]? = some (some v) := fun i hm => by
  obtain ⟨d, hd⟩ := axIn_some hin hm
  obtain ⟨k, hA, hk⟩ := sig_ab g hm
  have hi : i < s.length := (List.getElem?_eq_some_iff.mp hd).1
  have hσ : i < σ.length := by rw [S.ls]; exact hi
  have w := S.ok i _ _ _ hd (List.getElem?_eq_getElem hσ) hA
  cases k with
  | own => obtain ⟨a, _, _, _, e, _⟩ := w; exact ⟨_, by rw [List.getElem?_eq_getElem hσ, e]⟩
  | ab A => obtain ⟨v, e, _⟩ := w; exact ⟨v, by rw [List.getElem?_eq_getElem hσ, e]⟩
  | fz => cases hk
  | gh A => cases hk
  | hid => cases hk
theorem axFill_get : ∀ {l : List AX} {os : List (Option D)} {s : En} {ds : List D} {g : Nat}, axFill (l ++ [.io g]) (os ++ [none]) s = some ds → os.length = l.length → ∃ d, s[g]? = some (some d)
  | [], [], s, ds, g, h, _ => by
    simp only [List.nil_append, axFill] at h
    split at h
    · rename_i d e; exact ⟨d, e⟩
    · cases h
  | .v _ :: l, o :: os, s, ds, g, h, hl => by
    cases o with
    | none => simp [axFill] at h
    | some d =>
      simp only [List.cons_append, axFill] at h
      cases e : axFill (l ++ [.io g]) (os ++ [none]) s with
      | none => rw [e] at h; cases h
      | some ds' => exact axFill_get e (by simpa using hl)
  | .io i :: l, o :: os, s, ds, g, h, hl => by
    cases o with
    | some d => simp [axFill] at h
    | none =>
      simp only [List.cons_append, axFill] at h
      split at h
      · cases e : axFill (l ++ [.io g]) (os ++ [none]) s with
        | none => rw [e] at h; cases h
        | some ds' => exact axFill_get e (by simpa using hl)
      · cases h
  | [], _ :: _, _, _, _, _, hl => by simp at hl
  | _ :: _, [], _, _, _, _, hl => by simp at hl
theorem argR_len {F : Hp} {σ : L2.St} : ∀ {l : List AX} {os : List (Option D)} {vs : List (Option V)}, ArgR T F σ l os vs → os.length = l.length
  | _, _, _, .nil => rfl
  | _, _, _, .v _ t => congrArg (· + 1) (argR_len t)
  | _, _, _, .io _ t => congrArg (· + 1) (argR_len t)
theorem re_callH {sg : List (Kd T)} {A : Ab T} {f : FN} {l : List AX} (gh : Nat) (hg : Γ[gh]? = some (.gh A)) (n : (iosOf l).Nodup) (hng : gh ∉ iosOf l) (g : SigOk Γ l sg) (ra : RM T W Γ tl l) : RE T W Γ (tCallS (spH T sg A f) (WE W) tl) (eCallH f l gh) := by
  intro fp F H σ s Q S h
  unfold eCallH at h
  split at h
  · rename_i hin
    refine ra fp F H σ s _ S (io_vals S hin g) (h.bind.imp fun os s1 fp1 F1 H1 g1 S1 h2 vs rv => ?_)
    have nE : (iosOf (l ++ [.io gh])).Nodup := by
      rw [ios_snoc]
      refine List.nodup_append.mpr ⟨n, by simp, fun i hi j hj => ?_⟩
      simp at hj
      exact fun z => hng (by rw [← hj, ← z]; exact hi)
    have gE : SigK Γ (l ++ [.io gh]) (sg ++ [.gh A]) := sigK_snoc hg g.k
    cases hf : axFill (l ++ [.io gh]) (os ++ [none]) s1 with
    | none => rw [hf] at h2; exact h2.elim
    | some ds =>
      rw [hf] at h2
      have h2 : Po T W Γ fp1 F1 H1 σ (match f ds with
        | .ok d es => .ok d (axBack (l ++ [.io gh]) es s1)
        | .ex c fs es => .ex c fs (axBack (l ++ [.io gh]) es s1)
        | .no => .no) (fun d _ _ F' H' => ∀ v, Rep T F' d v → Q v H') := h2
      obtain ⟨d0, e0⟩ := axFill_get hf (argR_len rv)
      have hnone : σ[gh]? = some none := by
        have hi : gh < s1.length := (List.getElem?_eq_some_iff.mp e0).1
        have hσ : gh < σ.length := by rw [S1.ls]; exact hi
        have w := S1.ok gh _ _ _ e0 (List.getElem?_eq_getElem hσ) hg
        rw [List.getElem?_eq_getElem hσ, w.1]
      have rE := argR_snocI hnone rv
      obtain ⟨q1, q2, q3, q4⟩ := arg_at rE hf gE
      refine ⟨by simp at q2 q3; omega, fpC fp1 (l ++ [.io gh]), F1, ds, sta_call S1 nE rE hf gE, ?_⟩
      cases er : f ds with
      | ok d es' =>
        rw [er] at h2
        intro fp' F' H' v go S' r
        obtain ⟨g2, S2⟩ := sta_back S1 nE rE hf gE go S'
        exact h2 _ F' H' g2 S2 v r
      | ex c fs es' =>
        rw [er] at h2
        intro fp' F' H' od go S' r
        obtain ⟨g2, S2⟩ := sta_back S1 nE rE hf gE go S'
        exact h2 _ F' H' od g2 S2 r
      | no => rw [er] at h2; exact h2
  · exact h.elim
theorem xe_callH {k : Nat} {sg : List (Kd T)} {A : Ab T} {f : Addr} {fd : FuncData} {ps : List Str} {x : Str} {p : Pos} {fn : FN} {l : List AX} (gh : Nat) (hgh : Γ[gh]? = some (.gh A)) (n : (iosOf l).Nodup) (hng : gh ∉ iosOf l) (g : SigOk Γ l sg) (tk : Takes X W) (F : FnOk X.prog X.w X.K X.mg X.base (L2.CX X.prog X.w) k f fd ps (spH T sg A fn)) (hr : Room k X.A) (hg : Gl X x) (hm : X.mg x = some (.ref f)) (hk : PySem.W.keepIn X.K (.ref f) = true) (hb : Binds X.K fd ps [])
    (ha : XM X T W Γ (e :: es) l) (hdb : (x == ("__debug__" : Str)) = false) (he : starEach (e :: es) X.env = (false, eval e X.env) :: starEach es X.env) (hpl : (backTo pos (starEach es X.env)).any (·.1) = false) :
    XE X T W Γ (.Call (.Name x p) (e :: es) [] pos) (eCallH fn l gh) := by
  obtain ⟨ta, p1, r1⟩ := ha
  exact ⟨_, pe_callS F hr hg hm hk hb (fun σ => passAt tk σ) p1 hdb he hpl, re_callH gh hgh n hng g r1⟩
/-- a def with a ghost slot behind its parameters: N has a name there that the text does not use -/
theorem ok_defH {P : Program} {w : World} {mg : Str → Option Value} {base : Heap} {sig : List (Kd T)} {A : Ab T} {x qual : Str} {params : Arguments} {body : List Stmt} {scope : Scope} {f : Addr} {fd : FuncData} (N ps : List Str) {k : Nat} {K : PySem.W.Frag} {dvs : List V} {kws : List (Str × V)} (n : Nat) (io : List Nat) (Γ : List (Kd T)) (m : ST) (Fd : FunD K x qual params body scope dvs kws f fd) (Sc : FnScope N ps scope) (hl : sig.length = ps.length) (hn : N.length = n) (hpn : ps.length + 1 ≤ n) (hio : sigIo 0 (sig ++ [.gh A]) = io) (hΓ : (sig ++ [.gh A]) ++ List.replicate (n - (sig ++ [Kd.gh A]).length) .fz = Γ)
    (hb : ∀ (cdv : Value) (Ar : Around) (outer : List Env) (s : Shared) (H : Hp) (E : L2.XK), Room k (Ar.deeper (envOfC qual scope s.heap.objs.size f cdv)) →
      XB (cxOf (L2.CX P w) P w K mg base N qual scope f cdv Ar outer s H E) T (fun cls d _ H' => E cls d H') (sig ++ [Kd.gh A]).length Γ Γ Γ body m) :
    FnOk P w K mg base (L2.CX P w) (k + 1) f fd ps (spH T sig A (fnB n io m)) := by
  subst hn hio hΓ
  refine Fd.ok Sc (spH_len hl) fun cdv Ar outer s H vs Q E hr hsp => ?_
  obtain ⟨t, pb, rb⟩ := hb cdv Ar outer s H E hr
  refine ⟨t, pb, ?_⟩
  obtain ⟨hv, fp, F, ds, S, hq⟩ := hsp
  have hnn : (sig ++ [Kd.gh A]).length ≤ N.length := by simp; omega
  have hv' : (vs.map some ++ [none] : L2.St).length = (sig ++ [Kd.gh A]).length := by simp [hv]
  have es : L2.start N vs = (vs.map some ++ [none] : L2.St) ++ List.replicate (N.length - (vs.map some ++ [none] : L2.St).length) none := by
    unfold L2.start
    rw [List.append_assoc]
    congr 1
    have : N.length - vs.length = (N.length - (vs.map some ++ [none] : L2.St).length) + 1 := by simp; omega
    rw [this, List.replicate_succ]
    rfl
  rw [es]
  refine rb.run fp F H _ _ _ (sta_start hnn hv' S) ?_
  unfold fnB at hq
  cases er : m (ds.map some ++ List.replicate (N.length - ds.length) none) with
  | ok fl s' =>
    rw [er] at hq
    cases fl with
    | nx =>
      dsimp only at hq
      split at hq
      · rename_i hio
        intro fp' F' H' σ' g S'
        obtain ⟨fp2, g2, S2⟩ := sta_fin hnn hv' S rb.ks g S' hio
        exact hq fp2 F' H' .non g2 S2 .non
      · exact hq.elim
    | rt d =>
      dsimp only at hq
      split at hq
      · rename_i hio
        intro Γr fp' F' H' σ' v ks g S' r
        obtain ⟨fp2, g2, S2⟩ := sta_fin hnn hv' S ks g S' hio
        exact hq fp2 F' H' v g2 S2 r
      · exact hq.elim
    | bk => exact hq.elim
    | ct => exact hq.elim
  | ex c fs s' =>
    rw [er] at hq
    dsimp only at hq
    split at hq
    · rename_i hio
      intro Γr fp' F' H' σ' od ks g S' x
      obtain ⟨fp2, g2, S2⟩ := sta_fin hnn hv' S ks g S' hio
      exact hq fp2 F' H' od g2 S2 x
    · exact hq.elim
  | no => rw [er] at hq; exact hq
end
end RX

set_option Elab.async false
set_option linter.all false
set_option maxRecDepth 100000
set_option maxHeartbeats 4000000
/-! RXC: an exception caught, kept in a name, given back. -/
namespace RX
open PySem PySem.Spec PyProof.Rows L2 PL
section
variable {X : Cx} {pins : List (Addr × Obj)} {σ : L2.St} {H : Hp} {s : Shared}
theorem excOb_ok {P : Program} {w : World} {H : Hp} {h : Heap} {a C : Addr} {d : Option Addr} {oe : Obj} {vs : Array Value} (e : h.get? a = some oe) (z : Zc (.ref C) d oe) (hd : oe.data = .fields vs) : ObjOk P w H h a (ExcOb C d a) :=
  ⟨⟨oe, vs, e, z, hd⟩, ⟨oe, e⟩, fun _ _ ⟨o, v, q, r⟩ k => ⟨o, v, k o q, r⟩⟩
/-- an object that lies untracked, younger than the entry, is tracked from here on -/
theorem inv_track {a C : Addr} {d : Option Addr} {oe : Obj} {vs : Array Value} (I : Inv X pins σ H s) (he : s.heap.get? a = some oe) (z : Zc (.ref C) d oe) (hd : oe.data = .fields vs) (na : H a = none) (n0 : X.s_0.heap.get? a = none) (nL : a ≠ X.env.locals) (hp : ∀ p ∈ X.pn ++ pins, p.1 ≠ a) :
    Inv X pins σ (upd H a (ExcOb C d a)) s where
  ok := I.ok
  os := I.os
  bare := I.bare
  base := {
    keep := I.base.keep
    slot := I.base.slot
    free := fun b o e n x => by
      have hb : b ≠ a := fun q => by rw [q, n0] at e; cases e
      rw [upd_ne hb]; exact I.base.free b o e n x
    there := I.base.there
    tups := fun b xs e => by
      have q := I.base.tups b xs e
      rw [upd_ne (ne_of_none q na)]; exact q
    frzs := fun b o u e => by
      have q := I.base.frzs b o u e
      rw [upd_ne (ne_of_none q na)]; exact q
    tbls := fun b ps e => by
      obtain ⟨more, q⟩ := I.base.tbls b ps e
      exact ⟨more, by rw [upd_ne (ne_of_none q na)]; exact q⟩ }
  loc := I.loc
  cell := I.cell
  free := by rw [upd_ne (Ne.symm nL)]; exact I.free
  freeC := fun x c e => by
    have hc : c ≠ a := fun q => by
      obtain ⟨v, o, ho, hdat⟩ := I.cell x c e
      rw [q, he] at ho
      cases ho
      rw [hd] at hdat; cases hdat
    rw [upd_ne hc]; exact I.freeC x c e
  pin := fun p hm => by
    obtain ⟨e1, e2, e3⟩ := I.pin p hm
    exact ⟨e1, by rw [upd_ne (hp p hm)]; exact e2, e3⟩
  hok := fun b u e => by
    by_cases hb : b = a
    · subst hb
      rw [upd_same] at e; cases e
      exact excOb_ok he z hd
    · rw [upd_ne hb] at e
      refine (I.hok b u e).stay (fun _ _ _ q => q) (fun c q => ?_) fun c xs q => ?_
      · rw [upd_ne (ne_of_none q na)]; exact q
      · rw [upd_ne (ne_of_none q na)]; exact q
  len := I.len
/-- what the clause 'except x as n: y = n' wishes of an exception of the body -/
def wKeep (K : PySem.W.Frag) (c : Value) (i j : Nat) (D : Ends) : WX := fun cls d σ H => ∃ C, cls = .ref C ∧ PySem.W.exmOne K cls c = some true ∧ ∀ a, H a = none → i < σ.length → j < σ.length → D.nx ((σ.set j (some (.ref a))).set i none) (upd H a (ExcOb C d a))
end
section
variable {X : Cx} {x n y : Str} {c : Value} {i j : Nat} {body : List Stmt} {np pos pos' p1 p2 p3 : Pos} {tb : WX → TS}
theorem ps_try_keep (hs : X.stack = X.env :: X.outer) (hf : X.env.frame = some X.env.locals) (hN : X.N.Nodup) (hi : X.N[i]? = some n) (hln : X.env.kindOf n = some .local) (hj : X.N[j]? = some y) (hlj : X.env.kindOf y = some .local) (hc : Names X x c) (hex : X.ex = []) (hcd : (n == ("__classdict__" : Str)) = false) (hd : (n == ("__debug__" : Str)) = false) (hij : i ≠ j) (hlen : i < X.N.length)
    (hb : ∀ (W : WX) (pn : List (Addr × Obj)) (xe : Value → Shared → Prop), Takes (X.tr pn xe) W → PassesOwn (model X.prog X.w) X.A X.env xe → PSs (X.tr pn xe) body (tb W))
    (hsw : swapsWith (.Name n p2) (some (.Name y p1)) p3.line X.env = pure false) :
    PS X (.Try body [.ExceptHandler (some (.Name x np)) (some n) [.Assign [.Name y p1] (.Name n p2) p3] pos'] [] [] pos) (fun D σ H => tb (wKeep X.K c i j D) D σ H) := by
  refine ⟨fun pins s σ H D I h => ?_⟩
  have ok := I.ok
  have hfr : X.A.frames = some (X.env :: X.outer) := by rw [ok.frames, hs]
  refine wpAny_Try_except ?_
  refine wpAny_mono ((hb (wKeep X.K c i j D) (X.pn ++ pins) (fun e s₁ => wpAny (model X.prog X.w) X.A (noteFrame e X.env) (fun _ s₂ => wpAny (model X.prog X.w) X.A (setFlight e none) (fun _ s₃ =>
    wpAny (model X.prog X.w) X.A (handleBy e X.env [.ExceptHandler (some (.Name x np)) (some n) [.Assign [.Name y p1] (.Name n p2) p3] pos']) (SP X pins D) X.xe s₃) X.xe s₂) X.xe s₁) (fun u s' xx => ?_) PassesOwn.looking).run [] s σ H D (I.toTry _) h) (fun f s1 hsp => ?_) (fun e s1 he => he)
  · obtain ⟨a, B, sI, pins', σ', H', cls, d, rfl, J', nb, up, sky, na, os, ag, C, rfl, hb1, hyes⟩ := xx
    have J : Inv X pins σ' H' sI := J'.ofTry ok
    have sky' : Sky B (X.env :: X.outer) a (Zc (.ref C) d) X.env.locals s'.heap := by rw [← hs]; exact sky
    show wpAny (model X.prog X.w) X.A (noteFrame (.ref a) X.env) _ _ _
    refine Sky.land Zc.steady hfr hf sky' fun h3 fl3 up3 => ?_
    have J3 : Inv X pins σ' H' { s' with heap := h3 } := J.landed nb fl3.1 (up.trans up3) os ag
    obtain ⟨oe3, vs3, he3, hz3, hd3⟩ := fl3.there
    have notFr : a ∉ frs (X.env :: X.outer) := fun hm => by
      obtain ⟨_, o', e', hnf⟩ := fl3.2.2.1.mem hm
      rw [he3] at e'; cases e'
      exact hnf _ hd3
    have nL : a ≠ X.env.locals := fun z => notFr (List.mem_filterMap.mpr ⟨X.env, List.mem_cons_self, by rw [hf, z]⟩)
    have nF : a ∉ X.fs := fun hm => by
      obtain ⟨e, he, q⟩ := List.mem_filterMap.mp hm
      exact notFr (List.mem_filterMap.mpr ⟨e, List.mem_cons_of_mem _ he, q⟩)
    have nB : B.get? a = none := fl3.2.1
    have nI : sI.heap.get? a = none := by
      cases e : sI.heap.get? a with
      | none => rfl
      | some o => rw [nb a o e (by rw [hs]; exact notFr)] at nB; cases nB
    have n0 : X.s_0.heap.get? a = none := by
      cases e : X.s_0.heap.get? a with
      | none => rfl
      | some o =>
        obtain ⟨o', q⟩ := J.base.there a o e (by rw [hex]; simp)
        rw [nI] at q; cases q
    have npin : ∀ p ∈ X.pn ++ pins, p.1 ≠ a := fun p hp z => by
      have q := (J.pin p hp).1
      rw [z, nI] at q; cases q
    have S3 := J3.suite he3 hd3 na nL nF
    refine wpAny_handleBy_cons (codeAny_handlers_test ?_) (by intro q; cases q)
    have LT : PySem.W.Looks (model X.prog X.w) h3 (typeOf (.ref a)) (.ref C) := fun A Q E s k q => wpAny_typeOf_ref (k _ _ he3) (by rw [hz3.1]; exact q)
    have LM := PySem.W.exm_one (M := model X.prog X.w) (J3.kIn) LT hb1
    have test : ∀ {Q : Value → Shared → Prop} {E : Value → Shared → Prop}, Q c { s' with heap := h3 } → wpAny (model X.prog X.w) (X.A.mark (some (.ref a))) (eval (.Name x np) X.env) Q E { s' with heap := h3 } := fun {Q E} q => by
      obtain ⟨hg, hdbg, hm | ⟨hm, hv, hnn⟩⟩ := hc
      · exact ld_glob (X := X.suite a ((a, oe3) :: (X.pn ++ pins))) S3 hg hm q hdbg
      · exact ld_blt (X := X.suite a ((a, oe3) :: (X.pn ++ pins))) S3 hg hm hv q hnn hdbg
    refine test (LM.here ?_)
    refine codeAny_handlers_suite_as ?_
    refine HandSPX.lands_againZ fl3 fun h4 fl4 up4 => ?_
    have J4 : Inv X pins σ' H' { s' with heap := h4 } := J.landed nb fl4.1 ((up.trans up3).trans up4) os ag
    obtain ⟨oe4, vs4, he4, hz4, hd4⟩ := fl4.there
    have S4 := J4.suite he4 hd4 na nL nF
    refine store_ok (X := X.suite a ((a, oe4) :: (X.pn ++ pins))) (v := .ref a) S4 hN hi (.inl hln) rfl (fun s5 S5 => ?_) (.inr hln)
    have hlenσ : i < σ'.length := by rw [J.len]; exact hlen
    have hset : (σ'.set i (some (V.ref a)))[i]? = some (some (V.ref a)) := List.getElem?_set_self hlenσ
    have pb : PSs (X.suite a ((a, oe4) :: (X.pn ++ pins))) [.Assign [.Name y p1] (.Name n p2) p3] (tAsg (tVar i) (L2.gName j)) := pss_one (ps_set (X := X.suite a ((a, oe4) :: (X.pn ++ pins))) hN hj (.inl hlj) (pe_var hi (.inl hln) hd hcd) hsw (.inr hlj))
    refine wpAny_mono (pb.run [] s5 _ H' { nx := fun σ2 H2 => σ2 = (σ'.set i (some (V.ref a))).set j (some (V.ref a)) ∧ H2 = H', rt := fun _ _ => False } S5 ⟨_, hset, rfl, rfl⟩) (fun f s6 hsp => ?_) (fun _ _ z => False.elim z)
    cases f with
    | next =>
      obtain ⟨σ6, H6, S6, e6, e7⟩ := hsp
      rw [e7] at S6
      refine gone_ok (X := X.suite a ((a, oe4) :: (X.pn ++ pins))) S6 hN hi hln fun s7 S7 => ?_
      have he7 : s7.heap.get? a = some oe4 := (S7.pin (a, oe4) (List.mem_append_left _ List.mem_cons_self)).1
      have J7 := S7.unsuite ok
      refine ⟨_, _, inv_track J7 he7 hz4 hd4 na n0 nL npin, ?_⟩
      rw [e6, List.set_comm _ _ hij, List.set_set]
      exact hyes a na hlenσ (by rw [J.len]; exact (List.getElem?_eq_some_iff.mp hj).1)
    | brk => obtain ⟨_, _, _, q⟩ := hsp; exact q.elim
    | cont => obtain ⟨_, _, _, q⟩ := hsp; exact q.elim
    | ret u => obtain ⟨_, _, _, _, _, q⟩ := hsp; exact q.elim
  · cases f with
    | next =>
      obtain ⟨σ', H', J', q⟩ := hsp
      exact wpAny_execs_nil ⟨σ', H', J'.ofTry ok, q⟩
    | brk =>
      obtain ⟨σ', H', J', q⟩ := hsp
      exact ⟨σ', H', J'.ofTry ok, q⟩
    | cont =>
      obtain ⟨σ', H', J', q⟩ := hsp
      exact ⟨σ', H', J'.ofTry ok, q⟩
    | ret u =>
      obtain ⟨v, σ', H', J', r, q⟩ := hsp
      exact ⟨v, σ', H', J'.ofTry ok, r, q⟩
/-- what a def makes of a lambda that gives the caught exception back, or None -/
def TTc (K : PySem.W.Frag) (CS : Addr) : (L2.XK → Hp → VK → Prop) → Hp → VK → Prop := fun tl H Q =>
  tl (fun cls d H' => ∃ C, cls = .ref C ∧ PySem.W.exmOne K cls (.ref CS) = some true ∧ ∀ a, H' a = none → Q (.ref a) (upd H' a (ExcOb C d a))) H fun _ H' => Q .non H'
/-- the def that calls what it got; Pr: what of the heap the calling leans on -/
def GivesP (X : Cx) (Ng : List Str) (x : Str) (sg : Scope) (g : Addr) (cdg : Value) (bg : List Stmt) (a : Str) (TT : (L2.XK → Hp → VK → Prop) → Hp → VK → Prop) : Prop :=
  ∀ (f : Addr) (Pr : Hp → Prop) (s : Shared) (H : Hp) (Q : VK) (tl : L2.XK → Hp → VK → Prop),
    (∀ (W : WX) (pn : List (Addr × Obj)) (xe : Value → Shared → Prop) (E : L2.XK) (p1 p2 : Pos), Takes ((cxOf C8.CX0 X.prog X.w X.K X.mg X.base Ng x sg g cdg X.A X.stack s H C8.E0).tr pn xe) W → (∀ cls d σ' H', E cls d H' → W cls d σ' H') →
      PE ((cxOf C8.CX0 X.prog X.w X.K X.mg X.base Ng x sg g cdg X.A X.stack s H C8.E0).tr pn xe) (.Call (.Name a p1) [] [] p2) (fun σZ HZ Q => σZ[0]? = some (some (.ref f)) ∧ Pr HZ ∧ tl E HZ Q)) →
    Pr H → TT tl H Q →
    ∃ t, PSs (cxOf C8.CX0 X.prog X.w X.K X.mg X.base Ng x sg g cdg X.A X.stack s H C8.E0).nox bg t ∧ t { nx := fun _ H' => Q .non H', rt := Q } (L2.start Ng [.ref f]) H
theorem caught_gives {X : Cx} {Ng : List Str} {x a e cn en : Str} {sg : Scope} {g CS : Addr} {cdg : Value} {j0 : Nat} {p1 p2 p3 p4 p5 p6 p7 p8 p9 p10 p11 p12 p13 p14 p15 : Pos} (hnd : Ng.Nodup) (hNg : Ng = [a, cn, en]) (hsk : sg.kind = .function) (hca : sg.names.lookup cn = some .local) (hea : sg.names.lookup en = some .local) (hge : sg.names.lookup e = some .globalImplicit) (hme : X.mg e = some (.ref CS)) (hde : (e == ("__debug__" : Str)) = false)
    (hd1 : (cn == ("__debug__" : Str)) = false) (hd2 : (cn == ("__classdict__" : Str)) = false) (hd3 : (en == ("__debug__" : Str)) = false) (hd4 : (en == ("__classdict__" : Str)) = false)
    (hw1 : ∀ env : Env, swapsWith (.Constant .none j0 p1) (some (.Name cn p2)) p3.line env = pure false) (hw2 : ∀ env : Env, swapsWith (.Name en p4) (some (.Name cn p5)) p6.line env = pure false) (hw3 : ∀ env : Env, swapsWith (.Call (.Name a p7) [] [] p8) none p9.line env = pure false) :
    GivesP X Ng x sg g cdg [.Assign [.Name cn p2] (.Constant .none j0 p1) p3, .Try [.Expr (.Call (.Name a p7) [] [] p8) p9] [.ExceptHandler (some (.Name e p10)) (some en) [.Assign [.Name cn p5] (.Name en p4) p6] p11] [] [] p12, .Return (some (.Name cn p13)) p14] a (TTc X.K CS) := by
  intro f Pr s H Q tl act hc h
  subst hNg
  have hgl : Gl (cxOf C8.CX0 X.prog X.w X.K X.mg X.base [a, cn, en] x sg g cdg X.A X.stack s H C8.E0).nox e := hge
  refine ⟨_, pss_cons (ps_set (X := (cxOf C8.CX0 X.prog X.w X.K X.mg X.base [a, cn, en] x sg g cdg X.A X.stack s H C8.E0).nox) (i := 1) hnd rfl (.inl hca) pe_non (hw1 _) (.inl rfl))
    (pss_cons (ps_try_keep (X := (cxOf C8.CX0 X.prog X.w X.K X.mg X.base [a, cn, en] x sg g cdg X.A X.stack s H C8.E0).nox) (c := .ref CS) (i := 2) (j := 1)
      (tb := fun W D σ H => ∃ Ech : L2.XK, (∀ cls d σ' H', Ech cls d H' → W cls d σ' H') ∧ σ[0]? = some (some (.ref f)) ∧ Pr H ∧ tl Ech H fun _ H1 => D.nx σ H1)
      rfl rfl hnd rfl hea rfl hca ⟨hgl, hde, .inl hme⟩ rfl hd4 hd3 (by decide) (by show 2 < [a, cn, en].length; simp) (fun W pn xe tk _ => ?_) (hw2 _))
      (pss_one (ps_ret (pe_var (i := 1) rfl (.inl hca) hd1 hd2)))), ?_⟩
  · refine ⟨fun pins s' σ H' D I h' => ?_⟩
    obtain ⟨Ech, hW, h1, h2, h3⟩ := h'
    have hp := act W pn xe Ech p7 p8 tk hW
    have hq := pss_one (ps_expr (pos := p9) hp (hw3 _))
    exact hq.run pins s' σ H' D I ⟨h1, h2, h3⟩
  · refine ⟨fun cls d H' => ∃ C, cls = .ref C ∧ PySem.W.exmOne X.K cls (.ref CS) = some true ∧ ∀ a, H' a = none → Q (.ref a) (upd H' a (ExcOb C d a)), fun cls d σ' H' ⟨C, e1, e2, e3⟩ => ⟨C, e1, e2, fun b hb hl1 hl2 => ⟨.ref b, ?_, e3 b hb⟩⟩, rfl, hc, ?_⟩
    · rw [List.getElem?_set_ne (by decide), List.getElem?_set_self hl2]
    · refine cast (congrArg (tl _ H) (funext fun _ => funext fun H1 => propext ⟨fun hq => ⟨.non, rfl, hq⟩, fun ⟨v, e, hq⟩ => ?_⟩)) h
      have e : some (some V.non) = some (some v) := e
      cases e
      exact hq
end
end RX

set_option Elab.async false
set_option linter.all false
set_option maxRecDepth 100000
set_option maxHeartbeats 4000000
/-! RXL: a lambda handed to the def that catches. -/
namespace RX
open PySem PySem.Spec PyProof.Rows L2 PL
/-- behind the making of a lambda: nothing but the table at P and its code object at c0, which may be new -/
def LamH (P : Addr) (q : Str) (c0 : Addr) (H H1 : Hp) : Prop := (H1 = H ∧ ∃ (ps : Array Value) (pos : Pos), H P = some (.tbl ps) ∧ codeAmong pos ps.toList = some (.ref c0)) ∨
  ∃ (ps ps' : Array Value), H P = some (.tbl ps) ∧ H c0 = none ∧ c0 ≠ P ∧ TriplesOk ps'.toList ∧ (∀ (pos : Pos) (cv : Value), codeAmong pos ps'.toList = some cv → codeAmong pos ps.toList = some cv ∨ cv = .ref c0) ∧ H1 = upd (upd H P (.tbl ps')) c0 (LamX.CodeO c0 q)
section
variable {X : Cx} {pins : List (Addr × Obj)} {σ : L2.St} {H : Hp} {s : Shared}
theorem lam_make3 {Tb : List (Addr × Str)} {c P : Addr} {params : Arguments} {body : Expr} {scope : Scope} {pos : Pos} {E Q : Value → Shared → Prop} (I : Inv X pins σ H s) (TB : LamX.TabB X.base X.mg c P) (hcode : X.env.code = .ref c)
    (hm : (P, X.env.qual ++ "<lambda>") ∈ Tb) (hu : ∀ p ∈ Tb, p.1 = P → p.2 = X.env.qual ++ "<lambda>") (hT : LamX.Tabs Tb H) (hdef : defaultsOf params X.env = ([], [])) (hfree : ∀ y ∈ scope.names, y.2 = .free → ∃ c, X.env.cells.lookup y.1 = some c)
    (h : ∀ (f c' : Addr) (pm ctv : Value) (H1 : Hp) (s' : Shared), Inv X pins σ H1 s' → LamH P (X.env.qual ++ "<lambda>") c' H H1 → LamX.Tabs Tb H1 →
      s'.heap.get? f = some (PySem.W.kla_obj "<lambda>" (X.env.qual ++ "<lambda>") params body scope (cloFrom X.env.cells scope.names []) pm c' ctv) → H1 f = none → f ∉ frs X.stack → H1 c' = some (LamX.CodeO c' (X.env.qual ++ "<lambda>")) → s.heap.objs.size ≤ f → Q (.ref f) s') :
    wpAny (model X.prog X.w) X.A (eval (.Lambda params body scope pos) X.env) Q E s := by
  obtain ⟨ps, hP, ht, ha⟩ := hT _ hm
  refine PySem.W.kla_eval hdef ?_
  have bP : s.heap.BuiltinsAt X.mg P := TB.bm.keeps I.bk
  have hP' : s.heap.get? P = some { cls := .none, data := .fields ps } := I.hok P _ hP
  have apart : ∀ f, s.heap.objs.size ≤ f → f ∉ frs X.stack := fun f hf z => by
    rcases List.mem_cons.mp (I.stkSub _ z) with e | e
    · have hlt := I.lt
      rw [← e] at hlt
      exact absurd (Nat.lt_of_lt_of_le hlt hf) (Nat.lt_irrefl _)
    · exact I.nofs hf e
  cases hc : codeAmong pos ps.toList with
  | some cv =>
    obtain ⟨c', e, hco⟩ := ha pos cv hc
    subst e
    refine PySem.W.kla_makeFunctionHit (mg := X.mg) (c := c) (P := P) (ps := ps) (closure_ok hfree) I.ok.glob (I.mod.glob.keeps I.bk) hcode (TB.code.keeps I.bk) hP' ht hc bP fun ctv h' tk hx hsz => ?_
    exact h h'.objs.size c' ((X.mg "__name__").getD .none) ctv H _ (I.kept (h' := h'.push _) (t' := tk) fun b o e => Heap.get?_push_of_some _ (hx b o e)) (.inl ⟨rfl, ps, pos, hP, hc⟩) hT (Heap.get?_push_size _ rfl) (I.hok.fresh hsz) (apart _ hsz) hco hsz
  | none =>
    refine PySem.W.kla_makeFunction (mg := X.mg) (c := c) (P := P) (ps := ps) (closure_ok hfree) I.ok.glob (I.mod.glob.keeps I.bk) hcode (TB.code.keeps I.bk) hP' ht hc TB.gP bP fun c' ctv h' tk hx hge hlt hrec htb => ?_
    obtain ⟨c2, oc, vs, t, e2, hoc, hd, hv⟩ := hrec
    cases e2
    have nC : H c' = none := I.hok.fresh hge
    have nP : c' ≠ P := Ne.symm (ne_of_none hP nC)
    have hE : ∀ b o, H b = some o → b ≠ P → (upd (upd H P (.tbl (ps ++ #[rawInt pos.line, rawInt pos.col, .ref c']))) c' (LamX.CodeO c' (X.env.qual ++ "<lambda>"))) b = some o := fun b o e n => by
      rw [upd_ne (ne_of_none e nC), upd_ne n]; exact e
    have nCode : ∀ c0 q, H c0 = some (LamX.CodeO c0 q) → c0 ≠ P := fun c0 q e z => by
      rw [z, hP] at e
      exact LamX.codeO_ne ps (Option.some.inj e).symm
    have eL : (ps ++ #[rawInt pos.line, rawInt pos.col, .ref c']).toList = ps.toList ++ [rawInt pos.line, rawInt pos.col, .ref c'] := by simp
    have I1 := LamX.inv_table (t' := tk) (more := #[rawInt pos.line, rawInt pos.col, .ref c']) (h' := h'.push (PySem.W.kla_obj "<lambda>" (X.env.qual ++ "<lambda>") params body scope (cloFrom X.env.cells scope.names []) ((X.mg "__name__").getD .none) c' ctv)) (q := X.env.qual ++ "<lambda>") I hP
      (fun b o hb e => Heap.get?_push_of_some _ (hx b o hb e)) (Heap.get?_push_of_some _ htb) hge ⟨oc, vs, t, Heap.get?_push_of_some _ hoc, hd, hv⟩
    have hsz : s.heap.objs.size ≤ h'.objs.size := Nat.le_trans hge (Nat.le_of_lt hlt)
    refine h h'.objs.size c' ((X.mg "__name__").getD .none) ctv _ _ I1 (.inr ⟨ps, _, hP, nC, nP, by rw [eL]; exact PySem.TriplesOk_snoc _ _ _ _ ht, fun p' cv hcv => by rw [eL] at hcv; exact LamX.among_app _ ht hcv, rfl⟩) (fun p hp => ?_) (Heap.get?_push_size _ rfl) ?_ (apart _ hsz) upd_same hsz
    · by_cases hb : p.1 = P
      · rw [hu p hp hb, hb]
        refine ⟨_, by rw [upd_ne (Ne.symm nP), upd_same], by rw [eL]; exact PySem.TriplesOk_snoc _ _ _ _ ht, fun p' cv hcv => ?_⟩
        rw [eL] at hcv
        rcases LamX.among_app _ ht hcv with z | z
        · obtain ⟨c0, e1, e2⟩ := ha p' cv z
          exact ⟨c0, e1, hE _ _ e2 (nCode _ _ e2)⟩
        · exact ⟨c', z, upd_same⟩
      · obtain ⟨ps', a1, a2, a3⟩ := hT p hp
        refine ⟨ps', hE _ _ a1 hb, a2, fun p' cv hcv => ?_⟩
        obtain ⟨c0, e1, e2⟩ := a3 p' cv hcv
        exact ⟨c0, e1, hE _ _ e2 (nCode _ _ e2)⟩
    · have n1 : h'.objs.size ≠ c' := Nat.ne_of_gt hlt
      have n2 : h'.objs.size ≠ P := Nat.ne_of_gt (Nat.lt_of_lt_of_le (Heap.lt_size hP') hsz)
      rw [upd_ne n1, upd_ne n2]
      exact I.hok.fresh hsz
/-- the reading of x(lambda: body): the heap behind the making is told exactly -/
def tLam3 (Tb : List (Addr × Str)) (P : Addr) (q : Str) (TTx : (L2.XK → Hp → VK → Prop) → Hp → VK → Prop) (t : L2.XK → TE) : TE := fun σ H Q => LamX.Tabs Tb H ∧ ∀ c0 H1, LamH P q c0 H H1 → LamX.Tabs Tb H1 → TTx (fun E H' Q' => t E σ H' Q') H1 Q
theorem pe_lamcall3 {Tb : List (Addr × Str)} {TTx : (L2.XK → Hp → VK → Prop) → Hp → VK → Prop} {x a : Str} {g c P : Addr} {k : Nat} {pg : Arguments} {bg : List Stmt} {sg : Scope} {dV kV doc pm cdv ct oc : Value} {an od : Option Addr} {osl : Array (Option Value)} {Ng : List Str}
    {params : Arguments} {body : Expr} {scope : Scope} {t : L2.XK → TE} {p lpos pos : Pos} (hg : Gl X x) (hm : X.mg x = some (.ref g)) (hk : PySem.W.keepIn X.K (.ref g) = true)
    (lk : X.K.lookup g = some ⟨oc, od, .func (PySem.W.fnOf x x pg bg sg dV kV doc pm an cdv ct), osl⟩) (hcg : PySem.W.codeIn X.K cdv x = true) (hb : L2.Binds X.K (PySem.W.fnOf x x pg bg sg dV kV doc pm an cdv ct) [a] []) (Sg : FnScope Ng [a] sg) (hNg : Ng[0]? = some a) (hva : Vis sg a)
    (hG : GivesP X Ng x sg g cdv bg a TTx)
    (TB : LamX.TabB X.base X.mg c P) (hcode : X.env.code = .ref c) (hmT : (P, X.env.qual ++ "<lambda>") ∈ Tb) (hu : ∀ p ∈ Tb, p.1 = P → p.2 = X.env.qual ++ "<lambda>") (hr : Room (k + 2) X.A) (L : LamX.LamS X.env.scope scope) (hdef : defaultsOf params X.env = ([], []))
    (hbind : ∀ (q : Str) (cl : List (Str × Addr)) (pm cv ctv : Value), bindArgs (PySem.W.kla_fn "<lambda>" q params body scope cl pm cv ctv) ⟨[], []⟩ = pure [])
    (hbody : ∀ (A : Around) (outer : List Env) (s : Shared) (H : Hp) (E : L2.XK) (f c' : Addr), Room k (A.deeper (LamX.lamEnv X scope s.heap.objs.size f c')) → PE (LamX.lamCx X A outer s H E scope f c') body (t E))
    (hdb : (x == ("__debug__" : Str)) = false) (hd : (a == ("__debug__" : Str)) = false) (hcd : (a == ("__classdict__" : Str)) = false) :
    PE X (.Call (.Name x p) [.Lambda params body scope lpos] [] pos) (tLam3 Tb P (X.env.qual ++ "<lambda>") TTx t) := by
  refine ⟨fun pins s σ H Q I ⟨hT, h⟩ => ?_⟩
  refine wpAny_Call_Name_kw (ld_glob I hg hm ?_ hdb)
  refine PySem.W.callWith_K (h₀ := X.base) I.ok.mod.kin hk ?_ (by rfl) (by rfl)
  show wpAny _ _ (spliced ((false, eval (.Lambda params body scope lpos) X.env) :: backTo pos (starEach [] X.env))) _ _ s
  refine Calls.spliced_cons (lam_make3 I TB hcode hmT hu hT hdef (L.has I.ok) fun f c' pm' ctv H1 s' I1 eN T1 hf hfn hfr hco _ => Calls.spliced_nil ⟨I1.kIn, ?_⟩)
  have run : codeAny (model X.prog X.w) X.A (.call (.ref g) ⟨[.ref f], []⟩) (CR C8.CX0 X.stack X.prog X.w H1 s' Q C8.E0) s' := by
    refine LamX.run_ofS (N := Ng) (ps := [a]) (us := [.ref f]) (vs := [.ref f]) lk hcg Sg hr I1.env0 (hb s' [.ref f] I1.kIn rfl) (.cons rfl .nil) rfl fun hr' => ?_
    obtain ⟨t', ht', hq'⟩ := hG f (fun H => H c' = some (LamX.CodeO c' (X.env.qual ++ "<lambda>"))) s' H1 Q (fun E H' Q' => t E σ H' Q') (fun W pn xe E p1 p2 tk hW => LamX.pe_act (i := 0) I1 L hf hfn hfr (hbind _ _ _ _ _) tk hW hr' (fun A outer s H hr2 => hbody A outer s H E f c' hr2) hNg hva hd hcd) hco (h c' H1 eN T1)
    exact ⟨t', ht'.nox, hq'⟩
  refine wpAny_call (codeAny_mono run fun r s2 hq => ?_)
  cases r with
  | error e => exact (show False from hq).elim
  | ok fl => cases fl <;> first | exact I1.after hq | exact False.elim hq
end
/-! ### the tables as a ghost -/
def TabP (tb : List (Addr × Str)) (F H : Hp) (fp : List Addr) : Prop := fp = tb.map (·.1) ∧ ∀ p ∈ tb, ∃ ps : Array Value, H p.1 = some (.tbl ps) ∧ TriplesOk ps.toList ∧ ∀ (pos : Pos) (cv : Value), codeAmong pos ps.toList = some cv → ∃ c, cv = .ref c ∧ F c = some (LamX.CodeO c p.2)
def Tab {T : Tx} (tb : List (Addr × Str)) : Ab T := ⟨fun F H d _ fp => d = .non ∧ TabP tb F H fp, fun F H F' H' d v fp ⟨e, e2, h⟩ hF hk => ⟨e, e2, fun p hp => by
  obtain ⟨ps, h1, h2, h3⟩ := h p hp
  refine ⟨ps, hk _ _ (by rw [e2]; exact List.mem_map_of_mem hp) h1, h2, fun pos cv hc => ?_⟩
  obtain ⟨c, a1, a2⟩ := h3 pos cv hc
  exact ⟨c, a1, hF _ _ a2⟩⟩⟩
theorem TabP.tabs {tb : List (Addr × Str)} {F H : Hp} {fp : List Addr} (h : TabP tb F H fp) (hF : Fle F H) : LamX.Tabs tb H := fun p hp => by
  obtain ⟨_, h⟩ := h
  obtain ⟨ps, h1, h2, h3⟩ := h p hp
  exact ⟨ps, h1, h2, fun pos cv hc => by
    obtain ⟨c, a1, a2⟩ := h3 pos cv hc
    exact ⟨c, a1, hF _ _ a2⟩⟩
end RX

set_option Elab.async false
set_option linter.all false
set_option maxRecDepth 100000
set_option maxHeartbeats 4000000
/-! RXM: the caught exception as a value of an expression. -/
namespace RX
open PySem PySem.Spec PyProof.Rows L2 PL
section
variable {X : Cx} {T : Tx} {W : WX} {Γ : List (Kd T)} {pos : Pos} {a b c tg iter : Expr} {m : EX}
/-- a ghost's objects changed, more of them -/
theorem Sta.ghW {A : Ab T} {fp : Nat → List Addr} {F H H' : Hp} {σ : L2.St} {s : En} {i : Nat} {d : D} {fn : List Addr} (S : Sta T Γ fp F H σ s) (hk : Γ[i]? = some (.gh A)) (h : s[i]? = some (some d)) (hP : A.P F H' d .non fn) (hn : ∀ b ∈ fn, b ∈ fp i ∨ H b = none) (hd : ∀ b o, H b = some o → b ∉ fp i → H' b = some o) (hdom : ∀ b, H' b = none → H b = none) (hs : ∀ b ∈ fn, ∃ o, H' b = some o) :
    ∃ fp', Go fp fp' F F H H' ∧ Sta T Γ fp' F H' σ s := by
  have nin : ∀ j b, i ≠ j → b ∈ fp j → b ∉ fp i := fun j b hj hb hi => hj (S.dis i j b hi hb)
  have nF : ∀ b ∈ fn, F b = none := fun b hb => by
    rcases hn b hb with z | z
    · exact (S.slot_none z).1
    · exact S.sub.none z
  have hi : i < s.length := (List.getElem?_eq_some_iff.mp h).1
  have nfn : ∀ j b, i ≠ j → b ∈ fp j → b ∉ fn := fun j b hj hb hf => by
    rcases hn b hf with z | z
    · exact nin j b hj hb z
    · obtain ⟨_, o, q⟩ := S.slot_none hb; rw [z] at q; cases q
  refine ⟨fun k => if k = i then fn else fp k, ⟨fun b o hb hnn => hd b o hb (hnn i), hdom, Fle.refl F, fun _ _ h => .inl h, fun k b hb => ?_⟩, ⟨fun b o hb => hd b o (S.sub b o hb) (fun z => by rw [(S.slot_none z).1] at hb; cases hb), S.ls, S.lg, fun j od ov k h1 h2 h3 => ?_, fun j hj => ?_, fun j j' b hb hb' => ?_⟩⟩
  · try dsimp only at hb
    split at hb
    · rename_i e; rw [e]; exact hn b hb
    · exact .inl hb
  · by_cases e : i = j
    · subst e
      rw [h] at h1; cases h1
      rw [hk] at h3; cases h3
      rw [if_pos rfl]
      have w := S.ok i _ _ _ h h2 hk
      exact ⟨w.1, hP, fun b hb => ⟨nF b hb, hs b hb⟩⟩
    · rw [if_neg (Ne.symm e)]
      have w := S.ok j od ov k h1 h2 h3
      have kk : ∀ b o, b ∈ fp j → H b = some o → H' b = some o := fun b o hb ho => hd b o ho (nin j b e hb)
      unfold SlotOk at w ⊢
      cases od with
      | none => exact w
      | some d'' =>
        cases k with
        | fz => exact w
        | own =>
          obtain ⟨b, ds', vs', e1, e2, e3, e4, e5, e6⟩ := w
          exact ⟨b, ds', vs', e1, e2, e3, kk b _ (by rw [e3]; simp) e4, e5, e6⟩
        | ab A2 =>
          obtain ⟨v2, e1, e2, e3⟩ := w
          exact ⟨v2, e1, A2.loc _ _ _ _ _ _ _ e2 (Fle.refl F) fun b o hb ho => kk b o hb ho, fun b hb => ⟨(e3 b hb).1, let ⟨o, ho⟩ := (e3 b hb).2; ⟨o, kk b o hb ho⟩⟩⟩
        | gh A2 =>
          obtain ⟨e1, e2, e3⟩ := w
          exact ⟨e1, A2.loc _ _ _ _ _ _ _ e2 (Fle.refl F) fun b o hb ho => kk b o hb ho, fun b hb => ⟨(e3 b hb).1, let ⟨o, ho⟩ := (e3 b hb).2; ⟨o, kk b o hb ho⟩⟩⟩
        | hid => exact w
  · rw [if_neg (by omega)]; exact S.out j hj
  · try dsimp only at hb hb'
    split at hb
    · rename_i e1
      split at hb'
      · rename_i e2; rw [e1, e2]
      · rename_i e2
        exact absurd hb (nfn j' b (fun z => e2 z.symm) hb')
    · rename_i e1
      split at hb'
      · exact absurd hb' (nfn j b (fun z => e1 z.symm) hb)
      · exact S.dis j j' b hb hb'
def WEx (E : L2.XK) : WX := fun cls d _ H' => E cls d H'
/-- the slots behind the making of a lambda -/
theorem Sta.made {fp : Nat → List Addr} {F H H1 : Hp} {σ : L2.St} {s : En} {tb : List (Addr × Str)} {P c0 : Addr} {q : Str} {gh : Nat} (S : Sta T Γ fp F H σ s) (hg : Γ[gh]? = some (.gh (Tab tb))) (e0 : s[gh]? = some (some .non)) (hm : (P, q) ∈ tb) (hu : ∀ p ∈ tb, p.1 = P → p.2 = q) (hl : LamH P q c0 H H1) :
    ∃ fp1 F1, Go fp fp1 F F1 H H1 ∧ Sta T Γ fp1 F1 H1 σ s ∧ F1 c0 = some (LamX.CodeO c0 q) := by
  have hi : gh < s.length := (List.getElem?_eq_some_iff.mp e0).1
  have hσ : gh < σ.length := by rw [S.ls]; exact hi
  obtain ⟨_, ⟨_, e2, h⟩, _⟩ := S.ok gh _ _ _ e0 (List.getElem?_eq_getElem hσ) hg
  rcases hl with ⟨rfl, ps, pos, hP, hc⟩ | ⟨ps, ps', hP, nC, nP, ht, hc, rfl⟩
  · obtain ⟨ps1, a1, a2, a3⟩ := h _ hm
    dsimp only at a1
    rw [hP] at a1
    cases a1
    obtain ⟨c, b1, b2⟩ := a3 pos _ hc
    cases b1
    exact ⟨fp, F, Go.refl, S, b2⟩
  · have px := PX.alloc (o := LamX.CodeO c0 q) S.sub nC
    have S1 := px.sta S
    obtain ⟨_, ⟨_, e2', h'⟩, _⟩ := S1.ok gh _ _ _ e0 (List.getElem?_eq_getElem hσ) hg
    have eH : upd (upd H P (.tbl ps')) c0 (LamX.CodeO c0 q) = upd (upd H c0 (LamX.CodeO c0 q)) P (.tbl ps') := by
      funext b
      by_cases h1 : b = c0
      · subst h1; rw [upd_same, upd_ne nP, upd_same]
      · by_cases h2 : b = P
        · subst h2; rw [upd_ne h1, upd_same, upd_same]
        · rw [upd_ne h1, upd_ne h2, upd_ne h2, upd_ne h1]
    rw [eH]
    have fpP : P ∈ fp gh := by rw [e2]; exact List.mem_map_of_mem (f := (·.1)) hm
    obtain ⟨fp2, g2, S2⟩ := S1.ghW (H' := upd (upd H c0 (LamX.CodeO c0 q)) P (.tbl ps')) hg e0 (fn := fp gh) ⟨rfl, e2, fun p hp => by
      obtain ⟨ps1, a1, a2, a3⟩ := h' p hp
      by_cases hb : p.1 = P
      · have hq := hu p hp hb
        rw [hb, hq]
        rw [hb, upd_ne (Ne.symm nP), hP] at a1
        cases a1
        refine ⟨ps', upd_same, ht, fun pos cv hcv => ?_⟩
        rcases hc pos cv hcv with z | z
        · obtain ⟨c, b1, b2⟩ := a3 pos cv z
          rw [hq] at b2
          exact ⟨c, b1, b2⟩
        · exact ⟨c0, z, upd_same⟩
      · exact ⟨ps1, by rw [upd_ne hb]; exact a1, a2, a3⟩⟩ (fun b hb => .inl hb) (fun b o e n => by rw [upd_ne (fun z => n (by rw [z]; exact fpP))]; exact e) (fun b e => by
        by_cases hb : b = P
        · rw [hb, upd_same] at e; cases e
        · rw [upd_ne hb] at e; exact e) (fun b hb => by
        obtain ⟨_, o, ho⟩ := S1.slot_none hb
        by_cases hb : b = P
        · exact ⟨_, by rw [hb, upd_same]⟩
        · exact ⟨o, by rw [upd_ne hb]; exact ho⟩)
    exact ⟨fp2, _, px.go.trans g2, S2, upd_same⟩
theorem Sta.tabs {fp : Nat → List Addr} {F H : Hp} {σ : L2.St} {s : En} {tb : List (Addr × Str)} {gh : Nat} (S : Sta T Γ fp F H σ s) (hg : Γ[gh]? = some (.gh (Tab tb))) (e0 : s[gh]? = some (some .non)) : LamX.Tabs tb H := by
  have hi : gh < s.length := (List.getElem?_eq_some_iff.mp e0).1
  have hσ : gh < σ.length := by rw [S.ls]; exact hi
  obtain ⟨_, ⟨_, hT⟩, _⟩ := S.ok gh _ _ _ e0 (List.getElem?_eq_getElem hσ) hg
  exact hT.tabs S.sub
theorem Po.lat {fp fp1 : Nat → List Addr} {F F1 H H1 : Hp} {σ : L2.St} {A : Type} {r : Res En A} {P : A → En → (Nat → List Addr) → Hp → Hp → Prop} (g : Go fp fp1 F F1 H H1) (h : Po T W Γ fp F H σ r P) : Po T W Γ fp1 F1 H1 σ r P := by
  cases r with
  | ok d s' => exact fun fp' F' H' g2 S' => h fp' F' H' (g.trans g2) S'
  | ex c fs s' => exact fun fp' F' H' od g2 S' => h fp' F' H' od (g.trans g2) S'
  | no => exact h
/-- what is wanted behind the catching def, from what the pure term gives -/
theorem caught_want {K : PySem.W.Frag} {CS : Addr} {cs : List String} {fp : Nat → List Addr} {F H : Hp} {σ : L2.St} {s : En} {Q : VK} (hcs : ∀ c ∈ cs, PySem.W.exmOne K (.ref (T.CA c)) (.ref CS) = some true) (S : Sta T Γ fp F H σ s)
    (h : Po T W Γ fp F H σ (match m s with
      | .ok _ s' => .ok .non s'
      | .ex c fs s' => if cs.contains c then .ok (.exn c fs) s' else .no
      | .no => .no) fun d _ _ F' H' => ∀ v, Rep T F' d v → Q v H') : TTc K CS (fun E H' Q' => reW T (WEx E) Γ m σ H' Q') H Q := by
  refine ⟨fp, F, s, S, ?_⟩
  cases em : m s with
  | ok d s' =>
    rw [em] at h
    exact fun fp' F' H' g S' v _ => h fp' F' H' g S' .non .non
  | ex c fs s' =>
    rw [em] at h
    dsimp only at h
    split at h
    · rename_i hc
      intro fp' F' H' od g S' x
      refine ⟨T.CA c, rfl, hcs c (by simpa using hc), fun a ha => ?_⟩
      have px := PX.alloc (o := ExcOb (T.CA c) od a) S'.sub ha
      refine h fp' _ _ (g.trans px.go) (px.sta S') _ ?_
      rcases x with ⟨rfl, rfl⟩ | ⟨dx, f, d, v, rfl, rfl, hx, r⟩
      · exact .exn0 upd_same
      · exact .exn1 upd_same (px.mono _ _ hx) (r.fle px.mono)
    · exact h.elim
  | no => rw [em] at h; exact h.elim
theorem re_caught {tb : List (Addr × Str)} {P CS : Addr} {q : Str} {K : PySem.W.Frag} {cs : List String} (gh : Nat) (hg : Γ[gh]? = some (.gh (Tab tb))) (hm : (P, q) ∈ tb) (hu : ∀ p ∈ tb, p.1 = P → p.2 = q) (hcs : ∀ c ∈ cs, PySem.W.exmOne K (.ref (T.CA c)) (.ref CS) = some true) :
    RE T W Γ (tLam3 tb P q (TTc K CS) (fun E => reW T (WEx E) Γ m)) (eCaughtL cs gh m) := by
  intro fp F H σ s Q S h
  unfold eCaughtL at h
  split at h
  · rename_i e0
    refine ⟨S.tabs hg e0, fun c0 H1 hl hT1 => ?_⟩
    obtain ⟨fp1, F1, g1, S1, _⟩ := S.made hg e0 hm hu hl
    exact caught_want (W := W) hcs S1 (Po.lat g1 h)
  · exact h.elim
theorem xe_caught {tb : List (Addr × Str)} {c P CS g : Addr} {cs : List String} {k j0 : Nat} {x a e cn en : Str} {fd : FuncData} {pg : Arguments} {sg : Scope} {params : Arguments} {body : Expr} {scope : Scope} {p lpos p1 p2 p3 p4 p5 p6 p7 p8 p9 p10 p11 p12 p13 p14 : Pos} (gh : Nat) (hgh : Γ[gh]? = some (.gh (Tab tb)))
    (Fd : FunD X.K x x pg [.Assign [.Name cn p2] (.Constant .none j0 p1) p3, .Try [.Expr (.Call (.Name a p7) [] [] p8) p9] [.ExceptHandler (some (.Name e p10)) (some en) [.Assign [.Name cn p5] (.Name en p4) p6] p11] [] [] p12, .Return (some (.Name cn p13)) p14] sg [] [] g fd) (hbn : L2.Binds X.K fd [a] []) (Sg : FnScope [a, cn, en] [a] sg) (hva : Vis sg a)
    (hca : sg.names.lookup cn = some .local) (hea : sg.names.lookup en = some .local) (hge : sg.names.lookup e = some .globalImplicit) (hme : X.mg e = some (.ref CS)) (hde : (e == ("__debug__" : Str)) = false)
    (hd1 : (cn == ("__debug__" : Str)) = false) (hd2 : (cn == ("__classdict__" : Str)) = false) (hd3 : (en == ("__debug__" : Str)) = false) (hd4 : (en == ("__classdict__" : Str)) = false)
    (hw1 : ∀ env : Env, swapsWith (.Constant .none j0 p1) (some (.Name cn p2)) p3.line env = pure false) (hw2 : ∀ env : Env, swapsWith (.Name en p4) (some (.Name cn p5)) p6.line env = pure false) (hw3 : ∀ env : Env, swapsWith (.Call (.Name a p7) [] [] p8) none p9.line env = pure false)
    (hg : Gl X x) (hm : X.mg x = some (.ref g)) (TB : LamX.TabB X.base X.mg c P) (hcode : X.env.code = .ref c) (hmT : (P, X.env.qual ++ "<lambda>") ∈ tb) (hu : ∀ p ∈ tb, p.1 = P → p.2 = X.env.qual ++ "<lambda>") (hr : Room (k + 2) X.A) (L : LamX.LamS X.env.scope scope) (hdef : defaultsOf params X.env = ([], []))
    (hbind : ∀ (q : Str) (cl : List (Str × Addr)) (pm cv ctv : Value), bindArgs (PySem.W.kla_fn "<lambda>" q params body scope cl pm cv ctv) ⟨[], []⟩ = pure [])
    (hcs : ∀ c ∈ cs, PySem.W.exmOne X.K (.ref (T.CA c)) (.ref CS) = some true)
    (hbody : ∀ (A : Around) (outer : List Env) (s : Shared) (H : Hp) (E : L2.XK) (f c' : Addr), Room k (A.deeper (LamX.lamEnv X scope s.heap.objs.size f c')) → XE (LamX.lamCx X A outer s H E scope f c') T (WEx E) Γ body m)
    (hdb : (x == ("__debug__" : Str)) = false) (hd : (a == ("__debug__" : Str)) = false) (hcd : (a == ("__classdict__" : Str)) = false) :
    XE X T W Γ (.Call (.Name x p) [.Lambda params body scope lpos] [] pos) (eCaughtL cs gh m) := by
  have kp := Fd.kp
  obtain ⟨oc, od, dV, kV, doc, pm, an, cdv, ct, osl, rfl, lk, hcdv, _, _⟩ := Fd.ex
  exact ⟨_, pe_lamcall3 hg hm kp lk hcdv hbn Sg rfl hva (caught_gives (p15 := p1) Sg.nd rfl Sg.kind hca hea hge hme hde hd1 hd2 hd3 hd4 hw1 hw2 hw3) TB hcode hmT hu hr L hdef hbind (fun A outer s H E f c' hr' => (hbody A outer s H E f c' hr').can) hdb hd hcd, re_caught gh hgh hmT hu hcs⟩
end
end RX

set_option Elab.async false
set_option linter.all false
set_option maxRecDepth 100000
set_option maxHeartbeats 4000000
/-! RXI: isinstance of exceptions that were caught (with a dict or without). -/
namespace RX
open PySem PySem.Spec PyProof.Rows L2 PL
section
open PySem.W PySem.Calls
variable {prog : Program} {w : World} {A : Around} {E : Value → Shared → Prop} {s : Shared} {K : Frag} {x D : Addr} {ox : Obj} {od : Option Obj}
theorem find_cls (C : ExcC K D) : findObj K D od "__class__" = some (.bind (.builtin "getset_descriptor.__get__") (.builtin "object.__class__")) := by
  have hc : (clsIn K D).isSome = true := by obtain ⟨cd, hc, _⟩ := any_some C.hd; rw [hc]; rfl
  cases od with
  | none => exact findObj_dataN hc C.ha C.hn C.ht
  | some o => exact findObj_data hc C.ha C.hn C.ht
theorem cls_asked {Q : Option Value → Shared → Prop} (C : ExcC K D) (X : K.In s.heap) (I : InstAt s.heap x ox D od) (h : Q (some (.ref D)) { s with toks := s.toks + 1 }) : wpAny (model prog w) A (getAttr? (.ref x) "__class__") Q E s := by
  obtain ⟨hp, g, d, t, os⟩ := s
  have T0 := I.type (M := model prog w)
  have T1 := looks_findIn (M := model prog w) X C.hg
  have T2 := looks_findIn (M := model prog w) X C.hk
  have T3 := looks_find (M := model prog w) X I (find_cls C)
  have sb : Looks (model prog w) hp (isInstance (.ref x) (.type "BaseException")) true := T0.andThen (looks_subIn X C.hs)
  have ne : (Value.builtin "BaseException.__getattribute__" == Value.builtin "object.__getattribute__") = false := by decide +kernel
  have ne1 : (onTheHeap (Value.ref D) && Value.builtin "BaseException.__getattribute__" == Value.builtin "object.__getattribute__") = false := by rw [ne]; rfl
  unfold getAttr? getAttrBy? getAttrBy
  refine wpAny_bind (wpAny_mkText (wpAny_bind (wpAny_attempt (wpAny_holding (wpAny_bind (T0.at (wpAny_bind (T1.at ?_))))))))
  show wpAny _ _ (if (onTheHeap (Value.ref D) && Value.builtin "BaseException.__getattribute__" == Value.builtin "object.__getattribute__") = true then _ else _) _ _ _
  rw [ne1, if_neg Bool.false_ne_true]
  unfold getAttrByItsOwn hookBefore
  refine wpAny_bind ?_
  rw [if_pos (show onTheHeap (Value.ref D) = true from rfl)]
  refine T2.at (wpAny_bind (wpAny_attempt (wpAny_holding ?_)))
  unfold callGetattribute
  rw [show (false && onTheHeap (Value.builtin "BaseException.__getattribute__")) = false from rfl, if_neg Bool.false_ne_true]
  unfold boundAndCalled
  rw [PySem.F.excAttr_ValueError.ga.bind (.ref x)]
  refine wpAny_bind (wpAny_pure ?_)
  show wpAny _ _ (call (.builtin "BaseException.__getattribute__") [.ref x, .str "__class__" t]) _ _ _
  refine wpAny_call (codeAny_call_builtin PySem.F.excAttr_ValueError.ga.plain PySem.F.entry_bexc_ga ?_)
  refine @check_slot (model prog w) _ _ ⟨hp, g, d, t + 1, os⟩ "BaseException.__getattribute__" "BaseException" "__getattribute__" (.ref x) [.str "__class__" t] [] _ (by decide +kernel) (by decide +kernel) sb (PySem.F.args_bexc_ga (.ref x) (.str "__class__" t)) ?_
  unfold Builtin.«object.__getattribute__»
  refine wpAny_bind (wpAny_of_eq (a := ((Value.ref x : Value), [Value.str "__class__" t])) (by first | rfl | (simp only [slotArgs]; rfl)) ?_)
  refine wpAny_bind (wpAny_pure (wpAny_bind (T0.at (wpAny_bind (T3.at ?_)))))
  show wpAny _ _ (holding [Value.builtin "object.__class__"] (call (.builtin "getset_descriptor.__get__") [.builtin "object.__class__", .ref x, .ref D]) >>= ret) _ _ _
  refine wpAny_bind (wpAny_holding (wpAny_call (class_get (s := ⟨hp, g, d, t + 1, os⟩) (ox := ox) (od := od) X I C.hm ?_)))
  refine wpAny_pure ?_
  show wpAny _ _ (handedOut (.ref D)) _ _ _
  rw [handedOut_of (v := .ref D) rfl]
  first
    | exact wpAny_pure (wpAny_pure h)
    | exact wpAny_pure h
    | exact wpAny_pure (wpAny_bind (wpAny_pure (wpAny_pure h)))
theorem kit_exc (C : ExcC K D) : KitX K (.ref x) (.ref D) (fun h => InstAt h x ox D od) where
  ty := fun _ _ _ I => I.type
  it := fun _ _ X _ => by
    obtain ⟨cdD, hcD, _⟩ := any_some C.hd
    unfold clsIn at hcD
    split at hcD
    · rename_i c' d' cd' sl' ho
      intro A' Q' E' s' k q
      unfold isType loadHead
      exact wpAny_bind (wpAny_loadPart (k _ _ (X _ _ ho)) (wpAny_pure q))
    · cases hcD
  ne := fun h tp dd its n sl X htp => by
    obtain ⟨cdD, hcD, _⟩ := any_some C.hd
    refine Bool.eq_false_iff.mpr fun q => ?_
    have e : D = tp := Value.ref.inj (beq_iff_eq.mp q)
    subst e
    unfold clsIn at hcD
    split at hcD
    · rename_i c' d' cd' sl' ho
      have z := (X _ _ ho).symm.trans htp
      cases z
    · cases hcD
  ca := fun X I k => cls_asked C X I k
end
/-- isinstance(e, c) of an exception that was caught -/
def rIsX (K : PySem.W.Frag) : List V → Hp → VK → Prop := fun xs H Q => ∃ (a D cv : Addr) (d : Option Addr) (b : Bool), xs = [.ref a, .ref cv] ∧ H a = some (ExcOb D d a) ∧ (∀ dx, d = some dx → ∃ fs, H dx = some (.xd fs)) ∧ ExcC K D ∧ PySem.W.kitOne K (.ref D) (.ref cv) = some b ∧ Q (.bl b) H
theorem call_isX {X : Cx} : CallR X (.builtin "isinstance") (rIsX X.K) := by
  intro pins s σ H xs us Q I r h
  obtain ⟨a, D, cv, d, b, rfl, ha, hx, hC, e, q⟩ := h
  cases r with
  | cons rx rr =>
    cases rr with
    | cons rt rr =>
      cases rr
      cases rx
      cases rt
      obtain ⟨⟨oe, vs, he, hz, hd⟩, _, _⟩ := I.hok a _ ha
      obtain ⟨oc, od, oda, osl⟩ := oe
      obtain ⟨h1, h2⟩ := hz
      dsimp only at h1 h2 hd
      subst h1 h2 hd
      have J : ∃ oo, PySem.W.InstAt s.heap a { cls := .ref D, dict := od, data := .fields vs, slots := osl } D oo := by
        cases od with
        | none => exact ⟨none, he, rfl, rfl, trivial⟩
        | some dx =>
          obtain ⟨fs, hf⟩ := hx dx rfl
          obtain ⟨_, ⟨o, es, ep, ho, _⟩, _⟩ := I.hok dx _ hf
          exact ⟨some o, he, rfl, rfl, ho⟩
      obtain ⟨oo, J⟩ := J
      exact PySem.W.kia_one (kit_exc hC) I.kIn J e (fun z => nomatch z) fun tk => ⟨.bl b, H, I.kept (t' := tk) fun _ _ z => z, rfl, q⟩
/-- e.f of an exception that was caught -/
def tFldX (K : PySem.W.Frag) (f : Str) (te : TE) : TE := fun σ H Q => te σ H fun x H1 => ∃ (a C dd : Addr) (fs : List (Str × V)) (v : V), x = .ref a ∧ H1 a = some (ExcOb C (some dd) a) ∧ XfC K C ∧ PySem.W.findIn K (.ref C) f = some none ∧ H1 dd = some (.xd fs) ∧ fs.lookup f = some v ∧ Q v H1
theorem pe_fldX {X : Cx} {e : Expr} {te : TE} {pos : Pos} {f : Str} (he : PE X e te) (hb : attributeBase e f X.env (eval e X.env) = eval e X.env) : PE X (.Attribute e f pos) (tFldX X.K f te) := by
  refine ⟨fun pins s σ H Q I h => ?_⟩
  refine attr_of hb (thn (he.run pins s σ H _ I h) fun u s1 ⟨x, H1, I1, rx, a, C, dd, fs, v, ex, ha, hT, hno, hdd, hlk, q⟩ => ?_)
  subst ex
  obtain rfl : u = Value.ref a := rx
  obtain ⟨⟨oe, vs, hget, hz, hdat⟩, _, _⟩ := I1.hok a _ ha
  obtain ⟨mA, hns, hr⟩ := (show ObjOk X.prog X.w H1 s1.heap dd (.xd fs) from I1.hok dd _ hdd)
  obtain ⟨o2, ho, hl⟩ := lookIn_ns hns
  obtain ⟨u, hu, ru⟩ := RelO.some_of (v := v) (o := mA f) (by rw [← hlk]; exact hr f)
  have J : PySem.W.InstAt s1.heap a oe C (some o2) := ⟨hget, hz.1, by unfold PySem.W.notCls; rw [hdat] <;> rfl, by rw [hz.2]; exact ho⟩
  exact HandSPX.exc_get I1.kIn J hT.ga hT.gg hT.exC (PySem.W.findObj_own hT.hdC hno rfl (by rw [hl, hu])) (handed_of ru) ⟨v, H1, I1.tok _, ru, q⟩
section
variable {X : Cx} {T : Tx} {W : WX} {Γ : List (Kd T)} {pos : Pos} {e : Expr} {m : EX}
/-- e.f: the classes that bear the field are told by cs -/
theorem xe_fldX {f : String} (hK : X.K = T.K) (cs : List String) (hC : ∀ c ∈ cs, XfC T.K (T.CA c) ∧ PySem.W.findIn T.K (.ref (T.CA c)) (Str.ofString f) = some none) (he : XE X T W Γ e m) (hb : attributeBase e (Str.ofString f) X.env (eval e X.env) = eval e X.env) :
    XE X T W Γ (.Attribute e (Str.ofString f) pos) (e1 (pFldX f cs) m) := by
  obtain ⟨te, p, r⟩ := he
  refine ⟨_, pe_fldX p hb, fun fp F H σ s Q S h => ?_⟩
  refine r fp F H σ s _ S (h.bind.imp fun x s1 fp1 F1 H1 g1 S1 h2 v rv => ?_)
  obtain ⟨d, e3, q⟩ := po_ofO S1 h2
  unfold pFldX at e3
  split at e3
  · rename_i c g d0
    split at e3
    · rename_i hc
      obtain ⟨hc1, hg⟩ : cs.contains c = true ∧ g = f := by simpa using hc
      cases e3
      subst hg
      cases rv with
      | exn1 ha hx rr =>
        obtain ⟨a1, a2⟩ := hC c (by simpa using hc1)
        rw [hK]
        exact ⟨_, _, _, _, _, rfl, S1.sub _ _ ha, a1, a2, S1.sub _ _ hx, by simp [List.lookup], q F1 H1 _ (PX.refl S1.sub) rr⟩
    · cases e3
  · cases e3
/-- isinstance(e, C) with a class of the text: of caught exceptions, and of other data -/
theorem xe_isC {x : Str} {CB : Addr} {p q : Pos} (hK : X.K = T.K) (all cs : List String) (hg : Gl X "isinstance") (hm : X.mg "isinstance" = none) (hg2 : Gl X x) (hm2 : X.mg x = some (.ref CB)) (hdb : (x == ("__debug__" : Str)) = false)
    (hE : ∀ c ∈ all, ExcC T.K (T.CA c) ∧ PySem.W.kitOne T.K (.ref (T.CA c)) (.ref CB) = some (cs.contains c)) (hN : ∀ t ∈ tyNames, PySem.W.kitOne T.K (.type t) (.ref CB) = some false)
    (ha : XE X T W Γ e m) (he : starEach [e, .Name x q] X.env = (false, eval e X.env) :: starEach [.Name x q] X.env) (he2 : starEach [.Name x q] X.env = (false, eval (.Name x q) X.env) :: starEach [] X.env) (hpl : (backTo pos (starEach [.Name x q] X.env)).any (·.1) = false) :
    XE X T W Γ (.Call (.Name "isinstance" p) [e, .Name x q] [] pos) (e1 (pIsC all cs) m) := by
  obtain ⟨ta, p1, r1⟩ := ha
  refine ⟨_, pe_callB (call_isX.or call_isi) hg hm boot_isinstance (pa_cons p1 (pa_cons (pe_glob (v := .ref CB) hg2 hm2 rfl hdb) pa_nil he2) he) (by decide) (by decide) he hpl, ?_⟩
  intro fp F H σ s Q S h
  refine r1 fp F H σ s _ S (h.bind.imp fun x s1 fp1 F1 H1 g1 S1 h2 v rv => ?_)
  obtain ⟨d, ed, qq⟩ := po_ofO S1 h2
  have oth : ∀ t, tyName x = some t → d = .bl false → _ := fun t et edd => by
    subst edd
    exact (Or.inr ⟨v, .ref CB, .type t, .ref CB, false, rfl, .own CB, by rw [hK]; exact ty_rep S1.sub rv et, by rw [hK]; exact hN t (tyName_mem et), qq F1 H1 _ (PX.refl S1.sub) (.bl _)⟩ : rIsX X.K [v, .ref CB] H1 Q ∨ rIsi X.K [v, .ref CB] H1 Q)
  unfold pIsC at ed
  split at ed
  · rename_i c fs
    split at ed
    · rename_i hc
      cases ed
      obtain ⟨a1, a2⟩ := hE c (by simpa using hc)
      refine .inl ?_
      have qr := qq F1 H1 _ (PX.refl S1.sub) (.bl (cs.contains c))
      cases rv with
      | exn0 ha => exact ⟨_, _, CB, none, _, rfl, S1.sub _ _ ha, fun dx z => (by cases z), by rw [hK]; exact a1, by rw [hK]; exact a2, qr⟩
      | exn1 ha hx rr => exact ⟨_, _, CB, _, _, rfl, S1.sub _ _ ha, fun dx z => by cases z; exact ⟨_, S1.sub _ _ hx⟩, by rw [hK]; exact a1, by rw [hK]; exact a2, qr⟩
    · cases ed
  · cases et : tyName x with
    | none => rw [et] at ed; cases ed
    | some t => rw [et] at ed; cases ed; exact oth t et rfl
end
end RX

set_option linter.all false
/-! PM: more pure combinators. -/
namespace PL
/-- text * number -/
def pMulS : P2
  | .str a, .int j => if 1 ≤ j ∧ j ≤ 1000 ∧ a.length ≤ 1000 then some (.str (List.replicate j.toNat a).flatten) else none
  | _, _ => none
/-- try: a / except (an error of a class in cs): b; those in ns are let through -/
def sTry (cs ns : List String) (a b : ST) : ST := fun s => match a s with
  | .ex c fs s' => if cs.contains c then b s' else if ns.contains c then .ex c fs s' else .no
  | .ok f s' => .ok f s'
  | .no => .no
/-- tuple * number -/
def pMulT : P2
  | .tup a, .int j => if a ≠ [] ∧ 1 ≤ j ∧ j ≤ 1000 ∧ a.length ≤ 1000 then some (.tup (List.replicate j.toNat a).flatten) else none
  | _, _ => none
/-- the catching def called on the lambda that slot w holds -/
def eCaughtW (cs : List String) (g w : Nat) (a : EX) : EX := fun s => match s[w]?, s[g]? with
  | some (some (.clo 0)), some (some .non) => (match a s with
    | .ok _ s' => .ok .non s'
    | .ex c fs s' => if cs.contains c then .ok (.exn c fs) s' else .no
    | .no => .no)
  | _, _ => .no
/-- for w in [lambdas]: one body a lambda; the slot is forgotten behind -/
def lamGo (w : Nat) : List ST → ST
  | [], s => .ok .nx (s.set w none)
  | b :: bs, s => match b (s.set w (some (.clo 0))) with
    | .ok .nx s' => lamGo w bs s'
    | .ok .ct s' => lamGo w bs s'
    | .ok (.rt d) s' => .ok (.rt d) s'
    | .ex c fs s' => .ex c fs s'
    | _ => .no
def sForL (w gh : Nat) (bs : List ST) : ST := fun s => match s[gh]? with
  | some (some .non) => if w < s.length then lamGo w bs s else .no
  | _ => .no
/-- list * number -/
def pMulL : P2
  | .lst a, .int j => if 0 ≤ j ∧ j ≤ 1000 ∧ a.length ≤ 1000 then some (.lst (List.replicate j.toNat a).flatten) else none
  | _, _ => none
end PL

set_option Elab.async false
set_option linter.all false
set_option maxRecDepth 100000
set_option maxHeartbeats 4000000
/-! RXN: defs with a ghost slot whose code object is known; text * number. -/
namespace RX
open PySem PySem.Spec PyProof.Rows L2 PL
/-- as FunD.ok, the code object is the def's -/
theorem FunD_okC {P : Program} {w : World} {K : PySem.W.Frag} {mg : Str → Option Value} {base : Heap} {x qual : Str} {params : Arguments} {body : List Stmt} {scope : Scope} {dvs : List V} {kws : List (Str × V)} {f : Addr} {fd : FuncData} {CX : CXT} {N ps : List Str} {k : Nat} {sp : Sp} (F : FunD K x qual params body scope dvs kws f fd) (S : FnScope N ps scope) (len : ∀ vs H Q E, sp vs H Q E → vs.length = ps.length)
    (hbody : ∀ (A : Around) (outer : List Env) (s : Shared) (H : Hp) (vs : List V) (Q : VK) (E : L2.XK), Room k (A.deeper (envOfC qual scope s.heap.objs.size f fd.code)) → sp vs H Q E →
      ∃ t, PSs (cxOf CX P w K mg base N qual scope f fd.code A outer s H E) body t ∧ t { nx := fun _ H' => Q .non H', rt := Q } (L2.start N vs) H) : FnOk P w K mg base CX (k + 1) f fd ps sp := by
  obtain ⟨oc, od, dV, kV, doc, pm, an, cdv, ct, osl, rfl, lk, hcd, _, _⟩ := F.ex
  exact fn_of lk hcd S len fun A outer s H vs Q E hr hsp => hbody A outer s H vs Q E hr hsp
theorem ok_defHC {P : Program} {w : World} {mg : Str → Option Value} {base : Heap} {T : Tx} {sig : List (Kd T)} {A : Ab T} {x qual : Str} {params : Arguments} {body : List Stmt} {scope : Scope} {f : Addr} {fd : FuncData} (N ps : List Str) {k : Nat} {K : PySem.W.Frag} {dvs : List V} {kws : List (Str × V)} (n : Nat) (io : List Nat) (Γ : List (Kd T)) (m : ST) {c : Addr} (hc : fd.code = .ref c) (Fd : FunD K x qual params body scope dvs kws f fd) (Sc : FnScope N ps scope) (hl : sig.length = ps.length) (hn : N.length = n) (hpn : ps.length + 1 ≤ n) (hio : sigIo 0 (sig ++ [.gh A]) = io) (hΓ : (sig ++ [.gh A]) ++ List.replicate (n - (sig ++ [Kd.gh A]).length) .fz = Γ)
    (hb : ∀ (Ar : Around) (outer : List Env) (s : Shared) (H : Hp) (E : L2.XK), Room k (Ar.deeper (envOfC qual scope s.heap.objs.size f (.ref c))) →
      XB (cxOf (L2.CX P w) P w K mg base N qual scope f (.ref c) Ar outer s H E) T (fun cls d _ H' => E cls d H') (sig ++ [Kd.gh A]).length Γ Γ Γ body m) :
    FnOk P w K mg base (L2.CX P w) (k + 1) f fd ps (spH T sig A (fnB n io m)) := by
  subst hn hio hΓ
  refine FunD_okC Fd Sc (spH_len hl) fun Ar outer s H vs Q E hr hsp => ?_
  rw [hc] at hr ⊢
  obtain ⟨t, pb, rb⟩ := hb Ar outer s H E hr
  refine ⟨t, pb, ?_⟩
  obtain ⟨hv, fp, F, ds, S, hq⟩ := hsp
  have hnn : (sig ++ [Kd.gh A]).length ≤ N.length := by simp; omega
  have hv' : (vs.map some ++ [none] : L2.St).length = (sig ++ [Kd.gh A]).length := by simp [hv]
  have es : L2.start N vs = (vs.map some ++ [none] : L2.St) ++ List.replicate (N.length - (vs.map some ++ [none] : L2.St).length) none := by
    unfold L2.start
    rw [List.append_assoc]
    congr 1
    have : N.length - vs.length = (N.length - (vs.map some ++ [none] : L2.St).length) + 1 := by simp; omega
    rw [this, List.replicate_succ]
    rfl
  rw [es]
  refine rb.run fp F H _ _ _ (sta_start hnn hv' S) ?_
  unfold fnB at hq
  cases er : m (ds.map some ++ List.replicate (N.length - ds.length) none) with
  | ok fl s' =>
    rw [er] at hq
    cases fl with
    | nx =>
      dsimp only at hq
      split at hq
      · rename_i hio
        intro fp' F' H' σ' g S'
        obtain ⟨fp2, g2, S2⟩ := sta_fin hnn hv' S rb.ks g S' hio
        exact hq fp2 F' H' .non g2 S2 .non
      · exact hq.elim
    | rt d =>
      dsimp only at hq
      split at hq
      · rename_i hio
        intro Γr fp' F' H' σ' v ks g S' r
        obtain ⟨fp2, g2, S2⟩ := sta_fin hnn hv' S ks g S' hio
        exact hq fp2 F' H' v g2 S2 r
      · exact hq.elim
    | bk => exact hq.elim
    | ct => exact hq.elim
  | ex c fs s' =>
    rw [er] at hq
    dsimp only at hq
    split at hq
    · rename_i hio
      intro Γr fp' F' H' σ' od ks g S' x
      obtain ⟨fp2, g2, S2⟩ := sta_fin hnn hv' S ks g S' hio
      exact hq fp2 F' H' od g2 S2 x
    · exact hq.elim
  | no => rw [er] at hq; exact hq
theorem xe_lam {X : Cx} {T : Tx} {Γ : List (Kd T)} {A : Around} {outer : List Env} {s : Shared} {H : Hp} {E : L2.XK} {scope : Scope} {f c' : Addr} {body : Expr} {m : EX} (h : Takes (LamX.lamCx X A outer s H E scope f c') (WEx E) → XE (LamX.lamCx X A outer s H E scope f c') T (WEx E) Γ body m) :
    XE (LamX.lamCx X A outer s H E scope f c') T (WEx E) Γ body m := h (takes_of rfl rfl rfl rfl)
/-! ### text * number -/
def rMulS : R2 := fun x y H Q => ∃ (z : Str) (j : Int), x = .str z ∧ y = .int j ∧ 1 ≤ j ∧ j ≤ 1000 ∧ z.length ≤ 1000 ∧ ∀ z2 : Str, z2.cps.toList = (List.replicate j.toNat z.cps.toList).flatten → Q (.str z2) H
theorem foldl_appA : ∀ (l : List (Array Nat)) (a : Array Nat), (l.foldl (· ++ ·) a).toList = a.toList ++ (l.map Array.toList).flatten
  | [], a => by simp
  | b :: l, a => by rw [List.foldl_cons, foldl_appA l (a ++ b)]; simp
theorem op_mulS {X : Cx} : OpR X (binaryOp .Mult) rMulS := by
  intro pins s σ H x y v u Q I rx ry h
  obtain ⟨z, j, rfl, rfl, h1, h2, h3, q⟩ := h
  obtain ⟨t, rfl⟩ := rx
  obtain ⟨t', rfl⟩ := ry
  have hj : ∃ n : Nat, j = n ∧ 1 ≤ n ∧ n ≤ 1000 := ⟨j.toNat, by omega, by omega, by omega⟩
  obtain ⟨n, rfl, hn1, hn2⟩ := hj
  have hzn : z.length * n ≤ 1000000 := by
    have := Nat.mul_le_mul h3 hn2
    omega
  refine SB.mul ⟨?_, fun _ _ => ?_, fun _ _ => ?_⟩ fun t2 k => ⟨.str (Txt.mul z n), H, I.tok _, ⟨_, rfl⟩, q _ ?_⟩
  · have a : ¬ ((n : Int) < -(2 ^ 63)) := by omega
    have b : ¬ ((n : Int) ≥ 2 ^ 63) := by omega
    rw [decide_eq_false a, decide_eq_false b]; rfl
  · have : (1000000 : Int) ≤ (2 ^ 63 - 1) / (n : Int) := by
      rw [Int.le_ediv_iff_mul_le (by omega)]
      omega
    omega
  · have e : ((n : Int)).toNat = n := by simp
    rw [e]
    unfold Builtin.Str.tooLong
    have hs : (1000000 : Nat) ≤ sizeLine := by decide
    exact decide_eq_false (by omega)
  · unfold Txt.mul
    rw [if_neg (by omega)]
    split
    · rename_i hc
      have e : ((n : Int)).toNat = n := by simp
      rw [e]
      rcases (show (n : Int) = 1 ∨ z.length = 0 by simpa using hc) with w | w
      · have w : n = 1 := by omega
        subst w; simp
      · have w : z.cps = #[] := Array.size_eq_zero_iff.mp w
        rw [w]; simp
    · show (List.foldl (· ++ ·) #[] (List.replicate (n : Int).toNat z.cps)).toList = _
      rw [foldl_appA]
      simp
theorem ok_mulS {T : Tx} : OpK T rMulS pMulS := by
  intro F H x y v w d Q S rx ry e q
  unfold pMulS at e
  split at e
  · rename_i a j
    split at e
    · rename_i h
      cases e
      cases rx
      cases ry
      refine ⟨_, _, rfl, rfl, h.1, h.2.1, by rw [stOf_len]; exact h.2.2, fun z2 e2 => ?_⟩
      have : z2 = stOf (List.replicate j.toNat a).flatten := by
        obtain ⟨c⟩ := z2
        unfold stOf
        congr 1
        rw [stOf_list] at e2
        exact Array.ext' (by simpa using e2)
      rw [this]
      exact q F H _ (PX.refl S) (.str _)
    · cases e
  · cases e
end RX

set_option Elab.async false
set_option linter.all false
set_option maxRecDepth 100000
set_option maxHeartbeats 4000000
/-! RXK: the head's facts: defs, classes of errors, tables. -/
namespace RX
open PySem PySem.Spec PyProof.Rows L2 PL He
/-- the i-th statement of a class's body -/
def clsSt (s : Stmt) (i : Nat) : Stmt := match s with
  | .ClassDef _ _ _ b _ _ _ _ _ _ _ => b.getD i (.Pass ⟨0, 0, 0, 0⟩)
  | _ => .Pass ⟨0, 0, 0, 0⟩
/-! ### an __init__ with super() -/
abbrev InV : Type := Option (Str × Str × Arguments × FuncBody × Scope × Addr × List Str × Addr)
def inW (K : PySem.W.Frag) (x : Str) : InV := match K.lookup (fAd K (x, some "__init__")) with
  | some ⟨_, _, .func fd, _⟩ => some (fd.name, fd.qualname, fd.params, fd.body, fd.scope, fd.globals, fd.closure.map (·.1), fd.builtins)
  | _ => none
structure InD where
  cls : Str
  qual : Str
  st : Stmt
def InD.val (d : InD) : InV := some ("__init__", d.qual, defArgs d.st, .stmts (defBody d.st), defScope d.st, mainGlobals, ["__class__"], builtinsNs)
def oexB (K : PySem.W.Frag) (C : Addr) : Bool := (match K.lookup C with
  | some ⟨.type "type", _, .cls cd, sl⟩ => (match cd.mro, sl.toList with
    | .ref C' :: bm, [_, _, _, _, some (.builtin n), _] => decide (C' = C) && (decide (n = "ValueError.__new__") && (!cd.hasDel && (cd.hasDict && PySem.HandSPX.refsVE bm)))
    | _, _ => false)
  | _ => false) && (eqO (PySem.W.findIn K (.ref C) "__setattr__") (some (some (.builtin "object.__setattr__"))) && (decide (PySem.W.subIn K (.ref C) (.type "BaseException") = some true) && (decide (PySem.W.typeIn K (.ref C) = some (.type "type")) && PySem.W.keepIn K (.ref C))))
theorem oexB_ok {K : PySem.W.Frag} {C : Addr} (h : oexB K C = true) : OexC K C := by
  obtain ⟨h1, h⟩ := ba h
  obtain ⟨h2, h⟩ := ba h
  obtain ⟨h3, h⟩ := ba h
  obtain ⟨h4, h5⟩ := ba h
  refine ⟨?_, eqO_ok h2, of_decide_eq_true h3, of_decide_eq_true h4, h5⟩
  split at h1
  · rename_i dd cd sl ho
    split at h1
    · rename_i C' bm k0 k1 k2 k3 n k5 hm hs
      obtain ⟨a1, h1⟩ := ba h1
      obtain ⟨a2, h1⟩ := ba h1
      obtain ⟨a3, h1⟩ := ba h1
      obtain ⟨a4, a5⟩ := ba h1
      have a1 := of_decide_eq_true a1
      have a2 := of_decide_eq_true a2
      subst a1 a2
      obtain ⟨nm, bs, mro, ns, qn, hd, sn, sub, ab, col, del⟩ := cd
      have a3 : del = false := by simpa using a3
      have a4 : hd = true := a4
      have hm : mro = .ref C' :: bm := hm
      subst a3 a4 hm
      have es : sl = #[k0, k1, k2, k3, some (.builtin "ValueError.__new__"), k5] := Array.ext' (by simpa using hs)
      subst es
      exact ⟨nm, qn, ns, bs, bm, sn, sub, ab, col, dd, k0, k1, k2, k3, k5, ho, a5⟩
    · cases h1
  · cases h1
def initB (file : Str) (K : PySem.W.Frag) (x fld qual : Str) : Bool := (match K.lookup (fAd K (x, some "__init__")) with
  | some ⟨_, _, .func fd, _⟩ => PySem.W.codeIn K fd.code qual && ((match fd.defaults with
      | .none => true
      | _ => false) && ((match fd.code with
      | .ref c => (match K.lookup c with
        | some ⟨_, _, .fields vs, _⟩ => (match (vs[2]? : Option Value) with
          | some (.str f _) => file == f
          | _ => false)
        | _ => false)
      | _ => false) && (match fd.closure with
      | [(_, cc)] => (match K.lookup cc with
        | some ⟨_, _, .cell (some (.ref D)), _⟩ => (PySem.W.clsIn K D).isSome && (decide (PySem.W.mroIn K (ga K x) (.ref D) = some true) && eqO (PySem.W.ks_superIn K (ga K x) D "__init__") (some (some (.builtin "ValueError.__init__"))))
        | _ => false)
      | _ => false)))
  | _ => false) && (decide (PySem.W.subIn K (.ref (ga K x)) (.type "ValueError") = some true) && (eqO (PySem.W.nsIn K cStatics "thirdparty.any") (some none) && (oexB K (ga K x) && (eqO (PySem.W.findIn K (.ref (ga K x)) fld) (some none) && (eqO (PySem.W.findIn K (.ref (ga K x)) "__init__") (some (some (.ref (fAd K (x, some "__init__"))))) && decide (PySem.W.typeIn K (.ref (fAd K (x, some "__init__"))) = some (.type "function")))))))
/-- what the text says of an __init__ -/
structure InTxt (st : Stmt) (m fld sf pn : Str) : Prop where
  body : ∃ (j : Nat) (p0 p1 p2 p3 p4 p5 p6 p7 p8 p9 : Pos), defBody st = sBody m fld sf pn j p0 p1 p2 p3 p4 p5 p6 p7 p8 p9 ∧
    ∃ pl : Sem Bool, ∀ env : Env, eval (.Call (.Attribute (.Call (.Name "super" p0) [] [] p1) "__init__" p2) [.Constant (.str m) j p3] [] p4) env = (do
      let ov ← attributeBase (.Call (.Name "super" p0) [] [] p1) "__init__" env (eval (.Call (.Name "super" p0) [] [] p1) env)
      standAt p2.atName
      let (f, first) ← holding [ov] (getMethod ov "__init__" pl)
      callWith p4 f first (backTo p4 (starEach [Expr.Constant (.str m) j p3] env)) [])
  k1 : (defScope st).kind = .function
  k2 : (defScope st).isCoroutine = false
  k3 : (defScope st).isGenerator = false
  k4 : ∀ x ∈ (defScope st).names, x.2 ≠ .cell
  k5 : (defScope st).names.lookup ("super" : Str) = some .globalImplicit
  k6 : (defScope st).names.lookup ("__class__" : Str) = some .free
  k7 : (defScope st).names.lookup sf = some .local
  k8 : (defScope st).names.lookup pn = some .local
  ar : ∃ a : Arg, ((defArgs st).posonlyargs ++ (defArgs st).args).head? = some a ∧ a.arg = sf
  ne : sf ≠ pn
  d1 : (sf == ("__debug__" : Str)) = false
  d2 : (pn == ("__debug__" : Str)) = false
theorem initF_of {P : Program} {K : PySem.W.Frag} (d : InD) {m fld sf pn : Str} (e : inW K d.cls = d.val) (hb : initB P.main.file K d.cls fld d.qual = true) (T : InTxt d.st m fld sf pn) (top : (P.main.scope.names.lookup ("super" : Str)).isSome = false) :
    ∃ fd, InitF P K (fAd K (d.cls, some "__init__")) fd (ga K d.cls) m fld sf pn ∧ PySem.W.findIn K (.ref (ga K d.cls)) "__init__" = some (some (.ref (fAd K (d.cls, some "__init__")))) ∧ PySem.W.typeIn K (.ref (fAd K (d.cls, some "__init__"))) = some (.type "function") ∧ ∃ kV doc pm an cdv ct cc, fd = PySem.W.ksFn "__init__" d.qual (defArgs d.st) (defBody d.st) (defScope d.st) .none kV doc pm an cdv ct cc := by
  obtain ⟨h1, h⟩ := ba hb
  obtain ⟨h2, h⟩ := ba h
  obtain ⟨h3, h⟩ := ba h
  obtain ⟨h4, h⟩ := ba h
  obtain ⟨h5, h⟩ := ba h
  obtain ⟨h6, h7⟩ := ba h
  obtain ⟨j, p0, p1, p2, p3, p4, p5, p6, p7, p8, p9, eb, hpl⟩ := T.body
  obtain ⟨a, ha1, ha2⟩ := T.ar
  unfold inW at e
  split at h1
  · rename_i oc od fd osl lk
    rw [lk] at e
    obtain ⟨n1, n2, n3, n4, n5, n6, n7, n8, n9, n10, n11, n12, n13, n14, n15⟩ := fd
    have e2 : (some (n1, n2, n3, n4, n5, n6, n7.map (·.1), n15) : InV) = d.val := e
    unfold InD.val at e2
    have e3 : (some (n1, n2, n3, n4, n5, n6, n7.map (·.1), n15) : InV) = some ((Str.ofString "__init__"), d.qual, defArgs d.st, FuncBody.stmts (defBody d.st), defScope d.st, mainGlobals, [Str.ofString "__class__"], builtinsNs) := e2
    simp only [Option.some.injEq, Prod.mk.injEq] at e3
    obtain ⟨z1, z2, z3, z4, z5, z6, z7, z8⟩ := e3
    subst z1 z2 z3 z4 z5 z6 z8
    obtain ⟨q1, h1⟩ := ba h1
    obtain ⟨q0, h1⟩ := ba h1
    obtain ⟨q2, q3⟩ := ba h1
    dsimp only at q0 q1 q2 q3
    have q0 : n8 = .none := by
      cases n8 <;> first | rfl | cases q0
    subst q0
    cases n13 with
    | ref cda =>
      obtain ⟨f, tf, ccl, cdd, vs, ccs, lc, hv, hf⟩ : ∃ f tf ccl cdd vs ccs, K.lookup cda = some ⟨ccl, cdd, .fields vs, ccs⟩ ∧ (vs[2]? : Option Value) = some (.str f tf) ∧ (P.main.file == f) = true := by
        dsimp only at q2
        split at q2
        · rename_i ccl cdd vs ccs lc
          split at q2
          · rename_i f tf hv
            exact ⟨f, tf, ccl, cdd, vs, ccs, lc, hv, q2⟩
          · cases q2
        · cases q2
      match n7, z7, q3 with
      | [(nm, cc)], z7, q3 =>
        have z7 : [nm] = [Str.ofString "__class__"] := z7
        cases z7
        obtain ⟨cl, cld, D, csl, lcc, r1, r2, r3⟩ : ∃ cl cld D csl, K.lookup cc = some ⟨cl, cld, .cell (some (.ref D)), csl⟩ ∧ (PySem.W.clsIn K D).isSome = true ∧ PySem.W.mroIn K (ga K d.cls) (.ref D) = some true ∧ PySem.W.ks_superIn K (ga K d.cls) D "__init__" = some (some (.builtin "ValueError.__init__")) := by
          dsimp only at q3
          split at q3
          · rename_i cl cld D csl lcc
            obtain ⟨r1, q3⟩ := ba q3
            obtain ⟨r2, r3⟩ := ba q3
            exact ⟨cl, cld, D, csl, lcc, r1, of_decide_eq_true r2, eqO_ok r3⟩
          · cases q3
        obtain ⟨cdD, r1⟩ := Option.isSome_iff_exists.mp r1
        exact ⟨_, ⟨⟨"__init__", d.qual, defArgs d.st, defScope d.st, .none, n9, n10, n11, n12, cda, n14, cc, oc, od, osl, j, p0, p1, p2, p3, p4, p5, p6, p7, p8, p9, ccl, cdd, vs, ccs, f, tf, cl, cld, csl, D, cdD, a, rfl, by rw [lk, ← eb], q1, ⟨lc, hv, hf⟩, ⟨lcc, r1, r2, r3⟩, ⟨T.k1, T.k2, T.k3, T.k4, T.k5, T.k6, T.k7, T.k8⟩, ⟨ha1, ha2⟩, hpl⟩, of_decide_eq_true h2, eqO_ok h3, oexB_ok h4, eqO_ok h5, top, T.ne, T.d1, T.d2⟩, eqO_ok h6, of_decide_eq_true h7, n9, n10, n11, n12, .ref cda, n14, cc, by rw [← eb]⟩
      | [], z7, q3 => cases q3
      | _ :: _ :: _, z7, q3 => cases q3
    | _ => cases q2
  · cases h1
/-! ### errors as values -/
def excB (K : PySem.W.Frag) (D : Addr) : Bool := eqO (PySem.W.findIn K (.ref D) "__getattribute__") (some (some (.builtin "BaseException.__getattribute__"))) && (eqO (PySem.W.findIn K (.ref D) "__getattr__") (some none) && (decide (PySem.W.subIn K (.ref D) (.type "BaseException") = some true) && (PySem.W.hasDictIn K D &&
  (eqO (PySem.W.findIn K (.ref D) "__class__") (some (some (.builtin "object.__class__"))) && (eqO (PySem.W.specialIn K (.builtin "object.__class__") "__get__") (some (some (.builtin "getset_descriptor.__get__"))) && (decide (PySem.W.takesIn K (.builtin "object.__class__") = some true) && decide (PySem.W.mroIn K D (.type "object") = some true)))))))
theorem excB_ok {K : PySem.W.Frag} {D : Addr} (h : excB K D = true) : ExcC K D := by
  obtain ⟨h1, h⟩ := ba h
  obtain ⟨h2, h⟩ := ba h
  obtain ⟨h3, h⟩ := ba h
  obtain ⟨h4, h⟩ := ba h
  obtain ⟨h5, h⟩ := ba h
  obtain ⟨h6, h⟩ := ba h
  obtain ⟨h7, h8⟩ := ba h
  exact ⟨eqO_ok h1, eqO_ok h2, of_decide_eq_true h3, h4, eqO_ok h5, eqO_ok h6, of_decide_eq_true h7, of_decide_eq_true h8⟩
/-- isinstance(e, x) over the classes all: true for those in cs -/
def isEB (K : PySem.W.Frag) (x : Str) (all cs : List String) : Bool := (all.all fun c => excB K (ga K (Str.ofString c)) && decide (PySem.W.kitOne K (.ref (ga K (Str.ofString c))) (.ref (ga K x)) = some (cs.contains c))) && tyNames.all fun t => decide (PySem.W.kitOne K (.type t) (.ref (ga K x)) = some false)
theorem isEB_ok {K : PySem.W.Frag} {x : Str} {all cs : List String} (h : isEB K x all cs = true) :
    (∀ c ∈ all, ExcC K ((TT K).CA c) ∧ PySem.W.kitOne K (.ref ((TT K).CA c)) (.ref (ga K x)) = some (cs.contains c)) ∧ ∀ t ∈ tyNames, PySem.W.kitOne K (.type t) (.ref (ga K x)) = some false := by
  obtain ⟨h1, h2⟩ := ba h
  refine ⟨fun c hc => ?_, fun t ht => of_decide_eq_true (List.all_eq_true.mp h2 t ht)⟩
  obtain ⟨a, b⟩ := ba (List.all_eq_true.mp h1 c hc)
  exact ⟨excB_ok a, of_decide_eq_true b⟩
def caughtB (K : PySem.W.Frag) (x : Str) (all : List String) : Bool := all.all fun c => decide (PySem.W.exmOne K (.ref (ga K (Str.ofString c))) (.ref (ga K x)) = some true)
theorem caughtB_ok {K : PySem.W.Frag} {x : Str} {all : List String} (h : caughtB K x all = true) : ∀ c ∈ all, PySem.W.exmOne K (.ref ((TT K).CA c)) (.ref (ga K x)) = some true :=
  fun c hc => of_decide_eq_true (List.all_eq_true.mp h c hc)
def fldB (K : PySem.W.Frag) (f : String) (all : List String) : Bool := all.all fun c => xfB K (ga K (Str.ofString c)) && eqO (PySem.W.findIn K (.ref (ga K (Str.ofString c))) (Str.ofString f)) (some none)
theorem fldB_ok {K : PySem.W.Frag} {f : String} {all : List String} (h : fldB K f all = true) : ∀ c ∈ all, XfC K ((TT K).CA c) ∧ PySem.W.findIn K (.ref ((TT K).CA c)) (Str.ofString f) = some none := fun c hc => by
  obtain ⟨a, b⟩ := ba (List.all_eq_true.mp h c hc)
  exact ⟨xfB_ok a, eqO_ok b⟩
/-- the tables of the defs differ -/
def apartB (K : PySem.W.Frag) (tf : List Defn) : Bool := tf.all fun p => tf.all fun q => decide (p = q) || !decide ((cT K p).2 = (cT K q).2)
theorem apartB_ok {K : PySem.W.Frag} {tf : List Defn} (h : apartB K tf = true) {p q : Defn} (hp : p ∈ tf) (hq : q ∈ tf) (e : (cT K p).2 = (cT K q).2) : p = q := by
  have h2 := List.all_eq_true.mp (List.all_eq_true.mp h p hp) q hq
  rcases Bool.or_eq_true_iff.mp h2 with z | z
  · exact of_decide_eq_true z
  · rw [e] at z; simp at z
theorem excF_of {K : PySem.W.Frag} {mg : Str → Option Value} {h : Heap} {x : Str} (X : K.In h) (G : h.Ns mainGlobals mg) (c : (Fa.exc x).ok K = true) (g : (Fa.glo x).ok K = true) : ExF0 K mg x := by
  obtain ⟨a, b, c, d⟩ := exc_ok c
  exact ⟨a, glo_ok X G g, b, c, d⟩
/-- a def's code object -/
theorem code_of {K : PySem.W.Frag} {p : Defn} {x qual : Str} {params : Arguments} {body : List Stmt} {scope : Scope} {dvs : List V} {kws : List (Str × V)} {fd : FuncData} (F : FunD K x qual params body scope dvs kws (fAd K p) fd) : fd.code = .ref (cT K p).1 := by
  obtain ⟨oc, od, dV, kV, doc, pm, an, cdv, ct, osl, rfl, lk, hcd, _, _⟩ := F.ex
  obtain ⟨c, rfl⟩ := codeIn_ref hcd
  have e := codeOf_eq (c := c) lk rfl
  show Value.ref c = .ref (codeOf K p)
  rw [e]
/-! ### the hook -/
def asY (g : Addr → Option Obj) (n : Nat) : List Addr := cStatics :: asD g n
structure SaysY (fa : List Fa) (fn : List DefD) (tf : List Defn) (ins : List InD) (ex : PySem.W.Frag → Bool) (h : Heap) (K : PySem.W.Frag) : Prop where
  d : SaysD fa fn K
  more : ex K = true
  ini : ins.map (fun d => inW K d.cls) = ins.map InD.val
  hd : ∀ p ∈ tf, PySem.W.codeHdIn K (cT K p).1 (cT K p).2 = true
  out : ∀ p ∈ tf, K.lookup (cT K p).2 = none
  empty : ∀ p ∈ tf, h.get? (cT K p).2 = some { cls := .none, data := .fields #[] }
abbrev AlY : Type := (AlD × Bool) × List InV
def obsY (n : Nat) (fa : List Fa) (fn : List DefD) (tf : List Defn) (ins : List InD) (ex : PySem.W.Frag → Bool) (g : Addr → Option Obj) : AlY := ((obsD fa fn (frT g (asY g n)), ex (frT g (asY g n)) && tabsB g tf (frT g (asY g n))), ins.map fun d => inW (frT g (asY g n)) d.cls)
def valY (fn : List DefD) (ins : List InD) : AlY := ((valD fn, true), ins.map InD.val)
theorem saysY_of {n : Nat} {fa : List Fa} {fn : List DefD} {tf : List Defn} {ins : List InD} {ex : PySem.W.Frag → Bool} {h : Heap} (e : obsY n fa fn tf ins ex h.get? = valY fn ins) : SaysY fa fn tf ins ex h (frT h.get? (asY h.get? n)) := by
  have e1 : obsD fa fn (frT h.get? (asY h.get? n)) = valD fn := congrArg (fun z : AlY => z.1.1) e
  have e2 : (ex (frT h.get? (asY h.get? n)) && tabsB h.get? tf (frT h.get? (asY h.get? n))) = true := congrArg (fun z : AlY => z.1.2) e
  have e3 : ins.map (fun d => inW (frT h.get? (asY h.get? n)) d.cls) = ins.map InD.val := congrArg (fun z : AlY => z.2) e
  obtain ⟨h1, h2⟩ := ba e2
  have key : ∀ p ∈ tf, PySem.W.codeHdIn (frT h.get? (asY h.get? n)) (cT (frT h.get? (asY h.get? n)) p).1 (cT (frT h.get? (asY h.get? n)) p).2 = true ∧ ∃ o, h.get? (cT (frT h.get? (asY h.get? n)) p).2 = some o ∧ emptyTab o = true := fun p hp => by
    obtain ⟨h3, h4⟩ := ba (List.all_eq_true.mp h2 p hp)
    cases q : h.get? (cT (frT h.get? (asY h.get? n)) p).2 with
    | none => rw [q] at h4; cases h4
    | some o => rw [q] at h4; exact ⟨h3, o, rfl, h4⟩
  refine ⟨e1, h1, e3, fun p hp => (key p hp).1, fun p hp => ?_, fun p hp => ?_⟩
  · obtain ⟨_, o, q, z⟩ := key p hp; exact frT_none q z
  · obtain ⟨_, o, q, z⟩ := key p hp; rw [q, emptyTab_eq z]
def hookY (n : Nat) (fa : List Fa) (fn : List DefD) (tf : List Defn) (ins : List InD) (ex : PySem.W.Frag → Bool) : PySem.W.Hook where
  α := AlY
  obs := fun s => obsY n fa fn tf ins ex s.heap.get?
  val := fun _ => valY fn ins
  says := fun _ h => ∃ K : PySem.W.Frag, K.In h ∧ SaysY fa fn tf ins ex h K
  of := fun _ _ e => ⟨_, frT_in, saysY_of e⟩
  keeps := fun _ _ _ ⟨K, hK, c⟩ k => ⟨K, PySem.W.Frag.In.keeps hK k, ⟨c.d, c.more, c.ini, c.hd, c.out, fun p hp => k _ _ (c.empty p hp)⟩⟩
theorem obsY_eq {n : Nat} {fa : List Fa} {fn : List DefD} {tf : List Defn} {ins : List InD} {ex : PySem.W.Frag → Bool} {g : Addr → Option Obj} {s : Shared} (h : ∀ a, g a = s.heap.get? a) : obsY n fa fn tf ins ex g = (hookY n fa fn tf ins ex).obs s := by
  have e : g = s.heap.get? := funext h
  rw [e] <;> rfl
theorem SaysY.ini_ {fa : List Fa} {fn : List DefD} {tf : List Defn} {ins : List InD} {ex : PySem.W.Frag → Bool} {h : Heap} {K : PySem.W.Frag} (c : SaysY fa fn tf ins ex h K) {d : InD} (hd : d ∈ ins) : inW K d.cls = d.val := by
  obtain ⟨i, hi, e⟩ := List.mem_iff_getElem.mp hd
  have e2 : (ins.map fun d => inW K d.cls)[i]? = (ins.map InD.val)[i]? := by rw [c.ini]
  rw [List.getElem?_map, List.getElem?_map, List.getElem?_eq_getElem hi, e] at e2
  exact Option.some.inj e2
theorem binds2_of {K : PySem.W.Frag} {fd : FuncData} {a b : Str} (h : ∀ u v : Value, bindArgs fd ⟨[u, v], []⟩ = pure [(a, u), (b, v)]) : Binds K fd [a, b] [] := .all fun us hl => match us, hl with
  | [u, v], _ => h u v
theorem cx_no {P : Program} {w : World} {o : List Env} {H : Hp} {s : Shared} {e : Value} {s' : Shared} (h : L2.CX P w o H s (fun _ _ _ => False) e s') : False := by
  obtain ⟨_, _, _, _, _, _, _, _, _, _, _, _, z⟩ := h
  exact z
/-- the law's promise, from what its pure function gives -/
theorem law_sp {K : PySem.W.Frag} {tb : List (Addr × Str)} {f : FN} {H : Hp} {a : Addr} {ns : List Int} (hS : SqL K H a (ns.map V.int)) (hT : ∀ p ∈ tb, H p.1 = some (.tbl #[])) (hf : ∃ es, f [.lst (ns.map .int), .non] = .ok (.bl true) es) :
    spH (TT K) [.ab Scr] (Tab tb) f [.ref a] H (fun v _ => v = .bl true) fun _ _ _ => False := by
  obtain ⟨es, hf⟩ := hf
  have hin : ∀ b, b ∈ tb.map (·.1) → H b = some (.tbl #[]) := fun b hb => by
    obtain ⟨p, hp, e⟩ := List.mem_map.mp hb
    rw [← e]; exact hT p hp
  refine ⟨rfl, fun i => if i = 1 then tb.map (·.1) else [], fun b => if b ∈ tb.map (·.1) then none else H b, [.lst (ns.map .int), .non], ?_, ?_⟩
  · have hF : Fle (fun b => if b ∈ tb.map (·.1) then none else H b) H := fun b o e => by
      dsimp only at e
      split at e
      · cases e
      · exact e
    have hS2 : SqL K (fun b => if b ∈ tb.map (·.1) then none else H b) a (ns.map V.int) := by
      rcases hS with (h | ⟨o, h⟩) | h
      · refine .inl (.inl ?_)
        dsimp only
        rw [if_neg fun z => by rw [hin a z] at h; cases h]; exact h
      · refine .inl (.inr ⟨o, ?_⟩)
        dsimp only
        rw [if_neg fun z => by rw [hin a z] at h; cases h]; exact h
      · exact .inr h
    refine ⟨hF, rfl, rfl, fun i od ov k h1 h2 h3 => ?_, fun i hi => ?_, fun i j b h1 h2 => ?_⟩
    · match i, h1, h2, h3 with
      | 0, h1, h2, h3 =>
        cases h1; cases h2; cases h3
        exact ⟨.ref a, rfl, ⟨a, ns, rfl, rfl, rfl, hS2⟩, fun b hb => by cases hb⟩
      | 1, h1, h2, h3 =>
        cases h1; cases h2; cases h3
        refine ⟨rfl, ⟨rfl, by simp, fun p hp => ⟨#[], hT p hp, trivial, fun pos cv hc => ?_⟩⟩, fun b hb => ?_⟩
        · have z : codeAmong pos [] = some cv := hc
          simp [codeAmong] at z
        · have hb : b ∈ tb.map (·.1) := hb
          exact ⟨by dsimp only; rw [if_pos hb], _, hin b hb⟩
      | i + 2, h1, _, _ => simp at h1
    · have : ¬ i = 1 := fun z => by subst z; simp at hi
      try dsimp only
      rw [if_neg this]
    · try dsimp only at h1 h2
      split at h1
      · split at h2
        · rename_i e1 e2; rw [e1, e2]
        · cases h2
      · cases h1
  · rw [hf]
    intro fp' F' H' v g S r
    cases r
    rfl
end RX

set_option Elab.async false
set_option linter.all false
set_option maxRecDepth 100000
set_option maxHeartbeats 4000000
/-! RXT: try with one except clause; more operators. -/
namespace RX
open PySem PySem.Spec PyProof.Rows L2 PL
section
variable {X : Cx} {T : Tx} {W : WX} {np : Nat} {Γl Γ Γ' : List (Kd T)}
/-- the reading that a pure statement gives -/
def rsW (T : Tx) (W : WX) (np : Nat) (Γl Γ Γ' : List (Kd T)) (m : ST) : TS := fun D σ H => ∃ fp F s, Sta T Γ fp F H σ s ∧ PoS T W np Γl Γ Γ' fp F H σ (m s) D
theorem XB.can {sts : List Stmt} {m : ST} (h : XB X T W np Γl Γ Γ' sts m) : PSs X sts (rsW T W np Γl Γ Γ' m) := by
  obtain ⟨t, p, r⟩ := h
  exact ⟨fun pins s σ H D I ⟨fp, F, s0, S, q⟩ => p.run pins s σ H D I (r.run fp F H σ s0 D S q)⟩
theorem xs_try {x : Str} {CS : Addr} (cs ns : List String) {body suite : List Stmt} {b₀ : Stmt} {m m2 : ST} {npos pos pos' : Pos} (hK : X.K = T.K) (hs : X.stack = X.env :: X.outer) (hf : X.env.frame = some X.env.locals) (hg : Gl X x) (hm : X.mg x = some (.ref CS)) (hd : (x == ("__debug__" : Str)) = false) (tk : Takes X W) (ks : KS np Γ Γ')
    (hyes : ∀ c ∈ cs, PySem.W.exmOne T.K (.ref (T.CA c)) (.ref CS) = some true) (hno : ∀ c ∈ ns, PySem.W.exmOne T.K (.ref (T.CA c)) (.ref CS) = some false)
    (hb : ∀ (W' : WX) (pn : List (Addr × Obj)) (xe : Value → Shared → Prop), Takes (X.tr pn xe) W' → PassesOwn (model X.prog X.w) X.A X.env xe → XB (X.tr pn xe) T W' np Γl Γ Γ' body m)
    (hsu : ∀ (a : Addr) (pn : List (Addr × Obj)) (Γr : List (Kd T)), KS np Γ Γr → XB (X.suite a pn) T W np Γl Γr Γ' (b₀ :: suite) m2) :
    XS X T W np Γl Γ Γ' (.Try body [.ExceptHandler (some (.Name x npos)) none (b₀ :: suite) pos'] [] [] pos) (sTry cs ns m m2) := by
  refine ⟨_, ps_try_only (c := .ref CS) (tb := fun W' => rsW T W' np Γl Γ Γ' m) (ts := fun _ _ _ D σ H => ∃ Γr, KS np Γ Γr ∧ rsW T W np Γl Γr Γ' m2 D σ H) hs hf ⟨hg, hd, .inl hm⟩ tk (fun W' pn xe tk' pa => (hb W' pn xe tk' pa).can) (fun a oe cls d pn _ _ => ⟨fun pins s σ H D I ⟨Γr, k, q⟩ => (hsu a _ Γr k).can.run pins s σ H D I q⟩), ks, fun fp F H σ s D S h => ⟨fp, F, s, S, ?_⟩⟩
  unfold sTry at h
  cases e : m s with
  | ok f s' =>
    rw [e] at h
    cases f <;> exact h
  | no => rw [e] at h; exact h.elim
  | ex c fs s' =>
    rw [e] at h
    dsimp only at h
    split at h
    · rename_i hc
      intro Γr fp' F' H' σ' od k g S' xx
      exact ⟨true, by rw [hK]; exact hyes c (by simpa using hc), fun _ a ha => ⟨Γr, k, fp', F', s', S', h.later k g⟩, fun z => (by cases z)⟩
    · split at h
      · rename_i hc
        intro Γr fp' F' H' σ' od k g S' xx
        exact ⟨false, by rw [hK]; exact hno c (by simpa using hc), fun z => (by cases z), fun _ => h Γr fp' F' H' σ' od k g S' xx⟩
      · exact h.elim
end
/-! ### tuple * 1 -/
theorem tuple_mul1 (l : Addr) (items : Array Value) (n : Nat) (dd : Option Addr) (sl : Array (Option Value)) (u : Tok) (c1 : (items.isEmpty || (1 : Int) == 1) = true) :
    Meets (Builtin.«tuple.__mul__» ⟨[.ref l, .int 1 u], []⟩) (fun _ R s => s.heap.get? l = some { cls := .type "tuple", dict := dd, data := .seq items n, slots := sl } ∧ R (.ok (.ret (.ref l))) s) :=
  .of_wp fun prog w A R s h => by
    obtain ⟨hp, g, d, tk, os⟩ := s
    obtain ⟨hl, h⟩ := h
    have f1 := AutoSeq1.idx_int
    have c0 : (decide ((1 : Int) < -(2 ^ 63)) || decide ((1 : Int) ≥ 2 ^ 63)) = false := by decide
    wp_walk using wpAny_loadPart' hl
    repeat (first
      | (refine wpAny_ite_false (decide_eq_false (by rw [c0]; exact Bool.false_ne_true)) ?_; wp_walk using wpAny_loadPart' hl)
      | (refine wpAny_ite_true (decide_eq_true c1) ?_; wp_walk using wpAny_loadPart' hl))
    exact ⟨_, rfl, h⟩
def rRepT1 (K : PySem.W.Frag) : R2 := fun x y H Q => (∃ l xs, x = .ref l ∧ y = .int 1 ∧ SqT K H l xs ∧ Q (.ref l) H) ∨ rRepT K x y H Q
theorem op_repT1 {X : Cx} : OpR X (binaryOp .Mult) (rRepT1 X.K) := by
  intro pins s σ H x y v u Q I rx ry h
  rcases h with h | h
  · obtain ⟨l, xs, rfl, rfl, hT, q⟩ := h
    cases rx
    obtain ⟨t, rfl⟩ := ry
    obtain ⟨its, r, ⟨⟨cls, dd, data, sl⟩, ho, hc, n, hd⟩, hs⟩ := I.tuple hT
    simp only at hc hd
    subst hc hd
    refine wpAny_binaryOp_repeat_ref (T := "tuple") (U := "int") (by decide) ⟨_, ho, rfl⟩ (fun s' => typeIs_int s' 1 t) noFill_tuple_mul F.fills_int_mul F.slot_int_rmul repeat_tuple F.slot_int_index.lookup
      (call_meets F.slot_int_rmul (typeIs_int s 1 t) F.entry_int_rmul (F.args_int_rmul_2 _ _) (int_rmul_tuple 1 t l its.toArray n dd sl)
        ⟨ho, rfl, ⟨_, ho, rfl⟩, call_meets F.slot_tuple_mul ⟨_, ho, rfl⟩ F.entry_tuple_mul (F.args_tuple_mul_2 _ _) (tuple_mul1 l its.toArray n dd sl t (by simp)) ⟨ho, ?_⟩⟩)
    exact ⟨.ref l, H, I.kept (t' := s.toks) fun _ _ z => z, rfl, q⟩
  · exact op_repT pins s σ H x y v u Q I rx ry h
theorem ok_mulT {T : Tx} : OpK T (rRepT1 T.K) pMulT := by
  intro F H x y v w d Q S rx ry e q
  unfold pMulT at e
  split at e
  · rename_i a j
    split at e
    · rename_i h
      obtain ⟨h1, h2, h3, h4⟩ := h
      cases e
      cases ry
      cases rx with
      | tup hT rr =>
        rename_i l vs
        have hl := rr.length
        by_cases hj : j = 1
        · subst hj
          refine .inl ⟨l, vs, rfl, rfl, sqT_fle S hT, ?_⟩
          have ee : (List.replicate (1 : Int).toNat a).flatten = a := by simp
          rw [ee] at q
          exact q F H _ (PX.refl S) (.tup hT rr)
        · refine .inr ⟨l, j, vs, rfl, rfl, sqT_fle S hT, fun z => h1 (by rw [z] at hl; exact List.eq_nil_of_length_eq_zero hl), by omega, h3, by omega, fun p hp => ?_⟩
          have px := PX.alloc (o := .tup (List.replicate j.toNat vs).flatten) S hp
          exact q _ _ _ px (.tup (.inl (.inl upd_same)) ((rr.rep j.toNat).fle px.mono))
    · cases e
  · cases e
end RX

set_option Elab.async false
set_option linter.all false
set_option maxRecDepth 100000
set_option maxHeartbeats 4000000
/-! RXV: lambdas in a list, each handed to the def that catches. -/
namespace RX
open PySem PySem.Spec PyProof.Rows L2 PL
structure LamD where
  params : Arguments
  body : Expr
  scope : Scope
  pos : Pos
def LamD.e (L : LamD) : Expr := .Lambda L.params L.body L.scope L.pos
/-- the object at f is this lambda, made in this frame, its code object at c' -/
def LamO (X : Cx) (L : LamD) (f c' : Addr) : HO := .ext fun h => ∃ pm ctv, h.get? f = some (PySem.W.kla_obj "<lambda>" (X.env.qual ++ "<lambda>") L.params L.body L.scope (cloFrom X.env.cells L.scope.names []) pm c' ctv)
section
variable {X : Cx} {pins : List (Addr × Obj)} {σ : L2.St} {H : Hp} {s : Shared}
theorem inv_trackL {f c' : Addr} {L : LamD} {pm ctv : Value} (I : Inv X pins σ H s) (he : s.heap.get? f = some (PySem.W.kla_obj "<lambda>" (X.env.qual ++ "<lambda>") L.params L.body L.scope (cloFrom X.env.cells L.scope.names []) pm c' ctv)) (na : H f = none) (n0 : X.s_0.heap.get? f = none) (nL : f ≠ X.env.locals) (hp : ∀ p ∈ X.pn ++ pins, p.1 ≠ f) :
    Inv X pins σ (upd H f (LamO X L f c')) s where
  ok := I.ok
  os := I.os
  bare := I.bare
  base := {
    keep := I.base.keep
    slot := I.base.slot
    free := fun b o e n x => by
      have hb : b ≠ f := fun q => by rw [q, n0] at e; cases e
      rw [upd_ne hb]; exact I.base.free b o e n x
    there := I.base.there
    tups := fun b xs e => by
      have q := I.base.tups b xs e
      rw [upd_ne (ne_of_none q na)]; exact q
    frzs := fun b o u e => by
      have q := I.base.frzs b o u e
      rw [upd_ne (ne_of_none q na)]; exact q
    tbls := fun b ps e => by
      obtain ⟨more, q⟩ := I.base.tbls b ps e
      exact ⟨more, by rw [upd_ne (ne_of_none q na)]; exact q⟩ }
  loc := I.loc
  cell := I.cell
  free := by rw [upd_ne (Ne.symm nL)]; exact I.free
  freeC := fun x c e => by
    have hc : c ≠ f := fun q => by
      obtain ⟨v, o, ho, hdat⟩ := I.cell x c e
      rw [q, he] at ho
      cases ho
      cases hdat
    rw [upd_ne hc]; exact I.freeC x c e
  pin := fun p hm => by
    obtain ⟨e1, e2, e3⟩ := I.pin p hm
    exact ⟨e1, by rw [upd_ne (hp p hm)]; exact e2, e3⟩
  hok := fun b u e => by
    by_cases hb : b = f
    · subst hb
      rw [upd_same] at e; cases e
      exact ⟨⟨pm, ctv, he⟩, ⟨_, he⟩, fun _ _ ⟨p1, p2, q⟩ k => ⟨p1, p2, k _ q⟩⟩
    · rw [upd_ne hb] at e
      refine (I.hok b u e).stay (fun _ _ _ q => q) (fun c q => ?_) fun c xs q => ?_
      · rw [upd_ne (ne_of_none q na)]; exact q
      · rw [upd_ne (ne_of_none q na)]; exact q
  len := I.len
/-- a lambda as a value -/
def tLamV (Tb : List (Addr × Str)) (P : Addr) (q : Str) (X : Cx) (L : LamD) : TE := fun σ H Q => LamX.Tabs Tb H ∧ ∀ c' f H1, LamH P q c' H H1 → LamX.Tabs Tb H1 → H1 f = none → Q (.ref f) (upd H1 f (LamO X L f c'))
theorem pe_lamV {Tb : List (Addr × Str)} {c P : Addr} {L : LamD} (hex : X.ex = []) (TB : LamX.TabB X.base X.mg c P) (hcode : X.env.code = .ref c) (hm : (P, X.env.qual ++ "<lambda>") ∈ Tb) (hu : ∀ p ∈ Tb, p.1 = P → p.2 = X.env.qual ++ "<lambda>") (hL : LamX.LamS X.env.scope L.scope) (hdef : defaultsOf L.params X.env = ([], [])) :
    PE X L.e (tLamV Tb P (X.env.qual ++ "<lambda>") X L) := by
  refine ⟨fun pins s σ H Q I ⟨hT, h⟩ => ?_⟩
  refine lam_make3 I TB hcode hm hu hT hdef (hL.has I.ok) fun f c' pm ctv H1 s' I1 eN T1 hf hfn hfr hco hsz => ?_
  have nS : s.heap.get? f = none := by
    cases e : s.heap.get? f with
    | none => rfl
    | some o => exact absurd (Nat.lt_of_lt_of_le (Heap.lt_size e) hsz) (Nat.lt_irrefl _)
  have n0 : X.s_0.heap.get? f = none := by
    cases e : X.s_0.heap.get? f with
    | none => rfl
    | some o =>
      obtain ⟨o', q⟩ := I.base.there f o e (by rw [hex]; simp)
      rw [nS] at q; cases q
  have nL : f ≠ X.env.locals := fun z => by
    have hlt := I.lt
    rw [← z] at hlt
    exact absurd (Nat.lt_of_lt_of_le hlt hsz) (Nat.lt_irrefl _)
  have np : ∀ p ∈ X.pn ++ pins, p.1 ≠ f := fun p hp z => by
    have q := (I.pin p hp).1
    rw [z, nS] at q; cases q
  exact ⟨.ref f, _, inv_trackL I1 hf hfn n0 nL np, rfl, h c' f H1 eN T1 hfn⟩
/-- the call of the catching def on a lambda that a slot holds -/
def tLamW (w : Nat) (X : Cx) (L : LamD) (TTx : (L2.XK → Hp → VK → Prop) → Hp → VK → Prop) (t : L2.XK → TE) : TE := fun σ H Q => ∃ f c', σ[w]? = some (some (.ref f)) ∧ H f = some (LamO X L f c') ∧ H c' = some (LamX.CodeO c' (X.env.qual ++ "<lambda>")) ∧ TTx (fun E H' Q' => t E σ H' Q') H Q
theorem pe_actT {CXg : CXT} {Eg : L2.XK} {Ng : List Str} {qg : Str} {sg : Scope} {g f c' : Addr} {cdg : Value} {L : LamD} {k i : Nat} {a : Str} {pn : List (Addr × Obj)} {xe : Value → Shared → Prop} {W : WX} {E : L2.XK} {tb : TE} {p1 p2 : Pos}
    (I : Inv X pins σ H s) (hL : LamX.LamS X.env.scope L.scope)
    (hbind : ∀ (q : Str) (cl : List (Str × Addr)) (pm cv ctv : Value), bindArgs (PySem.W.kla_fn "<lambda>" q L.params L.body L.scope cl pm cv ctv) ⟨[], []⟩ = pure [])
    (tk : Takes ((cxOf CXg X.prog X.w X.K X.mg X.base Ng qg sg g cdg X.A X.stack s H Eg).tr pn xe) W) (hW : ∀ cls d σ' H', E cls d H' → W cls d σ' H') (hr : Room (k + 1) (X.A.deeper (envOfC qg sg s.heap.objs.size g cdg)))
    (hbody : ∀ (A : Around) (outer : List Env) (s : Shared) (H : Hp), Room k (A.deeper (LamX.lamEnv X L.scope s.heap.objs.size f c')) → PE (LamX.lamCx X A outer s H E L.scope f c') L.body tb)
    (hN : Ng[i]? = some a) (hv : Vis sg a) (hd : (a == ("__debug__" : Str)) = false := by decide) (hcd : (a == ("__classdict__" : Str)) = false := by decide) :
    PE ((cxOf CXg X.prog X.w X.K X.mg X.base Ng qg sg g cdg X.A X.stack s H Eg).tr pn xe) (.Call (.Name a p1) [] [] p2)
      (fun σZ HZ Q => σZ[i]? = some (some (.ref f)) ∧ (HZ f = some (LamO X L f c') ∧ HZ c' = some (LamX.CodeO c' (X.env.qual ++ "<lambda>"))) ∧ tb σ HZ Q) := by
  refine ⟨fun pinsZ sZ σZ HZ Q IZ h => ?_⟩
  obtain ⟨hs, ⟨hfo, hc⟩, ht⟩ := h
  refine wpAny_Call_Name_kw (thn ((pe_var (pos := p1) (i := i) hN hv hd hcd).run pinsZ sZ σZ HZ (fun v H1 => v = .ref f ∧ H1 = HZ) IZ ⟨.ref f, hs, rfl, rfl⟩) fun u s1 ⟨v, H1, I1, r1, q1⟩ => ?_)
  obtain ⟨ev, eH⟩ := q1
  subst ev
  rw [eH] at I1
  obtain rfl : u = Value.ref f := r1
  obtain ⟨⟨pm, ctv, of1⟩, _, _⟩ := I1.hok f _ hfo
  refine PySem.W.callWith_F0 ⟨_, _, _, _, of1⟩ ?_
  have un : Un (frs X.stack) [] H HZ s.heap s1.heap := I1.base
  obtain ⟨⟨oc, vs, t, hoc, hdc, hvc⟩, _, _⟩ := I1.hok c' _ hc
  have rc : codeAny (model X.prog X.w) (X.A.deeper (envOfC qg sg s.heap.objs.size g cdg)) (.call (.ref f) ⟨[], []⟩) (CR (L2.CX X.prog X.w) (envOfC qg sg s.heap.objs.size g cdg :: X.stack) X.prog X.w HZ s1 Q E) s1 := by
    refine PySem.W.kla_callFunE hr.depth of1 rfl hL.co hL.gen rfl ⟨c', oc, vs, t, rfl, hoc, hdc, hvc⟩ ?_
    rw [hbind]
    refine wpAny_pure (wpAny_newFunctionEnv (fun y hy => (hL.own y hy).2) (fun y hy => absurd hy (by simp)) (fun h₁ hns hsb => ⟨I1.nolimit.fresh _ hsb, ?_⟩) hL.kind)
    show codeAny _ _ (.expr L.body (LamX.lamEnv X L.scope s1.heap.objs.size f c')) _ _
    have kp : ∀ b o, s1.heap.get? b = some o → h₁.get? b = some o := fun b o e => hsb.extBut b o (Nat.ne_of_lt (Heap.lt_size e)) (Heap.get?_push_of_some _ e)
    have J : Inv (LamX.lamCx X (X.A.deeper (envOfC qg sg s.heap.objs.size g cdg)) (envOfC qg sg s.heap.objs.size g cdg :: X.stack) s1 HZ E L.scope f c') [] σ HZ { s1 with heap := h₁, toks := s1.toks + ([] : List (Str × Value)).length } :=
      LamX.lam_start2 I hL I1.env0 hr.hd un hns kp
    refine PySem.W.kla_codeExpr (wpAny_mono ((hbody _ _ s1 HZ (hr.deeper _)).run [] _ _ HZ Q J ht) (fun v s' hq => ?_) fun e s' hq => hq)
    obtain ⟨w', H', J', rv, q⟩ := hq
    exact ⟨w', H', J'.os, J'.bare, J'.base, J'.hok, rv, q⟩
  have hx : Passes (L2.CX X.prog X.w) ((cxOf CXg X.prog X.w X.K X.mg X.base Ng qg sg g cdg X.A X.stack s H Eg).tr pn xe) E := passes_call tk hW
  refine wpAny_call (codeAny_mono rc fun r s' hq => ?_)
  cases r with
  | error e => exact hx pinsZ σZ HZ s1 e s' I1 hq
  | ok fl =>
    cases fl with
    | ret u => exact I1.after hq
    | next => exact False.elim hq
    | brk => exact False.elim hq
    | cont => exact False.elim hq
theorem pe_lamcallW {TTx : (L2.XK → Hp → VK → Prop) → Hp → VK → Prop} {x a wn : Str} {g : Addr} {k w : Nat} {pg : Arguments} {bg : List Stmt} {sg : Scope} {dV kV doc pm cdv ct oc : Value} {an od : Option Addr} {osl : Array (Option Value)} {Ng : List Str}
    {L : LamD} {t : L2.XK → TE} {p lpos pos : Pos} (hg : Gl X x) (hm : X.mg x = some (.ref g)) (hk : PySem.W.keepIn X.K (.ref g) = true) (hw : X.N[w]? = some wn) (hwv : Vis X.env.scope wn) (hwd : (wn == ("__debug__" : Str)) = false) (hwc : (wn == ("__classdict__" : Str)) = false)
    (lk : X.K.lookup g = some ⟨oc, od, .func (PySem.W.fnOf x x pg bg sg dV kV doc pm an cdv ct), osl⟩) (hcg : PySem.W.codeIn X.K cdv x = true) (hb : L2.Binds X.K (PySem.W.fnOf x x pg bg sg dV kV doc pm an cdv ct) [a] []) (Sg : FnScope Ng [a] sg) (hNg : Ng[0]? = some a) (hva : Vis sg a)
    (hG : GivesP X Ng x sg g cdv bg a TTx) (hr : Room (k + 2) X.A) (hL : LamX.LamS X.env.scope L.scope)
    (hbind : ∀ (q : Str) (cl : List (Str × Addr)) (pm cv ctv : Value), bindArgs (PySem.W.kla_fn "<lambda>" q L.params L.body L.scope cl pm cv ctv) ⟨[], []⟩ = pure [])
    (hbody : ∀ (A : Around) (outer : List Env) (s : Shared) (H : Hp) (E : L2.XK) (f c' : Addr), Room k (A.deeper (LamX.lamEnv X L.scope s.heap.objs.size f c')) → PE (LamX.lamCx X A outer s H E L.scope f c') L.body (t E))
    (hdb : (x == ("__debug__" : Str)) = false) (hd : (a == ("__debug__" : Str)) = false) (hcd : (a == ("__classdict__" : Str)) = false) (hst : starEach [.Name wn lpos] X.env = (false, eval (.Name wn lpos) X.env) :: starEach [] X.env) :
    PE X (.Call (.Name x p) [.Name wn lpos] [] pos) (tLamW w X L TTx t) := by
  refine ⟨fun pins s σ H Q I ⟨f, c', hσ, hf, hc, h⟩ => ?_⟩
  refine wpAny_Call_Name_kw (ld_glob I hg hm ?_ hdb)
  refine PySem.W.callWith_K (h₀ := X.base) I.ok.mod.kin hk ?_ hst (by rfl)
  rw [hst]
  show wpAny _ _ (spliced ((false, eval (.Name wn lpos) X.env) :: backTo pos (starEach [] X.env))) _ _ s
  refine Calls.spliced_cons (thn ((pe_var (pos := lpos) hw hwv hwd hwc).run pins s σ H (fun v H1 => v = .ref f ∧ H1 = H) I ⟨_, hσ, rfl, rfl⟩) fun u s1 ⟨v, H1, I1, r1, q1⟩ => Calls.spliced_nil ⟨I1.kIn, ?_⟩)
  obtain ⟨ev, eH⟩ := q1
  subst ev eH
  obtain rfl : u = Value.ref f := r1
  have run : codeAny (model X.prog X.w) X.A (.call (.ref g) ⟨[.ref f], []⟩) (CR C8.CX0 X.stack X.prog X.w H1 s1 Q C8.E0) s1 := by
    refine LamX.run_ofS (N := Ng) (ps := [a]) (us := [.ref f]) (vs := [.ref f]) lk hcg Sg hr I1.env0 (hb s1 [.ref f] I1.kIn rfl) (.cons rfl .nil) rfl fun hr' => ?_
    obtain ⟨t', ht', hq'⟩ := hG f (fun H => H f = some (LamO X L f c') ∧ H c' = some (LamX.CodeO c' (X.env.qual ++ "<lambda>"))) s1 H1 Q (fun E H' Q' => t E σ H' Q') (fun W pn xe E p1 p2 tk hW => pe_actT (i := 0) I1 hL hbind tk hW hr' (fun A outer s H hr2 => hbody A outer s H E f c' hr2) hNg hva hd hcd) ⟨hf, hc⟩ h
    exact ⟨t', ht'.nox, hq'⟩
  refine wpAny_call (codeAny_mono run fun r s2 hq => ?_)
  cases r with
  | error e => exact (show False from hq).elim
  | ok fl => cases fl <;> first | exact I1.after hq | exact False.elim hq
end
/-! ### the kind of a slot that holds such a lambda -/
section
variable {X : Cx} {T : Tx} {W : WX} {np : Nat} {Γl Γ Γ' : List (Kd T)} {m : EX}
def LamK (X : Cx) (L : LamD) : Ab T := ⟨fun F H d v fp => fp = [] ∧ d = .clo 0 ∧ ∃ f c', v = .ref f ∧ F f = some (LamO X L f c') ∧ F c' = some (LamX.CodeO c' (X.env.qual ++ "<lambda>")),
  fun F H F' H' d v fp ⟨e1, e2, f, c', e3, e4, e5⟩ hF _ => ⟨e1, e2, f, c', e3, hF _ _ e4, hF _ _ e5⟩⟩
theorem re_caughtW {L : LamD} {CS : Addr} {K : PySem.W.Frag} {cs : List String} (gh w : Nat) (hw : Γ[w]? = some (.ab (LamK X L))) (hcs : ∀ c ∈ cs, PySem.W.exmOne K (.ref (T.CA c)) (.ref CS) = some true) :
    RE T W Γ (tLamW w X L (TTc K CS) (fun E => reW T (WEx E) Γ m)) (eCaughtW cs gh w m) := by
  intro fp F H σ s Q S h
  unfold eCaughtW at h
  split at h
  · rename_i e1 e0
    have hi : w < s.length := (List.getElem?_eq_some_iff.mp e1).1
    have hσ : w < σ.length := by rw [S.ls]; exact hi
    obtain ⟨v, ev, ⟨_, _, f, c', rfl, e4, e5⟩, _⟩ := S.ok w _ _ _ e1 (List.getElem?_eq_getElem hσ) hw
    refine ⟨f, c', by rw [List.getElem?_eq_getElem hσ, ev], S.sub _ _ e4, S.sub _ _ e5, ?_⟩
    exact caught_want (W := W) hcs S h
  · exact h.elim
/-- what is asked of a slot's kind: the catching def may be called on it -/
def CaughtR (X : Cx) (T : Tx) (x wn : Str) (w gh : Nat) (tb : List (Addr × Str)) (cs : List String) (L : LamD) (k : Nat) (A : Ab T) : Prop :=
  ∀ (W : WX) (Γ : List (Kd T)) (m : EX) (p lpos pos : Pos), Γ[w]? = some (.ab A) → Γ[gh]? = some (.gh (Tab tb)) →
    (∀ (A' : Around) (outer : List Env) (s : Shared) (H : Hp) (E : L2.XK) (f c' : Addr), Room k (A'.deeper (LamX.lamEnv X L.scope s.heap.objs.size f c')) → XE (LamX.lamCx X A' outer s H E L.scope f c') T (WEx E) Γ L.body m) →
    XE X T W Γ (.Call (.Name x p) [.Name wn lpos] [] pos) (eCaughtW cs gh w m)
theorem caughtR_of {tb : List (Addr × Str)} {CS g : Addr} {cs : List String} {k j0 w gh : Nat} {x a e cn en wn : Str} {fd : FuncData} {pg : Arguments} {sg : Scope} {L : LamD} {p1 p2 p3 p4 p5 p6 p7 p8 p9 p10 p11 p12 p13 p14 : Pos}
    (Fd : FunD X.K x x pg [.Assign [.Name cn p2] (.Constant .none j0 p1) p3, .Try [.Expr (.Call (.Name a p7) [] [] p8) p9] [.ExceptHandler (some (.Name e p10)) (some en) [.Assign [.Name cn p5] (.Name en p4) p6] p11] [] [] p12, .Return (some (.Name cn p13)) p14] sg [] [] g fd) (hbn : L2.Binds X.K fd [a] []) (Sg : FnScope [a, cn, en] [a] sg) (hva : Vis sg a)
    (hca : sg.names.lookup cn = some .local) (hea : sg.names.lookup en = some .local) (hge : sg.names.lookup e = some .globalImplicit) (hme : X.mg e = some (.ref CS)) (hde : (e == ("__debug__" : Str)) = false)
    (hd1 : (cn == ("__debug__" : Str)) = false) (hd2 : (cn == ("__classdict__" : Str)) = false) (hd3 : (en == ("__debug__" : Str)) = false) (hd4 : (en == ("__classdict__" : Str)) = false)
    (hw1 : ∀ env : Env, swapsWith (.Constant .none j0 p1) (some (.Name cn p2)) p3.line env = pure false) (hw2 : ∀ env : Env, swapsWith (.Name en p4) (some (.Name cn p5)) p6.line env = pure false) (hw3 : ∀ env : Env, swapsWith (.Call (.Name a p7) [] [] p8) none p9.line env = pure false)
    (hg : Gl X x) (hm : X.mg x = some (.ref g)) (hw : X.N[w]? = some wn) (hwv : visB X.env.scope wn = true) (hst : ∀ lpos, starEach [.Name wn lpos] X.env = (false, eval (.Name wn lpos) X.env) :: starEach [] X.env) (hr : Room (k + 2) X.A) (hL : LamX.LamS X.env.scope L.scope)
    (hbind : ∀ (q : Str) (cl : List (Str × Addr)) (pm cv ctv : Value), bindArgs (PySem.W.kla_fn "<lambda>" q L.params L.body L.scope cl pm cv ctv) ⟨[], []⟩ = pure [])
    (hcs : ∀ c ∈ cs, PySem.W.exmOne X.K (.ref (T.CA c)) (.ref CS) = some true)
    (hdb : (x == ("__debug__" : Str)) = false) (hd : (a == ("__debug__" : Str)) = false) (hcd : (a == ("__classdict__" : Str)) = false) :
    CaughtR X T x wn w gh tb cs L k (LamK X L) := by
  intro W Γ m p lpos pos hΓw hΓg hbody
  have kp := Fd.kp
  have q := visB_of hwv
  obtain ⟨oc, od, dV, kV, doc, pm, an, cdv, ct, osl, rfl, lk, hcdv, _, _⟩ := Fd.ex
  exact ⟨_, pe_lamcallW (L := L) hg hm kp hw q.1 q.2.1 q.2.2 lk hcdv hbn Sg rfl hva (caught_gives (p15 := p1) Sg.nd rfl Sg.kind hca hea hge hme hde hd1 hd2 hd3 hd4 hw1 hw2 hw3) hr hL hbind (fun A outer s H E f c' hr' => (hbody A outer s H E f c' hr').can) hdb hd hcd (hst lpos), re_caughtW gh w hΓw hcs⟩
/-- the objects at vs are these lambdas -/
def LamsR (X : Cx) (F : Hp) : List LamD → List V → Prop
  | [], [] => True
  | L :: Ls, v :: vs => (∃ f c', v = .ref f ∧ F f = some (LamO X L f c') ∧ F c' = some (LamX.CodeO c' (X.env.qual ++ "<lambda>"))) ∧ LamsR X F Ls vs
  | _, _ => False
theorem LamsR.fle {F F' : Hp} (h : Fle F F') : ∀ {Ls : List LamD} {vs : List V}, LamsR X F Ls vs → LamsR X F' Ls vs
  | [], [], _ => trivial
  | L :: Ls, v :: vs, ⟨⟨f, c', e1, e2, e3⟩, r⟩ => ⟨⟨f, c', e1, h _ _ e2, h _ _ e3⟩, LamsR.fle h r⟩
  | [], _ :: _, q => q.elim
  | _ :: _, [], q => q.elim
theorem LamsR.len {F : Hp} : ∀ {Ls : List LamD} {vs : List V}, LamsR X F Ls vs → vs.length = Ls.length
  | [], [], _ => rfl
  | L :: Ls, v :: vs, ⟨_, r⟩ => by rw [List.length_cons, List.length_cons, LamsR.len r]
  | [], _ :: _, q => q.elim
  | _ :: _, [], q => q.elim
theorem LamsR.get {F : Hp} : ∀ {Ls : List LamD} {vs : List V} {i : Nat} {L : LamD}, LamsR X F Ls vs → Ls[i]? = some L → ∃ f c', vs[i]? = some (.ref f) ∧ F f = some (LamO X L f c') ∧ F c' = some (LamX.CodeO c' (X.env.qual ++ "<lambda>"))
  | [], _, _, _, _, e => by simp at e
  | L :: Ls, v :: vs, 0, L', ⟨⟨f, c', e1, e2, e3⟩, r⟩, e => by
    simp at e; subst e
    exact ⟨f, c', by simp [e1], e2, e3⟩
  | L :: Ls, v :: vs, i + 1, L', ⟨_, r⟩, e => by
    obtain ⟨f, c', a, b, c⟩ := LamsR.get (i := i) r (by simpa using e)
    exact ⟨f, c', by simpa using a, b, c⟩
  | _ :: _, [], _, _, q, _ => q.elim
def tLams (Tb : List (Addr × Str)) (P : Addr) (q : Str) (X : Cx) : List LamD → TA
  | [] => tNil
  | L :: Ls => tCons (tLamV Tb P q X L) (tLams Tb P q X Ls)
theorem pa_lams {Tb : List (Addr × Str)} {c P : Addr} (hex : X.ex = []) (TB : LamX.TabB X.base X.mg c P) (hcode : X.env.code = .ref c) (hm : (P, X.env.qual ++ "<lambda>") ∈ Tb) (hu : ∀ p ∈ Tb, p.1 = P → p.2 = X.env.qual ++ "<lambda>") : ∀ (Ls : List LamD), (∀ L ∈ Ls, LamX.LamS X.env.scope L.scope ∧ defaultsOf L.params X.env = ([], [])) →
    PA X (Ls.map LamD.e) (tLams Tb P (X.env.qual ++ "<lambda>") X Ls)
  | [], _ => pa_nil
  | L :: Ls, h => pa_cons (pe_lamV hex TB hcode hm hu (h L List.mem_cons_self).1 (h L List.mem_cons_self).2) (pa_lams hex TB hcode hm hu Ls fun L' hL' => h L' (List.mem_cons_of_mem _ hL')) rfl
theorem ra_lams {tb : List (Addr × Str)} {P : Addr} {gh : Nat} (hg : Γ[gh]? = some (.gh (Tab tb))) (hm : (P, X.env.qual ++ "<lambda>") ∈ tb) (hu : ∀ p ∈ tb, p.1 = P → p.2 = X.env.qual ++ "<lambda>") : ∀ (Ls : List LamD) {fp : Nat → List Addr} {F H : Hp} {σ : L2.St} {s : En} {Q : List V → Hp → Prop}, Sta T Γ fp F H σ s → s[gh]? = some (some .non) →
    (∀ fp' F' H' vs, Go fp fp' F F' H H' → Sta T Γ fp' F' H' σ s → LamsR X F' Ls vs → Q vs H') → tLams tb P (X.env.qual ++ "<lambda>") X Ls σ H Q
  | [], fp, F, H, σ, s, Q, S, e0, h => h fp F H [] Go.refl S trivial
  | L :: Ls, fp, F, H, σ, s, Q, S, e0, h => by
    refine ⟨S.tabs hg e0, fun c' f H1 hl hT1 hf => ?_⟩
    obtain ⟨fp1, F1, g1, S1, hc⟩ := S.made hg e0 hm hu hl
    have px := PX.alloc (o := LamO X L f c') S1.sub hf
    have S2 := px.sta S1
    refine ra_lams hg hm hu Ls S2 e0 fun fp' F' H' vs g S' r => ?_
    exact h fp' F' H' _ ((g1.trans px.go).trans g) S' ⟨⟨f, c', rfl, g.mono _ _ upd_same, g.mono _ _ (px.mono _ _ hc)⟩, r⟩
/-- one body a lambda -/
def LamB (X : Cx) (T : Tx) (W : WX) (np : Nat) (Γ : List (Kd T)) (x wn : Str) (w gh : Nat) (tb : List (Addr × Str)) (cs : List String) (k : Nat) (body : List Stmt) : List LamD → List ST → Prop
  | [], [] => True
  | L :: Ls, m :: ms => (∀ A : Ab T, CaughtR X T x wn w gh tb cs L k A → XB X T W np (Γ.set w (.ab A)) (Γ.set w (.ab A)) (Γ.set w (.ab A)) body m) ∧ LamB X T W np Γ x wn w gh tb cs k body Ls ms
  | _, _ => False
theorem LamB.get {x wn : Str} {w gh : Nat} {tb : List (Addr × Str)} {cs : List String} {k : Nat} {body : List Stmt} : ∀ {Ls : List LamD} {ms : List ST} {i : Nat} {L : LamD}, LamB X T W np Γ x wn w gh tb cs k body Ls ms → Ls[i]? = some L →
    ∃ m, ms[i]? = some m ∧ ∀ A : Ab T, CaughtR X T x wn w gh tb cs L k A → XB X T W np (Γ.set w (.ab A)) (Γ.set w (.ab A)) (Γ.set w (.ab A)) body m
  | [], _, _, _, _, e => by simp at e
  | L :: Ls, m :: ms, 0, L', ⟨a, r⟩, e => by simp at e; subst e; exact ⟨m, rfl, a⟩
  | L :: Ls, m :: ms, i + 1, L', ⟨_, r⟩, e => by
    obtain ⟨m', e1, e2⟩ := LamB.get (i := i) r (by simpa using e)
    exact ⟨m', by simpa using e1, e2⟩
  | _ :: _, [], _, _, q, _ => q.elim
theorem LamB.len {x wn : Str} {w gh : Nat} {tb : List (Addr × Str)} {cs : List String} {k : Nat} {body : List Stmt} : ∀ {Ls : List LamD} {ms : List ST}, LamB X T W np Γ x wn w gh tb cs k body Ls ms → ms.length = Ls.length
  | [], [], _ => rfl
  | L :: Ls, m :: ms, ⟨_, r⟩ => by rw [List.length_cons, List.length_cons, LamB.len r]
  | [], _ :: _, q => q.elim
  | _ :: _, [], q => q.elim
/-- a slot with a lambda, forgotten -/
theorem Sta.forget {L : LamD} {fp : Nat → List Addr} {F H : Hp} {σ : L2.St} {s : En} {w : Nat} (S : Sta T (Γ.set w (.ab (LamK X L))) fp F H σ s) (hw : Γ[w]? = some .fz) : Sta T Γ fp F H σ (s.set w none) := by
  have hwl : w < Γ.length := (List.getElem?_eq_some_iff.mp hw).1
  have hls : s.length = Γ.length := by have := S.lg; rw [List.length_set] at this; exact this.symm
  refine ⟨S.sub, by rw [List.length_set]; exact S.ls, by rw [List.length_set]; exact hls.symm, fun i od ov k h1 h2 h3 => ?_, fun i hi => S.out i (by rw [List.length_set] at hi; exact hi), S.dis⟩
  by_cases e : w = i
  · subst e
    rw [List.getElem?_set_self (by omega)] at h1
    cases h1
    have hs : w < s.length := by omega
    have q := S.ok w _ _ _ (List.getElem?_eq_getElem hs) h2 (List.getElem?_set_self hwl)
    unfold SlotOk at q ⊢
    cases e2 : s[w] with
    | none => rw [e2] at q; exact q
    | some d => rw [e2] at q; obtain ⟨v, _, ⟨a, _⟩, _⟩ := q; exact a
  · rw [List.getElem?_set_ne e] at h1
    exact S.ok i od ov k h1 h2 (by rw [List.getElem?_set_ne e]; exact h3)
theorem Sta.dropF {fp : Nat → List Addr} {F H : Hp} {σ : L2.St} {s : En} {w : Nat} (S : Sta T Γ fp F H σ s) (hw : Γ[w]? = some .fz) : Sta T Γ fp F H σ (s.set w none) := by
  have hwl : w < Γ.length := (List.getElem?_eq_some_iff.mp hw).1
  have hls : s.length = Γ.length := S.lg.symm
  refine ⟨S.sub, by rw [List.length_set]; exact S.ls, by rw [List.length_set]; exact hls.symm, fun i od ov k h1 h2 h3 => ?_, fun i hi => S.out i (by rw [List.length_set] at hi; exact hi), S.dis⟩
  by_cases e : w = i
  · subst e
    rw [List.getElem?_set_self (by omega)] at h1
    cases h1
    have hs : w < s.length := by omega
    have q := S.ok w _ _ _ (List.getElem?_eq_getElem hs) h2 hw
    unfold SlotOk at q ⊢
    cases e2 : s[w] with
    | none => rw [e2] at q; exact q
    | some d => rw [e2] at q; exact q.1
  · rw [List.getElem?_set_ne e] at h1
    exact S.ok i od ov k h1 h2 h3
theorem lamGo_none (w : Nat) (bs : List ST) (s : En) : lamGo w bs (s.set w none) = lamGo w bs s := by
  cases bs with
  | nil => simp [lamGo]
  | cons b bs => simp [lamGo]
theorem xs_forL {x wn : Str} {w gh k : Nat} {tb : List (Addr × Str)} {cs : List String} {c P : Addr} {body : List Stmt} {es : List Expr} {p lpos pos : Pos} (Ls : List LamD) (bs : List ST) (he : es = Ls.map LamD.e) (hp : PassesOwn (model X.prog X.w) X.A X.env X.xe) (hc : X.calm = true) (hex : X.ex = [])
    (hN : X.N.Nodup) (hw : X.N[w]? = some wn) (hwl : locB X.env.scope wn = true) (hfn : X.fn wn = true) (hnp : np ≤ w) (hΓw : Γ[w]? = some .fz) (hΓg : Γ[gh]? = some (.gh (Tab tb))) (hgw : gh ≠ w) (hsz : Ls.length ≤ 1000)
    (TB : LamX.TabB X.base X.mg c P) (hcode : X.env.code = .ref c) (hm : (P, X.env.qual ++ "<lambda>") ∈ tb) (hu : ∀ p ∈ tb, p.1 = P → p.2 = X.env.qual ++ "<lambda>") (hL : ∀ L ∈ Ls, LamX.LamS X.env.scope L.scope ∧ defaultsOf L.params X.env = ([], []))
    (hcr : ∀ L ∈ Ls, CaughtR X T x wn w gh tb cs L k (LamK X L)) (hb : LamB X T W np Γ x wn w gh tb cs k body Ls bs) :
    XS X T W np Γl Γ Γ (.For (.Name wn p) (.List es lpos) body [] pos) (sForL w gh bs) := by
  subst he
  refine ⟨_, ps_for (tb := fun D σ H => ∃ (Γ0 : List (Kd T)) (m : ST), XB X T W np Γ0 Γ0 Γ0 body m ∧ rsW T W np Γ0 Γ0 Γ0 m D σ H) hp hc (pi_list (pe_lst (pa_lams hex TB hcode hm hu Ls hL))) (pg_name hN hw (locB_of hwl) (.inl hfn)) ⟨fun pins s σ H D I ⟨Γ0, m, xb, q⟩ => xb.can.run pins s σ H D I q⟩, .refl, fun fp F H σ s D S h => ?_⟩
  unfold sForL at h
  split at h
  · rename_i e0
    split at h
    · rename_i hws
      refine ra_lams hΓg hm hu Ls S e0 fun fp1 F1 H1 vs g1 S1 r1 => ⟨by rw [r1.len]; exact Nat.le_trans hsz (by decide), fun a ha => ?_⟩
      have px := PX.alloc (o := .lst vs) S1.sub ha
      have S2 := px.sta S1
      have g2 := g1.trans px.go
      generalize hF2 : upd F1 a (HO.lst vs) = F2 at px S2 g2
      generalize hH2 : upd H1 a (HO.lst vs) = H2 at px S2 g2
      have hF2a : F2 a = some (.lst vs) := by rw [← hF2, upd_same]
      have r2 := r1.fle px.mono
      refine ⟨a, rfl, ⟨vs, SqL.of (S2.sub _ _ hF2a)⟩, ?_⟩
      generalize hr : lamGo w bs s = r at h
      have hno : r ≠ .no := fun z => by rw [z] at h; exact h
      have hbl := hb.len
      refine for_list (K := X.K) (g := L2.gName w) (tb := fun D σ H => ∃ (Γ0 : List (Kd T)) (m : ST), XB X T W np Γ0 Γ0 Γ0 body m ∧ rsW T W np Γ0 Γ0 Γ0 m D σ H) (D := D) (xs := vs) (fun i σc Hc => i ≤ vs.length ∧ ∃ fpc Fc sc, GoS np Γ fp fpc F Fc H Hc σ σc ∧ Sta T Γ fpc Fc Hc σc sc ∧ Fle F2 Fc ∧ sc.length = s.length ∧ lamGo w (bs.drop i) sc = r) ⟨Nat.zero_le _, fp1, F2, s, .of g2, S2, Fle.refl _, rfl, by simpa using hr⟩ (fun i σc Hc hi ⟨_, fpc, Fc, sc, _, Sc, hle, _⟩ => SqL.of (Sc.sub _ _ (hle _ _ hF2a))) (fun i v σc Hc hv ⟨hi, fpc, Fc, sc, gc, Sc, hle, hsl, hgo⟩ => ?_) fun σc Hc ⟨_, fpc, Fc, sc, gc, Sc, hle, hsl, hgo⟩ => ?_
      · have hlt : i < vs.length := (List.getElem?_eq_some_iff.mp hv).1
        have hlL : i < Ls.length := by rw [← r2.len]; exact hlt
        have eL : Ls[i]? = some Ls[i] := List.getElem?_eq_getElem hlL
        obtain ⟨f, c', e1, e2, e3⟩ := (r2.fle hle).get eL
        rw [hv] at e1
        cases e1
        obtain ⟨m, em, xbA⟩ := hb.get eL
        have xb := xbA _ (hcr _ (List.getElem_mem hlL))
        have hbd : bs.drop i = m :: bs.drop (i + 1) := by
          obtain ⟨h1, h2⟩ := List.getElem?_eq_some_iff.mp em
          rw [← h2]; exact List.drop_eq_getElem_cons h1
        rw [hbd] at hgo
        have S3 := Sc.abNew (A := LamK X Ls[i]) (i := w) (d := .clo 0) (v := .ref f) (fn := []) ⟨rfl, rfl, f, c', rfl, e2, e3⟩ (fun b hb => by cases hb) (fun b hb => by cases hb) (by rw [hsl]; exact hws)
        refine ⟨Γ.set w (.ab (LamK X Ls[i])), m, xb, _, Fc, _, S3, ?_⟩
        have g3 : GoS np Γ fp (fun k => if k = w then [] else fpc k) F Fc H Hc σ (σc.set w (some (.ref f))) := ⟨gc.keep, gc.dom, gc.mono, gc.new, fun j b hb => by
          try dsimp only at hb
          split at hb
          · cases hb
          · exact gc.fpn j b hb, fun j kd hj hk ho => by rw [List.getElem?_set_ne (by omega)]; exact gc.par j kd hj hk ho⟩
        have ks3 : KS np Γ (Γ.set w (.ab (LamK X Ls[i]))) := .set hnp
        have hls : s.length = Γ.length := S.lg.symm
        have hgo : (match m (sc.set w (some (.clo 0))) with
          | .ok .nx s' => lamGo w (bs.drop (i + 1)) s'
          | .ok .ct s' => lamGo w (bs.drop (i + 1)) s'
          | .ok (.rt d) s' => .ok (.rt d) s'
          | .ex c fs s' => .ex c fs s'
          | _ => .no) = r := hgo
        cases e4 : m (sc.set w (some (.clo 0))) with
        | ok fl s4 =>
          rw [e4] at hgo
          cases fl with
          | nx =>
            intro fp4 F4 H4 σ4 g4 S4
            have l4 := S4.lg
            rw [List.length_set] at l4
            exact ⟨hlt, fp4, F4, s4.set w none, g3.trans ks3 g4, S4.forget hΓw, hle.trans g4.mono, by rw [List.length_set]; omega, by rw [lamGo_none]; exact hgo⟩
          | ct =>
            intro fp4 F4 H4 σ4 g4 S4
            have l4 := S4.lg
            rw [List.length_set] at l4
            exact ⟨hlt, fp4, F4, s4.set w none, g3.trans ks3 g4, S4.forget hΓw, hle.trans g4.mono, by rw [List.length_set]; omega, by rw [lamGo_none]; exact hgo⟩
          | bk => exact absurd hgo.symm hno
          | rt d =>
            have hgo : Res.ok (PL.Flow.rt d) s4 = r := hgo
            rw [← hgo] at h
            exact fun Γr fp' F' H' σ' v k g S' rv => h Γr fp' F' H' σ' v (ks3.trans k) (g3.trans ks3 g) S' rv
        | ex c fs s4 =>
          rw [e4] at hgo
          have hgo : Res.ex c fs s4 = r := hgo
          rw [← hgo] at h
          exact fun Γr fp' F' H' σ' od k g S' xx => h Γr fp' F' H' σ' od (ks3.trans k) (g3.trans ks3 g) S' xx
        | no =>
          rw [e4] at hgo
          exact absurd hgo.symm hno
      · have hbd : bs.drop vs.length = [] := List.drop_eq_nil_of_le (by rw [hbl, r2.len]; exact Nat.le_refl _)
        rw [hbd] at hgo
        have hgo : Res.ok PL.Flow.nx (sc.set w none) = r := hgo
        rw [← hgo] at h
        exact h fpc Fc Hc σc gc (Sc.dropF hΓw)
    · exact h.elim
  · exact h.elim
end
end RX

set_option Elab.async false
set_option linter.all false
set_option maxRecDepth 100000
set_option maxHeartbeats 4000000
/-! RXW: list(x) as an own list; list * number; printed forms. -/
namespace RX
open PySem PySem.Spec PyProof.Rows L2 PL
section
variable {X : Cx} {T : Tx} {W : WX} {np : Nat} {Γl Γ Γ' Γr : List (Kd T)} {pos p : Pos} {e : Expr} {es : List Expr} {l : LX} {m : EX}
theorem xl_list (hK : X.K = T.K) (hg : Gl X "list") (hm : X.mg "list" = none) (ha : XA X T W Γ (e :: es) l) (he : starEach (e :: es) X.env = (false, eval e X.env) :: starEach es X.env) (hpl : (backTo pos (starEach es X.env)).any (·.1) = false) :
    XL X T W Γ (.Call (.Name "list" p) (e :: es) [] pos) (eB pList l) := by
  obtain ⟨t, p1, r⟩ := ha
  refine ⟨_, pe_callTy call_list_of hg hm boot_list p1 (by decide) (by decide) he hpl, fun fp F H σ s Q S h => ?_⟩
  refine r fp F H σ s _ S (h.bind.imp fun ds s1 fp1 F1 H1 g1 S1 h2 vs rv => ?_)
  have fin : ∀ (q : Addr) (ws : List V) (xs : List D), pList ds = some (.lst xs) → RepL T F1 xs ws → H1 q = none → Q (.ref q) (upd H1 q (.lst ws)) := fun q ws xs ed rr hq => by
    rw [ed] at h2
    have hF : F1 q = none := S1.sub.none hq
    have hf : ∀ i, q ∉ fp1 i := fun i hi => by obtain ⟨_, o, z⟩ := S1.slot_none hi; rw [hq] at z; cases z
    exact h2 fp1 F1 _ (Go.refl.updNew hq) (S1.updOut hf hF) q ws xs rfl (g1.dom q hq) upd_same hF hf rr
  have hh : (∃ xs, ds = [.lst xs]) ∨ ∃ xs, ds = [.tup xs] := by
    have h3 := h2
    unfold pList at h3
    split at h3
    · exact .inl ⟨_, rfl⟩
    · exact .inr ⟨_, rfl⟩
    · exact h3.elim
  rcases hh with ⟨xs, rfl⟩ | ⟨xs, rfl⟩
  · cases rv with
    | cons r0 rs =>
      cases rs
      cases r0 with
      | lst hl rl => exact ⟨_, _, rfl, .inl (SqL.of (S1.sub _ _ hl)), fun q hq => fin q _ xs rfl rl hq⟩
  · cases rv with
    | cons r0 rs =>
      cases rs
      cases r0 with
      | tup hl rl => exact ⟨_, _, rfl, .inr (by rw [hK]; exact sqT_fle S1.sub hl), fun q hq => fin q _ xs rfl rl hq⟩
theorem eB_list_lst : ∀ s d s', eB pList l s = .ok d s' → ∃ ds, d = .lst ds := fun s d s' h => by
  unfold eB at h
  cases e : l s with
  | ok xs s1 =>
    rw [e] at h
    have h : ofO (pList xs) s1 = .ok d s' := h
    unfold pList at h
    split at h
    · cases h; exact ⟨_, rfl⟩
    · cases h; exact ⟨_, rfl⟩
    · cases h
  | ex c fs s1 => rw [e] at h; cases h
  | no => rw [e] at h; cases h
/-- xs = list(e) -/
theorem gOwnC (i : Nat) {x : Str} {pos' p2 p3 : Pos} (hN : X.N.Nodup) (hi : X.N[i]? = some x) (hx : locB X.env.scope x = true) (hf : X.fn x = true) (hp : np ≤ i) (hl : i < Γ.length) (hs : swapsWith (.Call (.Name "list" p3) (e :: es) [] p2) (some (.Name x pos')) pos.line X.env = pure false) (hK : X.K = T.K) (hg : Gl X "list") (hm : X.mg "list" = none) (ha : XA X T W Γ (e :: es) l)
    (he : starEach (e :: es) X.env = (false, eval e X.env) :: starEach es X.env) (hpl : (backTo p2 (starEach es X.env)).any (·.1) = false) :
    XS X T W np Γl Γ (Γ.set i .own) (.Assign [.Name x pos'] (.Call (.Name "list" p3) (e :: es) [] p2) pos) (sSet i (eB pList l)) := xs_own hN hi (locB_of hx) (.inl hf) hp hl (xl_list hK hg hm ha he hpl) eB_list_lst hs
theorem ok_mulL : OpK T rRep pMulL := by
  intro F H x y v w d Q S rx ry e q
  unfold pMulL at e
  split at e
  · rename_i a j
    split at e
    · rename_i h
      obtain ⟨h1, h2, h3⟩ := h
      cases e
      cases ry
      cases rx with
      | lst hl rr =>
        rename_i p vs
        refine ⟨p, j, vs, rfl, rfl, S _ _ hl, by omega, by omega, ?_, fun q2 hq => ?_⟩
        · rw [← rr.length]
          have a1 : a.length * j.toNat ≤ 1000 * 1000 := Nat.mul_le_mul h3 (by omega)
          have a2 : (1000 * 1000 : Nat) ≤ sizeLine := by decide
          omega
        · have px := PX.alloc (o := .lst (List.replicate j.toNat vs).flatten) S hq
          exact q _ _ _ px (.lst upd_same ((rr.rep j.toNat).fle px.mono))
    · cases e
  · cases e
theorem gPut (i : Nat) {x : Str} {px p2 : Pos} {k : Expr} {mk : EX} (hN : X.N[i]? = some x) (hv : visB X.env.scope x = true) (hk : Γ[i]? = some .own) (hkx : XE X T W Γ k mk) (he : XE X T W Γ e m)
    (ha : ∀ v, assign (.Subscript (.Name x px) k p2) X.env v = (do
      let ov ← holding [v] (eval (.Name x px) X.env)
      let iv ← holding [v, ov] (eval k X.env)
      standAt p2
      holding [v, ov, iv] (setItem ov iv v)
      release [v, ov, iv] []))
    (hs : swapsWithSole [.Subscript (.Name x px) k p2] e pos.line X.env = pure false) (hw : swappedStores [.Subscript (.Name x px) k p2] e X.env = pure none)
    (h1 : (assignEach [.Subscript (.Name x px) k p2] X.env).map (·.2) = [assign (.Subscript (.Name x px) k p2) X.env]) :
    XS X T W np Γl Γ Γ (.Assign [.Subscript (.Name x px) k p2] e pos) (sPut i mk m) :=
  let q := visB_of hv
  xs_put hN q.1 q.2.1 q.2.2 hk hkx he ha hs hw h1
/-- xs, y = [..], e on one line: xs is the slot's own -/
theorem rs_parO1 {te tl : TE} {i j : Nat} {ml me : EX} (hij : i ≠ j) (hj : Γ[j]? = some .fz) (hi : np ≤ i) (hl : i < Γ.length) (re : RE T W Γ te me) (rl : RL T W Γ tl ml) (hlst : ∀ s d s', ml s = .ok d s' → ∃ ds, d = .lst ds) :
    RS T W np Γl Γ (Γ.set i .own) (tPar i j (tCons tl (tCons te tNil))) (sPar [i, j] (lCons ml (lCons me lNil))) := by
  refine ⟨.set hi, fun fp F H σ s D S h => ?_⟩
  unfold sPar lCons at h
  cases e1 : ml s with
  | no => rw [e1] at h; exact h.elim
  | ex c fs s1 =>
    rw [e1] at h
    exact rl fp F H σ s _ S (by rw [e1]; exact fun fp' F' H' od g S' x => h Γ fp' F' H' σ od .refl (.of g) S' x)
  | ok d1 s1 =>
    rw [e1] at h
    obtain ⟨ds, rfl⟩ := hlst s d1 s1 e1
    refine rl fp F H σ s _ S (Po.ofOk _ s1 e1 fun fp1 F1 H1 g1 S1 a vs ds' ed hH ha hn hf rs => ?_)
    cases ed
    cases e2 : me s1 with
    | no =>
      have h : PoS T W np Γl Γ (Γ.set i .own) fp F H σ ((((me s1).bind fun x s => (lNil s).bind fun xs s => .ok (x :: xs) s).bind fun xs s => .ok (.lst ds :: xs) s).bind fun ds s => if ds.length = [i, j].length then .ok .nx (putE s [i, j] ds) else .no) D := h
      rw [e2] at h; exact h.elim
    | ex c fs s2 =>
      have h : PoS T W np Γl Γ (Γ.set i .own) fp F H σ ((((me s1).bind fun x s => (lNil s).bind fun xs s => .ok (x :: xs) s).bind fun xs s => .ok (.lst ds :: xs) s).bind fun ds s => if ds.length = [i, j].length then .ok .nx (putE s [i, j] ds) else .no) D := h
      rw [e2] at h
      exact re fp1 F1 H1 σ s1 _ S1 (by rw [e2]; exact fun fp' F' H' od g S' x => h Γ fp' F' H' σ od .refl (.of (g1.trans g)) S' x)
    | ok d2 s2 =>
      have h : PoS T W np Γl Γ (Γ.set i .own) fp F H σ ((((me s1).bind fun x s => (lNil s).bind fun xs s => .ok (x :: xs) s).bind fun xs s => .ok (.lst ds :: xs) s).bind fun ds s => if ds.length = [i, j].length then .ok .nx (putE s [i, j] ds) else .no) D := h
      rw [e2] at h
      have h : PoS T W np Γl Γ (Γ.set i .own) fp F H σ (.ok .nx ((s2.set i (some (.lst ds))).set j (some d2))) D := h
      refine re fp1 F1 H1 σ s1 _ S1 (Po.ofOk d2 s2 e2 fun fp2 F2 H2 g2 S2 v2 rv2 => ?_)
      refine ⟨.ref a, v2, rfl, ?_⟩
      have ha2 : H2 a = some (.lst vs) := g2.keep a _ ha hf
      have hn2 : F2 a = none := by
        cases z : F2 a with
        | none => rfl
        | some o =>
          rcases g2.new a o z with w | w
          · rw [hn] at w; cases w
          · rw [ha] at w; cases w
      have hf2 : ∀ k, a ∉ fp2 k := fun k hk => by
        rcases g2.fpn k a hk with w | w
        · exact hf k w
        · rw [ha] at w; cases w
      have S3 := S2.setF hj rv2
      obtain ⟨fp', q1, q2, S'⟩ := S3.ownAt (np := np) (H0 := H) hi ha2 hn2 hf2 (rs.fle g2.mono) (by rw [List.length_set, ← S2.lg]; exact hl)
      have g := g1.trans g2
      rw [show (s2.set i (some (PL.D.lst ds))).set j (some d2) = (s2.set j (some d2)).set i (some (.lst ds)) from List.set_comm _ _ hij] at h
      rw [show (σ.set i (some (V.ref a))).set j (some v2) = (σ.set j (some v2)).set i (some (.ref a)) from List.set_comm _ _ hij]
      refine h fp' F2 H2 _ ⟨g.keep, g.dom, g.mono, fun b o q => (g.new b o q).elim .inl fun w => .inr (.inl w), fun k b hb => ?_, fun k kd hk hkd ho => ?_⟩ S'
      · by_cases hk : k = i
        · subst hk
          rw [q2] at hb
          simp only [List.mem_singleton] at hb
          subst hb
          exact .inr hH
        · rw [q1 k hk] at hb
          exact g.fpn k b hb
      · rw [List.getElem?_set_ne (by omega)]
        by_cases hjk : j = k
        · subst hjk; rw [hj] at hkd; cases hkd; cases ho
        · rw [List.getElem?_set_ne hjk]
theorem xs_parO1 {me : EX} {a : Expr} {i j : Nat} {x y : Str} {px py pt p2 : Pos} {kt k2 pt2} (hc : X.calm = true) (hN : X.N.Nodup) (hi : X.N[i]? = some x) (hj : X.N[j]? = some y) (hij : i ≠ j) (hz : Γ[j]? = some .fz) (hp : np ≤ i) (hl : i < Γ.length)
    (hx : X.env.scope.names.lookup x = some .local) (hy : X.env.scope.names.lookup y = some .local) (hb : XA X T W Γ es l) (ha : XE X T W Γ a me) (hs1 : starEach [.List es p2, a] X.env = (false, eval (.List es p2) X.env) :: starEach [a] X.env) (hs2 : starEach [a] X.env = (false, eval a X.env) :: starEach [] X.env)
    (hw : swappedStores [.Tuple [.Name x px, .Name y py] kt pt] (.Tuple [.List es p2, a] k2 pt2) X.env = pure (some [x, y]))
    (hs : swapsWithSole [.Tuple [.Name x px, .Name y py] kt pt] (.Tuple [.List es p2, a] k2 pt2) pos.line X.env = pure false) :
    XS X T W np Γl Γ (Γ.set i .own) (.Assign [.Tuple [.Name x px, .Name y py] kt pt] (.Tuple [.List es p2, a] k2 pt2) pos) (sPar [i, j] (lCons (eLst l) (lCons me lNil))) := by
  obtain ⟨te, p, r⟩ := ha
  obtain ⟨tl, q, rl⟩ := xl_lst (pos := p2) hb
  exact ⟨_, ps_par hc hN hi hj hij hx hy (pa_cons q (pa_cons p pa_nil hs2) hs1) hw hs, rs_parO1 hij hz hp hl r rl eLst_lst⟩
theorem ks_via (a : KS np Γ Γr) (b : KS np Γ Γ') : KS np Γr Γ' := ⟨b.len.trans a.len.symm, fun i h => (b.par i h).trans (a.par i h).symm⟩
end
def letB (K : PySem.W.Frag) (x : Str) (all : List String) : Bool := all.all fun c => decide (PySem.W.exmOne K (.ref (He.ga K (Str.ofString c))) (.ref (He.ga K x)) = some false)
theorem letB_ok {K : PySem.W.Frag} {x : Str} {all : List String} (h : letB K x all = true) : ∀ c ∈ all, PySem.W.exmOne K (.ref ((TT K).CA c)) (.ref (He.ga K x)) = some false :=
  fun c hc => of_decide_eq_true (List.all_eq_true.mp h c hc)
end RX

set_option Elab.async false
set_option linter.all false
set_option maxRecDepth 100000
set_option maxHeartbeats 400000

/-! K66P: the defs as pure functions. Printed by gen.py. -/
namespace K66
open PL HP
def m_is_number : ST :=
  (sRet (PL.eAnd (e1 (pIsT ["int"]) (eV 0)) (eNot (e1 (pIsT ["bool"]) (eV 0)))))
def f_is_number : FN := fnB 1 [] m_is_number
def m_is_between : ST :=
  (sRet (PL.eAnd (eCall 1 f_is_number (lCons (eV 0) lNil)) (eCh pLe pLe (eV 1) (eV 0) (eV 2))))
def f_is_between : FN := fnB 3 [] m_is_between
def m_is_list : ST :=
  (sRet (e1 (pIsT ["list", "tuple"]) (eV 0)))
def f_is_list : FN := fnB 1 [] m_is_list
def m_is_text : ST :=
  (sRet (PL.eAnd (e1 (pIsT ["str"]) (eV 0)) (PL.eAnd (e2 pLe (eB pLen (lCons (eV 0) lNil)) (eC (.int 127))) (eB pAll (lCons (eLc (itAny (eV 0)) [1] (gT [1] dNm) uYes (e2 pIn (eV 1) (eC (.str [97, 98, 99, 100, 101, 102, 103, 104, 105, 106, 107, 108, 109, 110, 111, 112, 113, 114, 115, 116, 117, 118, 119, 120, 121, 122])))) lNil)))))
def f_is_text : FN := fnB 2 [] m_is_text
def m_digits : ST :=
  (sSeq (sSet 1 (eLst lNil)) (sSeq (sWhile (fun _ => 100000) (uB (e2 pGe (eV 0) (eC (.int 128)))) (sSeq (sApp 1 (e2 pAdd (eC (.int 128)) (e2 pMod (eV 0) (eC (.int 128))))) (sSet 0 (e2 pDivW (eV 0) (eC (.int 128)))))) (sRet (eLst (lStar (eV 1) (lCons (eV 0) lNil))))))
def f_digits : FN := fnB 2 [] m_digits
def m_bytes_at (g : FN) : ST :=
  (sSeq (sIf (uB (e1 pIsN (eV 0))) (sRet (eLst (lCons (eC (.int 0)) lNil))) sSkip) (sSeq (sIf (uAnd (uB (eCall 1 f_is_number (lCons (eV 0) lNil))) (uB (eCh pLe pLt (eC (.int 0)) (eV 0) (e2 pPow (eC (.int 128)) (eC (.int 9)))))) (sRet (eLst (lCons (eC (.int 1)) (lStar (eCall 1 f_digits (lCons (eV 0) lNil)) lNil)))) sSkip) (sSeq (sIf (uB (eCall 1 f_is_text (lCons (eV 0) lNil))) (sRet (eLst (lCons (eC (.int 2)) (lCons (eB pLen (lCons (eV 0) lNil)) (lStar (eLc (itAny (eV 0)) [2] (gT [2] dNm) uYes (e2 pAdd (eC (.int 97)) (eIdx (eC (.str [97, 98, 99, 100, 101, 102, 103, 104, 105, 106, 107, 108, 109, 110, 111, 112, 113, 114, 115, 116, 117, 118, 119, 120, 121, 122])) (eV 2)))) lNil))))) sSkip) (sSeq (sIf (uOr (uNot (uB (e1 (pIsT ["tuple"]) (eV 0)))) (uOr (uB (e2 pEq (eV 1) (eC (.int 0)))) (uB (e2 pGe (eB pLen (lCons (eV 0) lNil)) (e2 pPow (eC (.int 128)) (eC (.int 3))))))) (sRaise0 "BadValue") sSkip) (sSeq (sSet 3 (eLst (lCons (eC (.int 3)) (lStar (eCall 1 f_digits (lCons (eB pLen (lCons (eV 0) lNil)) lNil)) lNil)))) (sSeq (sFor (itAny (eV 0)) (gT [4] dNm) (sExt 3 (eCall 2 g (lCons (eV 4) (lCons (e2 pSub (eV 1) (eC (.int 1))) lNil))))) (sRet (eV 3))))))))
def f_bytes_at : Nat → FN
  | 0 => fnNo
  | n + 1 => fnB 5 [] (m_bytes_at (f_bytes_at n))
def m_value_bytes : ST :=
  (sRet (eCall 2 (f_bytes_at 12) (lCons (eV 0) (lCons (eC (.int 8)) lNil))))
def f_value_bytes : FN := fnB 1 [] m_value_bytes
def m_need_bytes : ST :=
  (sIf (uOr (uNot (uB (eCall 1 f_is_list (lCons (eV 0) lNil)))) (uNot (uB (eB pAll (lCons (eLc (itAny (eV 0)) [1] (gT [1] dNm) uYes (eCall 3 f_is_between (lCons (eV 1) (lCons (eC (.int 0)) (lCons (eC (.int 255)) lNil))))) lNil))))) (sRaise1 "BadBytes" "place" (eC .non)) sSkip)
def f_need_bytes : FN := fnB 2 [] m_need_bytes
def m_byte_at : ST :=
  (sSeq (sIf (uB (e2 pGe (eV 1) (eB pLen (lCons (eV 0) lNil)))) (sRaise1 "BadBytes" "place" (eB pLen (lCons (eV 0) lNil))) sSkip) (sRet (e2 pIx (eV 0) (eV 1))))
def f_byte_at : FN := fnB 2 [] m_byte_at
def m_read_digits : ST :=
  (sSeq (sAsg [3, 4] (dTup [dNm, dNm]) (eTup (lCons (eC (.int 0)) (lCons (eC (.int 1)) lNil)))) (sSeq (sFor (itR1 (eV 2)) (gT [5] dNm) (sSeq (sSet 6 (eCall 2 f_byte_at (lCons (eV 0) (lCons (e2 pAdd (eV 1) (eV 5)) lNil)))) (sSeq (sIf (uOr (uAnd (uB (e2 pGe (eV 6) (eC (.int 128)))) (uB (e2 pEq (eV 5) (e2 pSub (eV 2) (eC (.int 1)))))) (uAnd (uB (e2 pEq (eV 6) (eC (.int 0)))) (uB (e2 pGt (eV 5) (eC (.int 0)))))) (sRaise1 "BadBytes" "place" (e2 pAdd (eV 1) (eV 5))) sSkip) (sSeq (sPar [3, 4] (lCons (e2 pAdd (eV 3) (e2 pMulI (e2 pMod (eV 6) (eC (.int 128))) (eV 4))) (lCons (e2 pMulI (eV 4) (eC (.int 128))) lNil))) (sIf (uB (e2 pLt (eV 6) (eC (.int 128)))) (sRet (eTup (lCons (eV 3) (lCons (e2 pAdd (e2 pAdd (eV 1) (eV 5)) (eC (.int 1))) lNil)))) sSkip))))) (sRaise1 "BadBytes" "place" (eV 1))))
def f_read_digits : FN := fnB 7 [] m_read_digits
def m_read_text : ST :=
  (sSeq (sPar [2, 3] (lCons (eCall 2 f_byte_at (lCons (eV 0) (lCons (eV 1) lNil))) (lCons (eLst lNil) lNil))) (sSeq (sIf (uB (e2 pGt (eV 2) (eC (.int 127)))) (sRaise1 "BadBytes" "place" (eV 1)) sSkip) (sSeq (sFor (itR2 (e2 pAdd (eV 1) (eC (.int 1))) (e2 pAdd (e2 pAdd (eV 1) (eC (.int 1))) (eV 2))) (gT [4] dNm) (sSeq (sIf (uNot (uB (eCh pLe pLt (eC (.int 97)) (eCall 2 f_byte_at (lCons (eV 0) (lCons (eV 4) lNil))) (e2 pAdd (eC (.int 97)) (eB pLen (lCons (eC (.str [97, 98, 99, 100, 101, 102, 103, 104, 105, 106, 107, 108, 109, 110, 111, 112, 113, 114, 115, 116, 117, 118, 119, 120, 121, 122])) lNil)))))) (sRaise1 "BadBytes" "place" (eV 4)) sSkip) (sApp 3 (e2 pIx (eC (.str [97, 98, 99, 100, 101, 102, 103, 104, 105, 106, 107, 108, 109, 110, 111, 112, 113, 114, 115, 116, 117, 118, 119, 120, 121, 122])) (e2 pSub (e2 pIx (eV 0) (eV 4)) (eC (.int 97))))))) (sRet (eTup (lCons (e1 pJoin (eV 3)) (lCons (e2 pAdd (e2 pAdd (eV 1) (eC (.int 1))) (eV 2)) lNil)))))))
def f_read_text : FN := fnB 5 [] m_read_text
def m_read_value (g : FN) : ST :=
  (sSeq (sSet 3 (eCall 2 f_byte_at (lCons (eV 0) (lCons (eV 1) lNil)))) (sSeq (sIf (uB (e2 pEq (eV 3) (eC (.int 0)))) (sRet (eTup (lCons (eC .non) (lCons (e2 pAdd (eV 1) (eC (.int 1))) lNil)))) sSkip) (sSeq (sIf (uB (e2 pEq (eV 3) (eC (.int 1)))) (sRet (eCall 3 f_read_digits (lCons (eV 0) (lCons (e2 pAdd (eV 1) (eC (.int 1))) (lCons (eC (.int 9)) lNil))))) sSkip) (sSeq (sIf (uB (e2 pEq (eV 3) (eC (.int 2)))) (sRet (eCall 2 f_read_text (lCons (eV 0) (lCons (e2 pAdd (eV 1) (eC (.int 1))) lNil)))) sSkip) (sSeq (sIf (uOr (uB (e2 pNe (eV 3) (eC (.int 3)))) (uB (e2 pEq (eV 2) (eC (.int 0))))) (sRaise1 "BadBytes" "place" (eV 1)) sSkip) (sSeq (sAsg [4, 1] (dTup [dNm, dNm]) (eCall 3 f_read_digits (lCons (eV 0) (lCons (e2 pAdd (eV 1) (eC (.int 1))) (lCons (eC (.int 3)) lNil))))) (sSeq (sSet 5 (eLst lNil)) (sSeq (sFor (itR1 (eV 4)) (gT [6] dNm) (sSeq (sAsg [7, 1] (dTup [dNm, dNm]) (eCall 3 g (lCons (eV 0) (lCons (eV 1) (lCons (e2 pSub (eV 2) (eC (.int 1))) lNil))))) (sApp 5 (eV 7)))) (sRet (eTup (lCons (eB pTuple (lCons (eV 5) lNil)) (lCons (eV 1) lNil))))))))))))
def f_read_value : Nat → FN
  | 0 => fnNo
  | n + 1 => fnB 8 [] (m_read_value (f_read_value n))
def m_value_of : ST :=
  (sSeq (sExp (eCall 1 f_need_bytes (lCons (eV 0) lNil))) (sSeq (sAsg [1, 2] (dTup [dNm, dNm]) (eCall 3 (f_read_value 12) (lCons (eV 0) (lCons (eC (.int 0)) (lCons (eC (.int 8)) lNil))))) (sSeq (sIf (uB (e2 pLt (eV 2) (eB pLen (lCons (eV 0) lNil)))) (sRaise1 "BadBytes" "place" (eV 2)) sSkip) (sRet (eV 1)))))
def f_value_of : FN := fnB 3 [] m_value_of
def m_sums : ST :=
  (sSeq (sSet 1 (e2 pMod (eB pSum (lCons (eV 0) lNil)) (eC (.int 65521)))) (sSeq (sSet 2 (e2 pMod (eB pSum (lCons (eLc (itEnum (eV 0)) [3, 4] (gT [3, 4] (dTup [dNm, dNm])) uYes (e2 pMulI (e2 pAdd (eV 3) (eC (.int 1))) (eV 4))) lNil)) (eC (.int 65521)))) (sRet (eLst (lCons (e2 pDivW (eV 1) (eC (.int 256))) (lCons (e2 pMod (eV 1) (eC (.int 256))) (lCons (e2 pDivW (eV 2) (eC (.int 256))) (lCons (e2 pMod (eV 2) (eC (.int 256))) lNil))))))))
def f_sums : FN := fnB 5 [] m_sums
def m_sizes : ST :=
  (sSeq (sSet 1 (eLst (lCons (e2 pMod (e2 pDivW (eV 0) (eC (.int 16777216))) (eC (.int 256))) (lCons (e2 pMod (e2 pDivW (eV 0) (eC (.int 65536))) (eC (.int 256))) (lCons (e2 pMod (e2 pDivW (eV 0) (eC (.int 256))) (eC (.int 256))) (lCons (e2 pMod (eV 0) (eC (.int 256))) lNil)))))) (sRet (eLst (lStar (eV 1) (lStar (eLc (itAny (eV 1)) [2] (gT [2] dNm) uYes (e2 pSub (eC (.int 255)) (eV 2))) lNil)))))
def f_sizes : FN := fnB 3 [] m_sizes
def m_record : ST :=
  (sSeq (sSet 1 (eCall 1 f_value_bytes (lCons (eV 0) lNil))) (sRet (e2 pAdd (e2 pAdd (eCall 1 f_sizes (lCons (eB pLen (lCons (eV 1) lNil)) lNil)) (eV 1)) (eCall 1 f_sums (lCons (eV 1) lNil)))))
def f_record : FN := fnB 2 [] m_record
def m_log_of : ST :=
  (sSeq (sIf (uNot (uB (eCall 1 f_is_list (lCons (eV 0) lNil)))) (sRaise0 "BadValue") sSkip) (sSeq (sSet 1 (eLst lNil)) (sSeq (sFor (itAny (eV 0)) (gT [2] dNm) (sExt 1 (eCall 1 f_record (lCons (eV 2) lNil)))) (sRet (eV 1)))))
def f_log_of : FN := fnB 3 [] m_log_of
def m_size_at : ST :=
  (sSeq (sSet 2 (eB pList (lCons (eSl (eV 0) (oSome (eV 1)) (oSome (e2 pAdd (eV 1) (eC (.int 8))))) lNil))) (sSeq (sIf (uOr (uB (e2 pLt (eB pLen (lCons (eV 2) lNil)) (eC (.int 8)))) (uB (e2 pNe (eSl (eV 2) (oSome (eC (.int 4))) oNone) (eLc (itAny (eSl (eV 2) oNone (oSome (eC (.int 4))))) [3] (gT [3] dNm) uYes (e2 pSub (eC (.int 255)) (eV 3)))))) (sRet (eC .non)) sSkip) (sRet (e2 pAdd (e2 pMulI (e2 pAdd (e2 pMulI (e2 pAdd (e2 pMulI (e2 pIx (eV 2) (eC (.int 0))) (eC (.int 256))) (e2 pIx (eV 2) (eC (.int 1)))) (eC (.int 256))) (e2 pIx (eV 2) (eC (.int 2)))) (eC (.int 256))) (e2 pIx (eV 2) (eC (.int 3)))))))
def f_size_at : FN := fnB 4 [] m_size_at
def m_read_record : ST :=
  (sSeq (sSet 2 (eCall 2 f_size_at (lCons (eV 0) (lCons (eV 1) lNil)))) (sSeq (sIf (uOr (uB (e1 pIsN (eV 2))) (uB (e2 pGt (e2 pAdd (e2 pAdd (e2 pAdd (eV 1) (eC (.int 8))) (eV 2)) (eC (.int 4))) (eB pLen (lCons (eV 0) lNil))))) (sRet (eC .non)) sSkip) (sSeq (sSet 3 (eB pList (lCons (eSl (eV 0) (oSome (e2 pAdd (eV 1) (eC (.int 8)))) (oSome (e2 pAdd (e2 pAdd (eV 1) (eC (.int 8))) (eV 2)))) lNil))) (sSeq (sIf (uB (e2 pNe (eB pList (lCons (eSl (eV 0) (oSome (e2 pAdd (e2 pAdd (eV 1) (eC (.int 8))) (eV 2))) (oSome (e2 pAdd (e2 pAdd (e2 pAdd (eV 1) (eC (.int 8))) (eV 2)) (eC (.int 4))))) lNil)) (eCall 1 f_sums (lCons (eV 3) lNil)))) (sRet (eC .non)) sSkip) (sTry ["BadBytes"] ["GroupError", "BadValue"] (sRet (eTup (lCons (eCall 1 f_value_of (lCons (eV 3) lNil)) (lCons (e2 pAdd (e2 pAdd (e2 pAdd (eV 1) (eC (.int 8))) (eV 2)) (eC (.int 4))) lNil)))) (sRet (eC .non)))))))
def f_read_record : FN := fnB 4 [] m_read_record
def m_ends_of : ST :=
  (sSeq (sPar [1, 2] (lCons (eLst lNil) (lCons (eCall 2 f_read_record (lCons (eV 0) (lCons (eC (.int 0)) lNil))) lNil))) (sSeq (sWhile (fun _ => 100000) (uB (e1 pNotN (eV 2))) (sSeq (sApp 1 (eV 2)) (sSet 2 (eCall 2 f_read_record (lCons (eV 0) (lCons (e2 pIx (eV 2) (eC (.int 1))) lNil)))))) (sRet (eV 1))))
def f_ends_of : FN := fnB 3 [] m_ends_of
def m_read_log : ST :=
  (sSeq (sExp (eCall 1 f_need_bytes (lCons (eV 0) lNil))) (sSeq (sSet 1 (eCall 1 f_ends_of (lCons (eV 0) lNil))) (sRet (eTup (lCons (eLc (itAny (eV 1)) [2, 3] (gT [2, 3] (dTup [dNm, dNm])) uYes (eV 2)) (lCons (PL.eIf (uTr (eV 1)) (e2 pIx (e2 pIx (eV 1) (e1 pNeg (eC (.int 1)))) (eC (.int 1))) (eC (.int 0))) lNil))))))
def f_read_log : FN := fnB 4 [] m_read_log
def m__law_mixed : ST :=
  (sSeq (sDr 0 .turn (e2 pAdd (eDr 0 .turn) (eC (.int 1)))) (sSeq (sPar [1, 2] (lCons (eB pInt (lCons (eDr 0 .turn) lNil)) (lCons (eC (.int 0)) lNil))) (sSeq (sFor (itAny (eLst (lCons (eC (.int 2147483629)) (lCons (eC (.int 2147483587)) (lCons (eC (.int 2147483579)) lNil))))) (gT [3] dNm) (sSeq (sSet 4 (e2 pMod (e2 pAdd (e2 pMulI (eV 1) (eC (.int 69621))) (e2 pDivW (eV 3) (eC (.int 7)))) (eV 3))) (sSeq (sFor (itAny (eDr 0 .cells)) (gT [5] dNm) (sSet 4 (e2 pMod (e2 pAdd (e2 pMulI (eV 4) (eC (.int 48271))) (eB pInt (lCons (eV 5) lNil))) (eV 3)))) (sSet 2 (e2 pAdd (e2 pMulI (eV 2) (eC (.int 2147483647))) (e2 pMod (e2 pPow (eV 4) (eC (.int 5))) (eV 3))))))) (sRet (eV 2)))))
def f__law_mixed : FN := fnB 6 [0] m__law_mixed
def m__law_take : ST :=
  (sSeq (sIf (uB (e2 pEq (eDr 0 .rest) (eC (.int 0)))) (sDr 0 .rest (PL.eIf (uB (eDrHas 0)) (eDrPop 0) (eCallIO f__law_mixed (.io 0 :: [])))) sSkip) (sSeq (sSet 2 (e2 pMod (eB pInt (lCons (eDr 0 .rest) lNil)) (eV 1))) (sSeq (sDr 0 .rest (e2 pDivW (eB pInt (lCons (eDr 0 .rest) lNil)) (eV 1))) (sRet (eV 2)))))
def f__law_take : FN := fnB 3 [0] m__law_take
def m__law_pick : ST :=
  (sRet (e2 pIx (eV 1) (eCallIO f__law_take (.io 0 :: (.v (eB pLen (lCons (eV 1) lNil)) :: [])))))
def f__law_pick : FN := fnB 2 [0] m__law_pick
def m__law_signs : ST :=
  (sRet (eC (.str [97, 98, 99, 100, 101, 102, 103, 104, 105, 106, 107, 108, 109, 110, 111, 112, 113, 114, 115, 116, 117, 118, 119, 120, 121, 122])))
def f__law_signs : FN := fnB 0 [] m__law_signs
def m__law_some_value (g : FN) : ST :=
  (sSeq (sSet 2 (eCallIO f__law_take (.io 0 :: (.v (eC (.int 5)) :: [])))) (sSeq (sIf (uB (e2 pEq (eV 2) (eC (.int 0)))) (sRet (eC .non)) sSkip) (sSeq (sIf (uOr (uB (e2 pEq (eV 2) (eC (.int 1)))) (uAnd (uB (e2 pEq (eV 1) (eC (.int 0)))) (uB (e2 pGt (eV 2) (eC (.int 2)))))) (sRet (eCallIO f__law_take (.io 0 :: (.v (eCallIO f__law_pick (.io 0 :: (.v (eLst (lCons (eC (.int 2)) (lCons (eC (.int 128)) (lCons (eC (.int 300)) (lCons (e2 pPow (eC (.int 10)) (eC (.int 6))) (lCons (e2 pPow (eC (.int 10)) (eC (.int 18))) lNil)))))) :: []))) :: [])))) sSkip) (sSeq (sIf (uB (e2 pEq (eV 2) (eC (.int 2)))) (sRet (e1 pJoin (eLc (itR1 (eCallIO f__law_pick (.io 0 :: (.v (eLst (lCons (eC (.int 0)) (lCons (eC (.int 1)) (lCons (eC (.int 2)) (lCons (eC (.int 5)) (lCons (eC (.int 127)) lNil)))))) :: [])))) [3] (gT [3] dNm) uYes (eCallIO f__law_pick (.io 0 :: (.v (eCall0 f__law_signs) :: [])))))) sSkip) (sRet (eB pTuple (lCons (eLc (itR1 (eCallIO f__law_take (.io 0 :: (.v (eC (.int 4)) :: [])))) [3] (gT [3] dNm) uYes (eCallIO g (.io 0 :: (.v (e2 pSub (eV 1) (eC (.int 1))) :: [])))) lNil)))))))
def f__law_some_value : Nat → FN
  | 0 => fnNo
  | n + 1 => fnB 4 [0] (m__law_some_value (f__law_some_value n))
def m__law_record : ST :=
  (sSeq (sPar [1, 2, 3] (lCons (eB pLen (lCons (eV 0) lNil)) (lCons (eC (.int 0)) (lCons (eC (.int 0)) lNil)))) (sSeq (sFor (itEnum (eV 0)) (gT [4, 5] (dTup [dNm, dNm])) (sPar [2, 3] (lCons (e2 pMod (e2 pAdd (eV 2) (eV 5)) (eC (.int 65521))) (lCons (e2 pMod (e2 pAdd (eV 3) (e2 pMulI (e2 pAdd (eV 4) (eC (.int 1))) (eV 5))) (eC (.int 65521))) lNil)))) (sSeq (sSet 6 (eLst (lCons (eC (.int 0)) (lCons (e2 pDivW (eV 1) (eC (.int 65536))) (lCons (e2 pMod (e2 pDivW (eV 1) (eC (.int 256))) (eC (.int 256))) (lCons (e2 pMod (eV 1) (eC (.int 256))) lNil)))))) (sRet (e2 pAdd (e2 pAdd (e2 pAdd (eV 6) (eLc (itAny (eV 6)) [5] (gT [5] dNm) uYes (e2 pSub (eC (.int 255)) (eV 5)))) (eV 0)) (eLst (lCons (e2 pDivW (eV 2) (eC (.int 256))) (lCons (e2 pMod (eV 2) (eC (.int 256))) (lCons (e2 pDivW (eV 3) (eC (.int 256))) (lCons (e2 pMod (eV 3) (eC (.int 256))) lNil))))))))))
def f__law_record : FN := fnB 7 [] m__law_record
def m__law_same : ST :=
  (sRet (PL.eAnd (e1 (pIsT ["tuple"]) (eV 0)) (PL.eAnd (e2 pEq (eB pLen (lCons (eV 0) lNil)) (eC (.int 2))) (PL.eAnd (e2 pEq (e2 pIx (eV 0) (eC (.int 0))) (eV 1)) (e2 pEq (e2 pIx (eV 0) (eC (.int 1))) (eV 2))))))
def f__law_same : FN := fnB 3 [] m__law_same
def m__law_log_right : ST :=
  (sSeq (sSet 2 (eLc (itAny (eV 1)) [3] (gT [3] dNm) uYes (eCall 1 f__law_record (lCons (eCall 1 f_value_bytes (lCons (eV 3) lNil)) lNil)))) (sSeq (sPar [4, 5] (lCons (eLst lNil) (lCons (eLst lNil) lNil))) (sSeq (sFor (itZip (eV 2) (eV 1)) (gT [6, 3] (dTup [dNm, dNm])) (sSeq (sIf (uOr (uB (e2 pNe (eCall 1 f_record (lCons (eV 3) lNil)) (eV 6))) (uB (e2 pNe (eCall 1 f_record (lCons (eV 3) lNil)) (eV 6)))) (sRet (eC (.bl false))) sSkip) (sSeq (sSet 4 (e2 pAdd (eV 4) (eV 6))) (sApp 5 (eB pLen (lCons (eV 4) lNil)))))) (sSeq (sIf (uOr (uB (e2 pNe (eCall 1 f_log_of (lCons (eV 1) lNil)) (eV 4))) (uOr (uB (e2 pNe (eCall 1 f_log_of (lCons (eB pTuple (lCons (eV 1) lNil)) lNil)) (eV 4))) (uNot (uB (eCall 3 f__law_same (lCons (eCall 1 f_read_log (lCons (eV 4) lNil)) (lCons (eV 1) (lCons (eB pLen (lCons (eV 4) lNil)) lNil)))))))) (sRet (eC (.bl false))) sSkip) (sSeq (sFor (itR1 (eC (.int 8))) (gT [7] dNm) (sSeq (sSet 8 (PL.eIf (uB (e2 pGt (eV 7) (eC (.int 0)))) (eCallIO f__law_take (.io 0 :: (.v (e2 pAdd (eB pLen (lCons (eV 4) lNil)) (eC (.int 1))) :: []))) (eB pLen (lCons (eV 4) lNil)))) (sSeq (sSet 9 (eB pLen (lCons (eLc (itAny (eV 5)) [10] (gT [10] dNm) (uB (e2 pLe (eV 10) (eV 8))) (eV 10)) lNil))) (sSeq (sIf (uNot (uB (eCall 3 f__law_same (lCons (eCall 1 f_read_log (lCons (eB pTuple (lCons (eSl (eV 4) oNone (oSome (eV 8))) lNil)) lNil)) (lCons (eSl (eV 1) oNone (oSome (eV 9))) (lCons (e2 pIx (e2 pAdd (eLst (lCons (eC (.int 0)) lNil)) (eV 5)) (eV 9)) lNil)))))) (sRet (eC (.bl false))) sSkip) (sIf (uB (e2 pLt (eV 8) (eB pLen (lCons (eV 4) lNil)))) (sSeq (sSet 3 (e2 pMod (e2 pAdd (e2 pAdd (e2 pIx (eV 4) (eV 8)) (eC (.int 1))) (eCallIO f__law_take (.io 0 :: (.v (eC (.int 255)) :: [])))) (eC (.int 256)))) (sIf (uNot (uB (eCall 3 f__law_same (lCons (eCall 1 f_read_log (lCons (e2 pAdd (e2 pAdd (eSl (eV 4) oNone (oSome (eV 8))) (eLst (lCons (eV 3) lNil))) (eSl (eV 4) (oSome (e2 pAdd (eV 8) (eC (.int 1)))) oNone)) lNil)) (lCons (eSl (eV 1) oNone (oSome (eV 9))) (lCons (e2 pIx (e2 pAdd (eLst (lCons (eC (.int 0)) lNil)) (eV 5)) (eV 9)) lNil)))))) (sRet (eC (.bl false))) sSkip)) sSkip))))) (sSeq (sIf (uOr (uB (e2 pNe (eCall 1 f_read_log (lCons (e2 pAdd (eV 4) (e2 pMulL (eLst (lCons (eC (.int 0)) lNil)) (eC (.int 9)))) lNil)) (eTup (lCons (eV 1) (lCons (eB pLen (lCons (eV 4) lNil)) lNil))))) (uB (e2 pNe (eCall 1 f_read_log (lCons (eLst lNil) lNil)) (eTup (lCons (eLst lNil) (lCons (eC (.int 0)) lNil)))))) (sRet (eC (.bl false))) sSkip) (sSeq (sFor (itAny (eV 2)) (gT [6] dNm) (sSeq (sPar [11, 12] (lCons (e2 pAdd (eC (.int 8)) (eCallIO f__law_take (.io 0 :: (.v (e2 pSub (eB pLen (lCons (eV 6) lNil)) (eC (.int 8))) :: [])))) (lCons (e2 pAdd (eC (.int 8)) (eCallIO f__law_take (.io 0 :: (.v (e2 pSub (eB pLen (lCons (eV 6) lNil)) (eC (.int 8))) :: [])))) lNil))) (sSeq (sSet 13 (eB pList (lCons (eV 6) lNil))) (sSeq (sPut 13 (eV 11) (e2 pMod (e2 pAdd (e2 pAdd (eIxO 13 (eV 11)) (eC (.int 1))) (eCallIO f__law_take (.io 0 :: (.v (eC (.int 255)) :: [])))) (eC (.int 256)))) (sSeq (sIf (uB (e2 pNe (eV 12) (eV 11))) (sPut 13 (eV 12) (e2 pMod (e2 pAdd (eIxO 13 (eV 12)) (PL.eIf (uB (e2 pEq (eCallIO f__law_take (.io 0 :: (.v (eC (.int 2)) :: []))) (eC (.int 0)))) (e2 pSub (e2 pIx (eV 6) (eV 11)) (eIxO 13 (eV 11))) (eCallIO f__law_take (.io 0 :: (.v (eC (.int 256)) :: []))))) (eC (.int 256)))) sSkip) (sIf (uB (e2 pNe (eCall 1 f_read_log (lCons (eV 13) lNil)) (eTup (lCons (eLst lNil) (lCons (eC (.int 0)) lNil))))) (sRet (eC (.bl false))) sSkip)))))) (sRet (eC (.bl true))))))))))
def f__law_log_right : FN := fnB 14 [0] m__law_log_right
def m_law : ST :=
  (sSeq (sBegun 2 0) (sSeq (sFor (itR1 (e2 pAdd (eC (.int 2)) (eB pMin2 (lCons (eLenScr 0) (lCons (eC (.int 3)) lNil))))) (gT [3] dNm) (sSeq (sSet 4 (eLc (itR1 (eCallIO f__law_take (.io 2 :: (.v (eC (.int 6)) :: [])))) [5] (gT [5] dNm) uYes (eCallIO (f__law_some_value 6) (.io 2 :: (.v (eC (.int 3)) :: []))))) (sSeq (sIf (uB (e2 pEq (eCallIO f__law_take (.io 2 :: (.v (eC (.int 6)) :: []))) (eC (.int 0)))) (sApp 4 (e2 pMulT (eB pTuple (lCons (eLc (itR1 (eC (.int 100))) [5] (gT [5] dNm) uYes (eCallIO f__law_take (.io 2 :: (.v (e2 pPow (eC (.int 10)) (eC (.int 6))) :: [])))) lNil)) (eCallIO f__law_pick (.io 2 :: (.v (eLst (lCons (eC (.int 1)) (lCons (eC (.int 3)) (lCons (eC (.int 40)) lNil)))) :: []))))) sSkip) (sIf (uNot (uB (eCallIO f__law_log_right (.io 2 :: (.v (eV 4) :: []))))) (sRet (eC (.bl false))) sSkip)))) (sSeq (sFor (itAny (eLst (lCons (eC (.bl true)) (lCons (e1 pNeg (eC (.int 1))) (lCons (eLst (lCons (eC (.int 0)) lNil)) (lCons (eC (.dic [])) (lCons (eC (.str [65])) lNil))))))) (gT [6] dNm) (sForL 7 1 [(sIf (uNot (uB (e1 (pIsC ["GroupError", "BadValue", "BadBytes"] ["BadValue"]) (eCaughtW ["GroupError", "BadValue", "BadBytes"] 1 7 (eCall 1 f_record (lCons (eV 6) lNil)))))) (sRet (eC (.bl false))) sSkip), (sIf (uNot (uB (e1 (pIsC ["GroupError", "BadValue", "BadBytes"] ["BadValue"]) (eCaughtW ["GroupError", "BadValue", "BadBytes"] 1 7 (eCall 1 f_log_of (lCons (eLst (lCons (eC (.int 0)) (lCons (eV 6) lNil))) lNil)))))) (sRet (eC (.bl false))) sSkip)])) (sSeq (sIf (uOr (uB (e2 pNe (eCall 1 f_log_of (lCons (eLst lNil) lNil)) (eLst lNil))) (uNot (uB (eB pAll (lCons (eLc (itAny (eLst (lCons (eC .non) (lCons (eC (.int 5)) (lCons (eC (.dic [])) (lCons (eC (.str [118, 97, 108, 117, 101, 115])) lNil)))))) [6] (gT [6] dNm) uYes (e1 (pIsC ["GroupError", "BadValue", "BadBytes"] ["BadValue"]) (eCaughtL ["GroupError", "BadValue", "BadBytes"] 1 (eCall 1 f_log_of (lCons (eV 6) lNil))))) lNil))))) (sRet (eC (.bl false))) sSkip) (sSeq (sFor (itAny (eLst (lCons (eC .non) (lCons (eC (.int 5)) (lCons (eC (.str [98, 121, 116, 101, 115])) (lCons (eLst (lCons (eC (.int 256)) lNil)) (lCons (eLst (lCons (e1 pNeg (eC (.int 1))) lNil)) (lCons (eLst (lCons (eC (.bl true)) lNil)) (lCons (eLst (lCons (eC .non) lNil)) (lCons (eC (.dic [])) lNil)))))))))) (gT [6] dNm) (sSeq (sSet 8 (eCaughtL ["GroupError", "BadValue", "BadBytes"] 1 (eCall 1 f_read_log (lCons (eV 6) lNil)))) (sIf (uOr (uNot (uB (e1 (pIsC ["GroupError", "BadValue", "BadBytes"] ["BadBytes"]) (eV 8)))) (uB (e1 pNotN (e1 (pFldX "place" ["BadBytes"]) (eV 8))))) (sRet (eC (.bl false))) sSkip))) (sRet (eC (.bl true))))))))
def f_law : FN := fnB 9 [0, 1] m_law
end K66

set_option Elab.async false
set_option linter.all false
set_option maxRecDepth 100000
set_option maxHeartbeats 400000

/-! K66W: each def keeps to its pure function. Printed by gen.py. -/
namespace K66
open PySem PySem.Spec PyProof.Rows L2 PL HP RX He
def top (i : Nat) : Stmt := PySem.Challenge.pw_gatewords_k66_whole_logs_cut_at_any_byte.main.body.getD i (.Pass ⟨0, 0, 0, 0⟩)
abbrev s_is_number : Stmt := top 5
abbrev s_is_between : Stmt := top 6
abbrev s_is_list : Stmt := top 7
abbrev s_is_text : Stmt := top 16
abbrev s_digits : Stmt := top 17
abbrev s_bytes_at : Stmt := top 18
abbrev s_value_bytes : Stmt := top 19
abbrev s_need_bytes : Stmt := top 20
abbrev s_byte_at : Stmt := top 21
abbrev s_read_digits : Stmt := top 22
abbrev s_read_text : Stmt := top 23
abbrev s_read_value : Stmt := top 24
abbrev s_value_of : Stmt := top 25
abbrev s_sums : Stmt := top 30
abbrev s_sizes : Stmt := top 31
abbrev s_record : Stmt := top 32
abbrev s_log_of : Stmt := top 33
abbrev s_size_at : Stmt := top 34
abbrev s_read_record : Stmt := top 35
abbrev s_ends_of : Stmt := top 36
abbrev s_read_log : Stmt := top 37
abbrev s__law_begun : Stmt := top 39
abbrev s__law_mixed : Stmt := top 40
abbrev s__law_take : Stmt := top 41
abbrev s__law_pick : Stmt := top 42
abbrev s__law_caught : Stmt := top 43
abbrev s__law_signs : Stmt := top 44
abbrev s__law_some_value : Stmt := top 45
abbrev s__law_record : Stmt := top 46
abbrev s__law_same : Stmt := top 47
abbrev s__law_log_right : Stmt := top 48
abbrev s_law : Stmt := top 49
def tabs (K : PySem.W.Frag) : List (Addr × Str) := [((cT K ("law", none)).2, (("law" : Str) ++ ".<locals>.") ++ "<lambda>")]
theorem tm_law (K : PySem.W.Frag) : ((cT K ("law", none)).2, (("law" : Str) ++ ".<locals>.") ++ "<lambda>") ∈ tabs K := .head _
structure Fx (P : Program) (w : World) (K : PySem.W.Frag) (mg : Str → Option Value) (base : Heap) where
  d_is_number : FuncData
  D_is_number : FunD K "is_number" "is_number" (defArgs s_is_number) (defBody s_is_number) (defScope s_is_number) [] [] (ga K "is_number") d_is_number
  g_is_number : mg "is_number" = some (.ref (ga K "is_number"))
  d_is_between : FuncData
  D_is_between : FunD K "is_between" "is_between" (defArgs s_is_between) (defBody s_is_between) (defScope s_is_between) [] [] (ga K "is_between") d_is_between
  g_is_between : mg "is_between" = some (.ref (ga K "is_between"))
  d_is_list : FuncData
  D_is_list : FunD K "is_list" "is_list" (defArgs s_is_list) (defBody s_is_list) (defScope s_is_list) [] [] (ga K "is_list") d_is_list
  g_is_list : mg "is_list" = some (.ref (ga K "is_list"))
  d_is_text : FuncData
  D_is_text : FunD K "is_text" "is_text" (defArgs s_is_text) (defBody s_is_text) (defScope s_is_text) [] [] (ga K "is_text") d_is_text
  g_is_text : mg "is_text" = some (.ref (ga K "is_text"))
  d_digits : FuncData
  D_digits : FunD K "digits" "digits" (defArgs s_digits) (defBody s_digits) (defScope s_digits) [] [] (ga K "digits") d_digits
  g_digits : mg "digits" = some (.ref (ga K "digits"))
  d_bytes_at : FuncData
  D_bytes_at : FunD K "bytes_at" "bytes_at" (defArgs s_bytes_at) (defBody s_bytes_at) (defScope s_bytes_at) [] [] (ga K "bytes_at") d_bytes_at
  g_bytes_at : mg "bytes_at" = some (.ref (ga K "bytes_at"))
  d_value_bytes : FuncData
  D_value_bytes : FunD K "value_bytes" "value_bytes" (defArgs s_value_bytes) (defBody s_value_bytes) (defScope s_value_bytes) [] [] (ga K "value_bytes") d_value_bytes
  g_value_bytes : mg "value_bytes" = some (.ref (ga K "value_bytes"))
  d_need_bytes : FuncData
  D_need_bytes : FunD K "need_bytes" "need_bytes" (defArgs s_need_bytes) (defBody s_need_bytes) (defScope s_need_bytes) [] [] (ga K "need_bytes") d_need_bytes
  g_need_bytes : mg "need_bytes" = some (.ref (ga K "need_bytes"))
  d_byte_at : FuncData
  D_byte_at : FunD K "byte_at" "byte_at" (defArgs s_byte_at) (defBody s_byte_at) (defScope s_byte_at) [] [] (ga K "byte_at") d_byte_at
  g_byte_at : mg "byte_at" = some (.ref (ga K "byte_at"))
  d_read_digits : FuncData
  D_read_digits : FunD K "read_digits" "read_digits" (defArgs s_read_digits) (defBody s_read_digits) (defScope s_read_digits) [] [] (ga K "read_digits") d_read_digits
  g_read_digits : mg "read_digits" = some (.ref (ga K "read_digits"))
  d_read_text : FuncData
  D_read_text : FunD K "read_text" "read_text" (defArgs s_read_text) (defBody s_read_text) (defScope s_read_text) [] [] (ga K "read_text") d_read_text
  g_read_text : mg "read_text" = some (.ref (ga K "read_text"))
  d_read_value : FuncData
  D_read_value : FunD K "read_value" "read_value" (defArgs s_read_value) (defBody s_read_value) (defScope s_read_value) [] [] (ga K "read_value") d_read_value
  g_read_value : mg "read_value" = some (.ref (ga K "read_value"))
  d_value_of : FuncData
  D_value_of : FunD K "value_of" "value_of" (defArgs s_value_of) (defBody s_value_of) (defScope s_value_of) [] [] (ga K "value_of") d_value_of
  g_value_of : mg "value_of" = some (.ref (ga K "value_of"))
  d_sums : FuncData
  D_sums : FunD K "sums" "sums" (defArgs s_sums) (defBody s_sums) (defScope s_sums) [] [] (ga K "sums") d_sums
  g_sums : mg "sums" = some (.ref (ga K "sums"))
  d_sizes : FuncData
  D_sizes : FunD K "sizes" "sizes" (defArgs s_sizes) (defBody s_sizes) (defScope s_sizes) [] [] (ga K "sizes") d_sizes
  g_sizes : mg "sizes" = some (.ref (ga K "sizes"))
  d_record : FuncData
  D_record : FunD K "record" "record" (defArgs s_record) (defBody s_record) (defScope s_record) [] [] (ga K "record") d_record
  g_record : mg "record" = some (.ref (ga K "record"))
  d_log_of : FuncData
  D_log_of : FunD K "log_of" "log_of" (defArgs s_log_of) (defBody s_log_of) (defScope s_log_of) [] [] (ga K "log_of") d_log_of
  g_log_of : mg "log_of" = some (.ref (ga K "log_of"))
  d_size_at : FuncData
  D_size_at : FunD K "size_at" "size_at" (defArgs s_size_at) (defBody s_size_at) (defScope s_size_at) [] [] (ga K "size_at") d_size_at
  g_size_at : mg "size_at" = some (.ref (ga K "size_at"))
  d_read_record : FuncData
  D_read_record : FunD K "read_record" "read_record" (defArgs s_read_record) (defBody s_read_record) (defScope s_read_record) [] [] (ga K "read_record") d_read_record
  g_read_record : mg "read_record" = some (.ref (ga K "read_record"))
  d_ends_of : FuncData
  D_ends_of : FunD K "ends_of" "ends_of" (defArgs s_ends_of) (defBody s_ends_of) (defScope s_ends_of) [] [] (ga K "ends_of") d_ends_of
  g_ends_of : mg "ends_of" = some (.ref (ga K "ends_of"))
  d_read_log : FuncData
  D_read_log : FunD K "read_log" "read_log" (defArgs s_read_log) (defBody s_read_log) (defScope s_read_log) [] [] (ga K "read_log") d_read_log
  g_read_log : mg "read_log" = some (.ref (ga K "read_log"))
  d__law_begun : FuncData
  D__law_begun : FunD K "_law_begun" "_law_begun" (defArgs s__law_begun) (defBody s__law_begun) (defScope s__law_begun) [] [] (ga K "_law_begun") d__law_begun
  g__law_begun : mg "_law_begun" = some (.ref (ga K "_law_begun"))
  d__law_mixed : FuncData
  D__law_mixed : FunD K "_law_mixed" "_law_mixed" (defArgs s__law_mixed) (defBody s__law_mixed) (defScope s__law_mixed) [] [] (ga K "_law_mixed") d__law_mixed
  g__law_mixed : mg "_law_mixed" = some (.ref (ga K "_law_mixed"))
  d__law_take : FuncData
  D__law_take : FunD K "_law_take" "_law_take" (defArgs s__law_take) (defBody s__law_take) (defScope s__law_take) [] [] (ga K "_law_take") d__law_take
  g__law_take : mg "_law_take" = some (.ref (ga K "_law_take"))
  d__law_pick : FuncData
  D__law_pick : FunD K "_law_pick" "_law_pick" (defArgs s__law_pick) (defBody s__law_pick) (defScope s__law_pick) [] [] (ga K "_law_pick") d__law_pick
  g__law_pick : mg "_law_pick" = some (.ref (ga K "_law_pick"))
  d__law_caught : FuncData
  D__law_caught : FunD K "_law_caught" "_law_caught" (defArgs s__law_caught) (defBody s__law_caught) (defScope s__law_caught) [] [] (ga K "_law_caught") d__law_caught
  g__law_caught : mg "_law_caught" = some (.ref (ga K "_law_caught"))
  d__law_signs : FuncData
  D__law_signs : FunD K "_law_signs" "_law_signs" (defArgs s__law_signs) (defBody s__law_signs) (defScope s__law_signs) [] [] (ga K "_law_signs") d__law_signs
  g__law_signs : mg "_law_signs" = some (.ref (ga K "_law_signs"))
  d__law_some_value : FuncData
  D__law_some_value : FunD K "_law_some_value" "_law_some_value" (defArgs s__law_some_value) (defBody s__law_some_value) (defScope s__law_some_value) [] [] (ga K "_law_some_value") d__law_some_value
  g__law_some_value : mg "_law_some_value" = some (.ref (ga K "_law_some_value"))
  d__law_record : FuncData
  D__law_record : FunD K "_law_record" "_law_record" (defArgs s__law_record) (defBody s__law_record) (defScope s__law_record) [] [] (ga K "_law_record") d__law_record
  g__law_record : mg "_law_record" = some (.ref (ga K "_law_record"))
  d__law_same : FuncData
  D__law_same : FunD K "_law_same" "_law_same" (defArgs s__law_same) (defBody s__law_same) (defScope s__law_same) [] [] (ga K "_law_same") d__law_same
  g__law_same : mg "_law_same" = some (.ref (ga K "_law_same"))
  d__law_log_right : FuncData
  D__law_log_right : FunD K "_law_log_right" "_law_log_right" (defArgs s__law_log_right) (defBody s__law_log_right) (defScope s__law_log_right) [] [] (ga K "_law_log_right") d__law_log_right
  g__law_log_right : mg "_law_log_right" = some (.ref (ga K "_law_log_right"))
  d_law : FuncData
  D_law : FunD K "law" "law" (defArgs s_law) (defBody s_law) (defScope s_law) [] [] (ga K "law") d_law
  g_law : mg "law" = some (.ref (ga K "law"))
  c_BASE : ∃ t, mg "BASE" = some (.int 128 t)
  c_DEEPEST : ∃ t, mg "DEEPEST" = some (.int 8 t)
  c_FIRST_SIGN : ∃ t, mg "FIRST_SIGN" = some (.int 97 t)
  c_HEAD : ∃ t, mg "HEAD" = some (.int 8 t)
  c_LONGEST_TEXT : ∃ t, mg "LONGEST_TEXT" = some (.int 127 t)
  c_MOST_DIGITS : ∃ t, mg "MOST_DIGITS" = some (.int 9 t)
  c_MOST_SIZE : ∃ t, mg "MOST_SIZE" = some (.int 3 t)
  c_PRIME : ∃ t, mg "PRIME" = some (.int 65521 t)
  c_SIGNS : ∃ t, mg "SIGNS" = some (.str "abcdefghijklmnopqrstuvwxyz" t)
  c_TAIL : ∃ t, mg "TAIL" = some (.int 4 t)
  n_abs : mg "abs" = none
  n_all : mg "all" = none
  n_bool : mg "bool" = none
  n_enumerate : mg "enumerate" = none
  n_int : mg "int" = none
  n_isinstance : mg "isinstance" = none
  n_len : mg "len" = none
  n_list : mg "list" = none
  n_min : mg "min" = none
  n_range : mg "range" = none
  n_str : mg "str" = none
  n_sum : mg "sum" = none
  n_tuple : mg "tuple" = none
  n_zip : mg "zip" = none
  xI_BadBytes : Addr
  xd_BadBytes : FuncData
  x_BadBytes : ExF1 P K mg "BadBytes" xI_BadBytes xd_BadBytes "no bytes of a value, from a place on, or no bytes at all" (Str.ofString "place") "self" "place"
  x_BadValue : ExF0 K mg "BadValue"
  n_super : mg "super" = none
  h_root : mg "GroupError" = some (.ref (ga K "GroupError"))
  h_caught : ∀ c ∈ (["GroupError", "BadValue", "BadBytes"] : List String), PySem.W.exmOne K (.ref ((TT K).CA c)) (.ref (ga K "GroupError")) = some true
  fx_place : ∀ c ∈ (["BadBytes"] : List String), XfC K ((TT K).CA c) ∧ PySem.W.findIn K (.ref ((TT K).CA c)) (Str.ofString "place") = some none
  i_BadBytes : mg "BadBytes" = some (.ref (ga K "BadBytes"))
  isE_BadBytes : ∀ c ∈ (["GroupError", "BadValue", "BadBytes"] : List String), ExcC K ((TT K).CA c) ∧ PySem.W.kitOne K (.ref ((TT K).CA c)) (.ref (ga K "BadBytes")) = some ((["BadBytes"] : List String).contains c)
  isN_BadBytes : ∀ t ∈ tyNames, PySem.W.kitOne K (.type t) (.ref (ga K "BadBytes")) = some false
  i_BadValue : mg "BadValue" = some (.ref (ga K "BadValue"))
  isE_BadValue : ∀ c ∈ (["GroupError", "BadValue", "BadBytes"] : List String), ExcC K ((TT K).CA c) ∧ PySem.W.kitOne K (.ref ((TT K).CA c)) (.ref (ga K "BadValue")) = some ((["BadValue"] : List String).contains c)
  isN_BadValue : ∀ t ∈ tyNames, PySem.W.kitOne K (.type t) (.ref (ga K "BadValue")) = some false
  tg_BadBytes : mg "BadBytes" = some (.ref (ga K "BadBytes"))
  ty_BadBytes : ∀ c ∈ (["BadBytes"] : List String), PySem.W.exmOne K (.ref ((TT K).CA c)) (.ref (ga K "BadBytes")) = some true
  tn_BadBytes : ∀ c ∈ (["GroupError", "BadValue"] : List String), PySem.W.exmOne K (.ref ((TT K).CA c)) (.ref (ga K "BadBytes")) = some false
  t_law : d_law.code = .ref (cT K ("law", none)).1
  tb_law : LamX.TabB base mg (cT K ("law", none)).1 (cT K ("law", none)).2
  hu_law : ∀ p ∈ tabs K, p.1 = (cT K ("law", none)).2 → p.2 = (("law" : Str) ++ ".<locals>.") ++ "<lambda>"
section
variable {P : Program} {w : World} {K : PySem.W.Frag} {mg : Str → Option Value} {base : Heap}
theorem kN_log_of (Y : Fx P w K mg base) : KwB Y.d_log_of ["values"] := FunD.kwB Y.D_log_of fun _ _ _ _ _ _ us hl => match us, hl with | [_], _ => rfl
theorem kN_read_log (Y : Fx P w K mg base) : KwB Y.d_read_log ["numbers"] := FunD.kwB Y.D_read_log fun _ _ _ _ _ _ us hl => match us, hl with | [_], _ => rfl
theorem kN_record (Y : Fx P w K mg base) : KwB Y.d_record ["value"] := FunD.kwB Y.D_record fun _ _ _ _ _ _ us hl => match us, hl with | [_], _ => rfl
theorem sc_is_number : FnScope ["thing"] ["thing"] (defScope s_is_number) := ⟨rfl, rfl, rfl, by decide +kernel, rfl, by decide +kernel, by decide +kernel⟩
theorem bN_is_number (Y : Fx P w K mg base) : Binds K Y.d_is_number ["thing"] [] := Y.D_is_number.bindsN fun _ _ _ _ _ _ us hl => match us, hl with | [_], _ => rfl
theorem ok_is_number (Y : Fx P w K mg base) : FnOk P w K mg base (L2.CX P w) 3 (ga K "is_number") Y.d_is_number ["thing"] (spG (TT K) ([.fz] : List (Kd (TT K))) f_is_number) := by
    refine ok_defN (k := 2) (sig := ([.fz] : List (Kd (TT K)))) ["thing"] ["thing"] 1 [] [.fz] m_is_number Y.D_is_number sc_is_number rfl rfl rfl rfl fun cdv A outer s H E hr => ?_
    have tk : Takes (cxOf (L2.CX P w) P w K mg base ["thing"] "is_number" (defScope s_is_number) (ga K "is_number") cdv A outer s H E) (fun cls d _ H' => E cls d H') := takes_of rfl rfl rfl rfl
    exact (XS.one (gRet (Γ' := [.fz]) (ks_of rfl rfl) (xe_and (xe_isT (c := "int") (by decide) rfl rfl Y.n_isinstance rfl Y.n_int boot_int (by decide) rfl (gv 0 rfl rfl rfl) rfl rfl rfl) (xe_one (xe_not (xe_isT (c := "bool") (by decide) rfl rfl Y.n_isinstance rfl Y.n_bool boot_bool (by decide) rfl (gv 0 rfl rfl rfl) rfl rfl rfl))))))
theorem sc_is_between : FnScope ["thing", "low", "high"] ["thing", "low", "high"] (defScope s_is_between) := ⟨rfl, rfl, rfl, by decide +kernel, rfl, by decide +kernel, by decide +kernel⟩
theorem bN_is_between (Y : Fx P w K mg base) : Binds K Y.d_is_between ["thing", "low", "high"] [] := Y.D_is_between.bindsN fun _ _ _ _ _ _ us hl => match us, hl with | [_, _, _], _ => rfl
theorem ok_is_between (Y : Fx P w K mg base) : FnOk P w K mg base (L2.CX P w) 4 (ga K "is_between") Y.d_is_between ["thing", "low", "high"] (spG (TT K) ([.fz, .fz, .fz] : List (Kd (TT K))) f_is_between) := by
    refine ok_defN (k := 3) (sig := ([.fz, .fz, .fz] : List (Kd (TT K)))) ["thing", "low", "high"] ["thing", "low", "high"] 3 [] [.fz, .fz, .fz] m_is_between Y.D_is_between sc_is_between rfl rfl rfl rfl fun cdv A outer s H E hr => ?_
    have tk : Takes (cxOf (L2.CX P w) P w K mg base ["thing", "low", "high"] "is_between" (defScope s_is_between) (ga K "is_between") cdv A outer s H E) (fun cls d _ H' => E cls d H') := takes_of rfl rfl rfl rfl
    exact (XS.one (gRet (Γ' := [.fz, .fz, .fz]) (ks_of rfl rfl) (xe_and (xe_call tk (ok_is_number Y) (hr.mono (by decide)) rfl Y.g_is_number Y.D_is_number.kp (bN_is_number Y) (xa_cons (gv 0 rfl rfl rfl) xa_nil rfl) rfl rfl rfl) (xe_one (xe_chLeLe (gv 1 rfl rfl rfl) (gv 0 rfl rfl rfl) (gv 2 rfl rfl rfl) (by with_unfolding_all rfl))))))
theorem sc_is_list : FnScope ["thing"] ["thing"] (defScope s_is_list) := ⟨rfl, rfl, rfl, by decide +kernel, rfl, by decide +kernel, by decide +kernel⟩
theorem bN_is_list (Y : Fx P w K mg base) : Binds K Y.d_is_list ["thing"] [] := Y.D_is_list.bindsN fun _ _ _ _ _ _ us hl => match us, hl with | [_], _ => rfl
theorem ok_is_list (Y : Fx P w K mg base) : FnOk P w K mg base (L2.CX P w) 3 (ga K "is_list") Y.d_is_list ["thing"] (spG (TT K) ([.fz] : List (Kd (TT K))) f_is_list) := by
    refine ok_defN (k := 2) (sig := ([.fz] : List (Kd (TT K)))) ["thing"] ["thing"] 1 [] [.fz] m_is_list Y.D_is_list sc_is_list rfl rfl rfl rfl fun cdv A outer s H E hr => ?_
    have tk : Takes (cxOf (L2.CX P w) P w K mg base ["thing"] "is_list" (defScope s_is_list) (ga K "is_list") cdv A outer s H E) (fun cls d _ H' => E cls d H') := takes_of rfl rfl rfl rfl
    exact (XS.one (gRet (Γ' := [.fz]) (ks_of rfl rfl) (xe_isLT rfl rfl Y.n_isinstance rfl Y.n_list rfl Y.n_tuple (gv 0 rfl rfl rfl) rfl rfl rfl rfl rfl)))
theorem sc_is_text : FnScope ["thing", "sign"] ["thing"] (defScope s_is_text) := ⟨rfl, rfl, rfl, by decide +kernel, rfl, by decide +kernel, by decide +kernel⟩
theorem bN_is_text (Y : Fx P w K mg base) : Binds K Y.d_is_text ["thing"] [] := Y.D_is_text.bindsN fun _ _ _ _ _ _ us hl => match us, hl with | [_], _ => rfl
theorem ok_is_text (Y : Fx P w K mg base) : FnOk P w K mg base (L2.CX P w) 3 (ga K "is_text") Y.d_is_text ["thing"] (spG (TT K) ([.fz] : List (Kd (TT K))) f_is_text) := by
    refine ok_defN (k := 2) (sig := ([.fz] : List (Kd (TT K)))) ["thing", "sign"] ["thing"] 2 [] [.fz, .fz] m_is_text Y.D_is_text sc_is_text rfl rfl rfl rfl fun cdv A outer s H E hr => ?_
    have tk : Takes (cxOf (L2.CX P w) P w K mg base ["thing", "sign"] "is_text" (defScope s_is_text) (ga K "is_text") cdv A outer s H E) (fun cls d _ H' => E cls d H') := takes_of rfl rfl rfl rfl
    exact (XS.one (gRet (Γ' := [.fz, .fz]) (ks_of rfl rfl) (xe_and (xe_isT (c := "str") (by decide) rfl rfl Y.n_isinstance rfl Y.n_str boot_str (by decide) rfl (gv 0 rfl rfl rfl) rfl rfl rfl) (xe_and (xe_cmp op_le ok_le (nomark _) (xe_B call_len (ck_len rfl) rfl Y.n_len boot_len (xa_cons (gv 0 rfl rfl rfl) xa_nil rfl) (by decide) rfl rfl rfl) (gI rfl Y.c_LONGEST_TEXT rfl)) (xe_one (xe_B (cr_all rfl) ck_all rfl Y.n_all boot_all (xa_cons (xe_lc (own := [("sign", 1)]) (is := [1]) (f := dNm) rfl sc_is_text.nd (xi_any rfl (gv 0 rfl rfl rfl)) (blkOk_by rfl) ⟨fun _ _ _ _ _ => (gNameB 1 sc_is_text.nd rfl rfl rfl), fun _ _ _ _ _ => xts_nil, fun _ _ _ _ _ => (xe_cmp (op_inA (u65 hr)) ok_in rfl (gv 1 rfl rfl rfl) (gS [97, 98, 99, 100, 101, 102, 103, 104, 105, 106, 107, 108, 109, 110, 111, 112, 113, 114, 115, 116, 117, 118, 119, 120, 121, 122] rfl rfl Y.c_SIGNS rfl))⟩ (fun _ _ h => by cases h; rfl) (by decide) (by simp) (by intro _; rfl)) xa_nil rfl) (by decide) rfl rfl rfl))))))
theorem sc_digits : FnScope ["number", "found"] ["number"] (defScope s_digits) := ⟨rfl, rfl, rfl, by decide +kernel, rfl, by decide +kernel, by decide +kernel⟩
theorem bN_digits (Y : Fx P w K mg base) : Binds K Y.d_digits ["number"] [] := Y.D_digits.bindsN fun _ _ _ _ _ _ us hl => match us, hl with | [_], _ => rfl
theorem ok_digits (Y : Fx P w K mg base) : FnOk P w K mg base (L2.CX P w) 3 (ga K "digits") Y.d_digits ["number"] (spG (TT K) ([.fz] : List (Kd (TT K))) f_digits) := by
    refine ok_defN (k := 2) (sig := ([.fz] : List (Kd (TT K)))) ["number", "found"] ["number"] 2 [] [.fz, .fz] m_digits Y.D_digits sc_digits rfl rfl rfl rfl fun cdv A outer s H E hr => ?_
    have tk : Takes (cxOf (L2.CX P w) P w K mg base ["number", "found"] "digits" (defScope s_digits) (ga K "digits") cdv A outer s H E) (fun cls d _ H' => E cls d H') := takes_of rfl rfl rfl rfl
    exact (xb_cons (gOwnL 1 sc_digits.nd rfl rfl rfl (leB rfl) (ltB rfl) rfl xa_nil) (xb_cons (xs_while (fun _ => 100000) (passes_of rfl) (xt_cmp op_ge ok_ge (nomark _) (gv 0 rfl rfl rfl) (gI rfl Y.c_BASE rfl)) (xb_cons (gApp 1 rfl rfl rfl rfl rfl rfl rfl rfl rfl (xe_op op_addA ok_add (gI rfl Y.c_BASE rfl) (xe_op op_mod ok_mod (gv 0 rfl rfl rfl) (gI rfl Y.c_BASE rfl)))) (XS.one (gSet 0 sc_digits.nd rfl rfl rfl (.inr rfl) rfl (xe_op op_fdivW ok_divW (gv 0 rfl rfl rfl) (gI rfl Y.c_BASE rfl)))))) (XS.one (xs_freeL 1 (leB rfl) rfl (gRet (Γ' := [.fz, .fz]) (ks_of rfl rfl) (xe_lst (xa_star rfl (gv 1 rfl rfl rfl) (xa_cons (gv 0 rfl rfl rfl) xa_nil rfl) rfl)))))))
theorem sc_bytes_at : FnScope ["value", "deep", "sign", "found", "item"] ["value", "deep"] (defScope s_bytes_at) := ⟨rfl, rfl, rfl, by decide +kernel, rfl, by decide +kernel, by decide +kernel⟩
theorem bN_bytes_at (Y : Fx P w K mg base) : Binds K Y.d_bytes_at ["value", "deep"] [] := Y.D_bytes_at.bindsN fun _ _ _ _ _ _ us hl => match us, hl with | [_, _], _ => rfl
theorem ok_bytes_at (Y : Fx P w K mg base) : ∀ n : Nat, FnOk P w K mg base (L2.CX P w) (3 + n) (ga K "bytes_at") Y.d_bytes_at ["value", "deep"] (spG (TT K) ([.fz, .fz] : List (Kd (TT K))) (f_bytes_at n))
  | 0 => ok_no rfl
  | n + 1 => by
    have ih := ok_bytes_at Y n
    refine ok_defN (k := 3 + n) (sig := ([.fz, .fz] : List (Kd (TT K)))) ["value", "deep", "sign", "found", "item"] ["value", "deep"] 5 [] [.fz, .fz, .fz, .fz, .fz] (m_bytes_at (f_bytes_at n)) Y.D_bytes_at sc_bytes_at rfl rfl rfl rfl fun cdv A outer s H E hr => ?_
    have tk : Takes (cxOf (L2.CX P w) P w K mg base ["value", "deep", "sign", "found", "item"] "bytes_at" (defScope s_bytes_at) (ga K "bytes_at") cdv A outer s H E) (fun cls d _ H' => E cls d H') := takes_of rfl rfl rfl rfl
    exact (xb_cons (xs_if (Γ' := [.fz, .fz, .fz, .fz, .fz]) (tIsNt (gv 0 rfl rfl rfl)) (XS.one (gRet (Γ' := [.fz, .fz, .fz, .fz, .fz]) (ks_of rfl rfl) (xe_lst (xa_cons xe_int xa_nil rfl)))) xb_nil) (xb_cons (xs_if (Γ' := [.fz, .fz, .fz, .fz, .fz]) (XW.xt (xw_and (xt_val (xe_call tk (ok_is_number Y) (hr.mono (by omega)) rfl Y.g_is_number Y.D_is_number.kp (bN_is_number Y) (xa_cons (gv 0 rfl rfl rfl) xa_nil rfl) rfl rfl rfl) (fun _ => rfl)) (xw_and1 (tChLeLt xe_int (gv 0 rfl rfl rfl) (xe_op op_pow ok_pow xe_int xe_int) (by with_unfolding_all rfl))))) (XS.one (gRet (Γ' := [.fz, .fz, .fz, .fz, .fz]) (ks_of rfl rfl) (xe_lst (xa_cons xe_int (xa_star rfl (xe_call tk (ok_digits Y) (hr.mono (by omega)) rfl Y.g_digits Y.D_digits.kp (bN_digits Y) (xa_cons (gv 0 rfl rfl rfl) xa_nil rfl) rfl rfl rfl) xa_nil rfl) rfl)))) xb_nil) (xb_cons (xs_if (Γ' := [.fz, .fz, .fz, .fz, .fz]) (xt_val (xe_call tk (ok_is_text Y) (hr.mono (by omega)) rfl Y.g_is_text Y.D_is_text.kp (bN_is_text Y) (xa_cons (gv 0 rfl rfl rfl) xa_nil rfl) rfl rfl rfl) (fun _ => rfl)) (XS.one (gRet (Γ' := [.fz, .fz, .fz, .fz, .fz]) (ks_of rfl rfl) (xe_lst (xa_cons xe_int (xa_cons (xe_B call_len (ck_len rfl) rfl Y.n_len boot_len (xa_cons (gv 0 rfl rfl rfl) xa_nil rfl) (by decide) rfl rfl rfl) (xa_star rfl (xe_lc (own := [("sign", 2)]) (is := [2]) (f := dNm) rfl sc_bytes_at.nd (xi_any rfl (gv 0 rfl rfl rfl)) (blkOk_by rfl) ⟨fun _ _ _ _ _ => (gNameB 2 sc_bytes_at.nd rfl rfl rfl), fun _ _ _ _ _ => xts_nil, fun _ _ _ _ _ => (xe_op op_addA ok_add (gI rfl Y.c_FIRST_SIGN rfl) (xe_index (gS [97, 98, 99, 100, 101, 102, 103, 104, 105, 106, 107, 108, 109, 110, 111, 112, 113, 114, 115, 116, 117, 118, 119, 120, 121, 122] rfl rfl Y.c_SIGNS rfl) (gv 2 rfl rfl rfl) rfl rfl rfl rfl rfl))⟩ (fun _ _ h => by cases h; rfl) (by decide) (by simp) (by intro _; rfl)) xa_nil rfl) rfl) rfl)))) xb_nil) (xb_cons (xs_if (Γ' := [.fz, .fz, .fz, .fz, .fz]) (XW.xt (xw_or (xt_not (xt_val (xe_isT (c := "tuple") (by decide) rfl rfl Y.n_isinstance rfl Y.n_tuple boot_tuple (by decide) rfl (gv 0 rfl rfl rfl) rfl rfl rfl) (fun _ => rfl))) (xw_or (xt_cmp (op_eqD hr.units) ok_eq (nomark _) (gv 1 rfl rfl rfl) xe_int) (xw_or1 (xt_cmp op_ge ok_ge (nomark _) (xe_B call_len (ck_len rfl) rfl Y.n_len boot_len (xa_cons (gv 0 rfl rfl rfl) xa_nil rfl) (by decide) rfl rfl rfl) (xe_op op_pow ok_pow xe_int xe_int)))))) (XS.one (gDead dead0 (Γ' := [.fz, .fz, .fz, .fz, .fz]) (ks_of rfl rfl) (xs_raise0 (cn := "BadValue") rfl tk Y.x_BadValue.ex Y.x_BadValue.g Y.x_BadValue.k Y.x_BadValue.r rfl rfl rfl))) xb_nil) (xb_cons (gOwnL 3 sc_bytes_at.nd rfl rfl rfl (leB rfl) (ltB rfl) rfl (xa_cons xe_int (xa_star rfl (xe_call tk (ok_digits Y) (hr.mono (by omega)) rfl Y.g_digits Y.D_digits.kp (bN_digits Y) (xa_cons (xe_B call_len (ck_len rfl) rfl Y.n_len boot_len (xa_cons (gv 0 rfl rfl rfl) xa_nil rfl) (by decide) rfl rfl rfl) xa_nil rfl) rfl rfl rfl) xa_nil rfl) rfl)) (xb_cons (xs_for (is := [4]) (passes_of rfl) rfl (allF_cons rfl allF_nil) (xi_any rfl (gv 0 rfl rfl rfl)) (gName 4 sc_bytes_at.nd rfl rfl rfl) (XS.one (gExt 3 rfl rfl rfl rfl rfl rfl rfl rfl rfl (xe_call tk ih (hr.mono (by omega)) rfl Y.g_bytes_at Y.D_bytes_at.kp (bN_bytes_at Y) (xa_cons (gv 4 rfl rfl rfl) (xa_cons (xe_op op_sub ok_sub (gv 1 rfl rfl rfl) xe_int) xa_nil rfl) rfl) rfl rfl rfl))) (by intro _; rfl)) (XS.one (xs_freeL 3 (leB rfl) rfl (gRet (Γ' := [.fz, .fz, .fz, .fz, .fz]) (ks_of rfl rfl) (gv 3 rfl rfl rfl))))))))))
theorem sc_value_bytes : FnScope ["value"] ["value"] (defScope s_value_bytes) := ⟨rfl, rfl, rfl, by decide +kernel, rfl, by decide +kernel, by decide +kernel⟩
theorem bN_value_bytes (Y : Fx P w K mg base) : Binds K Y.d_value_bytes ["value"] [] := Y.D_value_bytes.bindsN fun _ _ _ _ _ _ us hl => match us, hl with | [_], _ => rfl
theorem ok_value_bytes (Y : Fx P w K mg base) : FnOk P w K mg base (L2.CX P w) 16 (ga K "value_bytes") Y.d_value_bytes ["value"] (spG (TT K) ([.fz] : List (Kd (TT K))) f_value_bytes) := by
    refine ok_defN (k := 15) (sig := ([.fz] : List (Kd (TT K)))) ["value"] ["value"] 1 [] [.fz] m_value_bytes Y.D_value_bytes sc_value_bytes rfl rfl rfl rfl fun cdv A outer s H E hr => ?_
    have tk : Takes (cxOf (L2.CX P w) P w K mg base ["value"] "value_bytes" (defScope s_value_bytes) (ga K "value_bytes") cdv A outer s H E) (fun cls d _ H' => E cls d H') := takes_of rfl rfl rfl rfl
    exact (XS.one (gRet (Γ' := [.fz]) (ks_of rfl rfl) (xe_call tk (ok_bytes_at Y 12) (hr.mono (by decide)) rfl Y.g_bytes_at Y.D_bytes_at.kp (bN_bytes_at Y) (xa_cons (gv 0 rfl rfl rfl) (xa_cons (gI rfl Y.c_DEEPEST rfl) xa_nil rfl) rfl) rfl rfl rfl)))
theorem sc_need_bytes : FnScope ["thing", "item"] ["thing"] (defScope s_need_bytes) := ⟨rfl, rfl, rfl, by decide +kernel, rfl, by decide +kernel, by decide +kernel⟩
theorem bN_need_bytes (Y : Fx P w K mg base) : Binds K Y.d_need_bytes ["thing"] [] := Y.D_need_bytes.bindsN fun _ _ _ _ _ _ us hl => match us, hl with | [_], _ => rfl
theorem ok_need_bytes (Y : Fx P w K mg base) : FnOk P w K mg base (L2.CX P w) 5 (ga K "need_bytes") Y.d_need_bytes ["thing"] (spG (TT K) ([.fz] : List (Kd (TT K))) f_need_bytes) := by
    refine ok_defN (k := 4) (sig := ([.fz] : List (Kd (TT K)))) ["thing", "item"] ["thing"] 2 [] [.fz, .fz] m_need_bytes Y.D_need_bytes sc_need_bytes rfl rfl rfl rfl fun cdv A outer s H E hr => ?_
    have tk : Takes (cxOf (L2.CX P w) P w K mg base ["thing", "item"] "need_bytes" (defScope s_need_bytes) (ga K "need_bytes") cdv A outer s H E) (fun cls d _ H' => E cls d H') := takes_of rfl rfl rfl rfl
    exact (XS.one (xs_if (Γ' := [.fz, .fz]) (XW.xt (xw_or (xt_not (xt_val (xe_call tk (ok_is_list Y) (hr.mono (by decide)) rfl Y.g_is_list Y.D_is_list.kp (bN_is_list Y) (xa_cons (gv 0 rfl rfl rfl) xa_nil rfl) rfl rfl rfl) (fun _ => rfl))) (xw_or1 (xt_not (xt_val (xe_B (cr_all rfl) ck_all rfl Y.n_all boot_all (xa_cons (xe_lc (own := [("item", 1)]) (is := [1]) (f := dNm) rfl sc_need_bytes.nd (xi_any rfl (gv 0 rfl rfl rfl)) (blkOk_by rfl) ⟨fun _ _ _ _ _ => (gNameB 1 sc_need_bytes.nd rfl rfl rfl), fun _ _ _ _ _ => xts_nil, fun _ _ _ _ _ => (xe_call takes0 (ok_is_between Y) (hr.mono (by decide)) rfl Y.g_is_between Y.D_is_between.kp (bN_is_between Y) (xa_cons (gv 1 rfl rfl rfl) (xa_cons xe_int (xa_cons xe_int xa_nil rfl) rfl) rfl) rfl rfl rfl)⟩ (fun _ _ h => by cases h; rfl) (by decide) (by simp) (by intro _; rfl)) xa_nil rfl) (by decide) rfl rfl rfl) (fun _ => rfl)))))) (XS.one (gDead dead1 (Γ' := [.fz, .fz]) (ks_of rfl rfl) (xs_raise1 (cn := "BadBytes") (fld := "place") rfl tk Y.x_BadBytes.i Y.n_super Y.x_BadBytes.iC Y.x_BadBytes.tI (hr.mono (by decide)) Y.x_BadBytes.b rfl Y.x_BadBytes.g xe_non rfl rfl rfl rfl))) xb_nil))
theorem sc_byte_at : FnScope ["numbers", "spot"] ["numbers", "spot"] (defScope s_byte_at) := ⟨rfl, rfl, rfl, by decide +kernel, rfl, by decide +kernel, by decide +kernel⟩
theorem bN_byte_at (Y : Fx P w K mg base) : Binds K Y.d_byte_at ["numbers", "spot"] [] := Y.D_byte_at.bindsN fun _ _ _ _ _ _ us hl => match us, hl with | [_, _], _ => rfl
theorem ok_byte_at (Y : Fx P w K mg base) : FnOk P w K mg base (L2.CX P w) 3 (ga K "byte_at") Y.d_byte_at ["numbers", "spot"] (spG (TT K) ([.fz, .fz] : List (Kd (TT K))) f_byte_at) := by
    refine ok_defN (k := 2) (sig := ([.fz, .fz] : List (Kd (TT K)))) ["numbers", "spot"] ["numbers", "spot"] 2 [] [.fz, .fz] m_byte_at Y.D_byte_at sc_byte_at rfl rfl rfl rfl fun cdv A outer s H E hr => ?_
    have tk : Takes (cxOf (L2.CX P w) P w K mg base ["numbers", "spot"] "byte_at" (defScope s_byte_at) (ga K "byte_at") cdv A outer s H E) (fun cls d _ H' => E cls d H') := takes_of rfl rfl rfl rfl
    exact (xb_cons (xs_if (Γ' := [.fz, .fz]) (xt_cmp op_ge ok_ge (nomark _) (gv 1 rfl rfl rfl) (xe_B call_len (ck_len rfl) rfl Y.n_len boot_len (xa_cons (gv 0 rfl rfl rfl) xa_nil rfl) (by decide) rfl rfl rfl)) (XS.one (gDead dead1 (Γ' := [.fz, .fz]) (ks_of rfl rfl) (xs_raise1 (cn := "BadBytes") (fld := "place") rfl tk Y.x_BadBytes.i Y.n_super Y.x_BadBytes.iC Y.x_BadBytes.tI (hr.mono (by decide)) Y.x_BadBytes.b rfl Y.x_BadBytes.g (xe_B call_len (ck_len rfl) rfl Y.n_len boot_len (xa_cons (gv 0 rfl rfl rfl) xa_nil rfl) (by decide) rfl rfl rfl) rfl rfl rfl rfl))) xb_nil) (XS.one (gRet (Γ' := [.fz, .fz]) (ks_of rfl rfl) (xe_ix rfl (fun _ _ => rfl) (gv 0 rfl rfl rfl) (gv 1 rfl rfl rfl)))))
theorem sc_read_digits : FnScope ["numbers", "spot", "most", "found", "worth", "k", "item"] ["numbers", "spot", "most"] (defScope s_read_digits) := ⟨rfl, rfl, rfl, by decide +kernel, rfl, by decide +kernel, by decide +kernel⟩
theorem bN_read_digits (Y : Fx P w K mg base) : Binds K Y.d_read_digits ["numbers", "spot", "most"] [] := Y.D_read_digits.bindsN fun _ _ _ _ _ _ us hl => match us, hl with | [_, _, _], _ => rfl
theorem ok_read_digits (Y : Fx P w K mg base) : FnOk P w K mg base (L2.CX P w) 4 (ga K "read_digits") Y.d_read_digits ["numbers", "spot", "most"] (spG (TT K) ([.fz, .fz, .fz] : List (Kd (TT K))) f_read_digits) := by
    refine ok_defN (k := 3) (sig := ([.fz, .fz, .fz] : List (Kd (TT K)))) ["numbers", "spot", "most", "found", "worth", "k", "item"] ["numbers", "spot", "most"] 7 [] [.fz, .fz, .fz, .fz, .fz, .fz, .fz] m_read_digits Y.D_read_digits sc_read_digits rfl rfl rfl rfl fun cdv A outer s H E hr => ?_
    have tk : Takes (cxOf (L2.CX P w) P w K mg base ["numbers", "spot", "most", "found", "worth", "k", "item"] "read_digits" (defScope s_read_digits) (ga K "read_digits") cdv A outer s H E) (fun cls d _ H' => E cls d H') := takes_of rfl rfl rfl rfl
    exact (xb_cons (xs_asg (is := [3, 4]) (allF_cons rfl (allF_cons rfl allF_nil)) (xg_tup rfl rfl (xgs_cons (gName 3 sc_read_digits.nd rfl rfl rfl) (xgs_cons (gName 4 sc_read_digits.nd rfl rfl rfl) xgs_nil rfl) rfl) rfl rfl rfl) (xe_tup (xa_cons xe_int (xa_cons xe_int xa_nil rfl) rfl)) rfl rfl rfl) (xb_cons (xs_for (is := [5]) (passes_of rfl) rfl (allF_cons rfl allF_nil) (xi_r1 rfl Y.n_range (gv 2 rfl rfl rfl) rfl) (gName 5 sc_read_digits.nd rfl rfl rfl) (xb_cons (gSet 6 sc_read_digits.nd rfl rfl rfl (.inl (leB rfl)) rfl (xe_call tk (ok_byte_at Y) (hr.mono (by decide)) rfl Y.g_byte_at Y.D_byte_at.kp (bN_byte_at Y) (xa_cons (gv 0 rfl rfl rfl) (xa_cons (xe_op op_addA ok_add (gv 1 rfl rfl rfl) (gv 5 rfl rfl rfl)) xa_nil rfl) rfl) rfl rfl rfl)) (xb_cons (xs_if (Γ' := [.fz, .fz, .fz, .fz, .fz, .fz, .fz]) (XW.xt (xw_or (XW.xt (xw_and (xt_cmp op_ge ok_ge (nomark _) (gv 6 rfl rfl rfl) (gI rfl Y.c_BASE rfl)) (xw_and1 (xt_cmp (op_eqD hr.units) ok_eq (nomark _) (gv 5 rfl rfl rfl) (xe_op op_sub ok_sub (gv 2 rfl rfl rfl) xe_int))))) (xw_or1 (XW.xt (xw_and (xt_cmp (op_eqD hr.units) ok_eq (nomark _) (gv 6 rfl rfl rfl) xe_int) (xw_and1 (xt_cmp op_gt ok_gt (nomark _) (gv 5 rfl rfl rfl) xe_int))))))) (XS.one (gDead dead1 (Γ' := [.fz, .fz, .fz, .fz, .fz, .fz, .fz]) (ks_of rfl rfl) (xs_raise1 (cn := "BadBytes") (fld := "place") rfl tk Y.x_BadBytes.i Y.n_super Y.x_BadBytes.iC Y.x_BadBytes.tI (hr.mono (by decide)) Y.x_BadBytes.b rfl Y.x_BadBytes.g (xe_op op_addA ok_add (gv 1 rfl rfl rfl) (gv 5 rfl rfl rfl)) rfl rfl rfl rfl))) xb_nil) (xb_cons (xs_par (i := 3) (j := 4) rfl sc_read_digits.nd rfl rfl (by decide) (allF_cons rfl (allF_cons rfl allF_nil)) rfl rfl (xa_cons (xe_op op_addA ok_add (gv 3 rfl rfl rfl) (xe_op op_mul ok_mulI (xe_op op_mod ok_mod (gv 6 rfl rfl rfl) (gI rfl Y.c_BASE rfl)) (gv 4 rfl rfl rfl))) (xa_cons (xe_op op_mul ok_mulI (gv 4 rfl rfl rfl) (gI rfl Y.c_BASE rfl)) xa_nil rfl) rfl) rfl rfl) (XS.one (xs_if (Γ' := [.fz, .fz, .fz, .fz, .fz, .fz, .fz]) (xt_cmp op_lt ok_lt (nomark _) (gv 6 rfl rfl rfl) (gI rfl Y.c_BASE rfl)) (XS.one (gRet (Γ' := [.fz, .fz, .fz, .fz, .fz, .fz, .fz]) (ks_of rfl rfl) (xe_tup (xa_cons (gv 3 rfl rfl rfl) (xa_cons (xe_op op_addA ok_add (xe_op op_addA ok_add (gv 1 rfl rfl rfl) (gv 5 rfl rfl rfl)) xe_int) xa_nil rfl) rfl)))) xb_nil))))) (by intro _; rfl)) (XS.one (gDead dead1 (Γ' := [.fz, .fz, .fz, .fz, .fz, .fz, .fz]) (ks_of rfl rfl) (xs_raise1 (cn := "BadBytes") (fld := "place") rfl tk Y.x_BadBytes.i Y.n_super Y.x_BadBytes.iC Y.x_BadBytes.tI (hr.mono (by decide)) Y.x_BadBytes.b rfl Y.x_BadBytes.g (gv 1 rfl rfl rfl) rfl rfl rfl rfl)))))
theorem sc_read_text : FnScope ["numbers", "spot", "size", "found", "k"] ["numbers", "spot"] (defScope s_read_text) := ⟨rfl, rfl, rfl, by decide +kernel, rfl, by decide +kernel, by decide +kernel⟩
theorem bN_read_text (Y : Fx P w K mg base) : Binds K Y.d_read_text ["numbers", "spot"] [] := Y.D_read_text.bindsN fun _ _ _ _ _ _ us hl => match us, hl with | [_, _], _ => rfl
theorem ok_read_text (Y : Fx P w K mg base) : FnOk P w K mg base (L2.CX P w) 4 (ga K "read_text") Y.d_read_text ["numbers", "spot"] (spG (TT K) ([.fz, .fz] : List (Kd (TT K))) f_read_text) := by
    refine ok_defN (k := 3) (sig := ([.fz, .fz] : List (Kd (TT K)))) ["numbers", "spot", "size", "found", "k"] ["numbers", "spot"] 5 [] [.fz, .fz, .fz, .fz, .fz] m_read_text Y.D_read_text sc_read_text rfl rfl rfl rfl fun cdv A outer s H E hr => ?_
    have tk : Takes (cxOf (L2.CX P w) P w K mg base ["numbers", "spot", "size", "found", "k"] "read_text" (defScope s_read_text) (ga K "read_text") cdv A outer s H E) (fun cls d _ H' => E cls d H') := takes_of rfl rfl rfl rfl
    exact (xb_cons (xs_parO rfl sc_read_text.nd (i := 2) (j := 3) rfl rfl (by decide) rfl (leB rfl) (ltB rfl) rfl rfl (xe_call tk (ok_byte_at Y) (hr.mono (by decide)) rfl Y.g_byte_at Y.D_byte_at.kp (bN_byte_at Y) (xa_cons (gv 0 rfl rfl rfl) (xa_cons (gv 1 rfl rfl rfl) xa_nil rfl) rfl) rfl rfl rfl) xa_nil rfl rfl rfl rfl) (xb_cons (xs_if (Γ' := [.fz, .fz, .fz, .own, .fz]) (xt_cmp op_gt ok_gt (nomark _) (gv 2 rfl rfl rfl) (gI rfl Y.c_LONGEST_TEXT rfl)) (XS.one (gDead dead1 (Γ' := [.fz, .fz, .fz, .own, .fz]) (ks_of rfl rfl) (xs_raise1 (cn := "BadBytes") (fld := "place") rfl tk Y.x_BadBytes.i Y.n_super Y.x_BadBytes.iC Y.x_BadBytes.tI (hr.mono (by decide)) Y.x_BadBytes.b rfl Y.x_BadBytes.g (gv 1 rfl rfl rfl) rfl rfl rfl rfl))) xb_nil) (xb_cons (xs_for (is := [4]) (passes_of rfl) rfl (allF_cons rfl allF_nil) (xi_r2 rfl Y.n_range (xe_op op_addA ok_add (gv 1 rfl rfl rfl) xe_int) (xe_op op_addA ok_add (xe_op op_addA ok_add (gv 1 rfl rfl rfl) xe_int) (gv 2 rfl rfl rfl)) rfl rfl) (gName 4 sc_read_text.nd rfl rfl rfl) (xb_cons (xs_if (Γ' := [.fz, .fz, .fz, .own, .fz]) (xt_not (tChLeLt (gI rfl Y.c_FIRST_SIGN rfl) (xe_call tk (ok_byte_at Y) (hr.mono (by decide)) rfl Y.g_byte_at Y.D_byte_at.kp (bN_byte_at Y) (xa_cons (gv 0 rfl rfl rfl) (xa_cons (gv 4 rfl rfl rfl) xa_nil rfl) rfl) rfl rfl rfl) (xe_op op_addA ok_add (gI rfl Y.c_FIRST_SIGN rfl) (xe_B call_len (ck_len rfl) rfl Y.n_len boot_len (xa_cons (gS [97, 98, 99, 100, 101, 102, 103, 104, 105, 106, 107, 108, 109, 110, 111, 112, 113, 114, 115, 116, 117, 118, 119, 120, 121, 122] rfl rfl Y.c_SIGNS rfl) xa_nil rfl) (by decide) rfl rfl rfl)) (by with_unfolding_all rfl))) (XS.one (gDead dead1 (Γ' := [.fz, .fz, .fz, .own, .fz]) (ks_of rfl rfl) (xs_raise1 (cn := "BadBytes") (fld := "place") rfl tk Y.x_BadBytes.i Y.n_super Y.x_BadBytes.iC Y.x_BadBytes.tI (hr.mono (by decide)) Y.x_BadBytes.b rfl Y.x_BadBytes.g (gv 4 rfl rfl rfl) rfl rfl rfl rfl))) xb_nil) (XS.one (gApp 3 rfl rfl rfl rfl rfl rfl rfl rfl rfl (xe_ix rfl (fun _ _ => rfl) (gS [97, 98, 99, 100, 101, 102, 103, 104, 105, 106, 107, 108, 109, 110, 111, 112, 113, 114, 115, 116, 117, 118, 119, 120, 121, 122] rfl rfl Y.c_SIGNS rfl) (xe_op op_sub ok_sub (xe_ix rfl (fun _ _ => rfl) (gv 0 rfl rfl rfl) (gv 4 rfl rfl rfl)) (gI rfl Y.c_FIRST_SIGN rfl)))))) (by intro _; rfl)) (XS.one (xs_freeL 3 (leB rfl) rfl (gRet (Γ' := [.fz, .fz, .fz, .fz, .fz]) (ks_of rfl rfl) (xe_tup (xa_cons (xe_join rfl rfl (gv 3 rfl rfl rfl) rfl rfl rfl) (xa_cons (xe_op op_addA ok_add (xe_op op_addA ok_add (gv 1 rfl rfl rfl) xe_int) (gv 2 rfl rfl rfl)) xa_nil rfl) rfl))))))))
theorem sc_read_value : FnScope ["numbers", "spot", "deep", "kind", "size", "found", "k", "value"] ["numbers", "spot", "deep"] (defScope s_read_value) := ⟨rfl, rfl, rfl, by decide +kernel, rfl, by decide +kernel, by decide +kernel⟩
theorem bN_read_value (Y : Fx P w K mg base) : Binds K Y.d_read_value ["numbers", "spot", "deep"] [] := Y.D_read_value.bindsN fun _ _ _ _ _ _ us hl => match us, hl with | [_, _, _], _ => rfl
theorem ok_read_value (Y : Fx P w K mg base) : ∀ n : Nat, FnOk P w K mg base (L2.CX P w) (4 + n) (ga K "read_value") Y.d_read_value ["numbers", "spot", "deep"] (spG (TT K) ([.fz, .fz, .fz] : List (Kd (TT K))) (f_read_value n))
  | 0 => ok_no rfl
  | n + 1 => by
    have ih := ok_read_value Y n
    refine ok_defN (k := 4 + n) (sig := ([.fz, .fz, .fz] : List (Kd (TT K)))) ["numbers", "spot", "deep", "kind", "size", "found", "k", "value"] ["numbers", "spot", "deep"] 8 [] [.fz, .fz, .fz, .fz, .fz, .fz, .fz, .fz] (m_read_value (f_read_value n)) Y.D_read_value sc_read_value rfl rfl rfl rfl fun cdv A outer s H E hr => ?_
    have tk : Takes (cxOf (L2.CX P w) P w K mg base ["numbers", "spot", "deep", "kind", "size", "found", "k", "value"] "read_value" (defScope s_read_value) (ga K "read_value") cdv A outer s H E) (fun cls d _ H' => E cls d H') := takes_of rfl rfl rfl rfl
    exact (xb_cons (gSet 3 sc_read_value.nd rfl rfl rfl (.inl (leB rfl)) rfl (xe_call tk (ok_byte_at Y) (hr.mono (by omega)) rfl Y.g_byte_at Y.D_byte_at.kp (bN_byte_at Y) (xa_cons (gv 0 rfl rfl rfl) (xa_cons (gv 1 rfl rfl rfl) xa_nil rfl) rfl) rfl rfl rfl)) (xb_cons (xs_if (Γ' := [.fz, .fz, .fz, .fz, .fz, .fz, .fz, .fz]) (xt_cmp (op_eqD hr.units) ok_eq (nomark _) (gv 3 rfl rfl rfl) xe_int) (XS.one (gRet (Γ' := [.fz, .fz, .fz, .fz, .fz, .fz, .fz, .fz]) (ks_of rfl rfl) (xe_tup (xa_cons xe_non (xa_cons (xe_op op_addA ok_add (gv 1 rfl rfl rfl) xe_int) xa_nil rfl) rfl)))) xb_nil) (xb_cons (xs_if (Γ' := [.fz, .fz, .fz, .fz, .fz, .fz, .fz, .fz]) (xt_cmp (op_eqD hr.units) ok_eq (nomark _) (gv 3 rfl rfl rfl) xe_int) (XS.one (gRet (Γ' := [.fz, .fz, .fz, .fz, .fz, .fz, .fz, .fz]) (ks_of rfl rfl) (xe_call tk (ok_read_digits Y) (hr.mono (by omega)) rfl Y.g_read_digits Y.D_read_digits.kp (bN_read_digits Y) (xa_cons (gv 0 rfl rfl rfl) (xa_cons (xe_op op_addA ok_add (gv 1 rfl rfl rfl) xe_int) (xa_cons (gI rfl Y.c_MOST_DIGITS rfl) xa_nil rfl) rfl) rfl) rfl rfl rfl))) xb_nil) (xb_cons (xs_if (Γ' := [.fz, .fz, .fz, .fz, .fz, .fz, .fz, .fz]) (xt_cmp (op_eqD hr.units) ok_eq (nomark _) (gv 3 rfl rfl rfl) xe_int) (XS.one (gRet (Γ' := [.fz, .fz, .fz, .fz, .fz, .fz, .fz, .fz]) (ks_of rfl rfl) (xe_call tk (ok_read_text Y) (hr.mono (by omega)) rfl Y.g_read_text Y.D_read_text.kp (bN_read_text Y) (xa_cons (gv 0 rfl rfl rfl) (xa_cons (xe_op op_addA ok_add (gv 1 rfl rfl rfl) xe_int) xa_nil rfl) rfl) rfl rfl rfl))) xb_nil) (xb_cons (xs_if (Γ' := [.fz, .fz, .fz, .fz, .fz, .fz, .fz, .fz]) (XW.xt (xw_or (xt_cmp (op_neD hr.units) ok_ne (nomark _) (gv 3 rfl rfl rfl) xe_int) (xw_or1 (xt_cmp (op_eqD hr.units) ok_eq (nomark _) (gv 2 rfl rfl rfl) xe_int)))) (XS.one (gDead dead1 (Γ' := [.fz, .fz, .fz, .fz, .fz, .fz, .fz, .fz]) (ks_of rfl rfl) (xs_raise1 (cn := "BadBytes") (fld := "place") rfl tk Y.x_BadBytes.i Y.n_super Y.x_BadBytes.iC Y.x_BadBytes.tI (hr.mono (by omega)) Y.x_BadBytes.b rfl Y.x_BadBytes.g (gv 1 rfl rfl rfl) rfl rfl rfl rfl))) xb_nil) (xb_cons (xs_asg (is := [4, 1]) (allF_cons rfl (allF_cons rfl allF_nil)) (xg_tup rfl rfl (xgs_cons (gName 4 sc_read_value.nd rfl rfl rfl) (xgs_cons (gName 1 sc_read_value.nd rfl rfl rfl) xgs_nil rfl) rfl) rfl rfl rfl) (xe_call tk (ok_read_digits Y) (hr.mono (by omega)) rfl Y.g_read_digits Y.D_read_digits.kp (bN_read_digits Y) (xa_cons (gv 0 rfl rfl rfl) (xa_cons (xe_op op_addA ok_add (gv 1 rfl rfl rfl) xe_int) (xa_cons (gI rfl Y.c_MOST_SIZE rfl) xa_nil rfl) rfl) rfl) rfl rfl rfl) rfl rfl rfl) (xb_cons (gOwnL 5 sc_read_value.nd rfl rfl rfl (leB rfl) (ltB rfl) rfl xa_nil) (xb_cons (xs_for (is := [6]) (passes_of rfl) rfl (allF_cons rfl allF_nil) (xi_r1 rfl Y.n_range (gv 4 rfl rfl rfl) rfl) (gName 6 sc_read_value.nd rfl rfl rfl) (xb_cons (xs_asg (is := [7, 1]) (allF_cons rfl (allF_cons rfl allF_nil)) (xg_tup rfl rfl (xgs_cons (gName 7 sc_read_value.nd rfl rfl rfl) (xgs_cons (gName 1 sc_read_value.nd rfl rfl rfl) xgs_nil rfl) rfl) rfl rfl rfl) (xe_call tk ih (hr.mono (by omega)) rfl Y.g_read_value Y.D_read_value.kp (bN_read_value Y) (xa_cons (gv 0 rfl rfl rfl) (xa_cons (gv 1 rfl rfl rfl) (xa_cons (xe_op op_sub ok_sub (gv 2 rfl rfl rfl) xe_int) xa_nil rfl) rfl) rfl) rfl rfl rfl) rfl rfl rfl) (XS.one (gApp 5 rfl rfl rfl rfl rfl rfl rfl rfl rfl (gv 7 rfl rfl rfl)))) (by intro _; rfl)) (XS.one (xs_freeL 5 (leB rfl) rfl (gRet (Γ' := [.fz, .fz, .fz, .fz, .fz, .fz, .fz, .fz]) (ks_of rfl rfl) (xe_tup (xa_cons (xe_Ty call_tuple_of ck_tuple rfl Y.n_tuple boot_tuple (xa_cons (gv 5 rfl rfl rfl) xa_nil rfl) (by decide) rfl rfl rfl) (xa_cons (gv 1 rfl rfl rfl) xa_nil rfl) rfl)))))))))))))
theorem sc_value_of : FnScope ["numbers", "value", "spot"] ["numbers"] (defScope s_value_of) := ⟨rfl, rfl, rfl, by decide +kernel, rfl, by decide +kernel, by decide +kernel⟩
theorem bN_value_of (Y : Fx P w K mg base) : Binds K Y.d_value_of ["numbers"] [] := Y.D_value_of.bindsN fun _ _ _ _ _ _ us hl => match us, hl with | [_], _ => rfl
theorem ok_value_of (Y : Fx P w K mg base) : FnOk P w K mg base (L2.CX P w) 17 (ga K "value_of") Y.d_value_of ["numbers"] (spG (TT K) ([.fz] : List (Kd (TT K))) f_value_of) := by
    refine ok_defN (k := 16) (sig := ([.fz] : List (Kd (TT K)))) ["numbers", "value", "spot"] ["numbers"] 3 [] [.fz, .fz, .fz] m_value_of Y.D_value_of sc_value_of rfl rfl rfl rfl fun cdv A outer s H E hr => ?_
    have tk : Takes (cxOf (L2.CX P w) P w K mg base ["numbers", "value", "spot"] "value_of" (defScope s_value_of) (ga K "value_of") cdv A outer s H E) (fun cls d _ H' => E cls d H') := takes_of rfl rfl rfl rfl
    exact (xb_cons (xs_exp (xe_call tk (ok_need_bytes Y) (hr.mono (by decide)) rfl Y.g_need_bytes Y.D_need_bytes.kp (bN_need_bytes Y) (xa_cons (gv 0 rfl rfl rfl) xa_nil rfl) rfl rfl rfl) rfl) (xb_cons (xs_asg (is := [1, 2]) (allF_cons rfl (allF_cons rfl allF_nil)) (xg_tup rfl rfl (xgs_cons (gName 1 sc_value_of.nd rfl rfl rfl) (xgs_cons (gName 2 sc_value_of.nd rfl rfl rfl) xgs_nil rfl) rfl) rfl rfl rfl) (xe_call tk (ok_read_value Y 12) (hr.mono (by decide)) rfl Y.g_read_value Y.D_read_value.kp (bN_read_value Y) (xa_cons (gv 0 rfl rfl rfl) (xa_cons xe_int (xa_cons (gI rfl Y.c_DEEPEST rfl) xa_nil rfl) rfl) rfl) rfl rfl rfl) rfl rfl rfl) (xb_cons (xs_if (Γ' := [.fz, .fz, .fz]) (xt_cmp op_lt ok_lt (nomark _) (gv 2 rfl rfl rfl) (xe_B call_len (ck_len rfl) rfl Y.n_len boot_len (xa_cons (gv 0 rfl rfl rfl) xa_nil rfl) (by decide) rfl rfl rfl)) (XS.one (gDead dead1 (Γ' := [.fz, .fz, .fz]) (ks_of rfl rfl) (xs_raise1 (cn := "BadBytes") (fld := "place") rfl tk Y.x_BadBytes.i Y.n_super Y.x_BadBytes.iC Y.x_BadBytes.tI (hr.mono (by decide)) Y.x_BadBytes.b rfl Y.x_BadBytes.g (gv 2 rfl rfl rfl) rfl rfl rfl rfl))) xb_nil) (XS.one (gRet (Γ' := [.fz, .fz, .fz]) (ks_of rfl rfl) (gv 1 rfl rfl rfl))))))
theorem sc_sums : FnScope ["body", "one", "other", "k", "item"] ["body"] (defScope s_sums) := ⟨rfl, rfl, rfl, by decide +kernel, rfl, by decide +kernel, by decide +kernel⟩
theorem bN_sums (Y : Fx P w K mg base) : Binds K Y.d_sums ["body"] [] := Y.D_sums.bindsN fun _ _ _ _ _ _ us hl => match us, hl with | [_], _ => rfl
theorem ok_sums (Y : Fx P w K mg base) : FnOk P w K mg base (L2.CX P w) 3 (ga K "sums") Y.d_sums ["body"] (spG (TT K) ([.fz] : List (Kd (TT K))) f_sums) := by
    refine ok_defN (k := 2) (sig := ([.fz] : List (Kd (TT K)))) ["body", "one", "other", "k", "item"] ["body"] 5 [] [.fz, .fz, .fz, .fz, .fz] m_sums Y.D_sums sc_sums rfl rfl rfl rfl fun cdv A outer s H E hr => ?_
    have tk : Takes (cxOf (L2.CX P w) P w K mg base ["body", "one", "other", "k", "item"] "sums" (defScope s_sums) (ga K "sums") cdv A outer s H E) (fun cls d _ H' => E cls d H') := takes_of rfl rfl rfl rfl
    exact (xb_cons (gSet 1 sc_sums.nd rfl rfl rfl (.inl (leB rfl)) rfl (xe_op op_mod ok_mod (xe_B (cr_sum rfl) ck_sum rfl Y.n_sum boot_sum (xa_cons (gv 0 rfl rfl rfl) xa_nil rfl) (by decide) rfl rfl rfl) (gI rfl Y.c_PRIME rfl))) (xb_cons (gSet 2 sc_sums.nd rfl rfl rfl (.inl (leB rfl)) rfl (xe_op op_mod ok_mod (xe_B (cr_sum rfl) ck_sum rfl Y.n_sum boot_sum (xa_cons (xe_lc (own := [("k", 3), ("item", 4)]) (is := [3, 4]) (f := (dTup [dNm, dNm])) rfl sc_sums.nd (xi_enum rfl rfl Y.n_enumerate (gv 0 rfl rfl rfl) rfl) (blkOk_by rfl) ⟨fun _ _ _ _ _ => (xg_tup rfl rfl (xgs_cons (gNameB 3 sc_sums.nd rfl rfl rfl) (xgs_cons (gNameB 4 sc_sums.nd rfl rfl rfl) xgs_nil rfl) rfl) rfl rfl rfl), fun _ _ _ _ _ => xts_nil, fun _ _ _ _ _ => (xe_op op_mul ok_mulI (xe_op op_addA ok_add (gv 3 rfl rfl rfl) xe_int) (gv 4 rfl rfl rfl))⟩ (lens_nm [dNm, dNm] (by simp)) (by decide) (by simp) (by intro _; rfl)) xa_nil rfl) (by decide) rfl rfl rfl) (gI rfl Y.c_PRIME rfl))) (XS.one (gRet (Γ' := [.fz, .fz, .fz, .fz, .fz]) (ks_of rfl rfl) (xe_lst (xa_cons (xe_op op_fdivW ok_divW (gv 1 rfl rfl rfl) xe_int) (xa_cons (xe_op op_mod ok_mod (gv 1 rfl rfl rfl) xe_int) (xa_cons (xe_op op_fdivW ok_divW (gv 2 rfl rfl rfl) xe_int) (xa_cons (xe_op op_mod ok_mod (gv 2 rfl rfl rfl) xe_int) xa_nil rfl) rfl) rfl) rfl))))))
theorem sc_sizes : FnScope ["many", "found", "item"] ["many"] (defScope s_sizes) := ⟨rfl, rfl, rfl, by decide +kernel, rfl, by decide +kernel, by decide +kernel⟩
theorem bN_sizes (Y : Fx P w K mg base) : Binds K Y.d_sizes ["many"] [] := Y.D_sizes.bindsN fun _ _ _ _ _ _ us hl => match us, hl with | [_], _ => rfl
theorem ok_sizes (Y : Fx P w K mg base) : FnOk P w K mg base (L2.CX P w) 3 (ga K "sizes") Y.d_sizes ["many"] (spG (TT K) ([.fz] : List (Kd (TT K))) f_sizes) := by
    refine ok_defN (k := 2) (sig := ([.fz] : List (Kd (TT K)))) ["many", "found", "item"] ["many"] 3 [] [.fz, .fz, .fz] m_sizes Y.D_sizes sc_sizes rfl rfl rfl rfl fun cdv A outer s H E hr => ?_
    have tk : Takes (cxOf (L2.CX P w) P w K mg base ["many", "found", "item"] "sizes" (defScope s_sizes) (ga K "sizes") cdv A outer s H E) (fun cls d _ H' => E cls d H') := takes_of rfl rfl rfl rfl
    exact (xb_cons (gSet 1 sc_sizes.nd rfl rfl rfl (.inl (leB rfl)) rfl (xe_lst (xa_cons (xe_op op_mod ok_mod (xe_op op_fdivW ok_divW (gv 0 rfl rfl rfl) xe_int) xe_int) (xa_cons (xe_op op_mod ok_mod (xe_op op_fdivW ok_divW (gv 0 rfl rfl rfl) xe_int) xe_int) (xa_cons (xe_op op_mod ok_mod (xe_op op_fdivW ok_divW (gv 0 rfl rfl rfl) xe_int) xe_int) (xa_cons (xe_op op_mod ok_mod (gv 0 rfl rfl rfl) xe_int) xa_nil rfl) rfl) rfl) rfl))) (XS.one (gRet (Γ' := [.fz, .fz, .fz]) (ks_of rfl rfl) (xe_lst (xa_star rfl (gv 1 rfl rfl rfl) (xa_star rfl (xe_lc (own := [("item", 2)]) (is := [2]) (f := dNm) rfl sc_sizes.nd (xi_any rfl (gv 1 rfl rfl rfl)) (blkOk_by rfl) ⟨fun _ _ _ _ _ => (gNameB 2 sc_sizes.nd rfl rfl rfl), fun _ _ _ _ _ => xts_nil, fun _ _ _ _ _ => (xe_op op_sub ok_sub xe_int (gv 2 rfl rfl rfl))⟩ (fun _ _ h => by cases h; rfl) (by decide) (by simp) (by intro _; rfl)) xa_nil rfl) rfl)))))
theorem sc_record : FnScope ["value", "body"] ["value"] (defScope s_record) := ⟨rfl, rfl, rfl, by decide +kernel, rfl, by decide +kernel, by decide +kernel⟩
theorem bN_record (Y : Fx P w K mg base) : Binds K Y.d_record ["value"] [] := Y.D_record.bindsN fun _ _ _ _ _ _ us hl => match us, hl with | [_], _ => rfl
theorem ok_record (Y : Fx P w K mg base) : FnOk P w K mg base (L2.CX P w) 17 (ga K "record") Y.d_record ["value"] (spG (TT K) ([.fz] : List (Kd (TT K))) f_record) := by
    refine ok_defN (k := 16) (sig := ([.fz] : List (Kd (TT K)))) ["value", "body"] ["value"] 2 [] [.fz, .fz] m_record Y.D_record sc_record rfl rfl rfl rfl fun cdv A outer s H E hr => ?_
    have tk : Takes (cxOf (L2.CX P w) P w K mg base ["value", "body"] "record" (defScope s_record) (ga K "record") cdv A outer s H E) (fun cls d _ H' => E cls d H') := takes_of rfl rfl rfl rfl
    exact (xb_cons (gSet 1 sc_record.nd rfl rfl rfl (.inl (leB rfl)) rfl (xe_call tk (ok_value_bytes Y) (hr.mono (by decide)) rfl Y.g_value_bytes Y.D_value_bytes.kp (bN_value_bytes Y) (xa_cons (gv 0 rfl rfl rfl) xa_nil rfl) rfl rfl rfl)) (XS.one (gRet (Γ' := [.fz, .fz]) (ks_of rfl rfl) (xe_op op_addA ok_add (xe_op op_addA ok_add (xe_call tk (ok_sizes Y) (hr.mono (by decide)) rfl Y.g_sizes Y.D_sizes.kp (bN_sizes Y) (xa_cons (xe_B call_len (ck_len rfl) rfl Y.n_len boot_len (xa_cons (gv 1 rfl rfl rfl) xa_nil rfl) (by decide) rfl rfl rfl) xa_nil rfl) rfl rfl rfl) (gv 1 rfl rfl rfl)) (xe_call tk (ok_sums Y) (hr.mono (by decide)) rfl Y.g_sums Y.D_sums.kp (bN_sums Y) (xa_cons (gv 1 rfl rfl rfl) xa_nil rfl) rfl rfl rfl)))))
theorem sc_log_of : FnScope ["values", "found", "value"] ["values"] (defScope s_log_of) := ⟨rfl, rfl, rfl, by decide +kernel, rfl, by decide +kernel, by decide +kernel⟩
theorem bN_log_of (Y : Fx P w K mg base) : Binds K Y.d_log_of ["values"] [] := Y.D_log_of.bindsN fun _ _ _ _ _ _ us hl => match us, hl with | [_], _ => rfl
theorem ok_log_of (Y : Fx P w K mg base) : FnOk P w K mg base (L2.CX P w) 18 (ga K "log_of") Y.d_log_of ["values"] (spG (TT K) ([.fz] : List (Kd (TT K))) f_log_of) := by
    refine ok_defN (k := 17) (sig := ([.fz] : List (Kd (TT K)))) ["values", "found", "value"] ["values"] 3 [] [.fz, .fz, .fz] m_log_of Y.D_log_of sc_log_of rfl rfl rfl rfl fun cdv A outer s H E hr => ?_
    have tk : Takes (cxOf (L2.CX P w) P w K mg base ["values", "found", "value"] "log_of" (defScope s_log_of) (ga K "log_of") cdv A outer s H E) (fun cls d _ H' => E cls d H') := takes_of rfl rfl rfl rfl
    exact (xb_cons (xs_if (Γ' := [.fz, .fz, .fz]) (xt_not (xt_val (xe_call tk (ok_is_list Y) (hr.mono (by decide)) rfl Y.g_is_list Y.D_is_list.kp (bN_is_list Y) (xa_cons (gv 0 rfl rfl rfl) xa_nil rfl) rfl rfl rfl) (fun _ => rfl))) (XS.one (gDead dead0 (Γ' := [.fz, .fz, .fz]) (ks_of rfl rfl) (xs_raise0 (cn := "BadValue") rfl tk Y.x_BadValue.ex Y.x_BadValue.g Y.x_BadValue.k Y.x_BadValue.r rfl rfl rfl))) xb_nil) (xb_cons (gOwnL 1 sc_log_of.nd rfl rfl rfl (leB rfl) (ltB rfl) rfl xa_nil) (xb_cons (xs_for (is := [2]) (passes_of rfl) rfl (allF_cons rfl allF_nil) (xi_any rfl (gv 0 rfl rfl rfl)) (gName 2 sc_log_of.nd rfl rfl rfl) (XS.one (gExt 1 rfl rfl rfl rfl rfl rfl rfl rfl rfl (xe_call tk (ok_record Y) (hr.mono (by decide)) rfl Y.g_record Y.D_record.kp (bN_record Y) (xa_cons (gv 2 rfl rfl rfl) xa_nil rfl) rfl rfl rfl))) (by intro _; rfl)) (XS.one (xs_freeL 1 (leB rfl) rfl (gRet (Γ' := [.fz, .fz, .fz]) (ks_of rfl rfl) (gv 1 rfl rfl rfl)))))))
theorem sc_size_at : FnScope ["numbers", "spot", "head", "item"] ["numbers", "spot"] (defScope s_size_at) := ⟨rfl, rfl, rfl, by decide +kernel, rfl, by decide +kernel, by decide +kernel⟩
theorem bN_size_at (Y : Fx P w K mg base) : Binds K Y.d_size_at ["numbers", "spot"] [] := Y.D_size_at.bindsN fun _ _ _ _ _ _ us hl => match us, hl with | [_, _], _ => rfl
theorem ok_size_at (Y : Fx P w K mg base) : FnOk P w K mg base (L2.CX P w) 3 (ga K "size_at") Y.d_size_at ["numbers", "spot"] (spG (TT K) ([.fz, .fz] : List (Kd (TT K))) f_size_at) := by
    refine ok_defN (k := 2) (sig := ([.fz, .fz] : List (Kd (TT K)))) ["numbers", "spot", "head", "item"] ["numbers", "spot"] 4 [] [.fz, .fz, .fz, .fz] m_size_at Y.D_size_at sc_size_at rfl rfl rfl rfl fun cdv A outer s H E hr => ?_
    have tk : Takes (cxOf (L2.CX P w) P w K mg base ["numbers", "spot", "head", "item"] "size_at" (defScope s_size_at) (ga K "size_at") cdv A outer s H E) (fun cls d _ H' => E cls d H') := takes_of rfl rfl rfl rfl
    exact (xb_cons (gSet 2 sc_size_at.nd rfl rfl rfl (.inl (leB rfl)) rfl (xe_Ty call_list_of ck_list rfl Y.n_list boot_list (xa_cons (xe_sl rfl (gv 0 rfl rfl rfl) (xo_some (gv 1 rfl rfl rfl)) (xo_some (xe_op op_addA ok_add (gv 1 rfl rfl rfl) (gI rfl Y.c_HEAD rfl)))) xa_nil rfl) (by decide) rfl rfl rfl)) (xb_cons (xs_if (Γ' := [.fz, .fz, .fz, .fz]) (XW.xt (xw_or (xt_cmp op_lt ok_lt (nomark _) (xe_B call_len (ck_len rfl) rfl Y.n_len boot_len (xa_cons (gv 2 rfl rfl rfl) xa_nil rfl) (by decide) rfl rfl rfl) (gI rfl Y.c_HEAD rfl)) (xw_or1 (xt_cmp (op_neD hr.units) ok_ne (nomark _) (xe_sl rfl (gv 2 rfl rfl rfl) (xo_some xe_int) xo_none) (xe_lc (own := [("item", 3)]) (is := [3]) (f := dNm) rfl sc_size_at.nd (xi_any rfl (xe_sl rfl (gv 2 rfl rfl rfl) xo_none (xo_some xe_int))) (blkOk_by rfl) ⟨fun _ _ _ _ _ => (gNameB 3 sc_size_at.nd rfl rfl rfl), fun _ _ _ _ _ => xts_nil, fun _ _ _ _ _ => (xe_op op_sub ok_sub xe_int (gv 3 rfl rfl rfl))⟩ (fun _ _ h => by cases h; rfl) (by decide) (by simp) (by intro _; rfl)))))) (XS.one (gRet (Γ' := [.fz, .fz, .fz, .fz]) (ks_of rfl rfl) xe_non)) xb_nil) (XS.one (gRet (Γ' := [.fz, .fz, .fz, .fz]) (ks_of rfl rfl) (xe_op op_addA ok_add (xe_op op_mul ok_mulI (xe_op op_addA ok_add (xe_op op_mul ok_mulI (xe_op op_addA ok_add (xe_op op_mul ok_mulI (xe_ix rfl (fun _ _ => rfl) (gv 2 rfl rfl rfl) xe_int) xe_int) (xe_ix rfl (fun _ _ => rfl) (gv 2 rfl rfl rfl) xe_int)) xe_int) (xe_ix rfl (fun _ _ => rfl) (gv 2 rfl rfl rfl) xe_int)) xe_int) (xe_ix rfl (fun _ _ => rfl) (gv 2 rfl rfl rfl) xe_int))))))
theorem sc_read_record : FnScope ["numbers", "spot", "size", "body"] ["numbers", "spot"] (defScope s_read_record) := ⟨rfl, rfl, rfl, by decide +kernel, rfl, by decide +kernel, by decide +kernel⟩
theorem bN_read_record (Y : Fx P w K mg base) : Binds K Y.d_read_record ["numbers", "spot"] [] := Y.D_read_record.bindsN fun _ _ _ _ _ _ us hl => match us, hl with | [_, _], _ => rfl
theorem ok_read_record (Y : Fx P w K mg base) : FnOk P w K mg base (L2.CX P w) 18 (ga K "read_record") Y.d_read_record ["numbers", "spot"] (spG (TT K) ([.fz, .fz] : List (Kd (TT K))) f_read_record) := by
    refine ok_defN (k := 17) (sig := ([.fz, .fz] : List (Kd (TT K)))) ["numbers", "spot", "size", "body"] ["numbers", "spot"] 4 [] [.fz, .fz, .fz, .fz] m_read_record Y.D_read_record sc_read_record rfl rfl rfl rfl fun cdv A outer s H E hr => ?_
    have tk : Takes (cxOf (L2.CX P w) P w K mg base ["numbers", "spot", "size", "body"] "read_record" (defScope s_read_record) (ga K "read_record") cdv A outer s H E) (fun cls d _ H' => E cls d H') := takes_of rfl rfl rfl rfl
    exact (xb_cons (gSet 2 sc_read_record.nd rfl rfl rfl (.inl (leB rfl)) rfl (xe_call tk (ok_size_at Y) (hr.mono (by decide)) rfl Y.g_size_at Y.D_size_at.kp (bN_size_at Y) (xa_cons (gv 0 rfl rfl rfl) (xa_cons (gv 1 rfl rfl rfl) xa_nil rfl) rfl) rfl rfl rfl)) (xb_cons (xs_if (Γ' := [.fz, .fz, .fz, .fz]) (XW.xt (xw_or (tIsNt (gv 2 rfl rfl rfl)) (xw_or1 (xt_cmp op_gt ok_gt (nomark _) (xe_op op_addA ok_add (xe_op op_addA ok_add (xe_op op_addA ok_add (gv 1 rfl rfl rfl) (gI rfl Y.c_HEAD rfl)) (gv 2 rfl rfl rfl)) (gI rfl Y.c_TAIL rfl)) (xe_B call_len (ck_len rfl) rfl Y.n_len boot_len (xa_cons (gv 0 rfl rfl rfl) xa_nil rfl) (by decide) rfl rfl rfl))))) (XS.one (gRet (Γ' := [.fz, .fz, .fz, .fz]) (ks_of rfl rfl) xe_non)) xb_nil) (xb_cons (gSet 3 sc_read_record.nd rfl rfl rfl (.inl (leB rfl)) rfl (xe_Ty call_list_of ck_list rfl Y.n_list boot_list (xa_cons (xe_sl rfl (gv 0 rfl rfl rfl) (xo_some (xe_op op_addA ok_add (gv 1 rfl rfl rfl) (gI rfl Y.c_HEAD rfl))) (xo_some (xe_op op_addA ok_add (xe_op op_addA ok_add (gv 1 rfl rfl rfl) (gI rfl Y.c_HEAD rfl)) (gv 2 rfl rfl rfl)))) xa_nil rfl) (by decide) rfl rfl rfl)) (xb_cons (xs_if (Γ' := [.fz, .fz, .fz, .fz]) (xt_cmp (op_neD hr.units) ok_ne (nomark _) (xe_Ty call_list_of ck_list rfl Y.n_list boot_list (xa_cons (xe_sl rfl (gv 0 rfl rfl rfl) (xo_some (xe_op op_addA ok_add (xe_op op_addA ok_add (gv 1 rfl rfl rfl) (gI rfl Y.c_HEAD rfl)) (gv 2 rfl rfl rfl))) (xo_some (xe_op op_addA ok_add (xe_op op_addA ok_add (xe_op op_addA ok_add (gv 1 rfl rfl rfl) (gI rfl Y.c_HEAD rfl)) (gv 2 rfl rfl rfl)) (gI rfl Y.c_TAIL rfl)))) xa_nil rfl) (by decide) rfl rfl rfl) (xe_call tk (ok_sums Y) (hr.mono (by decide)) rfl Y.g_sums Y.D_sums.kp (bN_sums Y) (xa_cons (gv 3 rfl rfl rfl) xa_nil rfl) rfl rfl rfl)) (XS.one (gRet (Γ' := [.fz, .fz, .fz, .fz]) (ks_of rfl rfl) xe_non)) xb_nil) (XS.one (xs_try (CS := ga K "BadBytes") ["BadBytes"] ["GroupError", "BadValue"] rfl rfl rfl rfl Y.tg_BadBytes rfl tk (ks_of rfl rfl) Y.ty_BadBytes Y.tn_BadBytes (fun W' pn xe tk _ => (XS.one (gRet (Γ' := [.fz, .fz, .fz, .fz]) (ks_of rfl rfl) (xe_tup (xa_cons (xe_call tk (ok_value_of Y) (hr.mono (by decide)) rfl Y.g_value_of Y.D_value_of.kp (bN_value_of Y) (xa_cons (gv 3 rfl rfl rfl) xa_nil rfl) rfl rfl rfl) (xa_cons (xe_op op_addA ok_add (xe_op op_addA ok_add (xe_op op_addA ok_add (gv 1 rfl rfl rfl) (gI rfl Y.c_HEAD rfl)) (gv 2 rfl rfl rfl)) (gI rfl Y.c_TAIL rfl)) xa_nil rfl) rfl))))) (fun a pn Γr ks => (XS.one (gRet (Γ' := [.fz, .fz, .fz, .fz]) (ks_via ks (ks_of rfl rfl)) xe_non)))))))))
theorem sc_ends_of : FnScope ["numbers", "found", "here"] ["numbers"] (defScope s_ends_of) := ⟨rfl, rfl, rfl, by decide +kernel, rfl, by decide +kernel, by decide +kernel⟩
theorem bN_ends_of (Y : Fx P w K mg base) : Binds K Y.d_ends_of ["numbers"] [] := Y.D_ends_of.bindsN fun _ _ _ _ _ _ us hl => match us, hl with | [_], _ => rfl
theorem ok_ends_of (Y : Fx P w K mg base) : FnOk P w K mg base (L2.CX P w) 19 (ga K "ends_of") Y.d_ends_of ["numbers"] (spG (TT K) ([.fz] : List (Kd (TT K))) f_ends_of) := by
    refine ok_defN (k := 18) (sig := ([.fz] : List (Kd (TT K)))) ["numbers", "found", "here"] ["numbers"] 3 [] [.fz, .fz, .fz] m_ends_of Y.D_ends_of sc_ends_of rfl rfl rfl rfl fun cdv A outer s H E hr => ?_
    have tk : Takes (cxOf (L2.CX P w) P w K mg base ["numbers", "found", "here"] "ends_of" (defScope s_ends_of) (ga K "ends_of") cdv A outer s H E) (fun cls d _ H' => E cls d H') := takes_of rfl rfl rfl rfl
    exact (xb_cons (xs_parO1 rfl sc_ends_of.nd (i := 1) (j := 2) rfl rfl (by decide) rfl (leB rfl) (ltB rfl) rfl rfl xa_nil (xe_call tk (ok_read_record Y) (hr.mono (by decide)) rfl Y.g_read_record Y.D_read_record.kp (bN_read_record Y) (xa_cons (gv 0 rfl rfl rfl) (xa_cons xe_int xa_nil rfl) rfl) rfl rfl rfl) rfl rfl rfl rfl) (xb_cons (xs_while (fun _ => 100000) (passes_of rfl) (tNotNt (gv 2 rfl rfl rfl)) (xb_cons (gApp 1 rfl rfl rfl rfl rfl rfl rfl rfl rfl (gv 2 rfl rfl rfl)) (XS.one (gSet 2 sc_ends_of.nd rfl rfl rfl (.inl (leB rfl)) rfl (xe_call tk (ok_read_record Y) (hr.mono (by decide)) rfl Y.g_read_record Y.D_read_record.kp (bN_read_record Y) (xa_cons (gv 0 rfl rfl rfl) (xa_cons (xe_ix rfl (fun _ _ => rfl) (gv 2 rfl rfl rfl) xe_int) xa_nil rfl) rfl) rfl rfl rfl))))) (XS.one (xs_freeL 1 (leB rfl) rfl (gRet (Γ' := [.fz, .fz, .fz]) (ks_of rfl rfl) (gv 1 rfl rfl rfl))))))
theorem sc_read_log : FnScope ["numbers", "found", "value", "spot"] ["numbers"] (defScope s_read_log) := ⟨rfl, rfl, rfl, by decide +kernel, rfl, by decide +kernel, by decide +kernel⟩
theorem bN_read_log (Y : Fx P w K mg base) : Binds K Y.d_read_log ["numbers"] [] := Y.D_read_log.bindsN fun _ _ _ _ _ _ us hl => match us, hl with | [_], _ => rfl
theorem ok_read_log (Y : Fx P w K mg base) : FnOk P w K mg base (L2.CX P w) 20 (ga K "read_log") Y.d_read_log ["numbers"] (spG (TT K) ([.fz] : List (Kd (TT K))) f_read_log) := by
    refine ok_defN (k := 19) (sig := ([.fz] : List (Kd (TT K)))) ["numbers", "found", "value", "spot"] ["numbers"] 4 [] [.fz, .fz, .fz, .fz] m_read_log Y.D_read_log sc_read_log rfl rfl rfl rfl fun cdv A outer s H E hr => ?_
    have tk : Takes (cxOf (L2.CX P w) P w K mg base ["numbers", "found", "value", "spot"] "read_log" (defScope s_read_log) (ga K "read_log") cdv A outer s H E) (fun cls d _ H' => E cls d H') := takes_of rfl rfl rfl rfl
    exact (xb_cons (xs_exp (xe_call tk (ok_need_bytes Y) (hr.mono (by decide)) rfl Y.g_need_bytes Y.D_need_bytes.kp (bN_need_bytes Y) (xa_cons (gv 0 rfl rfl rfl) xa_nil rfl) rfl rfl rfl) rfl) (xb_cons (gSet 1 sc_read_log.nd rfl rfl rfl (.inl (leB rfl)) rfl (xe_call tk (ok_ends_of Y) (hr.mono (by decide)) rfl Y.g_ends_of Y.D_ends_of.kp (bN_ends_of Y) (xa_cons (gv 0 rfl rfl rfl) xa_nil rfl) rfl rfl rfl)) (XS.one (gRet (Γ' := [.fz, .fz, .fz, .fz]) (ks_of rfl rfl) (xe_tup (xa_cons (xe_lc (own := [("value", 2), ("spot", 3)]) (is := [2, 3]) (f := (dTup [dNm, dNm])) rfl sc_read_log.nd (xi_any rfl (gv 1 rfl rfl rfl)) (blkOk_by rfl) ⟨fun _ _ _ _ _ => (xg_tup rfl rfl (xgs_cons (gNameB 2 sc_read_log.nd rfl rfl rfl) (xgs_cons (gNameB 3 sc_read_log.nd rfl rfl rfl) xgs_nil rfl) rfl) rfl rfl rfl), fun _ _ _ _ _ => xts_nil, fun _ _ _ _ _ => (gv 2 rfl rfl rfl)⟩ (lens_nm [dNm, dNm] (by simp)) (by decide) (by simp) (by intro _; rfl)) (xa_cons (xe_if (xt_tr rfl (gv 1 rfl rfl rfl) (fun _ => rfl)) (xe_ix rfl (fun _ _ => rfl) (xe_ix rfl (fun _ _ => rfl) (gv 1 rfl rfl rfl) (xe_un un_neg ok_neg xe_int)) xe_int) xe_int) xa_nil rfl) rfl))))))
theorem sc__law_begun : FnScope ["script", "large", "grain"] ["script"] (defScope s__law_begun) := ⟨rfl, rfl, rfl, by decide +kernel, rfl, by decide +kernel, by decide +kernel⟩
theorem bN__law_begun (Y : Fx P w K mg base) : Binds K Y.d__law_begun ["script"] [] := Y.D__law_begun.bindsN fun _ _ _ _ _ _ us hl => match us, hl with | [_], _ => rfl
theorem ok__law_begun (Y : Fx P w K mg base) : FnOk P w K mg base (L2.CX P w) 3 (ga K "_law_begun") Y.d__law_begun ["script"] (spBegun (TT K)) := by
    refine Y.D__law_begun.ok sc__law_begun (fun vs H Q E ⟨_, _, v, e, _⟩ => by rw [e]; rfl) fun cdv A outer s H vs Q E hr hsp => ?_
    have hr : Room 2 (A.deeper (envOfC "_law_begun" (defScope s__law_begun) s.heap.objs.size (ga K "_law_begun") cdv)) := hr
    exact begun_body (X := cxOf (L2.CX P w) P w K mg base ["script", "large", "grain"] "_law_begun" (defScope s__law_begun) (ga K "_law_begun") cdv A outer s H E) (T := TT K) (W := fun cls d _ H' => E cls d H') (vs := vs) (xs_lcOwn (own := [("grain", 2)]) (is := [2]) (f := dNm) rfl sc__law_begun.nd (i := 1) rfl rfl (leB rfl) (ltB rfl) (sw_true rfl rfl rfl rfl) (xi_scr rfl 0 rfl rfl rfl) (blkOk_by rfl) ⟨fun _ _ _ _ _ => (gNameB 2 sc__law_begun.nd rfl rfl rfl), fun _ _ _ _ _ => (xts_one (xt_cmp op_ge ok_ge (nomark _) (xe_B call_abs ck_abs rfl Y.n_abs boot_abs (xa_cons (gv 2 rfl rfl rfl) xa_nil rfl) (by decide) rfl rfl rfl) (xe_op op_pow ok_pow xe_int xe_int))), fun _ _ _ _ _ => (xe_op op_sub ok_sub (xe_B call_abs ck_abs rfl Y.n_abs boot_abs (xa_cons (gv 2 rfl rfl rfl) xa_nil rfl) (by decide) rfl rfl rfl) (xe_op op_pow ok_pow xe_int xe_int))⟩ (fun _ _ h => by cases h; rfl) (by decide) (by simp) (by intro _; rfl)) (xl_lc (own := [("grain", 2)]) (is := [2]) (f := dNm) rfl sc__law_begun.nd (xi_scr rfl 0 rfl rfl rfl) (blkOk_by rfl) ⟨fun _ _ _ _ _ => (gNameB 2 sc__law_begun.nd rfl rfl rfl), fun _ _ _ _ _ => xts_nil, fun _ _ _ _ _ => (xe_B call_abs ck_abs rfl Y.n_abs boot_abs (xa_cons (gv 2 rfl rfl rfl) xa_nil rfl) (by decide) rfl rfl rfl)⟩ (fun _ _ h => by cases h; rfl) (by decide) (by simp) (by intro _; rfl)) rfl rfl hsp
theorem sc__law_mixed : FnScope ["draw", "turn", "found", "great", "blend", "grain"] ["draw"] (defScope s__law_mixed) := ⟨rfl, rfl, rfl, by decide +kernel, rfl, by decide +kernel, by decide +kernel⟩
theorem bN__law_mixed (Y : Fx P w K mg base) : Binds K Y.d__law_mixed ["draw"] [] := Y.D__law_mixed.bindsN fun _ _ _ _ _ _ us hl => match us, hl with | [_], _ => rfl
theorem ok__law_mixed (Y : Fx P w K mg base) : FnOk P w K mg base (L2.CX P w) 3 (ga K "_law_mixed") Y.d__law_mixed ["draw"] (spG (TT K) ([.ab Draw] : List (Kd (TT K))) f__law_mixed) := by
    refine ok_defN (k := 2) (sig := ([.ab Draw] : List (Kd (TT K)))) ["draw", "turn", "found", "great", "blend", "grain"] ["draw"] 6 [0] [.ab Draw, .fz, .fz, .fz, .fz, .fz] m__law_mixed Y.D__law_mixed sc__law_mixed rfl rfl rfl rfl fun cdv A outer s H E hr => ?_
    have tk : Takes (cxOf (L2.CX P w) P w K mg base ["draw", "turn", "found", "great", "blend", "grain"] "_law_mixed" (defScope s__law_mixed) (ga K "_law_mixed") cdv A outer s H E) (fun cls d _ H' => E cls d H') := takes_of rfl rfl rfl rfl
    exact (xb_cons (gDrPut (u1 hr) 0 .turn rfl rfl rfl rfl rfl (xe_op op_addA ok_add (gDr (u1 hr) 0 .turn rfl rfl rfl rfl (fun _ _ => rfl)) xe_int)) (xb_cons (xs_par (i := 1) (j := 2) rfl sc__law_mixed.nd rfl rfl (by decide) (allF_cons rfl (allF_cons rfl allF_nil)) rfl rfl (xa_cons (xe_Ty call_int1 ck_int rfl Y.n_int boot_int (xa_cons (gDr (u1 hr) 0 .turn rfl rfl rfl rfl (fun _ _ => rfl)) xa_nil rfl) (by decide) rfl rfl rfl) (xa_cons xe_int xa_nil rfl) rfl) rfl rfl) (xb_cons (xs_for (is := [3]) (passes_of rfl) rfl (allF_cons rfl allF_nil) (xi_any rfl (xe_lst (xa_cons xe_int (xa_cons xe_int (xa_cons xe_int xa_nil rfl) rfl) rfl))) (gName 3 sc__law_mixed.nd rfl rfl rfl) (xb_cons (gSet 4 sc__law_mixed.nd rfl rfl rfl (.inl (leB rfl)) rfl (xe_op op_mod ok_mod (xe_op op_addA ok_add (xe_op op_mul ok_mulI (gv 1 rfl rfl rfl) xe_int) (xe_op op_fdivW ok_divW (gv 3 rfl rfl rfl) xe_int)) (gv 3 rfl rfl rfl))) (xb_cons (xs_for (is := [5]) (passes_of rfl) rfl (allF_cons rfl allF_nil) (xi_any rfl (gDr (u1 hr) 0 .cells rfl rfl rfl rfl (fun _ _ => rfl))) (gName 5 sc__law_mixed.nd rfl rfl rfl) (XS.one (gSet 4 sc__law_mixed.nd rfl rfl rfl (.inl (leB rfl)) rfl (xe_op op_mod ok_mod (xe_op op_addA ok_add (xe_op op_mul ok_mulI (gv 4 rfl rfl rfl) xe_int) (xe_Ty call_int1 ck_int rfl Y.n_int boot_int (xa_cons (gv 5 rfl rfl rfl) xa_nil rfl) (by decide) rfl rfl rfl)) (gv 3 rfl rfl rfl)))) (by intro _; rfl)) (XS.one (gSet 2 sc__law_mixed.nd rfl rfl rfl (.inl (leB rfl)) rfl (xe_op op_addA ok_add (xe_op op_mul ok_mulI (gv 2 rfl rfl rfl) xe_int) (xe_op op_mod ok_mod (xe_op op_pow ok_pow (gv 4 rfl rfl rfl) xe_int) (gv 3 rfl rfl rfl))))))) (by intro _; rfl)) (XS.one (gRet (Γ' := [.ab Draw, .fz, .fz, .fz, .fz, .fz]) (ks_of rfl rfl) (gv 2 rfl rfl rfl))))))
theorem sc__law_take : FnScope ["draw", "amount", "found"] ["draw", "amount"] (defScope s__law_take) := ⟨rfl, rfl, rfl, by decide +kernel, rfl, by decide +kernel, by decide +kernel⟩
theorem bN__law_take (Y : Fx P w K mg base) : Binds K Y.d__law_take ["draw", "amount"] [] := Y.D__law_take.bindsN fun _ _ _ _ _ _ us hl => match us, hl with | [_, _], _ => rfl
theorem ok__law_take (Y : Fx P w K mg base) : FnOk P w K mg base (L2.CX P w) 4 (ga K "_law_take") Y.d__law_take ["draw", "amount"] (spG (TT K) ([.ab Draw, .fz] : List (Kd (TT K))) f__law_take) := by
    refine ok_defN (k := 3) (sig := ([.ab Draw, .fz] : List (Kd (TT K)))) ["draw", "amount", "found"] ["draw", "amount"] 3 [0] [.ab Draw, .fz, .fz] m__law_take Y.D__law_take sc__law_take rfl rfl rfl rfl fun cdv A outer s H E hr => ?_
    have tk : Takes (cxOf (L2.CX P w) P w K mg base ["draw", "amount", "found"] "_law_take" (defScope s__law_take) (ga K "_law_take") cdv A outer s H E) (fun cls d _ H' => E cls d H') := takes_of rfl rfl rfl rfl
    exact (xb_cons (xs_if (Γ' := [.ab Draw, .fz, .fz]) (xt_cmp (op_eqD hr.units) ok_eq (nomark _) (gDr (u1 hr) 0 .rest rfl rfl rfl rfl (fun _ _ => rfl)) xe_int) (XS.one (gDrPut (u1 hr) 0 .rest rfl rfl rfl rfl rfl (xe_if (tDrHas hr.units 0 rfl rfl rfl rfl rfl (fun _ _ => rfl)) (gDrPop (u1 hr) 0 rfl rfl rfl rfl (fun _ _ => rfl) rfl rfl rfl rfl rfl) (xe_callIO (by decide) (.io rfl rfl .nil) tk (ok__law_mixed Y) (hr.mono (by decide)) rfl Y.g__law_mixed Y.D__law_mixed.kp (bN__law_mixed Y) (gIo 0 rfl rfl xm_nil rfl) rfl rfl rfl)))) xb_nil) (xb_cons (gSet 2 sc__law_take.nd rfl rfl rfl (.inl (leB rfl)) rfl (xe_op op_mod ok_mod (xe_Ty call_int1 ck_int rfl Y.n_int boot_int (xa_cons (gDr (u1 hr) 0 .rest rfl rfl rfl rfl (fun _ _ => rfl)) xa_nil rfl) (by decide) rfl rfl rfl) (gv 1 rfl rfl rfl))) (xb_cons (gDrPut (u1 hr) 0 .rest rfl rfl rfl rfl rfl (xe_op op_fdivW ok_divW (xe_Ty call_int1 ck_int rfl Y.n_int boot_int (xa_cons (gDr (u1 hr) 0 .rest rfl rfl rfl rfl (fun _ _ => rfl)) xa_nil rfl) (by decide) rfl rfl rfl) (gv 1 rfl rfl rfl))) (XS.one (gRet (Γ' := [.ab Draw, .fz, .fz]) (ks_of rfl rfl) (gv 2 rfl rfl rfl))))))
theorem sc__law_pick : FnScope ["draw", "some"] ["draw", "some"] (defScope s__law_pick) := ⟨rfl, rfl, rfl, by decide +kernel, rfl, by decide +kernel, by decide +kernel⟩
theorem bN__law_pick (Y : Fx P w K mg base) : Binds K Y.d__law_pick ["draw", "some"] [] := Y.D__law_pick.bindsN fun _ _ _ _ _ _ us hl => match us, hl with | [_, _], _ => rfl
theorem ok__law_pick (Y : Fx P w K mg base) : FnOk P w K mg base (L2.CX P w) 5 (ga K "_law_pick") Y.d__law_pick ["draw", "some"] (spG (TT K) ([.ab Draw, .fz] : List (Kd (TT K))) f__law_pick) := by
    refine ok_defN (k := 4) (sig := ([.ab Draw, .fz] : List (Kd (TT K)))) ["draw", "some"] ["draw", "some"] 2 [0] [.ab Draw, .fz] m__law_pick Y.D__law_pick sc__law_pick rfl rfl rfl rfl fun cdv A outer s H E hr => ?_
    have tk : Takes (cxOf (L2.CX P w) P w K mg base ["draw", "some"] "_law_pick" (defScope s__law_pick) (ga K "_law_pick") cdv A outer s H E) (fun cls d _ H' => E cls d H') := takes_of rfl rfl rfl rfl
    exact (XS.one (gRet (Γ' := [.ab Draw, .fz]) (ks_of rfl rfl) (xe_ix rfl (fun _ _ => rfl) (gv 1 rfl rfl rfl) (xe_callIO (by decide) (.io rfl rfl (.v .nil)) tk (ok__law_take Y) (hr.mono (by decide)) rfl Y.g__law_take Y.D__law_take.kp (bN__law_take Y) (gIo 0 rfl rfl (xm_v (xe_B call_len (ck_len rfl) rfl Y.n_len boot_len (xa_cons (gv 1 rfl rfl rfl) xa_nil rfl) (by decide) rfl rfl rfl) xm_nil rfl) rfl) rfl rfl rfl))))
theorem sc__law_caught : FnScope ["work", "caught", "error"] ["work"] (defScope s__law_caught) := ⟨rfl, rfl, rfl, by decide +kernel, rfl, by decide +kernel, by decide +kernel⟩
theorem bN__law_caught (Y : Fx P w K mg base) : Binds K Y.d__law_caught ["work"] [] := Y.D__law_caught.bindsN fun _ _ _ _ _ _ us hl => match us, hl with | [_], _ => rfl
theorem sc__law_signs : FnScope [] [] (defScope s__law_signs) := ⟨rfl, rfl, rfl, by decide +kernel, rfl, by decide +kernel, by decide +kernel⟩
theorem bN__law_signs (Y : Fx P w K mg base) : Binds K Y.d__law_signs [] [] := Y.D__law_signs.bindsN fun _ _ _ _ _ _ us hl => match us, hl with | [], _ => rfl
theorem ok__law_signs (Y : Fx P w K mg base) : FnOk P w K mg base (L2.CX P w) 3 (ga K "_law_signs") Y.d__law_signs [] (spG (TT K) ([] : List (Kd (TT K))) f__law_signs) := by
    refine ok_defN (k := 2) (sig := ([] : List (Kd (TT K)))) [] [] 0 [] [] m__law_signs Y.D__law_signs sc__law_signs rfl rfl rfl rfl fun cdv A outer s H E hr => ?_
    have tk : Takes (cxOf (L2.CX P w) P w K mg base [] "_law_signs" (defScope s__law_signs) (ga K "_law_signs") cdv A outer s H E) (fun cls d _ H' => E cls d H') := takes_of rfl rfl rfl rfl
    exact (XS.one (gRet (Γ' := []) (ks_of rfl rfl) (xe_str [97, 98, 99, 100, 101, 102, 103, 104, 105, 106, 107, 108, 109, 110, 111, 112, 113, 114, 115, 116, 117, 118, 119, 120, 121, 122] rfl)))
theorem sc__law_some_value : FnScope ["draw", "deep", "choice", "k"] ["draw", "deep"] (defScope s__law_some_value) := ⟨rfl, rfl, rfl, by decide +kernel, rfl, by decide +kernel, by decide +kernel⟩
theorem bN__law_some_value (Y : Fx P w K mg base) : Binds K Y.d__law_some_value ["draw", "deep"] [] := Y.D__law_some_value.bindsN fun _ _ _ _ _ _ us hl => match us, hl with | [_, _], _ => rfl
theorem ok__law_some_value (Y : Fx P w K mg base) : ∀ n : Nat, FnOk P w K mg base (L2.CX P w) (5 + n) (ga K "_law_some_value") Y.d__law_some_value ["draw", "deep"] (spG (TT K) ([.ab Draw, .fz] : List (Kd (TT K))) (f__law_some_value n))
  | 0 => ok_no rfl
  | n + 1 => by
    have ih := ok__law_some_value Y n
    refine ok_defN (k := 5 + n) (sig := ([.ab Draw, .fz] : List (Kd (TT K)))) ["draw", "deep", "choice", "k"] ["draw", "deep"] 4 [0] [.ab Draw, .fz, .fz, .fz] (m__law_some_value (f__law_some_value n)) Y.D__law_some_value sc__law_some_value rfl rfl rfl rfl fun cdv A outer s H E hr => ?_
    have tk : Takes (cxOf (L2.CX P w) P w K mg base ["draw", "deep", "choice", "k"] "_law_some_value" (defScope s__law_some_value) (ga K "_law_some_value") cdv A outer s H E) (fun cls d _ H' => E cls d H') := takes_of rfl rfl rfl rfl
    exact (xb_cons (gSet 2 sc__law_some_value.nd rfl rfl rfl (.inl (leB rfl)) rfl (xe_callIO (by decide) (.io rfl rfl (.v .nil)) tk (ok__law_take Y) (hr.mono (by omega)) rfl Y.g__law_take Y.D__law_take.kp (bN__law_take Y) (gIo 0 rfl rfl (xm_v xe_int xm_nil rfl) rfl) rfl rfl rfl)) (xb_cons (xs_if (Γ' := [.ab Draw, .fz, .fz, .fz]) (xt_cmp (op_eqD hr.units) ok_eq (nomark _) (gv 2 rfl rfl rfl) xe_int) (XS.one (gRet (Γ' := [.ab Draw, .fz, .fz, .fz]) (ks_of rfl rfl) xe_non)) xb_nil) (xb_cons (xs_if (Γ' := [.ab Draw, .fz, .fz, .fz]) (XW.xt (xw_or (xt_cmp (op_eqD hr.units) ok_eq (nomark _) (gv 2 rfl rfl rfl) xe_int) (xw_or1 (XW.xt (xw_and (xt_cmp (op_eqD hr.units) ok_eq (nomark _) (gv 1 rfl rfl rfl) xe_int) (xw_and1 (xt_cmp op_gt ok_gt (nomark _) (gv 2 rfl rfl rfl) xe_int))))))) (XS.one (gRet (Γ' := [.ab Draw, .fz, .fz, .fz]) (ks_of rfl rfl) (xe_callIO (by decide) (.io rfl rfl (.v .nil)) tk (ok__law_take Y) (hr.mono (by omega)) rfl Y.g__law_take Y.D__law_take.kp (bN__law_take Y) (gIo 0 rfl rfl (xm_v (xe_callIO (by decide) (.io rfl rfl (.v .nil)) tk (ok__law_pick Y) (hr.mono (by omega)) rfl Y.g__law_pick Y.D__law_pick.kp (bN__law_pick Y) (gIo 0 rfl rfl (xm_v (xe_lst (xa_cons xe_int (xa_cons xe_int (xa_cons xe_int (xa_cons (xe_op op_pow ok_pow xe_int xe_int) (xa_cons (xe_op op_pow ok_pow xe_int xe_int) xa_nil rfl) rfl) rfl) rfl) rfl)) xm_nil rfl) rfl) rfl rfl rfl) xm_nil rfl) rfl) rfl rfl rfl))) xb_nil) (xb_cons (xs_if (Γ' := [.ab Draw, .fz, .fz, .fz]) (xt_cmp (op_eqD hr.units) ok_eq (nomark _) (gv 2 rfl rfl rfl) xe_int) (XS.one (gRet (Γ' := [.ab Draw, .fz, .fz, .fz]) (ks_of rfl rfl) (xe_join rfl rfl (xe_lc (own := [("k", 3)]) (is := [3]) (f := dNm) rfl sc__law_some_value.nd (xi_r1 rfl Y.n_range (xe_callIO (by decide) (.io rfl rfl (.v .nil)) tk (ok__law_pick Y) (hr.mono (by omega)) rfl Y.g__law_pick Y.D__law_pick.kp (bN__law_pick Y) (gIo 0 rfl rfl (xm_v (xe_lst (xa_cons xe_int (xa_cons xe_int (xa_cons xe_int (xa_cons xe_int (xa_cons xe_int xa_nil rfl) rfl) rfl) rfl) rfl)) xm_nil rfl) rfl) rfl rfl rfl) rfl) (blkOk_by rfl) ⟨fun _ _ _ _ _ => (gNameB 3 sc__law_some_value.nd rfl rfl rfl), fun _ _ _ _ _ => xts_nil, fun _ _ _ _ _ => (xe_callIO (by decide) (.io rfl rfl (.v .nil)) takes0 (ok__law_pick Y) (hr.mono (by omega)) rfl Y.g__law_pick Y.D__law_pick.kp (bN__law_pick Y) (gIo 0 rfl rfl (xm_v (xe_call0 takes0 (ok__law_signs Y) (hr.mono (by omega)) rfl Y.g__law_signs Y.D__law_signs.kp (bN__law_signs Y) rfl) xm_nil rfl) rfl) rfl rfl rfl)⟩ (fun _ _ h => by cases h; rfl) (by decide) (by simp) (by intro _; rfl)) rfl rfl rfl))) xb_nil) (XS.one (gRet (Γ' := [.ab Draw, .fz, .fz, .fz]) (ks_of rfl rfl) (xe_Ty call_tuple_of ck_tuple rfl Y.n_tuple boot_tuple (xa_cons (xe_lc (own := [("k", 3)]) (is := [3]) (f := dNm) rfl sc__law_some_value.nd (xi_r1 rfl Y.n_range (xe_callIO (by decide) (.io rfl rfl (.v .nil)) tk (ok__law_take Y) (hr.mono (by omega)) rfl Y.g__law_take Y.D__law_take.kp (bN__law_take Y) (gIo 0 rfl rfl (xm_v xe_int xm_nil rfl) rfl) rfl rfl rfl) rfl) (blkOk_by rfl) ⟨fun _ _ _ _ _ => (gNameB 3 sc__law_some_value.nd rfl rfl rfl), fun _ _ _ _ _ => xts_nil, fun _ _ _ _ _ => (xe_callIO (by decide) (.io rfl rfl (.v .nil)) takes0 ih (hr.mono (by omega)) rfl Y.g__law_some_value Y.D__law_some_value.kp (bN__law_some_value Y) (gIo 0 rfl rfl (xm_v (xe_op op_sub ok_sub (gv 1 rfl rfl rfl) xe_int) xm_nil rfl) rfl) rfl rfl rfl)⟩ (fun _ _ h => by cases h; rfl) (by decide) (by simp) (by intro _; rfl)) xa_nil rfl) (by decide) rfl rfl rfl)))))))
theorem sc__law_record : FnScope ["body", "many", "one", "other", "k", "item", "head"] ["body"] (defScope s__law_record) := ⟨rfl, rfl, rfl, by decide +kernel, rfl, by decide +kernel, by decide +kernel⟩
theorem bN__law_record (Y : Fx P w K mg base) : Binds K Y.d__law_record ["body"] [] := Y.D__law_record.bindsN fun _ _ _ _ _ _ us hl => match us, hl with | [_], _ => rfl
theorem ok__law_record (Y : Fx P w K mg base) : FnOk P w K mg base (L2.CX P w) 3 (ga K "_law_record") Y.d__law_record ["body"] (spG (TT K) ([.fz] : List (Kd (TT K))) f__law_record) := by
    refine ok_defN (k := 2) (sig := ([.fz] : List (Kd (TT K)))) ["body", "many", "one", "other", "k", "item", "head"] ["body"] 7 [] [.fz, .fz, .fz, .fz, .fz, .fz, .fz] m__law_record Y.D__law_record sc__law_record rfl rfl rfl rfl fun cdv A outer s H E hr => ?_
    have tk : Takes (cxOf (L2.CX P w) P w K mg base ["body", "many", "one", "other", "k", "item", "head"] "_law_record" (defScope s__law_record) (ga K "_law_record") cdv A outer s H E) (fun cls d _ H' => E cls d H') := takes_of rfl rfl rfl rfl
    exact (xb_cons (xs_par3 (i := 1) (j := 2) (k := 3) rfl sc__law_record.nd rfl rfl rfl (by decide) (by decide) (by decide) (allF_cons rfl (allF_cons rfl (allF_cons rfl allF_nil))) rfl rfl rfl (xa_cons (xe_B call_len (ck_len rfl) rfl Y.n_len boot_len (xa_cons (gv 0 rfl rfl rfl) xa_nil rfl) (by decide) rfl rfl rfl) (xa_cons xe_int (xa_cons xe_int xa_nil rfl) rfl) rfl) rfl rfl) (xb_cons (xs_for (is := [4, 5]) (passes_of rfl) rfl (allF_cons rfl (allF_cons rfl allF_nil)) (xi_enum rfl rfl Y.n_enumerate (gv 0 rfl rfl rfl) rfl) (xg_tup rfl rfl (xgs_cons (gName 4 sc__law_record.nd rfl rfl rfl) (xgs_cons (gName 5 sc__law_record.nd rfl rfl rfl) xgs_nil rfl) rfl) rfl rfl rfl) (XS.one (xs_par (i := 2) (j := 3) rfl sc__law_record.nd rfl rfl (by decide) (allF_cons rfl (allF_cons rfl allF_nil)) rfl rfl (xa_cons (xe_op op_mod ok_mod (xe_op op_addA ok_add (gv 2 rfl rfl rfl) (gv 5 rfl rfl rfl)) xe_int) (xa_cons (xe_op op_mod ok_mod (xe_op op_addA ok_add (gv 3 rfl rfl rfl) (xe_op op_mul ok_mulI (xe_op op_addA ok_add (gv 4 rfl rfl rfl) xe_int) (gv 5 rfl rfl rfl))) xe_int) xa_nil rfl) rfl) rfl rfl)) (by intro _; rfl)) (xb_cons (gSet 6 sc__law_record.nd rfl rfl rfl (.inl (leB rfl)) rfl (xe_lst (xa_cons xe_int (xa_cons (xe_op op_fdivW ok_divW (gv 1 rfl rfl rfl) xe_int) (xa_cons (xe_op op_mod ok_mod (xe_op op_fdivW ok_divW (gv 1 rfl rfl rfl) xe_int) xe_int) (xa_cons (xe_op op_mod ok_mod (gv 1 rfl rfl rfl) xe_int) xa_nil rfl) rfl) rfl) rfl))) (XS.one (gRet (Γ' := [.fz, .fz, .fz, .fz, .fz, .fz, .fz]) (ks_of rfl rfl) (xe_op op_addA ok_add (xe_op op_addA ok_add (xe_op op_addA ok_add (gv 6 rfl rfl rfl) (xe_lc (own := [("item", 5)]) (is := [5]) (f := dNm) rfl sc__law_record.nd (xi_any rfl (gv 6 rfl rfl rfl)) (blkOk_by rfl) ⟨fun _ _ _ _ _ => (gNameB 5 sc__law_record.nd rfl rfl rfl), fun _ _ _ _ _ => xts_nil, fun _ _ _ _ _ => (xe_op op_sub ok_sub xe_int (gv 5 rfl rfl rfl))⟩ (fun _ _ h => by cases h; rfl) (by decide) (by simp) (by intro _; rfl))) (gv 0 rfl rfl rfl)) (xe_lst (xa_cons (xe_op op_fdivW ok_divW (gv 2 rfl rfl rfl) xe_int) (xa_cons (xe_op op_mod ok_mod (gv 2 rfl rfl rfl) xe_int) (xa_cons (xe_op op_fdivW ok_divW (gv 3 rfl rfl rfl) xe_int) (xa_cons (xe_op op_mod ok_mod (gv 3 rfl rfl rfl) xe_int) xa_nil rfl) rfl) rfl) rfl))))))))
theorem sc__law_same : FnScope ["told", "due", "length"] ["told", "due", "length"] (defScope s__law_same) := ⟨rfl, rfl, rfl, by decide +kernel, rfl, by decide +kernel, by decide +kernel⟩
theorem bN__law_same (Y : Fx P w K mg base) : Binds K Y.d__law_same ["told", "due", "length"] [] := Y.D__law_same.bindsN fun _ _ _ _ _ _ us hl => match us, hl with | [_, _, _], _ => rfl
theorem ok__law_same (Y : Fx P w K mg base) : FnOk P w K mg base (L2.CX P w) 3 (ga K "_law_same") Y.d__law_same ["told", "due", "length"] (spG (TT K) ([.fz, .fz, .fz] : List (Kd (TT K))) f__law_same) := by
    refine ok_defN (k := 2) (sig := ([.fz, .fz, .fz] : List (Kd (TT K)))) ["told", "due", "length"] ["told", "due", "length"] 3 [] [.fz, .fz, .fz] m__law_same Y.D__law_same sc__law_same rfl rfl rfl rfl fun cdv A outer s H E hr => ?_
    have tk : Takes (cxOf (L2.CX P w) P w K mg base ["told", "due", "length"] "_law_same" (defScope s__law_same) (ga K "_law_same") cdv A outer s H E) (fun cls d _ H' => E cls d H') := takes_of rfl rfl rfl rfl
    exact (XS.one (gRet (Γ' := [.fz, .fz, .fz]) (ks_of rfl rfl) (xe_and (xe_isT (c := "tuple") (by decide) rfl rfl Y.n_isinstance rfl Y.n_tuple boot_tuple (by decide) rfl (gv 0 rfl rfl rfl) rfl rfl rfl) (xe_and (xe_cmp (op_eqD hr.units) ok_eq (nomark _) (xe_B call_len (ck_len rfl) rfl Y.n_len boot_len (xa_cons (gv 0 rfl rfl rfl) xa_nil rfl) (by decide) rfl rfl rfl) xe_int) (xe_and (xe_cmp (op_eqD hr.units) ok_eq (nomark _) (xe_ix rfl (fun _ _ => rfl) (gv 0 rfl rfl rfl) xe_int) (gv 1 rfl rfl rfl)) (xe_one (xe_cmp (op_eqD hr.units) ok_eq (nomark _) (xe_ix rfl (fun _ _ => rfl) (gv 0 rfl rfl rfl) xe_int) (gv 2 rfl rfl rfl))))))))
theorem sc__law_log_right : FnScope ["draw", "values_here", "parts_here", "item", "whole", "ends_here", "part", "k", "cut", "kept_here", "spot", "one", "other", "bent"] ["draw", "values_here"] (defScope s__law_log_right) := ⟨rfl, rfl, rfl, by decide +kernel, rfl, by decide +kernel, by decide +kernel⟩
theorem bN__law_log_right (Y : Fx P w K mg base) : Binds K Y.d__law_log_right ["draw", "values_here"] [] := Y.D__law_log_right.bindsN fun _ _ _ _ _ _ us hl => match us, hl with | [_, _], _ => rfl
theorem ok__law_log_right (Y : Fx P w K mg base) : FnOk P w K mg base (L2.CX P w) 21 (ga K "_law_log_right") Y.d__law_log_right ["draw", "values_here"] (spG (TT K) ([.ab Draw, .fz] : List (Kd (TT K))) f__law_log_right) := by
    refine ok_defN (k := 20) (sig := ([.ab Draw, .fz] : List (Kd (TT K)))) ["draw", "values_here", "parts_here", "item", "whole", "ends_here", "part", "k", "cut", "kept_here", "spot", "one", "other", "bent"] ["draw", "values_here"] 14 [0] [.ab Draw, .fz, .fz, .fz, .fz, .fz, .fz, .fz, .fz, .fz, .fz, .fz, .fz, .fz] m__law_log_right Y.D__law_log_right sc__law_log_right rfl rfl rfl rfl fun cdv A outer s H E hr => ?_
    have tk : Takes (cxOf (L2.CX P w) P w K mg base ["draw", "values_here", "parts_here", "item", "whole", "ends_here", "part", "k", "cut", "kept_here", "spot", "one", "other", "bent"] "_law_log_right" (defScope s__law_log_right) (ga K "_law_log_right") cdv A outer s H E) (fun cls d _ H' => E cls d H') := takes_of rfl rfl rfl rfl
    exact (xb_cons (xs_lc (own := [("item", 3)]) (is := [3]) (f := dNm) rfl sc__law_log_right.nd (i := 2) rfl rfl (.inl (leB rfl)) (sw_true rfl rfl rfl rfl) (xi_any rfl (gv 1 rfl rfl rfl)) (blkOk_by rfl) ⟨fun _ _ _ _ _ => (gNameB 3 sc__law_log_right.nd rfl rfl rfl), fun _ _ _ _ _ => xts_nil, fun _ _ _ _ _ => (xe_call takes0 (ok__law_record Y) (hr.mono (by decide)) rfl Y.g__law_record Y.D__law_record.kp (bN__law_record Y) (xa_cons (xe_call takes0 (ok_value_bytes Y) (hr.mono (by decide)) rfl Y.g_value_bytes Y.D_value_bytes.kp (bN_value_bytes Y) (xa_cons (gv 3 rfl rfl rfl) xa_nil rfl) rfl rfl rfl) xa_nil rfl) rfl rfl rfl)⟩ (fun _ _ h => by cases h; rfl) (by decide) (by simp) (by intro _; rfl)) (xb_cons (xs_parO rfl sc__law_log_right.nd (i := 4) (j := 5) rfl rfl (by decide) rfl (leB rfl) (ltB rfl) rfl rfl (xe_lst xa_nil) xa_nil rfl rfl rfl rfl) (xb_cons (xs_for (is := [6, 3]) (passes_of rfl) rfl (allF_cons rfl (allF_cons rfl allF_nil)) (xi_zip rfl rfl Y.n_zip (gv 2 rfl rfl rfl) (gv 1 rfl rfl rfl) rfl rfl rfl) (xg_tup rfl rfl (xgs_cons (gName 6 sc__law_log_right.nd rfl rfl rfl) (xgs_cons (gName 3 sc__law_log_right.nd rfl rfl rfl) xgs_nil rfl) rfl) rfl rfl rfl) (xb_cons (xs_if (Γ' := [.ab Draw, .fz, .fz, .fz, .fz, .own, .fz, .fz, .fz, .fz, .fz, .fz, .fz, .fz]) (XW.xt (xw_or (xt_cmp (op_neD hr.units) ok_ne (nomark _) (xe_call tk (ok_record Y) (hr.mono (by decide)) rfl Y.g_record Y.D_record.kp (bN_record Y) (xa_cons (gv 3 rfl rfl rfl) xa_nil rfl) rfl rfl rfl) (gv 6 rfl rfl rfl)) (xw_or1 (xt_cmp (op_neD hr.units) ok_ne (nomark _) (xe_callKw tk (ok_record Y) (hr.mono (by decide)) rfl Y.g_record Y.D_record.kp (kN_record Y) (xk_cons (gv 3 rfl rfl rfl) xk_nil) rfl rfl rfl rfl) (gv 6 rfl rfl rfl))))) (XS.one (gRet (Γ' := [.ab Draw, .fz, .fz, .fz, .fz, .own, .fz, .fz, .fz, .fz, .fz, .fz, .fz, .fz]) (ks_of rfl rfl) xe_bl)) xb_nil) (xb_cons (gSet 4 sc__law_log_right.nd rfl rfl rfl (.inl (leB rfl)) rfl (xe_op op_addA ok_add (gv 4 rfl rfl rfl) (gv 6 rfl rfl rfl))) (XS.one (gApp 5 rfl rfl rfl rfl rfl rfl rfl rfl rfl (xe_B call_len (ck_len rfl) rfl Y.n_len boot_len (xa_cons (gv 4 rfl rfl rfl) xa_nil rfl) (by decide) rfl rfl rfl))))) (by intro _; rfl)) (xb_cons (xs_if (Γ' := [.ab Draw, .fz, .fz, .fz, .fz, .own, .fz, .fz, .fz, .fz, .fz, .fz, .fz, .fz]) (XW.xt (xw_or (xt_cmp (op_neD hr.units) ok_ne (nomark _) (xe_call tk (ok_log_of Y) (hr.mono (by decide)) rfl Y.g_log_of Y.D_log_of.kp (bN_log_of Y) (xa_cons (gv 1 rfl rfl rfl) xa_nil rfl) rfl rfl rfl) (gv 4 rfl rfl rfl)) (xw_or (xt_cmp (op_neD hr.units) ok_ne (nomark _) (xe_callKw tk (ok_log_of Y) (hr.mono (by decide)) rfl Y.g_log_of Y.D_log_of.kp (kN_log_of Y) (xk_cons (xe_Ty call_tuple_of ck_tuple rfl Y.n_tuple boot_tuple (xa_cons (gv 1 rfl rfl rfl) xa_nil rfl) (by decide) rfl rfl rfl) xk_nil) rfl rfl rfl rfl) (gv 4 rfl rfl rfl)) (xw_or1 (xt_not (xt_val (xe_call tk (ok__law_same Y) (hr.mono (by decide)) rfl Y.g__law_same Y.D__law_same.kp (bN__law_same Y) (xa_cons (xe_callKw tk (ok_read_log Y) (hr.mono (by decide)) rfl Y.g_read_log Y.D_read_log.kp (kN_read_log Y) (xk_cons (gv 4 rfl rfl rfl) xk_nil) rfl rfl rfl rfl) (xa_cons (gv 1 rfl rfl rfl) (xa_cons (xe_B call_len (ck_len rfl) rfl Y.n_len boot_len (xa_cons (gv 4 rfl rfl rfl) xa_nil rfl) (by decide) rfl rfl rfl) xa_nil rfl) rfl) rfl) rfl rfl rfl) (fun _ => rfl))))))) (XS.one (gRet (Γ' := [.ab Draw, .fz, .fz, .fz, .fz, .own, .fz, .fz, .fz, .fz, .fz, .fz, .fz, .fz]) (ks_of rfl rfl) xe_bl)) xb_nil) (xb_cons (xs_freeL 5 (leB rfl) rfl (xs_for (is := [7]) (passes_of rfl) rfl (allF_cons rfl allF_nil) (xi_r1 rfl Y.n_range xe_int rfl) (gName 7 sc__law_log_right.nd rfl rfl rfl) (xb_cons (gSet 8 sc__law_log_right.nd rfl rfl rfl (.inl (leB rfl)) rfl (xe_if (xt_cmp op_gt ok_gt (nomark _) (gv 7 rfl rfl rfl) xe_int) (xe_callIO (by decide) (.io rfl rfl (.v .nil)) tk (ok__law_take Y) (hr.mono (by decide)) rfl Y.g__law_take Y.D__law_take.kp (bN__law_take Y) (gIo 0 rfl rfl (xm_v (xe_op op_addA ok_add (xe_B call_len (ck_len rfl) rfl Y.n_len boot_len (xa_cons (gv 4 rfl rfl rfl) xa_nil rfl) (by decide) rfl rfl rfl) xe_int) xm_nil rfl) rfl) rfl rfl rfl) (xe_B call_len (ck_len rfl) rfl Y.n_len boot_len (xa_cons (gv 4 rfl rfl rfl) xa_nil rfl) (by decide) rfl rfl rfl))) (xb_cons (gSet 9 sc__law_log_right.nd rfl rfl rfl (.inl (leB rfl)) rfl (xe_B call_len (ck_len rfl) rfl Y.n_len boot_len (xa_cons (xe_lc (own := [("spot", 10)]) (is := [10]) (f := dNm) rfl sc__law_log_right.nd (xi_any rfl (gv 5 rfl rfl rfl)) (blkOk_by rfl) ⟨fun _ _ _ _ _ => (gNameB 10 sc__law_log_right.nd rfl rfl rfl), fun _ _ _ _ _ => (xts_one (xt_cmp op_le ok_le (nomark _) (gv 10 rfl rfl rfl) (gv 8 rfl rfl rfl))), fun _ _ _ _ _ => (gv 10 rfl rfl rfl)⟩ (fun _ _ h => by cases h; rfl) (by decide) (by simp) (by intro _; rfl)) xa_nil rfl) (by decide) rfl rfl rfl)) (xb_cons (xs_if (Γ' := [.ab Draw, .fz, .fz, .fz, .fz, .fz, .fz, .fz, .fz, .fz, .fz, .fz, .fz, .fz]) (xt_not (xt_val (xe_call tk (ok__law_same Y) (hr.mono (by decide)) rfl Y.g__law_same Y.D__law_same.kp (bN__law_same Y) (xa_cons (xe_call tk (ok_read_log Y) (hr.mono (by decide)) rfl Y.g_read_log Y.D_read_log.kp (bN_read_log Y) (xa_cons (xe_Ty call_tuple_of ck_tuple rfl Y.n_tuple boot_tuple (xa_cons (xe_sl rfl (gv 4 rfl rfl rfl) xo_none (xo_some (gv 8 rfl rfl rfl))) xa_nil rfl) (by decide) rfl rfl rfl) xa_nil rfl) rfl rfl rfl) (xa_cons (xe_sl rfl (gv 1 rfl rfl rfl) xo_none (xo_some (gv 9 rfl rfl rfl))) (xa_cons (xe_ix rfl (fun _ _ => rfl) (xe_op op_addA ok_add (xe_lst (xa_cons xe_int xa_nil rfl)) (gv 5 rfl rfl rfl)) (gv 9 rfl rfl rfl)) xa_nil rfl) rfl) rfl) rfl rfl rfl) (fun _ => rfl))) (XS.one (gRet (Γ' := [.ab Draw, .fz, .fz, .fz, .fz, .fz, .fz, .fz, .fz, .fz, .fz, .fz, .fz, .fz]) (ks_of rfl rfl) xe_bl)) xb_nil) (XS.one (xs_if (Γ' := [.ab Draw, .fz, .fz, .fz, .fz, .fz, .fz, .fz, .fz, .fz, .fz, .fz, .fz, .fz]) (xt_cmp op_lt ok_lt (nomark _) (gv 8 rfl rfl rfl) (xe_B call_len (ck_len rfl) rfl Y.n_len boot_len (xa_cons (gv 4 rfl rfl rfl) xa_nil rfl) (by decide) rfl rfl rfl)) (xb_cons (gSet 3 sc__law_log_right.nd rfl rfl rfl (.inl (leB rfl)) rfl (xe_op op_mod ok_mod (xe_op op_addA ok_add (xe_op op_addA ok_add (xe_ix rfl (fun _ _ => rfl) (gv 4 rfl rfl rfl) (gv 8 rfl rfl rfl)) xe_int) (xe_callIO (by decide) (.io rfl rfl (.v .nil)) tk (ok__law_take Y) (hr.mono (by decide)) rfl Y.g__law_take Y.D__law_take.kp (bN__law_take Y) (gIo 0 rfl rfl (xm_v xe_int xm_nil rfl) rfl) rfl rfl rfl)) xe_int)) (XS.one (xs_if (Γ' := [.ab Draw, .fz, .fz, .fz, .fz, .fz, .fz, .fz, .fz, .fz, .fz, .fz, .fz, .fz]) (xt_not (xt_val (xe_call tk (ok__law_same Y) (hr.mono (by decide)) rfl Y.g__law_same Y.D__law_same.kp (bN__law_same Y) (xa_cons (xe_call tk (ok_read_log Y) (hr.mono (by decide)) rfl Y.g_read_log Y.D_read_log.kp (bN_read_log Y) (xa_cons (xe_op op_addA ok_add (xe_op op_addA ok_add (xe_sl rfl (gv 4 rfl rfl rfl) xo_none (xo_some (gv 8 rfl rfl rfl))) (xe_lst (xa_cons (gv 3 rfl rfl rfl) xa_nil rfl))) (xe_sl rfl (gv 4 rfl rfl rfl) (xo_some (xe_op op_addA ok_add (gv 8 rfl rfl rfl) xe_int)) xo_none)) xa_nil rfl) rfl rfl rfl) (xa_cons (xe_sl rfl (gv 1 rfl rfl rfl) xo_none (xo_some (gv 9 rfl rfl rfl))) (xa_cons (xe_ix rfl (fun _ _ => rfl) (xe_op op_addA ok_add (xe_lst (xa_cons xe_int xa_nil rfl)) (gv 5 rfl rfl rfl)) (gv 9 rfl rfl rfl)) xa_nil rfl) rfl) rfl) rfl rfl rfl) (fun _ => rfl))) (XS.one (gRet (Γ' := [.ab Draw, .fz, .fz, .fz, .fz, .fz, .fz, .fz, .fz, .fz, .fz, .fz, .fz, .fz]) (ks_of rfl rfl) xe_bl)) xb_nil))) xb_nil))))) (by intro _; rfl))) (xb_cons (xs_if (Γ' := [.ab Draw, .fz, .fz, .fz, .fz, .fz, .fz, .fz, .fz, .fz, .fz, .fz, .fz, .fz]) (XW.xt (xw_or (xt_cmp (op_neD hr.units) ok_ne (nomark _) (xe_call tk (ok_read_log Y) (hr.mono (by decide)) rfl Y.g_read_log Y.D_read_log.kp (bN_read_log Y) (xa_cons (xe_op op_addA ok_add (gv 4 rfl rfl rfl) (xe_op op_rep ok_mulL (xe_lst (xa_cons xe_int xa_nil rfl)) xe_int)) xa_nil rfl) rfl rfl rfl) (xe_tup (xa_cons (gv 1 rfl rfl rfl) (xa_cons (xe_B call_len (ck_len rfl) rfl Y.n_len boot_len (xa_cons (gv 4 rfl rfl rfl) xa_nil rfl) (by decide) rfl rfl rfl) xa_nil rfl) rfl))) (xw_or1 (xt_cmp (op_neD hr.units) ok_ne (nomark _) (xe_call tk (ok_read_log Y) (hr.mono (by decide)) rfl Y.g_read_log Y.D_read_log.kp (bN_read_log Y) (xa_cons (xe_lst xa_nil) xa_nil rfl) rfl rfl rfl) (xe_tup (xa_cons (xe_lst xa_nil) (xa_cons xe_int xa_nil rfl) rfl)))))) (XS.one (gRet (Γ' := [.ab Draw, .fz, .fz, .fz, .fz, .fz, .fz, .fz, .fz, .fz, .fz, .fz, .fz, .fz]) (ks_of rfl rfl) xe_bl)) xb_nil) (xb_cons (xs_for (is := [6]) (passes_of rfl) rfl (allF_cons rfl allF_nil) (xi_any rfl (gv 2 rfl rfl rfl)) (gName 6 sc__law_log_right.nd rfl rfl rfl) (xb_cons (xs_par (i := 11) (j := 12) rfl sc__law_log_right.nd rfl rfl (by decide) (allF_cons rfl (allF_cons rfl allF_nil)) rfl rfl (xa_cons (xe_op op_addA ok_add xe_int (xe_callIO (by decide) (.io rfl rfl (.v .nil)) tk (ok__law_take Y) (hr.mono (by decide)) rfl Y.g__law_take Y.D__law_take.kp (bN__law_take Y) (gIo 0 rfl rfl (xm_v (xe_op op_sub ok_sub (xe_B call_len (ck_len rfl) rfl Y.n_len boot_len (xa_cons (gv 6 rfl rfl rfl) xa_nil rfl) (by decide) rfl rfl rfl) xe_int) xm_nil rfl) rfl) rfl rfl rfl)) (xa_cons (xe_op op_addA ok_add xe_int (xe_callIO (by decide) (.io rfl rfl (.v .nil)) tk (ok__law_take Y) (hr.mono (by decide)) rfl Y.g__law_take Y.D__law_take.kp (bN__law_take Y) (gIo 0 rfl rfl (xm_v (xe_op op_sub ok_sub (xe_B call_len (ck_len rfl) rfl Y.n_len boot_len (xa_cons (gv 6 rfl rfl rfl) xa_nil rfl) (by decide) rfl rfl rfl) xe_int) xm_nil rfl) rfl) rfl rfl rfl)) xa_nil rfl) rfl) rfl rfl) (xb_cons (gOwnC 13 sc__law_log_right.nd rfl rfl rfl (leB rfl) (ltB rfl) rfl rfl rfl Y.n_list (xa_cons (gv 6 rfl rfl rfl) xa_nil rfl) rfl rfl) (xb_cons (gPut 13 rfl rfl rfl (gv 11 rfl rfl rfl) (xe_op op_mod ok_mod (xe_op op_addA ok_add (xe_op op_addA ok_add (gIxO rfl 13 (fun _ _ => rfl) rfl rfl rfl (gv 11 rfl rfl rfl)) xe_int) (xe_callIO (by decide) (.io rfl rfl (.v .nil)) tk (ok__law_take Y) (hr.mono (by decide)) rfl Y.g__law_take Y.D__law_take.kp (bN__law_take Y) (gIo 0 rfl rfl (xm_v xe_int xm_nil rfl) rfl) rfl rfl rfl)) xe_int) (fun _ => rfl) rfl rfl rfl) (xb_cons (xs_if (Γ' := [.ab Draw, .fz, .fz, .fz, .fz, .fz, .fz, .fz, .fz, .fz, .fz, .fz, .fz, .own]) (xt_cmp (op_neD hr.units) ok_ne (nomark _) (gv 12 rfl rfl rfl) (gv 11 rfl rfl rfl)) (XS.one (gPut 13 rfl rfl rfl (gv 12 rfl rfl rfl) (xe_op op_mod ok_mod (xe_op op_addA ok_add (gIxO rfl 13 (fun _ _ => rfl) rfl rfl rfl (gv 12 rfl rfl rfl)) (xe_if (xt_cmp (op_eqD hr.units) ok_eq (nomark _) (xe_callIO (by decide) (.io rfl rfl (.v .nil)) tk (ok__law_take Y) (hr.mono (by decide)) rfl Y.g__law_take Y.D__law_take.kp (bN__law_take Y) (gIo 0 rfl rfl (xm_v xe_int xm_nil rfl) rfl) rfl rfl rfl) xe_int) (xe_op op_sub ok_sub (xe_ix rfl (fun _ _ => rfl) (gv 6 rfl rfl rfl) (gv 11 rfl rfl rfl)) (gIxO rfl 13 (fun _ _ => rfl) rfl rfl rfl (gv 11 rfl rfl rfl))) (xe_callIO (by decide) (.io rfl rfl (.v .nil)) tk (ok__law_take Y) (hr.mono (by decide)) rfl Y.g__law_take Y.D__law_take.kp (bN__law_take Y) (gIo 0 rfl rfl (xm_v xe_int xm_nil rfl) rfl) rfl rfl rfl))) xe_int) (fun _ => rfl) rfl rfl rfl)) xb_nil) (XS.one (xs_freeL 13 (leB rfl) rfl (xs_if (Γ' := [.ab Draw, .fz, .fz, .fz, .fz, .fz, .fz, .fz, .fz, .fz, .fz, .fz, .fz, .fz]) (xt_cmp (op_neD hr.units) ok_ne (nomark _) (xe_call tk (ok_read_log Y) (hr.mono (by decide)) rfl Y.g_read_log Y.D_read_log.kp (bN_read_log Y) (xa_cons (gv 13 rfl rfl rfl) xa_nil rfl) rfl rfl rfl) (xe_tup (xa_cons (xe_lst xa_nil) (xa_cons xe_int xa_nil rfl) rfl))) (XS.one (gRet (Γ' := [.ab Draw, .fz, .fz, .fz, .fz, .fz, .fz, .fz, .fz, .fz, .fz, .fz, .fz, .fz]) (ks_of rfl rfl) xe_bl)) xb_nil))))))) (by intro _; rfl)) (XS.one (gRet (Γ' := [.ab Draw, .fz, .fz, .fz, .fz, .fz, .fz, .fz, .fz, .fz, .fz, .fz, .fz, .fz]) (ks_of rfl rfl) xe_bl)))))))))
theorem sc_law : FnScope ["script", "%t", "draw", "turn", "values_here", "k", "item", "work", "caught"] ["script"] (defScope s_law) := ⟨rfl, rfl, rfl, by decide +kernel, rfl, by decide +kernel, by decide +kernel⟩
theorem bN_law (Y : Fx P w K mg base) : Binds K Y.d_law ["script"] [] := Y.D_law.bindsN fun _ _ _ _ _ _ us hl => match us, hl with | [_], _ => rfl
theorem ok_law (Y : Fx P w K mg base) : FnOk P w K mg base (L2.CX P w) 23 (ga K "law") Y.d_law ["script"] (spH (TT K) ([.ab Scr] : List (Kd (TT K))) (Tab (tabs K)) f_law) := by
    refine ok_defHC (k := 22) (sig := ([.ab Scr] : List (Kd (TT K)))) (A := Tab (tabs K)) ["script", "%t", "draw", "turn", "values_here", "k", "item", "work", "caught"] ["script"] 9 [0, 1] [.ab Scr, .gh (Tab (tabs K)), .fz, .fz, .fz, .fz, .fz, .fz, .fz] m_law Y.t_law Y.D_law sc_law rfl rfl (by decide) rfl rfl fun A outer s H E hr => ?_
    have tk : Takes (cxOf (L2.CX P w) P w K mg base ["script", "%t", "draw", "turn", "values_here", "k", "item", "work", "caught"] "law" (defScope s_law) (ga K "law") (.ref (cT K ("law", none)).1) A outer s H E) (fun cls d _ H' => E cls d H') := takes_of rfl rfl rfl rfl
    exact (xb_cons (xs_begun 2 0 sc_law.nd rfl rfl rfl (leB rfl) (ltB rfl) rfl rfl rfl tk (ok__law_begun Y) (hr.mono (by decide)) rfl Y.g__law_begun Y.D__law_begun.kp (bN__law_begun Y) rfl rfl rfl rfl) (xb_cons (xs_for (is := [3]) (passes_of rfl) rfl (allF_cons rfl allF_nil) (xi_r1 rfl Y.n_range (xe_op op_addA ok_add xe_int (xe_B (call_min2 rfl) ck_min2 rfl Y.n_min boot_min (xa_cons (gLenScr rfl 0 rfl Y.n_len rfl rfl rfl rfl rfl) (xa_cons xe_int xa_nil rfl) rfl) (by decide) rfl rfl rfl)) rfl) (gName 3 sc_law.nd rfl rfl rfl) (xb_cons (xs_lcOwn (own := [("k", 5)]) (is := [5]) (f := dNm) rfl sc_law.nd (i := 4) rfl rfl (leB rfl) (ltB rfl) (sw_true rfl rfl rfl rfl) (xi_r1 rfl Y.n_range (xe_callIO (by decide) (.io rfl rfl (.v .nil)) tk (ok__law_take Y) (hr.mono (by decide)) rfl Y.g__law_take Y.D__law_take.kp (bN__law_take Y) (gIo 2 rfl rfl (xm_v xe_int xm_nil rfl) rfl) rfl rfl rfl) rfl) (blkOk_by rfl) ⟨fun _ _ _ _ _ => (gNameB 5 sc_law.nd rfl rfl rfl), fun _ _ _ _ _ => xts_nil, fun _ _ _ _ _ => (xe_callIO (by decide) (.io rfl rfl (.v .nil)) takes0 (ok__law_some_value Y 6) (hr.mono (by decide)) rfl Y.g__law_some_value Y.D__law_some_value.kp (bN__law_some_value Y) (gIo 2 rfl rfl (xm_v xe_int xm_nil rfl) rfl) rfl rfl rfl)⟩ (fun _ _ h => by cases h; rfl) (by decide) (by simp) (by intro _; rfl)) (xb_cons (xs_if (Γ' := [.ab Scr, .gh (Tab (tabs K)), .ab Draw, .fz, .own, .fz, .fz, .fz, .fz]) (xt_cmp (op_eqD hr.units) ok_eq (nomark _) (xe_callIO (by decide) (.io rfl rfl (.v .nil)) tk (ok__law_take Y) (hr.mono (by decide)) rfl Y.g__law_take Y.D__law_take.kp (bN__law_take Y) (gIo 2 rfl rfl (xm_v xe_int xm_nil rfl) rfl) rfl rfl rfl) xe_int) (XS.one (gApp 4 rfl rfl rfl rfl rfl rfl rfl rfl rfl (xe_op op_repT1 ok_mulT (xe_Ty call_tuple_of ck_tuple rfl Y.n_tuple boot_tuple (xa_cons (xe_lc (own := [("k", 5)]) (is := [5]) (f := dNm) rfl sc_law.nd (xi_r1 rfl Y.n_range xe_int rfl) (blkOk_by rfl) ⟨fun _ _ _ _ _ => (gNameB 5 sc_law.nd rfl rfl rfl), fun _ _ _ _ _ => xts_nil, fun _ _ _ _ _ => (xe_callIO (by decide) (.io rfl rfl (.v .nil)) takes0 (ok__law_take Y) (hr.mono (by decide)) rfl Y.g__law_take Y.D__law_take.kp (bN__law_take Y) (gIo 2 rfl rfl (xm_v (xe_op op_pow ok_pow xe_int xe_int) xm_nil rfl) rfl) rfl rfl rfl)⟩ (fun _ _ h => by cases h; rfl) (by decide) (by simp) (by intro _; rfl)) xa_nil rfl) (by decide) rfl rfl rfl) (xe_callIO (by decide) (.io rfl rfl (.v .nil)) tk (ok__law_pick Y) (hr.mono (by decide)) rfl Y.g__law_pick Y.D__law_pick.kp (bN__law_pick Y) (gIo 2 rfl rfl (xm_v (xe_lst (xa_cons xe_int (xa_cons xe_int (xa_cons xe_int xa_nil rfl) rfl) rfl)) xm_nil rfl) rfl) rfl rfl rfl)))) xb_nil) (XS.one (xs_freeL 4 (leB rfl) rfl (xs_if (Γ' := [.ab Scr, .gh (Tab (tabs K)), .ab Draw, .fz, .fz, .fz, .fz, .fz, .fz]) (xt_not (xt_val (xe_callIO (by decide) (.io rfl rfl (.v .nil)) tk (ok__law_log_right Y) (hr.mono (by decide)) rfl Y.g__law_log_right Y.D__law_log_right.kp (bN__law_log_right Y) (gIo 2 rfl rfl (xm_v (gv 4 rfl rfl rfl) xm_nil rfl) rfl) rfl rfl rfl) (fun _ => rfl))) (XS.one (gRet (Γ' := [.ab Scr, .gh (Tab (tabs K)), .ab Draw, .fz, .fz, .fz, .fz, .fz, .fz]) (ks_of rfl rfl) xe_bl)) xb_nil))))) (by intro _; rfl)) (xb_cons (xs_for (is := [6]) (passes_of rfl) rfl (allF_cons rfl allF_nil) (xi_any rfl (xe_lst (xa_cons xe_bl (xa_cons (xe_un un_neg ok_neg xe_int) (xa_cons (xe_lst (xa_cons xe_int xa_nil rfl)) (xa_cons xe_dic (xa_cons (xe_str [65] rfl) xa_nil rfl) rfl) rfl) rfl) rfl))) (gName 6 sc_law.nd rfl rfl rfl) (XS.one (xs_forL (x := "_law_caught") (w := 7) (gh := 1) (k := 18) (tb := tabs K) (cs := ["GroupError", "BadValue", "BadBytes"]) (c := (cT K ("law", none)).1) (P := (cT K ("law", none)).2) [⟨_, _, _, _⟩, ⟨_, _, _, _⟩] [(sIf (uNot (uB (e1 (pIsC ["GroupError", "BadValue", "BadBytes"] ["BadValue"]) (eCaughtW ["GroupError", "BadValue", "BadBytes"] 1 7 (eCall 1 f_record (lCons (eV 6) lNil)))))) (sRet (eC (.bl false))) sSkip), (sIf (uNot (uB (e1 (pIsC ["GroupError", "BadValue", "BadBytes"] ["BadValue"]) (eCaughtW ["GroupError", "BadValue", "BadBytes"] 1 7 (eCall 1 f_log_of (lCons (eLst (lCons (eC (.int 0)) (lCons (eV 6) lNil))) lNil)))))) (sRet (eC (.bl false))) sSkip)] rfl (passes_of rfl) rfl rfl sc_law.nd rfl rfl rfl (leB rfl) rfl rfl (by decide) (by simp) Y.tb_law rfl (tm_law K) Y.hu_law (List.forall_mem_cons.mpr ⟨⟨LamX.lamS_by rfl, rfl⟩, (List.forall_mem_cons.mpr ⟨⟨LamX.lamS_by rfl, rfl⟩, (fun _ h => by cases h)⟩)⟩) (List.forall_mem_cons.mpr ⟨(caughtR_of Y.D__law_caught (bN__law_caught Y) sc__law_caught (.inl rfl) rfl rfl rfl Y.h_root rfl rfl rfl rfl rfl (fun _ => rfl) (fun _ => rfl) (fun _ => rfl) rfl Y.g__law_caught rfl rfl (fun _ => rfl) (hr.mono (by decide)) (LamX.lamS_by rfl) (fun _ _ _ _ _ => rfl) Y.h_caught rfl rfl rfl), (List.forall_mem_cons.mpr ⟨(caughtR_of Y.D__law_caught (bN__law_caught Y) sc__law_caught (.inl rfl) rfl rfl rfl Y.h_root rfl rfl rfl rfl rfl (fun _ => rfl) (fun _ => rfl) (fun _ => rfl) rfl Y.g__law_caught rfl rfl (fun _ => rfl) (hr.mono (by decide)) (LamX.lamS_by rfl) (fun _ _ _ _ _ => rfl) Y.h_caught rfl rfl rfl), (fun _ h => by cases h)⟩)⟩) ⟨(fun A0 cr0 => (XS.one (xs_if (Γ' := [.ab Scr, .gh (Tab (tabs K)), .ab Draw, .fz, .fz, .fz, .fz, .ab A0, .fz]) (xt_not (xt_val (xe_isC rfl ["GroupError", "BadValue", "BadBytes"] ["BadValue"] rfl Y.n_isinstance rfl Y.i_BadValue rfl Y.isE_BadValue Y.isN_BadValue (cr0 _ _ _ _ _ _ rfl rfl (fun A' outer s H E f c' hr => xe_lam fun tk => (xe_call tk (ok_record Y) (hr.mono (by decide)) rfl Y.g_record Y.D_record.kp (bN_record Y) (xa_cons (gv 6 rfl rfl rfl) xa_nil rfl) rfl rfl rfl))) rfl rfl rfl) (fun _ => rfl))) (XS.one (gRet (Γ' := [.ab Scr, .gh (Tab (tabs K)), .ab Draw, .fz, .fz, .fz, .fz, .ab A0, .fz]) (ks_of rfl rfl) xe_bl)) xb_nil))), ⟨(fun A1 cr1 => (XS.one (xs_if (Γ' := [.ab Scr, .gh (Tab (tabs K)), .ab Draw, .fz, .fz, .fz, .fz, .ab A1, .fz]) (xt_not (xt_val (xe_isC rfl ["GroupError", "BadValue", "BadBytes"] ["BadValue"] rfl Y.n_isinstance rfl Y.i_BadValue rfl Y.isE_BadValue Y.isN_BadValue (cr1 _ _ _ _ _ _ rfl rfl (fun A' outer s H E f c' hr => xe_lam fun tk => (xe_call tk (ok_log_of Y) (hr.mono (by decide)) rfl Y.g_log_of Y.D_log_of.kp (bN_log_of Y) (xa_cons (xe_lst (xa_cons xe_int (xa_cons (gv 6 rfl rfl rfl) xa_nil rfl) rfl)) xa_nil rfl) rfl rfl rfl))) rfl rfl rfl) (fun _ => rfl))) (XS.one (gRet (Γ' := [.ab Scr, .gh (Tab (tabs K)), .ab Draw, .fz, .fz, .fz, .fz, .ab A1, .fz]) (ks_of rfl rfl) xe_bl)) xb_nil))), trivial⟩⟩)) (by intro _; rfl)) (xb_cons (xs_if (Γ' := [.ab Scr, .gh (Tab (tabs K)), .ab Draw, .fz, .fz, .fz, .fz, .fz, .fz]) (XW.xt (xw_or (xt_cmp (op_neD hr.units) ok_ne (nomark _) (xe_call tk (ok_log_of Y) (hr.mono (by decide)) rfl Y.g_log_of Y.D_log_of.kp (bN_log_of Y) (xa_cons (xe_lst xa_nil) xa_nil rfl) rfl rfl rfl) (xe_lst xa_nil)) (xw_or1 (xt_not (xt_val (xe_B (cr_all rfl) ck_all rfl Y.n_all boot_all (xa_cons (xe_lc (own := [("item", 6)]) (is := [6]) (f := dNm) rfl sc_law.nd (xi_any rfl (xe_lst (xa_cons xe_non (xa_cons xe_int (xa_cons xe_dic (xa_cons (xe_str [118, 97, 108, 117, 101, 115] rfl) xa_nil rfl) rfl) rfl) rfl))) (blkOk_by rfl) ⟨fun _ _ _ _ _ => (gName 6 sc_law.nd rfl rfl rfl), fun _ _ _ _ _ => xts_nil, fun _ _ _ _ _ => (xe_isC rfl ["GroupError", "BadValue", "BadBytes"] ["BadValue"] rfl Y.n_isinstance rfl Y.i_BadValue rfl Y.isE_BadValue Y.isN_BadValue (xe_caught (tb := tabs K) (c := (cT K ("law", none)).1) (P := (cT K ("law", none)).2) (CS := ga K "GroupError") (cs := ["GroupError", "BadValue", "BadBytes"]) (k := 18) 1 rfl Y.D__law_caught (bN__law_caught Y) sc__law_caught (.inl rfl) rfl rfl rfl Y.h_root rfl rfl rfl rfl rfl (fun _ => rfl) (fun _ => rfl) (fun _ => rfl) rfl Y.g__law_caught Y.tb_law rfl (tm_law K) Y.hu_law (hr.mono (by decide)) (LamX.lamS_by rfl) rfl (fun _ _ _ _ _ => rfl) Y.h_caught (fun A outer s H E f c' hr => xe_lam fun tk => (xe_call tk (ok_log_of Y) (hr.mono (by decide)) rfl Y.g_log_of Y.D_log_of.kp (bN_log_of Y) (xa_cons (gv 6 rfl rfl rfl) xa_nil rfl) rfl rfl rfl)) rfl rfl rfl) rfl rfl rfl)⟩ (fun _ _ h => by cases h; rfl) (by decide) (by simp) (by intro _; rfl)) xa_nil rfl) (by decide) rfl rfl rfl) (fun _ => rfl)))))) (XS.one (gRet (Γ' := [.ab Scr, .gh (Tab (tabs K)), .ab Draw, .fz, .fz, .fz, .fz, .fz, .fz]) (ks_of rfl rfl) xe_bl)) xb_nil) (xb_cons (xs_for (is := [6]) (passes_of rfl) rfl (allF_cons rfl allF_nil) (xi_any rfl (xe_lst (xa_cons xe_non (xa_cons xe_int (xa_cons (xe_str [98, 121, 116, 101, 115] rfl) (xa_cons (xe_lst (xa_cons xe_int xa_nil rfl)) (xa_cons (xe_lst (xa_cons (xe_un un_neg ok_neg xe_int) xa_nil rfl)) (xa_cons (xe_lst (xa_cons xe_bl xa_nil rfl)) (xa_cons (xe_lst (xa_cons xe_non xa_nil rfl)) (xa_cons xe_dic xa_nil rfl) rfl) rfl) rfl) rfl) rfl) rfl) rfl))) (gName 6 sc_law.nd rfl rfl rfl) (xb_cons (gSet 8 sc_law.nd rfl rfl rfl (.inl (leB rfl)) rfl (xe_caught (tb := tabs K) (c := (cT K ("law", none)).1) (P := (cT K ("law", none)).2) (CS := ga K "GroupError") (cs := ["GroupError", "BadValue", "BadBytes"]) (k := 20) 1 rfl Y.D__law_caught (bN__law_caught Y) sc__law_caught (.inl rfl) rfl rfl rfl Y.h_root rfl rfl rfl rfl rfl (fun _ => rfl) (fun _ => rfl) (fun _ => rfl) rfl Y.g__law_caught Y.tb_law rfl (tm_law K) Y.hu_law (hr.mono (by decide)) (LamX.lamS_by rfl) rfl (fun _ _ _ _ _ => rfl) Y.h_caught (fun A outer s H E f c' hr => xe_lam fun tk => (xe_call tk (ok_read_log Y) (hr.mono (by decide)) rfl Y.g_read_log Y.D_read_log.kp (bN_read_log Y) (xa_cons (gv 6 rfl rfl rfl) xa_nil rfl) rfl rfl rfl)) rfl rfl rfl)) (XS.one (xs_if (Γ' := [.ab Scr, .gh (Tab (tabs K)), .ab Draw, .fz, .fz, .fz, .fz, .fz, .fz]) (XW.xt (xw_or (xt_not (xt_val (xe_isC rfl ["GroupError", "BadValue", "BadBytes"] ["BadBytes"] rfl Y.n_isinstance rfl Y.i_BadBytes rfl Y.isE_BadBytes Y.isN_BadBytes (gv 8 rfl rfl rfl) rfl rfl rfl) (fun _ => rfl))) (xw_or1 (tNotNt (xe_fldX (f := "place") rfl ["BadBytes"] Y.fx_place (gv 8 rfl rfl rfl) rfl))))) (XS.one (gRet (Γ' := [.ab Scr, .gh (Tab (tabs K)), .ab Draw, .fz, .fz, .fz, .fz, .fz, .fz]) (ks_of rfl rfl) xe_bl)) xb_nil))) (by intro _; rfl)) (XS.one (gRet (Γ' := [.ab Scr, .gh (Tab (tabs K)), .fz, .fz, .fz, .fz, .fz, .fz, .fz]) (ks_of rfl rfl) xe_bl)))))))
end
end K66

set_option Elab.async false
set_option linter.all false
set_option maxRecDepth 100000
set_option maxHeartbeats 4000000

/-! K66H: the head and the end. Printed by genhead.py. -/
namespace K66
open PySem PySem.Spec PyProof.Rows L2 PL HP RX He
def fa : List He.Fa := [.glo "is_number", .glo "is_between", .glo "is_list", .glo "is_text", .glo "digits", .glo "bytes_at", .glo "value_bytes", .glo "need_bytes", .glo "byte_at", .glo "read_digits", .glo "read_text", .glo "read_value", .glo "value_of", .glo "sums", .glo "sizes", .glo "record", .glo "log_of", .glo "size_at", .glo "read_record", .glo "ends_of", .glo "read_log", .glo "_law_begun", .glo "_law_mixed", .glo "_law_take", .glo "_law_pick", .glo "_law_caught", .glo "_law_signs", .glo "_law_some_value", .glo "_law_record", .glo "_law_same", .glo "_law_log_right", .glo "law", .int "BASE" 128, .int "DEEPEST" 8, .int "FIRST_SIGN" 97, .int "HEAD" 8, .int "LONGEST_TEXT" 127, .int "MOST_DIGITS" 9, .int "MOST_SIZE" 3, .int "PRIME" 65521, .str "SIGNS" "abcdefghijklmnopqrstuvwxyz", .int "TAIL" 4, .glo "BadBytes", .glo "BadValue", .free "abs", .free "all", .free "bool", .free "enumerate", .free "int", .free "isinstance", .free "len", .free "list", .free "min", .free "range", .free "str", .free "sum", .free "tuple", .free "zip", .exc "BadValue", .free "super", .glo "GroupError"]
def fn : List He.DefD := [⟨("is_number", none), "is_number", "is_number", defArgs s_is_number, defBody s_is_number, defScope s_is_number, [], []⟩, ⟨("is_between", none), "is_between", "is_between", defArgs s_is_between, defBody s_is_between, defScope s_is_between, [], []⟩, ⟨("is_list", none), "is_list", "is_list", defArgs s_is_list, defBody s_is_list, defScope s_is_list, [], []⟩, ⟨("is_text", none), "is_text", "is_text", defArgs s_is_text, defBody s_is_text, defScope s_is_text, [], []⟩, ⟨("digits", none), "digits", "digits", defArgs s_digits, defBody s_digits, defScope s_digits, [], []⟩, ⟨("bytes_at", none), "bytes_at", "bytes_at", defArgs s_bytes_at, defBody s_bytes_at, defScope s_bytes_at, [], []⟩, ⟨("value_bytes", none), "value_bytes", "value_bytes", defArgs s_value_bytes, defBody s_value_bytes, defScope s_value_bytes, [], []⟩, ⟨("need_bytes", none), "need_bytes", "need_bytes", defArgs s_need_bytes, defBody s_need_bytes, defScope s_need_bytes, [], []⟩, ⟨("byte_at", none), "byte_at", "byte_at", defArgs s_byte_at, defBody s_byte_at, defScope s_byte_at, [], []⟩, ⟨("read_digits", none), "read_digits", "read_digits", defArgs s_read_digits, defBody s_read_digits, defScope s_read_digits, [], []⟩, ⟨("read_text", none), "read_text", "read_text", defArgs s_read_text, defBody s_read_text, defScope s_read_text, [], []⟩, ⟨("read_value", none), "read_value", "read_value", defArgs s_read_value, defBody s_read_value, defScope s_read_value, [], []⟩, ⟨("value_of", none), "value_of", "value_of", defArgs s_value_of, defBody s_value_of, defScope s_value_of, [], []⟩, ⟨("sums", none), "sums", "sums", defArgs s_sums, defBody s_sums, defScope s_sums, [], []⟩, ⟨("sizes", none), "sizes", "sizes", defArgs s_sizes, defBody s_sizes, defScope s_sizes, [], []⟩, ⟨("record", none), "record", "record", defArgs s_record, defBody s_record, defScope s_record, [], []⟩, ⟨("log_of", none), "log_of", "log_of", defArgs s_log_of, defBody s_log_of, defScope s_log_of, [], []⟩, ⟨("size_at", none), "size_at", "size_at", defArgs s_size_at, defBody s_size_at, defScope s_size_at, [], []⟩, ⟨("read_record", none), "read_record", "read_record", defArgs s_read_record, defBody s_read_record, defScope s_read_record, [], []⟩, ⟨("ends_of", none), "ends_of", "ends_of", defArgs s_ends_of, defBody s_ends_of, defScope s_ends_of, [], []⟩, ⟨("read_log", none), "read_log", "read_log", defArgs s_read_log, defBody s_read_log, defScope s_read_log, [], []⟩, ⟨("_law_begun", none), "_law_begun", "_law_begun", defArgs s__law_begun, defBody s__law_begun, defScope s__law_begun, [], []⟩, ⟨("_law_mixed", none), "_law_mixed", "_law_mixed", defArgs s__law_mixed, defBody s__law_mixed, defScope s__law_mixed, [], []⟩, ⟨("_law_take", none), "_law_take", "_law_take", defArgs s__law_take, defBody s__law_take, defScope s__law_take, [], []⟩, ⟨("_law_pick", none), "_law_pick", "_law_pick", defArgs s__law_pick, defBody s__law_pick, defScope s__law_pick, [], []⟩, ⟨("_law_caught", none), "_law_caught", "_law_caught", defArgs s__law_caught, defBody s__law_caught, defScope s__law_caught, [], []⟩, ⟨("_law_signs", none), "_law_signs", "_law_signs", defArgs s__law_signs, defBody s__law_signs, defScope s__law_signs, [], []⟩, ⟨("_law_some_value", none), "_law_some_value", "_law_some_value", defArgs s__law_some_value, defBody s__law_some_value, defScope s__law_some_value, [], []⟩, ⟨("_law_record", none), "_law_record", "_law_record", defArgs s__law_record, defBody s__law_record, defScope s__law_record, [], []⟩, ⟨("_law_same", none), "_law_same", "_law_same", defArgs s__law_same, defBody s__law_same, defScope s__law_same, [], []⟩, ⟨("_law_log_right", none), "_law_log_right", "_law_log_right", defArgs s__law_log_right, defBody s__law_log_right, defScope s__law_log_right, [], []⟩, ⟨("law", none), "law", "law", defArgs s_law, defBody s_law, defScope s_law, [], []⟩]
def tf : List He.Defn := [("law", none)]
abbrev i_BadBytes : InD := ⟨"BadBytes", "BadBytes.__init__", clsSt (top 3) 0⟩
theorem it_BadBytes : InTxt i_BadBytes.st "no bytes of a value, from a place on, or no bytes at all" (Str.ofString "place") "self" "place" := ⟨⟨_, _, _, _, _, _, _, _, _, _, _, rfl, _, fun env => rfl⟩, rfl, rfl, rfl, by decide +kernel, rfl, rfl, rfl, rfl, ⟨_, rfl, rfl⟩, by decide +kernel, rfl, rfl⟩
def ins : List InD := [i_BadBytes]
def ex (K : PySem.W.Frag) : Bool := fldB K "place" ["BadBytes"] && (isEB K "BadBytes" ["GroupError", "BadValue", "BadBytes"] ["BadBytes"] && (isEB K "BadValue" ["GroupError", "BadValue", "BadBytes"] ["BadValue"] && (caughtB K "BadBytes" ["BadBytes"] && (letB K "BadBytes" ["GroupError", "BadValue"] && (initB PySem.Challenge.pw_gatewords_k66_whole_logs_cut_at_any_byte.main.file K "BadBytes" "place" "BadBytes.__init__" && (caughtB K "GroupError" ["GroupError", "BadValue", "BadBytes"] && (apartB K tf)))))))
theorem tabs_hu {K : PySem.W.Frag} (h : apartB K tf = true) {p : Defn} (hp : p ∈ tf) : ∀ z ∈ tabs K, z.1 = (cT K p).2 → z.2 = ((p.1 : Str) ++ ".<locals>.") ++ "<lambda>" := fun z hz e => by
  have ht : tabs K = tf.map fun p => ((cT K p).2, ((p.1 : Str) ++ ".<locals>.") ++ "<lambda>") := rfl
  rw [ht] at hz
  obtain ⟨p2, h2, rfl⟩ := List.mem_map.mp hz
  rw [apartB_ok h h2 hp e]
theorem binds_law {P : Program} {w : World} : True := trivial
theorem law_at (hL : ∀ ns : List Int, ns.length ≤ 63 → (∀ z ∈ ns, Builtin.Int.intBits z ≤ 1048576) → ∃ es, f_law [.lst (ns.map .int), .non] = .ok (.bl true) es) {w : World} {K : PySem.W.Frag} {mg : Str → Option Value} {h : Heap} (X : K.In h) (G0 : h.Ns mainGlobals mg) (c : SaysY fa fn tf ins ex h K) :
    LamX.LawAtS PySem.Challenge.rw_gatewords_k66_whole_logs_cut_at_any_byte w K (L2.CX PySem.Challenge.pw_gatewords_k66_whole_logs_cut_at_any_byte w) 23 63 "script" mg (ga K "law") h := by
  have hx : ex K = true := c.more
  unfold ex at hx
  obtain ⟨d_is_number, D_is_number⟩ := c.d.def_ 0 rfl
  obtain ⟨d_is_between, D_is_between⟩ := c.d.def_ 1 rfl
  obtain ⟨d_is_list, D_is_list⟩ := c.d.def_ 2 rfl
  obtain ⟨d_is_text, D_is_text⟩ := c.d.def_ 3 rfl
  obtain ⟨d_digits, D_digits⟩ := c.d.def_ 4 rfl
  obtain ⟨d_bytes_at, D_bytes_at⟩ := c.d.def_ 5 rfl
  obtain ⟨d_value_bytes, D_value_bytes⟩ := c.d.def_ 6 rfl
  obtain ⟨d_need_bytes, D_need_bytes⟩ := c.d.def_ 7 rfl
  obtain ⟨d_byte_at, D_byte_at⟩ := c.d.def_ 8 rfl
  obtain ⟨d_read_digits, D_read_digits⟩ := c.d.def_ 9 rfl
  obtain ⟨d_read_text, D_read_text⟩ := c.d.def_ 10 rfl
  obtain ⟨d_read_value, D_read_value⟩ := c.d.def_ 11 rfl
  obtain ⟨d_value_of, D_value_of⟩ := c.d.def_ 12 rfl
  obtain ⟨d_sums, D_sums⟩ := c.d.def_ 13 rfl
  obtain ⟨d_sizes, D_sizes⟩ := c.d.def_ 14 rfl
  obtain ⟨d_record, D_record⟩ := c.d.def_ 15 rfl
  obtain ⟨d_log_of, D_log_of⟩ := c.d.def_ 16 rfl
  obtain ⟨d_size_at, D_size_at⟩ := c.d.def_ 17 rfl
  obtain ⟨d_read_record, D_read_record⟩ := c.d.def_ 18 rfl
  obtain ⟨d_ends_of, D_ends_of⟩ := c.d.def_ 19 rfl
  obtain ⟨d_read_log, D_read_log⟩ := c.d.def_ 20 rfl
  obtain ⟨d__law_begun, D__law_begun⟩ := c.d.def_ 21 rfl
  obtain ⟨d__law_mixed, D__law_mixed⟩ := c.d.def_ 22 rfl
  obtain ⟨d__law_take, D__law_take⟩ := c.d.def_ 23 rfl
  obtain ⟨d__law_pick, D__law_pick⟩ := c.d.def_ 24 rfl
  obtain ⟨d__law_caught, D__law_caught⟩ := c.d.def_ 25 rfl
  obtain ⟨d__law_signs, D__law_signs⟩ := c.d.def_ 26 rfl
  obtain ⟨d__law_some_value, D__law_some_value⟩ := c.d.def_ 27 rfl
  obtain ⟨d__law_record, D__law_record⟩ := c.d.def_ 28 rfl
  obtain ⟨d__law_same, D__law_same⟩ := c.d.def_ 29 rfl
  obtain ⟨d__law_log_right, D__law_log_right⟩ := c.d.def_ 30 rfl
  obtain ⟨d_law, D_law⟩ := c.d.def_ 31 rfl
  obtain ⟨xd_BadBytes, xI_BadBytes, xC_BadBytes, xT_BadBytes, _, _, _, _, _, _, _, xe_BadBytes⟩ := initF_of (P := PySem.Challenge.pw_gatewords_k66_whole_logs_cut_at_any_byte) i_BadBytes (c.ini_ (by simp [ins])) ((ba (ba (ba (ba (ba (ba hx).2).2).2).2).2).1) it_BadBytes rfl
  have xb_BadBytes : Binds K xd_BadBytes ["self", "place"] [] := by
    subst xe_BadBytes
    exact binds2_of fun _ _ => rfl
  refine ⟨d_law, tf.map (cT K), spH (TT K) [.ab Scr] (Tab (tabs K)) f_law, fun p hp => ?_, fun p hp => ?_, fun p hp => ?_, fun s u => ?_, fun H a ns hl hb hT hS => ?_, fun base KX hB TB => ?_⟩
  · obtain ⟨z, hz, rfl⟩ := List.mem_map.mp hp
    exact c.empty z hz
  · obtain ⟨z, hz, rfl⟩ := List.mem_map.mp hp
    exact c.out z hz
  · obtain ⟨z, hz, rfl⟩ := List.mem_map.mp hp
    exact PySem.W.codeHd_of_K X (c.hd z hz)
  · exact (D_law.bindsA (ps := ["script"]) fun _ _ _ _ _ _ us hl => match us, hl with | [_], _ => rfl) s [u] rfl
  · refine law_sp hS (fun p hp => ?_) (hL ns hl hb)
    have ht : tabs K = tf.map fun p => ((cT K p).2, ((p.1 : Str) ++ ".<locals>.") ++ "<lambda>") := rfl
    rw [ht] at hp
    obtain ⟨p2, h2, rfl⟩ := List.mem_map.mp hp
    exact hT _ (List.mem_map_of_mem (f := cT K) h2)
  · exact ok_law {
      d_is_number := d_is_number
      D_is_number := D_is_number
      g_is_number := glo_ok KX hB (c.d.fact 0 (f := .glo "is_number") rfl)
      d_is_between := d_is_between
      D_is_between := D_is_between
      g_is_between := glo_ok KX hB (c.d.fact 1 (f := .glo "is_between") rfl)
      d_is_list := d_is_list
      D_is_list := D_is_list
      g_is_list := glo_ok KX hB (c.d.fact 2 (f := .glo "is_list") rfl)
      d_is_text := d_is_text
      D_is_text := D_is_text
      g_is_text := glo_ok KX hB (c.d.fact 3 (f := .glo "is_text") rfl)
      d_digits := d_digits
      D_digits := D_digits
      g_digits := glo_ok KX hB (c.d.fact 4 (f := .glo "digits") rfl)
      d_bytes_at := d_bytes_at
      D_bytes_at := D_bytes_at
      g_bytes_at := glo_ok KX hB (c.d.fact 5 (f := .glo "bytes_at") rfl)
      d_value_bytes := d_value_bytes
      D_value_bytes := D_value_bytes
      g_value_bytes := glo_ok KX hB (c.d.fact 6 (f := .glo "value_bytes") rfl)
      d_need_bytes := d_need_bytes
      D_need_bytes := D_need_bytes
      g_need_bytes := glo_ok KX hB (c.d.fact 7 (f := .glo "need_bytes") rfl)
      d_byte_at := d_byte_at
      D_byte_at := D_byte_at
      g_byte_at := glo_ok KX hB (c.d.fact 8 (f := .glo "byte_at") rfl)
      d_read_digits := d_read_digits
      D_read_digits := D_read_digits
      g_read_digits := glo_ok KX hB (c.d.fact 9 (f := .glo "read_digits") rfl)
      d_read_text := d_read_text
      D_read_text := D_read_text
      g_read_text := glo_ok KX hB (c.d.fact 10 (f := .glo "read_text") rfl)
      d_read_value := d_read_value
      D_read_value := D_read_value
      g_read_value := glo_ok KX hB (c.d.fact 11 (f := .glo "read_value") rfl)
      d_value_of := d_value_of
      D_value_of := D_value_of
      g_value_of := glo_ok KX hB (c.d.fact 12 (f := .glo "value_of") rfl)
      d_sums := d_sums
      D_sums := D_sums
      g_sums := glo_ok KX hB (c.d.fact 13 (f := .glo "sums") rfl)
      d_sizes := d_sizes
      D_sizes := D_sizes
      g_sizes := glo_ok KX hB (c.d.fact 14 (f := .glo "sizes") rfl)
      d_record := d_record
      D_record := D_record
      g_record := glo_ok KX hB (c.d.fact 15 (f := .glo "record") rfl)
      d_log_of := d_log_of
      D_log_of := D_log_of
      g_log_of := glo_ok KX hB (c.d.fact 16 (f := .glo "log_of") rfl)
      d_size_at := d_size_at
      D_size_at := D_size_at
      g_size_at := glo_ok KX hB (c.d.fact 17 (f := .glo "size_at") rfl)
      d_read_record := d_read_record
      D_read_record := D_read_record
      g_read_record := glo_ok KX hB (c.d.fact 18 (f := .glo "read_record") rfl)
      d_ends_of := d_ends_of
      D_ends_of := D_ends_of
      g_ends_of := glo_ok KX hB (c.d.fact 19 (f := .glo "ends_of") rfl)
      d_read_log := d_read_log
      D_read_log := D_read_log
      g_read_log := glo_ok KX hB (c.d.fact 20 (f := .glo "read_log") rfl)
      d__law_begun := d__law_begun
      D__law_begun := D__law_begun
      g__law_begun := glo_ok KX hB (c.d.fact 21 (f := .glo "_law_begun") rfl)
      d__law_mixed := d__law_mixed
      D__law_mixed := D__law_mixed
      g__law_mixed := glo_ok KX hB (c.d.fact 22 (f := .glo "_law_mixed") rfl)
      d__law_take := d__law_take
      D__law_take := D__law_take
      g__law_take := glo_ok KX hB (c.d.fact 23 (f := .glo "_law_take") rfl)
      d__law_pick := d__law_pick
      D__law_pick := D__law_pick
      g__law_pick := glo_ok KX hB (c.d.fact 24 (f := .glo "_law_pick") rfl)
      d__law_caught := d__law_caught
      D__law_caught := D__law_caught
      g__law_caught := glo_ok KX hB (c.d.fact 25 (f := .glo "_law_caught") rfl)
      d__law_signs := d__law_signs
      D__law_signs := D__law_signs
      g__law_signs := glo_ok KX hB (c.d.fact 26 (f := .glo "_law_signs") rfl)
      d__law_some_value := d__law_some_value
      D__law_some_value := D__law_some_value
      g__law_some_value := glo_ok KX hB (c.d.fact 27 (f := .glo "_law_some_value") rfl)
      d__law_record := d__law_record
      D__law_record := D__law_record
      g__law_record := glo_ok KX hB (c.d.fact 28 (f := .glo "_law_record") rfl)
      d__law_same := d__law_same
      D__law_same := D__law_same
      g__law_same := glo_ok KX hB (c.d.fact 29 (f := .glo "_law_same") rfl)
      d__law_log_right := d__law_log_right
      D__law_log_right := D__law_log_right
      g__law_log_right := glo_ok KX hB (c.d.fact 30 (f := .glo "_law_log_right") rfl)
      d_law := d_law
      D_law := D_law
      g_law := glo_ok KX hB (c.d.fact 31 (f := .glo "law") rfl)
      c_BASE := int_ok KX hB (c.d.fact 32 (f := .int "BASE" 128) rfl)
      c_DEEPEST := int_ok KX hB (c.d.fact 33 (f := .int "DEEPEST" 8) rfl)
      c_FIRST_SIGN := int_ok KX hB (c.d.fact 34 (f := .int "FIRST_SIGN" 97) rfl)
      c_HEAD := int_ok KX hB (c.d.fact 35 (f := .int "HEAD" 8) rfl)
      c_LONGEST_TEXT := int_ok KX hB (c.d.fact 36 (f := .int "LONGEST_TEXT" 127) rfl)
      c_MOST_DIGITS := int_ok KX hB (c.d.fact 37 (f := .int "MOST_DIGITS" 9) rfl)
      c_MOST_SIZE := int_ok KX hB (c.d.fact 38 (f := .int "MOST_SIZE" 3) rfl)
      c_PRIME := int_ok KX hB (c.d.fact 39 (f := .int "PRIME" 65521) rfl)
      c_SIGNS := str_ok KX hB (c.d.fact 40 (f := .str "SIGNS" "abcdefghijklmnopqrstuvwxyz") rfl)
      c_TAIL := int_ok KX hB (c.d.fact 41 (f := .int "TAIL" 4) rfl)
      fx_place := fldB_ok ((ba hx).1)
      i_BadBytes := glo_ok KX hB (c.d.fact 42 (f := .glo "BadBytes") rfl)
      isE_BadBytes := (isEB_ok ((ba (ba hx).2).1)).1
      isN_BadBytes := (isEB_ok ((ba (ba hx).2).1)).2
      i_BadValue := glo_ok KX hB (c.d.fact 43 (f := .glo "BadValue") rfl)
      isE_BadValue := (isEB_ok ((ba (ba (ba hx).2).2).1)).1
      isN_BadValue := (isEB_ok ((ba (ba (ba hx).2).2).1)).2
      n_abs := free_ok KX hB (c.d.fact 44 (f := .free "abs") rfl)
      n_all := free_ok KX hB (c.d.fact 45 (f := .free "all") rfl)
      n_bool := free_ok KX hB (c.d.fact 46 (f := .free "bool") rfl)
      n_enumerate := free_ok KX hB (c.d.fact 47 (f := .free "enumerate") rfl)
      n_int := free_ok KX hB (c.d.fact 48 (f := .free "int") rfl)
      n_isinstance := free_ok KX hB (c.d.fact 49 (f := .free "isinstance") rfl)
      n_len := free_ok KX hB (c.d.fact 50 (f := .free "len") rfl)
      n_list := free_ok KX hB (c.d.fact 51 (f := .free "list") rfl)
      n_min := free_ok KX hB (c.d.fact 52 (f := .free "min") rfl)
      n_range := free_ok KX hB (c.d.fact 53 (f := .free "range") rfl)
      n_str := free_ok KX hB (c.d.fact 54 (f := .free "str") rfl)
      n_sum := free_ok KX hB (c.d.fact 55 (f := .free "sum") rfl)
      n_tuple := free_ok KX hB (c.d.fact 56 (f := .free "tuple") rfl)
      n_zip := free_ok KX hB (c.d.fact 57 (f := .free "zip") rfl)
      tg_BadBytes := glo_ok KX hB (c.d.fact 42 (f := .glo "BadBytes") rfl)
      ty_BadBytes := caughtB_ok ((ba (ba (ba (ba hx).2).2).2).1)
      tn_BadBytes := letB_ok ((ba (ba (ba (ba (ba hx).2).2).2).2).1)
      xI_BadBytes := fAd K ("BadBytes", some "__init__")
      xd_BadBytes := xd_BadBytes
      x_BadBytes := ⟨xI_BadBytes, xC_BadBytes, xT_BadBytes, xb_BadBytes, glo_ok KX hB (c.d.fact 42 (f := .glo "BadBytes") rfl)⟩
      x_BadValue := excF_of KX hB (c.d.fact 58 (f := .exc "BadValue") rfl) (c.d.fact 43 (f := .glo "BadValue") rfl)
      n_super := free_ok KX hB (c.d.fact 59 (f := .free "super") rfl)
      h_root := glo_ok KX hB (c.d.fact 60 (f := .glo "GroupError") rfl)
      h_caught := caughtB_ok ((ba (ba (ba (ba (ba (ba (ba hx).2).2).2).2).2).2).1)
      t_law := code_of D_law
      tb_law := TB (cT K ("law", none)) (List.mem_map_of_mem (f := cT K) (show (("law", none) : Defn) ∈ tf from .head _))
      hu_law := tabs_hu ((ba (ba (ba (ba (ba (ba (ba hx).2).2).2).2).2).2).2) (show (("law", none) : Defn) ∈ tf from .head _)
    }
def loose0 : List PySem.Str := ["GroupError", "BadValue", "BadBytes", "is_number", "is_between", "is_list", "MOST_DIGITS", "MOST_SIZE", "LONGEST_TEXT", "DEEPEST", "BASE", "SIGNS", "FIRST_SIGN", "is_text", "digits", "bytes_at", "value_bytes", "need_bytes", "byte_at", "read_digits", "read_text", "read_value", "value_of", "PRIME", "HEAD", "TAIL", "sums", "sizes", "record", "log_of"]
def loose1 : List PySem.Str := ["size_at", "read_record", "ends_of", "read_log", "_law_begun", "_law_mixed", "_law_take", "_law_pick", "_law_caught", "_law_signs", "_law_some_value", "_law_record", "_law_same", "_law_log_right"]
def loose : List PySem.Str := loose0 ++ loose1
abbrev R : PySem.W.OpenRow := PySem.W.OpenLaw.row PySem.Challenge.rw_gatewords_k66_whole_logs_cut_at_any_byte
abbrev hk : PySem.W.Hook := hookY 5 fa fn tf ins ex
def ob (s : PySem.W.SharedT) : AlY := obsY 5 fa fn tf ins ex (HandSHeadRun.getT s)
theorem ob_eq (s : PySem.W.SharedT) : ob s = hk.obs s.abs := obsY_eq (HandSHeadRun.getT_eq s)
theorem run (w : World) : HandSHeadRun.RunEq R (PySem.W.view R.prog [49]) hk ob 2000 loose w := by
  intro os
  kernel_rfl
end K66
section
open PySem PySem.W PySem.Calls PyProof.Rows
theorem K66_holds (hL : ∀ ns : List Int, ns.length ≤ 63 → (∀ z ∈ ns, PySem.Builtin.Int.intBits z ≤ 1048576) → ∃ es, K66.f_law [.lst (ns.map .int), .non] = .ok (.bl true) es) : PySem.Challenge.rw_gatewords_k66_whole_logs_cut_at_any_byte.Holds := by
  w_on; o_law
  refine HandSHeadRun.head_any (r := OpenLaw.row PySem.Challenge.rw_gatewords_k66_whole_logs_cut_at_any_byte) (q := view (OpenLaw.row PySem.Challenge.rw_gatewords_k66_whole_logs_cut_at_any_byte).prog [49]) (H := K66.hk) (ob := K66.ob) (M := 2000) (loose := K66.loose) (d := HandSHeadRun.topDef (OpenLaw.row PySem.Challenge.rw_gatewords_k66_whole_logs_cut_at_any_byte).prog 49) (kwd := []) K66.ob_eq
    (by kernel_rfl) (fun s => by kernel_rfl) K66.run (by kernel_rfl) (by kernel_rfl) (by kernel_rfl) (by rfl) (by first | assumption | decide +kernel) (by decide +kernel) ⟨rfl, rfl, rfl, rfl, rfl, by decide +kernel⟩ ?hw ?hc
  case hw => w_witness2
  case hc =>
    refine LamX.walk_ofTsE (l := PySem.Challenge.rw_gatewords_k66_whole_logs_cut_at_any_byte) (n := 63) (k := 23) (x := "script") (CX := fun w => L2.CX PySem.Challenge.pw_gatewords_k66_whole_logs_cut_at_any_byte w) rfl (by decide) (by kernel_rfl) ⟨rfl, by decide, by decide⟩ ?F (fun w H s e s' z => RX.cx_no z)
    intro w mg fa h Y G hmg0
    obtain ⟨K, KX, c⟩ := Y
    have e : (HandSHeadRun.topDef (OpenLaw.row PySem.Challenge.rw_gatewords_k66_whole_logs_cut_at_any_byte).prog 49).name = ("law" : PySem.Str) := by kernel_rfl
    rw [e] at hmg0
    have e2 := hmg0.symm.trans (He.glo_ok KX G (c.d.fact 31 (f := .glo "law") rfl))
    cases e2
    exact ⟨K, KX, K66.law_at hL KX G c⟩
end

set_option linter.all false
set_option maxRecDepth 100000
set_option exponentiation.threshold 10000
/-! PE: the pure combinators evaluated by simp. What follows a part is kept in a function of its own (..K), so that simp never looks into it ahead of time. -/
namespace PL
@[simp] theorem bind_ok {S A B : Type} (a : A) (s : S) (f : A → S → Res S B) : (Res.ok a s).bind f = f a s := (rfl)
@[simp] theorem bind_ex {S A B : Type} (c : String) (fs : List (String × D)) (s : S) (f : A → S → Res S B) : (Res.ex c fs s).bind f = .ex c fs s := (rfl)
@[simp] theorem bind_no {S A B : Type} (f : A → S → Res S B) : (Res.no : Res S A).bind f = .no := (rfl)
@[simp] theorem ofO_some {S : Type} (d : D) (s : S) : ofO (some d) s = .ok d s := (rfl)
@[simp] theorem ofO_none {S : Type} (s : S) : ofO none s = .no := (rfl)
/-! ### what follows -/
section
variable (c : String) (fs : List (String × D)) (s : En) (d x y : D) (b : Bool)
def eVK : Option (Option D) → En → Res En D
  | some (some d), s => .ok d s
  | _, _ => .no
@[simp] theorem eVK_ok : eVK (some (some d)) s = .ok d s := (rfl)
def e1K (p : P1) (r : Res En D) : Res En D := r.bind fun x s => ofO (p x) s
@[simp] theorem e1K_ok (p : P1) : e1K p (.ok x s) = ofO (p x) s := (rfl)
@[simp] theorem e1K_ex (p : P1) : e1K p (.ex c fs s) = .ex c fs s := (rfl)
def e2K (p : P2) (b : EX) (r : Res En D) : Res En D := r.bind fun x s => (b s).bind fun y s => ofO (p x y) s
def e2K2 (p : P2) (x : D) (r : Res En D) : Res En D := r.bind fun y s => ofO (p x y) s
@[simp] theorem e2K_ok (p : P2) (b : EX) : e2K p b (.ok x s) = e2K2 p x (b s) := (rfl)
@[simp] theorem e2K_ex (p : P2) (b : EX) : e2K p b (.ex c fs s) = .ex c fs s := (rfl)
@[simp] theorem e2K2_ok (p : P2) : e2K2 p x (.ok y s) = ofO (p x y) s := (rfl)
@[simp] theorem e2K2_ex (p : P2) : e2K2 p x (.ex c fs s) = .ex c fs s := (rfl)
def eChK3 (q : P2) (y : D) (r : Res En D) : Res En D := r.bind fun z s => ofO (q y z) s
def eChK4 (q : P2) (c : EX) (y : D) (s : En) : Option D → Res En D
  | some (.bl true) => eChK3 q y (c s)
  | some (.bl false) => .ok (.bl false) s
  | _ => .no
def eChK2 (p q : P2) (c : EX) (x : D) (r : Res En D) : Res En D := r.bind fun y s => eChK4 q c y s (p x y)
def eChK (p q : P2) (b c : EX) (r : Res En D) : Res En D := r.bind fun x s => eChK2 p q c x (b s)
@[simp] theorem eChK_ok (p q : P2) (b c : EX) : eChK p q b c (.ok x s) = eChK2 p q c x (b s) := (rfl)
@[simp] theorem eChK_ex (p q : P2) (b c' : EX) : eChK p q b c' (.ex c fs s) = .ex c fs s := (rfl)
@[simp] theorem eChK2_ok (p q : P2) (c : EX) : eChK2 p q c x (.ok y s) = eChK4 q c y s (p x y) := (rfl)
@[simp] theorem eChK2_ex (p q : P2) (c' : EX) : eChK2 p q c' x (.ex c fs s) = .ex c fs s := (rfl)
@[simp] theorem eChK4_bl (q : P2) (c : EX) : eChK4 q c y s (some (.bl b)) = if b = true then eChK3 q y (c s) else .ok (.bl false) s := by cases b <;> rfl
@[simp] theorem eChK3_ok (q : P2) : eChK3 q y (.ok x s) = ofO (q y x) s := (rfl)
@[simp] theorem eChK3_ex (q : P2) : eChK3 q y (.ex c fs s) = .ex c fs s := (rfl)
def uBK (r : Res En D) : Res En Bool := r.bind fun x s => match x with
  | .bl b => .ok b s
  | _ => .no
@[simp] theorem uBK_ok : uBK (.ok (.bl b) s) = .ok b s := (rfl)
@[simp] theorem uBK_ex : uBK (.ex c fs s) = .ex c fs s := (rfl)
def uTrK (r : Res En D) : Res En Bool := r.bind fun x s => match truth x with
  | some b => .ok b s
  | none => .no
def uTrK2 (s : En) : Option Bool → Res En Bool
  | some b => .ok b s
  | none => .no
@[simp] theorem uTrK_ok : uTrK (.ok x s) = uTrK2 s (truth x) := by unfold uTrK uTrK2; rfl
@[simp] theorem uTrK_ex : uTrK (.ex c fs s) = .ex c fs s := (rfl)
@[simp] theorem uTrK2_some : uTrK2 s (some b) = .ok b s := (rfl)
def uNotK (r : Res En Bool) : Res En Bool := r.bind fun b s => .ok (!b) s
@[simp] theorem uNotK_ok : uNotK (.ok b s) = .ok (!b) s := (rfl)
@[simp] theorem uNotK_ex : uNotK (.ex c fs s) = .ex c fs s := (rfl)
def uAndK (t : TX) (r : Res En Bool) : Res En Bool := r.bind fun b s => if b then t s else .ok false s
@[simp] theorem uAndK_ok (t : TX) : uAndK t (.ok b s) = if b = true then t s else .ok false s := (rfl)
@[simp] theorem uAndK_ex (t : TX) : uAndK t (.ex c fs s) = .ex c fs s := (rfl)
def uOrK (t : TX) (r : Res En Bool) : Res En Bool := r.bind fun b s => if b then .ok true s else t s
@[simp] theorem uOrK_ok (t : TX) : uOrK t (.ok b s) = if b = true then .ok true s else t s := (rfl)
@[simp] theorem uOrK_ex (t : TX) : uOrK t (.ex c fs s) = .ex c fs s := (rfl)
def eNotK (r : Res En D) : Res En D := r.bind fun x s => match x with
  | .bl b => .ok (.bl (!b)) s
  | _ => .no
@[simp] theorem eNotK_ok : eNotK (.ok (.bl b) s) = .ok (.bl (!b)) s := (rfl)
@[simp] theorem eNotK_ex : eNotK (.ex c fs s) = .ex c fs s := (rfl)
def eAndK (t : EX) (r : Res En D) : Res En D := r.bind fun x s => match x with
  | .bl true => t s
  | .bl false => .ok (.bl false) s
  | _ => .no
@[simp] theorem eAndK_ok (t : EX) : eAndK t (.ok (.bl b) s) = if b = true then t s else .ok (.bl false) s := by cases b <;> rfl
@[simp] theorem eAndK_ex (t : EX) : eAndK t (.ex c fs s) = .ex c fs s := (rfl)
def eOrK (t : EX) (r : Res En D) : Res En D := r.bind fun x s => match x with
  | .bl true => .ok (.bl true) s
  | .bl false => t s
  | _ => .no
@[simp] theorem eOrK_ok (t : EX) : eOrK t (.ok (.bl b) s) = if b = true then .ok (.bl true) s else t s := by cases b <;> rfl
@[simp] theorem eOrK_ex (t : EX) : eOrK t (.ex c fs s) = .ex c fs s := (rfl)
def eIfK (a b : EX) (r : Res En Bool) : Res En D := r.bind fun c s => if c then a s else b s
@[simp] theorem eIfK_ok (u v : EX) : eIfK u v (.ok b s) = if b = true then u s else v s := (rfl)
@[simp] theorem eIfK_ex (u v : EX) : eIfK u v (.ex c fs s) = .ex c fs s := (rfl)
def lConsK2 (x : D) (r : Res En (List D)) : Res En (List D) := r.bind fun xs s => .ok (x :: xs) s
def lConsK (l : LX) (r : Res En D) : Res En (List D) := r.bind fun x s => lConsK2 x (l s)
@[simp] theorem lConsK_ok (l : LX) : lConsK l (.ok x s) = lConsK2 x (l s) := (rfl)
@[simp] theorem lConsK_ex (l : LX) : lConsK l (.ex c fs s) = .ex c fs s := (rfl)
@[simp] theorem lConsK2_ok (xs : List D) : lConsK2 x (.ok xs s) = .ok (x :: xs) s := (rfl)
@[simp] theorem lConsK2_ex : lConsK2 x (.ex c fs s) = .ex c fs s := (rfl)
def lStarK3 (ys : List D) (r : Res En (List D)) : Res En (List D) := r.bind fun xs s => .ok (ys ++ xs) s
def lStarK2 (l : LX) (s : En) : Option (List D) → Res En (List D)
  | some ys => lStarK3 ys (l s)
  | none => .no
def lStarK (l : LX) (r : Res En D) : Res En (List D) := r.bind fun x s => lStarK2 l s (itemsD x)
@[simp] theorem lStarK_ok (l : LX) : lStarK l (.ok x s) = lStarK2 l s (itemsD x) := (rfl)
@[simp] theorem lStarK_ex (l : LX) : lStarK l (.ex c fs s) = .ex c fs s := (rfl)
@[simp] theorem lStarK2_some (l : LX) (ys : List D) : lStarK2 l s (some ys) = lStarK3 ys (l s) := (rfl)
@[simp] theorem lStarK3_ok (xs ys : List D) : lStarK3 ys (.ok xs s) = .ok (ys ++ xs) s := (rfl)
@[simp] theorem itemsD_lst (xs : List D) : itemsD (.lst xs) = some xs := (rfl)
@[simp] theorem itemsD_tup (xs : List D) : itemsD (.tup xs) = some xs := (rfl)
def eTupK (r : Res En (List D)) : Res En D := r.bind fun xs s => if xs.length ≤ line then .ok (.tup xs) s else .no
@[simp] theorem eTupK_ok (xs : List D) : eTupK (.ok xs s) = if xs.length ≤ line then .ok (.tup xs) s else .no := (rfl)
@[simp] theorem eTupK_ex : eTupK (.ex c fs s) = .ex c fs s := (rfl)
def eLstK (r : Res En (List D)) : Res En D := r.bind fun xs s => if xs.length ≤ line then .ok (.lst xs) s else .no
@[simp] theorem eLstK_ok (xs : List D) : eLstK (.ok xs s) = if xs.length ≤ line then .ok (.lst xs) s else .no := (rfl)
@[simp] theorem eLstK_ex : eLstK (.ex c fs s) = .ex c fs s := (rfl)
def oSomeK (r : Res En D) : Res En (Option Int) := r.bind fun x s => match x with
  | .int i => .ok (some i) s
  | _ => .no
@[simp] theorem oSomeK_ok (i : Int) : oSomeK (.ok (.int i) s) = .ok (some i) s := (rfl)
@[simp] theorem oSomeK_ex : oSomeK (.ex c fs s) = .ex c fs s := (rfl)
def eSlK3 (x : D) (l : Option Int) (r : Res En (Option Int)) : Res En D := r.bind fun h s => ofO (sliceD x l h) s
def eSlK2 (hi : OX) (x : D) (r : Res En (Option Int)) : Res En D := r.bind fun l s => eSlK3 x l (hi s)
def eSlK (lo hi : OX) (r : Res En D) : Res En D := r.bind fun x s => eSlK2 hi x (lo s)
@[simp] theorem eSlK_ok (lo hi : OX) : eSlK lo hi (.ok x s) = eSlK2 hi x (lo s) := (rfl)
@[simp] theorem eSlK_ex (lo hi : OX) : eSlK lo hi (.ex c fs s) = .ex c fs s := (rfl)
@[simp] theorem eSlK2_ok (hi : OX) (l : Option Int) : eSlK2 hi x (.ok l s) = eSlK3 x l (hi s) := (rfl)
@[simp] theorem eSlK2_ex (hi : OX) : eSlK2 hi x (.ex c fs s) = .ex c fs s := (rfl)
@[simp] theorem eSlK3_ok (l h : Option Int) : eSlK3 x l (.ok h s) = ofO (sliceD x l h) s := (rfl)
@[simp] theorem eSlK3_ex (l : Option Int) : eSlK3 x l (.ex c fs s) = .ex c fs s := (rfl)
def eBK (p : PL.PL) (r : Res En (List D)) : Res En D := r.bind fun xs s => ofO (p xs) s
@[simp] theorem eBK_ok (p : PL.PL) (xs : List D) : eBK p (.ok xs s) = ofO (p xs) s := (rfl)
@[simp] theorem eBK_ex (p : PL.PL) : eBK p (.ex c fs s) = .ex c fs s := (rfl)
def eIdxK2 (z : List Nat) (r : Res En D) : Res En D := r.bind fun y s => ofO (pIndex (.str z) y) s
def eIdxK (b : EX) (r : Res En D) : Res En D := r.bind fun x s => match x with
  | .str z => eIdxK2 z (b s)
  | _ => .no
@[simp] theorem eIdxK_ok (b : EX) (z : List Nat) : eIdxK b (.ok (.str z) s) = eIdxK2 z (b s) := (rfl)
@[simp] theorem eIdxK_ex (b : EX) : eIdxK b (.ex c fs s) = .ex c fs s := (rfl)
@[simp] theorem eIdxK2_ok (z : List Nat) : eIdxK2 z (.ok y s) = ofO (pIndex (.str z) y) s := (rfl)
@[simp] theorem eIdxK2_ex (z : List Nat) : eIdxK2 z (.ex c fs s) = .ex c fs s := (rfl)
def itAnyK (r : Res En D) : Res En (List D) := r.bind fun x s => match x with
  | .str z => .ok (z.map fun c => .str [c]) s
  | .lst xs => .ok xs s
  | .tup xs => .ok xs s
  | _ => .no
@[simp] theorem itAnyK_str (z : List Nat) : itAnyK (.ok (.str z) s) = .ok (z.map fun c => .str [c]) s := (rfl)
@[simp] theorem itAnyK_lst (xs : List D) : itAnyK (.ok (.lst xs) s) = .ok xs s := (rfl)
@[simp] theorem itAnyK_tup (xs : List D) : itAnyK (.ok (.tup xs) s) = .ok xs s := (rfl)
@[simp] theorem itAnyK_ex : itAnyK (.ex c fs s) = .ex c fs s := (rfl)
def itR1K (r : Res En D) : Res En (List D) := r.bind fun x s => match x with
  | .int j => if small62 j then .ok (rangeL 0 j.toNat) s else .no
  | _ => .no
@[simp] theorem itR1K_ok (j : Int) : itR1K (.ok (.int j) s) = if small62 j = true then .ok (rangeL 0 j.toNat) s else .no := (rfl)
@[simp] theorem itR1K_ex : itR1K (.ex c fs s) = .ex c fs s := (rfl)
def itR2K2 (x : D) (r : Res En D) : Res En (List D) := r.bind fun y s => match x, y with
  | .int i, .int j => if small62 i && small62 j then .ok (rangeL i (j - i).toNat) s else .no
  | _, _ => .no
def itR2K (b : EX) (r : Res En D) : Res En (List D) := r.bind fun x s => itR2K2 x (b s)
@[simp] theorem itR2K_ok (b : EX) : itR2K b (.ok x s) = itR2K2 x (b s) := (rfl)
@[simp] theorem itR2K_ex (b : EX) : itR2K b (.ex c fs s) = .ex c fs s := (rfl)
@[simp] theorem itR2K2_ok (i j : Int) : itR2K2 (.int i) (.ok (.int j) s) = if small62 i = true ∧ small62 j = true then .ok (rangeL i (j - i).toNat) s else .no := by unfold itR2K2; simp
@[simp] theorem itR2K2_ex : itR2K2 x (.ex c fs s) = .ex c fs s := (rfl)
def itEnumK (r : Res En D) : Res En (List D) := r.bind fun x s => match x with
  | .lst xs => .ok (enumL xs) s
  | _ => .no
@[simp] theorem itEnumK_ok (xs : List D) : itEnumK (.ok (.lst xs) s) = .ok (enumL xs) s := (rfl)
@[simp] theorem itEnumK_ex : itEnumK (.ex c fs s) = .ex c fs s := (rfl)
def itZipK2 (x : D) (r : Res En D) : Res En (List D) := r.bind fun y s => match x, y with
  | .lst xs, .lst ys => if xs.length = ys.length then .ok (zipL xs ys) s else .no
  | .tup xs, .tup ys => if xs.length = ys.length then .ok (zipL xs ys) s else .no
  | _, _ => .no
def itZipK (b : EX) (r : Res En D) : Res En (List D) := r.bind fun x s => itZipK2 x (b s)
@[simp] theorem itZipK_ok (b : EX) : itZipK b (.ok x s) = itZipK2 x (b s) := (rfl)
@[simp] theorem itZipK_ex (b : EX) : itZipK b (.ex c fs s) = .ex c fs s := (rfl)
@[simp] theorem itZipK2_lst (xs ys : List D) : itZipK2 (.lst xs) (.ok (.lst ys) s) = if xs.length = ys.length then .ok (zipL xs ys) s else .no := (rfl)
@[simp] theorem itZipK2_tup (xs ys : List D) : itZipK2 (.tup xs) (.ok (.tup ys) s) = if xs.length = ys.length then .ok (zipL xs ys) s else .no := (rfl)
@[simp] theorem itZipK2_ex : itZipK2 x (.ex c fs s) = .ex c fs s := (rfl)
def gTK (is : List Nat) (s : En) : Option (List D) → Res En Unit
  | some ds => if ds.length = is.length then .ok () (putE s is ds) else .no
  | none => .no
@[simp] theorem gTK_some (is : List Nat) (ds : List D) : gTK is s (some ds) = if ds.length = is.length then .ok () (putE s is ds) else .no := (rfl)
def dcsK : Option (List D) → Option (List D) → Option (List D)
  | some a, some b => some (a ++ b)
  | _, _ => none
@[simp] theorem dcsK_some (u v : List D) : dcsK (some u) (some v) = some (u ++ v) := (rfl)
def sSeqK (b : ST) (r : Res En Flow) : Res En Flow := r.bind fun f s => match f with
  | .nx => b s
  | f => .ok f s
@[simp] theorem sSeqK_nx (b : ST) : sSeqK b (.ok .nx s) = b s := (rfl)
@[simp] theorem sSeqK_rt (b : ST) : sSeqK b (.ok (.rt d) s) = .ok (.rt d) s := (rfl)
@[simp] theorem sSeqK_bk (b : ST) : sSeqK b (.ok .bk s) = .ok .bk s := (rfl)
@[simp] theorem sSeqK_ct (b : ST) : sSeqK b (.ok .ct s) = .ok .ct s := (rfl)
@[simp] theorem sSeqK_ex (b : ST) : sSeqK b (.ex c fs s) = .ex c fs s := (rfl)
def sSetK (i : Nat) (r : Res En D) : Res En Flow := r.bind fun d s => .ok .nx (s.set i (some d))
@[simp] theorem sSetK_ok (i : Nat) : sSetK i (.ok d s) = .ok .nx (s.set i (some d)) := (rfl)
@[simp] theorem sSetK_ex (i : Nat) : sSetK i (.ex c fs s) = .ex c fs s := (rfl)
def sParK (is : List Nat) (r : Res En (List D)) : Res En Flow := r.bind fun ds s => if ds.length = is.length then .ok .nx (putE s is ds) else .no
@[simp] theorem sParK_ok (is : List Nat) (ds : List D) : sParK is (.ok ds s) = if ds.length = is.length then .ok .nx (putE s is ds) else .no := (rfl)
@[simp] theorem sParK_ex (is : List Nat) : sParK is (.ex c fs s) = .ex c fs s := (rfl)
def sAsgK2 (r : Res En Unit) : Res En Flow := r.bind fun _ s => .ok .nx s
def sAsgK (is : List Nat) (f : DC) (r : Res En D) : Res En Flow := r.bind fun d s => sAsgK2 (gT is f d s)
@[simp] theorem sAsgK_ok (is : List Nat) (f : DC) : sAsgK is f (.ok d s) = sAsgK2 (gT is f d s) := (rfl)
@[simp] theorem sAsgK_ex (is : List Nat) (f : DC) : sAsgK is f (.ex c fs s) = .ex c fs s := (rfl)
@[simp] theorem sAsgK2_ok (u : Unit) : sAsgK2 (.ok u s) = .ok .nx s := (rfl)
def sIfK (a b : ST) (r : Res En Bool) : Res En Flow := r.bind fun c s => if c then a s else b s
@[simp] theorem sIfK_ok (u v : ST) : sIfK u v (.ok b s) = if b = true then u s else v s := (rfl)
@[simp] theorem sIfK_ex (u v : ST) : sIfK u v (.ex c fs s) = .ex c fs s := (rfl)
def sRetK (r : Res En D) : Res En Flow := r.bind fun d s => .ok (.rt d) s
@[simp] theorem sRetK_ok : sRetK (.ok d s) = .ok (.rt d) s := (rfl)
@[simp] theorem sRetK_ex : sRetK (.ex c fs s) = .ex c fs s := (rfl)
def sExpK (r : Res En D) : Res En Flow := r.bind fun d s => .ok .nx s
@[simp] theorem sExpK_ok : sExpK (.ok d s) = .ok .nx s := (rfl)
@[simp] theorem sExpK_ex : sExpK (.ex c fs s) = .ex c fs s := (rfl)
def sRaise1K (c f : String) (r : Res En D) : Res En Flow := r.bind fun d s => .ex c [(f, d)] s
@[simp] theorem sRaise1K_ok (cn f : String) : sRaise1K cn f (.ok d s) = .ex cn [(f, d)] s := (rfl)
def loopK2 (g : GX) (b : ST) (xs : List D) (r : Res En Flow) : Res En Flow := r.bind fun f s => match f with
    | .nx => loop g b xs s
    | .ct => loop g b xs s
    | .bk => .ok .nx s
    | .rt d => .ok (.rt d) s
def loopK (g : GX) (b : ST) (xs : List D) (r : Res En Unit) : Res En Flow := r.bind fun _ s => loopK2 g b xs (b s)
@[simp] theorem loopK_ok (g : GX) (b : ST) (xs : List D) (u : Unit) : loopK g b xs (.ok u s) = loopK2 g b xs (b s) := (rfl)
@[simp] theorem loopK2_nx (g : GX) (b : ST) (xs : List D) : loopK2 g b xs (.ok .nx s) = loop g b xs s := (rfl)
@[simp] theorem loopK2_ct (g : GX) (b : ST) (xs : List D) : loopK2 g b xs (.ok .ct s) = loop g b xs s := (rfl)
@[simp] theorem loopK2_bk (g : GX) (b : ST) (xs : List D) : loopK2 g b xs (.ok .bk s) = .ok .nx s := (rfl)
@[simp] theorem loopK2_rt (g : GX) (b : ST) (xs : List D) : loopK2 g b xs (.ok (.rt d) s) = .ok (.rt d) s := (rfl)
@[simp] theorem loopK2_ex (g : GX) (b : ST) (xs : List D) : loopK2 g b xs (.ex c fs s) = .ex c fs s := (rfl)
def sForK (g : GX) (b : ST) (r : Res En (List D)) : Res En Flow := r.bind fun xs s => loop g b xs s
@[simp] theorem sForK_ok (g : GX) (b : ST) (xs : List D) : sForK g b (.ok xs s) = loop g b xs s := (rfl)
@[simp] theorem sForK_ex (g : GX) (b : ST) : sForK g b (.ex c fs s) = .ex c fs s := (rfl)
def whileK2 (t : TX) (b : ST) (n : Nat) (r : Res En Flow) : Res En Flow := r.bind fun f s => match f with
      | .nx => whileN t b n s
      | .ct => whileN t b n s
      | .bk => .ok .nx s
      | .rt d => .ok (.rt d) s
def whileK (t : TX) (b : ST) (n : Nat) (r : Res En Bool) : Res En Flow := r.bind fun c s => if c then whileK2 t b n (b s) else .ok .nx s
@[simp] theorem whileK_ok (t : TX) (u : ST) (n : Nat) : whileK t u n (.ok b s) = if b = true then whileK2 t u n (u s) else .ok .nx s := (rfl)
@[simp] theorem whileK_ex (t : TX) (u : ST) (n : Nat) : whileK t u n (.ex c fs s) = .ex c fs s := (rfl)
@[simp] theorem whileK2_nx (t : TX) (b : ST) (n : Nat) : whileK2 t b n (.ok .nx s) = whileN t b n s := (rfl)
@[simp] theorem whileK2_ct (t : TX) (b : ST) (n : Nat) : whileK2 t b n (.ok .ct s) = whileN t b n s := (rfl)
@[simp] theorem whileK2_bk (t : TX) (b : ST) (n : Nat) : whileK2 t b n (.ok .bk s) = .ok .nx s := (rfl)
@[simp] theorem whileK2_rt (t : TX) (b : ST) (n : Nat) : whileK2 t b n (.ok (.rt d) s) = .ok (.rt d) s := (rfl)
@[simp] theorem whileK2_ex (t : TX) (b : ST) (n : Nat) : whileK2 t b n (.ex c fs s) = .ex c fs s := (rfl)
def sAppK2 (i : Nat) (d : D) (s : En) : Option (Option D) → Res En Flow
  | some (some (.lst xs)) => if xs.length < line then .ok .nx (s.set i (some (.lst (xs ++ [d])))) else .no
  | _ => .no
def sAppK (i : Nat) (r : Res En D) : Res En Flow := r.bind fun d s => sAppK2 i d s s[i]?
@[simp] theorem sAppK_ok (i : Nat) : sAppK i (.ok d s) = sAppK2 i d s s[i]? := (rfl)
@[simp] theorem sAppK_ex (i : Nat) : sAppK i (.ex c fs s) = .ex c fs s := (rfl)
@[simp] theorem sAppK2_ok (i : Nat) (xs : List D) : sAppK2 i d s (some (some (.lst xs))) = if xs.length < line then .ok .nx (s.set i (some (.lst (xs ++ [d])))) else .no := (rfl)
def sExtK2 (i : Nat) (d : D) (s : En) (o : Option (Option D)) : Res En Flow := match o, d with
  | some (some (.lst xs)), .lst ys => if xs.length + ys.length ≤ line then .ok .nx (s.set i (some (.lst (xs ++ ys)))) else .no
  | _, _ => .no
def sExtK (i : Nat) (r : Res En D) : Res En Flow := r.bind fun d s => sExtK2 i d s s[i]?
@[simp] theorem sExtK_ok (i : Nat) : sExtK i (.ok d s) = sExtK2 i d s s[i]? := (rfl)
@[simp] theorem sExtK_ex (i : Nat) : sExtK i (.ex c fs s) = .ex c fs s := (rfl)
@[simp] theorem sExtK2_ok (i : Nat) (xs ys : List D) : sExtK2 i (.lst ys) s (some (some (.lst xs))) = if xs.length + ys.length ≤ line then .ok .nx (s.set i (some (.lst (xs ++ ys)))) else .no := (rfl)
def sPutK3 (i : Nat) (d : D) (s : En) (xs : List D) : Option Nat → Res En Flow
  | some n => .ok .nx (s.set i (some (.lst (xs.set n d))))
  | none => .no
def sPutK2 (i : Nat) (d x : D) (s : En) (o : Option (Option D)) : Res En Flow := match o, x with
  | some (some (.lst xs)), .int j => sPutK3 i d s xs (ixD xs.length j)
  | _, _ => .no
def sPutK1 (i : Nat) (d : D) (r : Res En D) : Res En Flow := r.bind fun x s => sPutK2 i d x s s[i]?
def sPutK (i : Nat) (k : EX) (r : Res En D) : Res En Flow := r.bind fun d s => if hasL s i then sPutK1 i d (k s) else .no
@[simp] theorem sPutK_ok (i : Nat) (k : EX) : sPutK i k (.ok d s) = if hasL s i = true then sPutK1 i d (k s) else .no := (rfl)
@[simp] theorem sPutK_ex (i : Nat) (k : EX) : sPutK i k (.ex c fs s) = .ex c fs s := (rfl)
@[simp] theorem sPutK1_ok (i : Nat) : sPutK1 i d (.ok x s) = sPutK2 i d x s s[i]? := (rfl)
@[simp] theorem sPutK1_ex (i : Nat) : sPutK1 i d (.ex c fs s) = .ex c fs s := (rfl)
@[simp] theorem sPutK2_ok (i : Nat) (j : Int) (xs : List D) : sPutK2 i d (.int j) s (some (some (.lst xs))) = sPutK3 i d s xs (ixD xs.length j) := (rfl)
@[simp] theorem sPutK3_some (i n : Nat) (xs : List D) : sPutK3 i d s xs (some n) = .ok .nx (s.set i (some (.lst (xs.set n d)))) := (rfl)
def sAsgNSK3 (j : Nat) (y : D) (s : En) (xs : List D) : Option Nat → Res En Flow
  | some n => .ok .nx (s.set j (some (.lst (xs.set n y))))
  | none => .no
def sAsgNSK2 (j : Nat) (y z : D) (s : En) (o : Option (Option D)) : Res En Flow := match o, z with
    | some (some (.lst xs)), .int m => sAsgNSK3 j y s xs (ixD xs.length m)
    | _, _ => .no
def sAsgNSK1 (j : Nat) (y : D) (r : Res En D) : Res En Flow := r.bind fun z s => sAsgNSK2 j y z s s[j]?
def sAsgNSK (i j : Nat) (k : EX) (r : Res En D) : Res En Flow := r.bind fun d s => match d with
  | .tup [x, y] => if hasL (s.set i (some x)) j then sAsgNSK1 j y (k (s.set i (some x))) else .no
  | _ => .no
@[simp] theorem sAsgNSK_ok (i j : Nat) (k : EX) : sAsgNSK i j k (.ok (.tup [x, y]) s) = if hasL (s.set i (some x)) j = true then sAsgNSK1 j y (k (s.set i (some x))) else .no := (rfl)
@[simp] theorem sAsgNSK_ex (i j : Nat) (k : EX) : sAsgNSK i j k (.ex c fs s) = .ex c fs s := (rfl)
@[simp] theorem sAsgNSK1_ok (j : Nat) : sAsgNSK1 j y (.ok x s) = sAsgNSK2 j y x s s[j]? := (rfl)
@[simp] theorem sAsgNSK2_ok (j : Nat) (m : Int) (xs : List D) : sAsgNSK2 j y (.int m) s (some (some (.lst xs))) = sAsgNSK3 j y s xs (ixD xs.length m) := (rfl)
@[simp] theorem sAsgNSK3_some (j n : Nat) (xs : List D) : sAsgNSK3 j y s xs (some n) = .ok .nx (s.set j (some (.lst (xs.set n y)))) := (rfl)
/-- comprehensions -/
def eLcK2 (own : List Nat) (s : En) (r : Res En (List D)) : Res En D := r.bind fun ds s2 => .ok (.lst ds) (unwipeD own s s2)
def eLcK (own : List Nat) (g : GX) (t : TX) (e : EX) (r : Res En (List D)) : Res En D := r.bind fun xs s => eLcK2 own s (lcGo own g t e xs [] (wipeD s own))
@[simp] theorem eLcK_ok (own : List Nat) (g : GX) (t : TX) (e : EX) (xs : List D) : eLcK own g t e (.ok xs s) = eLcK2 own s (lcGo own g t e xs [] (wipeD s own)) := (rfl)
@[simp] theorem eLcK_ex (own : List Nat) (g : GX) (t : TX) (e : EX) : eLcK own g t e (.ex c fs s) = .ex c fs s := (rfl)
@[simp] theorem eLcK2_ok (own : List Nat) (s1 : En) (ds : List D) : eLcK2 own s1 (.ok ds s) = .ok (.lst ds) (unwipeD own s1 s) := (rfl)
def lcK3 (own : List Nat) (g : GX) (t : TX) (e : EX) (xs acc : List D) (r : Res En D) : Res En (List D) := (noX r).bind fun d s => if acc.length < line then lcGo own g t e xs (acc ++ [d]) (wipeD s own) else .no
def lcK2 (own : List Nat) (g : GX) (t : TX) (e : EX) (xs acc : List D) (r : Res En Bool) : Res En (List D) := (noX r).bind fun c s => if c then lcK3 own g t e xs acc (e s) else lcGo own g t e xs acc (wipeD s own)
def lcK (own : List Nat) (g : GX) (t : TX) (e : EX) (xs acc : List D) (r : Res En Unit) : Res En (List D) := (noX r).bind fun _ s => lcK2 own g t e xs acc (t s)
@[simp] theorem lcK_ok (own : List Nat) (g : GX) (t : TX) (e : EX) (xs acc : List D) (u : Unit) : lcK own g t e xs acc (.ok u s) = lcK2 own g t e xs acc (t s) := (rfl)
@[simp] theorem lcK2_ok (own : List Nat) (g : GX) (t : TX) (e : EX) (xs acc : List D) : lcK2 own g t e xs acc (.ok b s) = if b = true then lcK3 own g t e xs acc (e s) else lcGo own g t e xs acc (wipeD s own) := (rfl)
@[simp] theorem lcK3_ok (own : List Nat) (g : GX) (t : TX) (e : EX) (xs acc : List D) : lcK3 own g t e xs acc (.ok d s) = if acc.length < line then lcGo own g t e xs (acc ++ [d]) (wipeD s own) else .no := (rfl)
theorem lcGo_nil (own : List Nat) (g : GX) (t : TX) (e : EX) (acc : List D) : lcGo own g t e [] acc s = .ok acc s := (rfl)
theorem lcGo_cons (own : List Nat) (g : GX) (t : TX) (e : EX) (x : D) (xs acc : List D) : lcGo own g t e (x :: xs) acc s = lcK own g t e xs acc (g x (wipeD s own)) := (rfl)
theorem lcGo_all {own : List Nat} {g : GX} {t : TX} {e : EX} {s0 : En} (P : D → Prop) (F : D → D) (c : D → Bool) (h : ∀ x, P x → ∀ acc xs, lcGo own g t e (x :: xs) acc s0 = if c x = true then (if acc.length < line then lcGo own g t e xs (acc ++ [F x]) s0 else .no) else lcGo own g t e xs acc s0) :
    ∀ (xs acc : List D), (∀ x ∈ xs, P x) → acc.length + xs.length ≤ line → lcGo own g t e xs acc s0 = .ok (acc ++ (xs.filter c).map F) s0
  | [], acc, _, _ => by simp [lcGo_nil]
  | x :: xs, acc, hp, hl => by
    rw [h x (hp x List.mem_cons_self)]
    rw [List.length_cons] at hl
    have hp' : ∀ y ∈ xs, P y := fun y hy => hp y (List.mem_cons_of_mem _ hy)
    by_cases hc : c x = true
    · rw [if_pos hc, if_pos (by omega), lcGo_all P F c h xs (acc ++ [F x]) hp' (by rw [List.length_append, List.length_singleton]; omega), List.filter_cons_of_pos hc]
      simp
    · rw [if_neg hc, lcGo_all P F c h xs acc hp' (by omega), List.filter_cons_of_neg hc]
theorem lcGo_map {own : List Nat} {g : GX} {t : TX} {e : EX} {s0 : En} (P : D → Prop) (F : D → D) (h : ∀ x, P x → ∀ acc xs, lcGo own g t e (x :: xs) acc s0 = if acc.length < line then lcGo own g t e xs (acc ++ [F x]) s0 else .no) (xs acc : List D) (hp : ∀ x ∈ xs, P x) (hl : acc.length + xs.length ≤ line) :
    lcGo own g t e xs acc s0 = .ok (acc ++ xs.map F) s0 := by
  have q := lcGo_all (own := own) (g := g) (t := t) (e := e) (s0 := s0) P F (fun _ => true) (fun x hx acc xs => by rw [h x hx]; simp) xs acc hp hl
  rw [List.filter_eq_self.mpr (fun _ _ => rfl)] at q
  exact q
@[simp] theorem wipeD_nil : wipeD s [] = s := (rfl)
@[simp] theorem wipeD_cons (v : Nat) (vs : List Nat) : wipeD s (v :: vs) = (wipeD s vs).set v none := (rfl)
@[simp] theorem unwipeD_nil (s2 : En) : unwipeD [] s s2 = s2 := (rfl)
@[simp] theorem unwipeD_cons (i : Nat) (is : List Nat) (s2 : En) : unwipeD (i :: is) s s2 = unwipeD is s (s2.set i (s.getD i none)) := (rfl)
/-- calls -/
def callK2 {S : Type} (s : En) : Res S D → Res En D
    | .ok d _ => .ok d s
    | .ex c fs _ => .ex c fs s
    | .no => .no
def callK (n : Nat) (f : FN) (r : Res En (List D)) : Res En D := r.bind fun ds s => if ds.length = n then callK2 s (f ds) else .no
@[simp] theorem callK_ok (n : Nat) (f : FN) (ds : List D) : callK n f (.ok ds s) = if ds.length = n then callK2 s (f ds) else .no := (rfl)
@[simp] theorem callK_ex (n : Nat) (f : FN) : callK n f (.ex c fs s) = .ex c fs s := (rfl)
@[simp] theorem callK2_ok {S : Type} (z : S) : callK2 s (.ok d z) = .ok d s := (rfl)
@[simp] theorem callK2_ex {S : Type} (z : S) : callK2 s (.ex c fs z) = .ex c fs s := (rfl)
def call0K {S : Type} (s : En) : Res S D → Res En D
    | .ok d _ => .ok d s
    | _ => .no
@[simp] theorem call0K_ok {S : Type} (z : S) : call0K s (.ok d z) = .ok d s := (rfl)
def callIOK3 (l : List AX) (s : En) : Res (List D) D → Res En D
    | .ok d es => .ok d (axBack l es s)
    | .ex c fs es => .ex c fs (axBack l es s)
    | .no => .no
@[simp] theorem callIOK3_ok (l : List AX) (es : List D) : callIOK3 l s (.ok d es) = .ok d (axBack l es s) := (rfl)
@[simp] theorem callIOK3_ex (l : List AX) (es : List D) : callIOK3 l s (.ex c fs es) = .ex c fs (axBack l es s) := (rfl)
def callIOK2 (f : FN) (l : List AX) (s : En) : Option (List D) → Res En D
  | some ds => callIOK3 l s (f ds)
  | none => .no
@[simp] theorem callIOK2_some (f : FN) (l : List AX) (ds : List D) : callIOK2 f l s (some ds) = callIOK3 l s (f ds) := (rfl)
def callIOK (f : FN) (l l2 : List AX) (os' : List (Option D)) (r : Res En (List (Option D))) : Res En D := r.bind fun os s => callIOK2 f l2 s (axFill l2 (os ++ os') s)
@[simp] theorem callIOK_ok (f : FN) (l l2 : List AX) (os os' : List (Option D)) : callIOK f l l2 os' (.ok os s) = callIOK2 f l2 s (axFill l2 (os ++ os') s) := (rfl)
@[simp] theorem callIOK_ex (f : FN) (l l2 : List AX) (os' : List (Option D)) : callIOK f l l2 os' (.ex c fs s) = .ex c fs s := (rfl)
def axsK2 (d : D) (r : Res En (List (Option D))) : Res En (List (Option D)) := r.bind fun ds s => .ok (some d :: ds) s
def axsK (l : List AX) (r : Res En D) : Res En (List (Option D)) := r.bind fun d s => axsK2 d (axs l s)
@[simp] theorem axsK_ok (l : List AX) : axsK l (.ok d s) = axsK2 d (axs l s) := (rfl)
@[simp] theorem axsK_ex (l : List AX) : axsK l (.ex c fs s) = .ex c fs s := (rfl)
@[simp] theorem axsK2_ok (ds : List (Option D)) : axsK2 d (.ok ds s) = .ok (some d :: ds) s := (rfl)
@[simp] theorem axsK2_ex : axsK2 d (.ex c fs s) = .ex c fs s := (rfl)
def axsN (r : Res En (List (Option D))) : Res En (List (Option D)) := r.bind fun ds s => .ok (none :: ds) s
@[simp] theorem axsN_ok (ds : List (Option D)) : axsN (.ok ds s) = .ok (none :: ds) s := (rfl)
@[simp] theorem axsN_ex : axsN (.ex c fs s) = .ex c fs s := (rfl)
def axInK : Option (Option D) → Bool
    | some (some _) => true
    | _ => false
@[simp] theorem axInK_ok : axInK (some (some d)) = true := (rfl)
def axFillK (o : Option (Option D)) (r : Option (List D)) : Option (List D) := match o with
    | some (some d) => r.map (d :: ·)
    | _ => none
@[simp] theorem axFillK_ok (r : Option (List D)) : axFillK (some (some d)) r = r.map (d :: ·) := (rfl)
def eIxOK2 (s : En) (y : D) : Option (Option D) → Res En D
  | some (some (.lst xs)) => ofO (pIx (.lst xs) y) s
  | _ => .no
def eIxOK (i : Nat) (r : Res En D) : Res En D := r.bind fun y s => eIxOK2 s y s[i]?
@[simp] theorem eIxOK_ok (i : Nat) : eIxOK i (.ok y s) = eIxOK2 s y s[i]? := (rfl)
@[simp] theorem eIxOK_ex (i : Nat) : eIxOK i (.ex c fs s) = .ex c fs s := (rfl)
@[simp] theorem eIxOK2_ok (xs : List D) : eIxOK2 s y (some (some (.lst xs))) = ofO (pIx (.lst xs) y) s := (rfl)
def eCaughtK (cs : List String) : Res En D → Res En D
    | .ok _ s' => .ok .non s'
    | .ex c fs s' => if cs.contains c then .ok (.exn c fs) s' else .no
    | .no => .no
@[simp] theorem eCaughtK_ok (cs : List String) : eCaughtK cs (.ok d s) = .ok .non s := (rfl)
@[simp] theorem eCaughtK_ex (cs : List String) : eCaughtK cs (.ex c fs s) = if cs.contains c = true then .ok (.exn c fs) s else .no := (rfl)
def eCaughtK2 (cs : List String) (a : EX) (s : En) : Option (Option D) → Res En D
  | some (some .non) => eCaughtK cs (a s)
  | _ => .no
@[simp] theorem eCaughtK2_ok (cs : List String) (a : EX) : eCaughtK2 cs a s (some (some .non)) = eCaughtK cs (a s) := (rfl)
end
/-! ### the combinators -/
section
variable (s : En)
@[simp] theorem eV_ap (i : Nat) : eV i s = eVK s[i]? s := by
  unfold eV
  rcases s[i]? with _ | _ | d <;> rfl
@[simp] theorem eC_ap (d : D) : eC d s = .ok d s := (rfl)
@[simp] theorem e1_ap (p : P1) (a : EX) : e1 p a s = e1K p (a s) := (rfl)
@[simp] theorem e2_ap (p : P2) (a b : EX) : e2 p a b s = e2K p b (a s) := (rfl)
@[simp] theorem eCh_ap (p q : P2) (a b c : EX) : eCh p q a b c s = eChK p q b c (a s) := (rfl)
@[simp] theorem uB_ap (a : EX) : uB a s = uBK (a s) := (rfl)
@[simp] theorem uTr_ap (a : EX) : uTr a s = uTrK (a s) := (rfl)
@[simp] theorem uNot_ap (a : TX) : uNot a s = uNotK (a s) := (rfl)
@[simp] theorem uAnd_ap (a b : TX) : uAnd a b s = uAndK b (a s) := (rfl)
@[simp] theorem uOr_ap (a b : TX) : uOr a b s = uOrK b (a s) := (rfl)
@[simp] theorem uYes_ap : uYes s = .ok true s := (rfl)
@[simp] theorem eNot_ap (a : EX) : eNot a s = eNotK (a s) := (rfl)
@[simp] theorem eAnd_ap (a b : EX) : PL.eAnd a b s = eAndK b (a s) := (rfl)
@[simp] theorem eOr_ap (a b : EX) : PL.eOr a b s = eOrK b (a s) := (rfl)
@[simp] theorem eIf_ap (t : TX) (a b : EX) : PL.eIf t a b s = eIfK a b (t s) := (rfl)
@[simp] theorem lNil_ap : lNil s = .ok [] s := (rfl)
@[simp] theorem lCons_ap (a : EX) (r : LX) : lCons a r s = lConsK r (a s) := (rfl)
@[simp] theorem lStar_ap (a : EX) (r : LX) : lStar a r s = lStarK r (a s) := (rfl)
@[simp] theorem eTup_ap (l : LX) : eTup l s = eTupK (l s) := (rfl)
@[simp] theorem eLst_ap (l : LX) : eLst l s = eLstK (l s) := (rfl)
@[simp] theorem oNone_ap : oNone s = .ok none s := (rfl)
@[simp] theorem oSome_ap (a : EX) : oSome a s = oSomeK (a s) := (rfl)
@[simp] theorem eSl_ap (a : EX) (lo hi : OX) : eSl a lo hi s = eSlK lo hi (a s) := (rfl)
@[simp] theorem eB_ap (p : PL.PL) (l : LX) : eB p l s = eBK p (l s) := (rfl)
@[simp] theorem eIdx_ap (a b : EX) : eIdx a b s = eIdxK b (a s) := (rfl)
@[simp] theorem itAny_ap (a : EX) : itAny a s = itAnyK (a s) := (rfl)
@[simp] theorem itR1_ap (a : EX) : itR1 a s = itR1K (a s) := (rfl)
@[simp] theorem itR2_ap (a b : EX) : itR2 a b s = itR2K b (a s) := (rfl)
@[simp] theorem itEnum_ap (a : EX) : itEnum a s = itEnumK (a s) := (rfl)
@[simp] theorem itZip_ap (a b : EX) : itZip a b s = itZipK b (a s) := (rfl)
@[simp] theorem gT_ap (is : List Nat) (f : DC) (d : D) : gT is f d s = gTK is s (f d) := (rfl)
@[simp] theorem dNm_ap (d : D) : dNm d = some [d] := (rfl)
@[simp] theorem dTup_ap (fs : List DC) (xs : List D) : dTup fs (.tup xs) = dcs fs xs := (rfl)
@[simp] theorem dcs_nil : dcs [] [] = some [] := (rfl)
@[simp] theorem dcs_cons (f : DC) (fs : List DC) (d : D) (ds : List D) : dcs (f :: fs) (d :: ds) = dcsK (f d) (dcs fs ds) := by
  rw [dcs]; unfold dcsK; rfl
@[simp] theorem putE_nil (ds : List D) : putE s [] ds = s := (rfl)
@[simp] theorem putE_cons (i : Nat) (is : List Nat) (d : D) (ds : List D) : putE s (i :: is) (d :: ds) = putE (s.set i (some d)) is ds := (rfl)
@[simp] theorem sSkip_ap : sSkip s = .ok .nx s := (rfl)
@[simp] theorem sSeq_ap (a b : ST) : sSeq a b s = sSeqK b (a s) := (rfl)
@[simp] theorem sSet_ap (i : Nat) (a : EX) : sSet i a s = sSetK i (a s) := (rfl)
@[simp] theorem sPar_ap (is : List Nat) (l : LX) : sPar is l s = sParK is (l s) := (rfl)
@[simp] theorem sAsg_ap (is : List Nat) (f : DC) (a : EX) : sAsg is f a s = sAsgK is f (a s) := (rfl)
@[simp] theorem sIf_ap (t : TX) (a b : ST) : sIf t a b s = sIfK a b (t s) := (rfl)
@[simp] theorem sRet_ap (a : EX) : sRet a s = sRetK (a s) := (rfl)
@[simp] theorem sBrk_ap : sBrk s = .ok .bk s := (rfl)
@[simp] theorem sCnt_ap : sCnt s = .ok .ct s := (rfl)
@[simp] theorem sExp_ap (a : EX) : sExp a s = sExpK (a s) := (rfl)
@[simp] theorem sRaise0_ap (c : String) : sRaise0 c s = .ex c [] s := (rfl)
@[simp] theorem sRaise1_ap (c f : String) (a : EX) : sRaise1 c f a s = sRaise1K c f (a s) := (rfl)
theorem loop_nil (g : GX) (b : ST) : loop g b [] s = .ok .nx s := (rfl)
theorem loop_cons (g : GX) (b : ST) (x : D) (xs : List D) : loop g b (x :: xs) s = loopK g b xs (g x s) := (rfl)
@[simp] theorem sFor_ap (it : LX) (g : GX) (b : ST) : sFor it g b s = sForK g b (it s) := (rfl)
theorem sWhile_ap (fuel : En → Nat) (t : TX) (b : ST) : sWhile fuel t b s = whileN t b (fuel s) s := (rfl)
theorem whileN_succ (t : TX) (b : ST) (n : Nat) : whileN t b (n + 1) s = whileK t b n (t s) := (rfl)
@[simp] theorem sApp_ap (i : Nat) (a : EX) : sApp i a s = if hasL s i = true then sAppK i (a s) else .no := (rfl)
@[simp] theorem sExt_ap (i : Nat) (a : EX) : sExt i a s = if hasL s i = true then sExtK i (a s) else .no := (rfl)
@[simp] theorem sPut_ap (i : Nat) (k a : EX) : sPut i k a s = sPutK i k (a s) := (rfl)
@[simp] theorem sAsgNS_ap (i j : Nat) (k a : EX) : sAsgNS i j k a s = sAsgNSK i j k (a s) := (rfl)
@[simp] theorem eLc_ap (it : LX) (own : List Nat) (g : GX) (t : TX) (e : EX) : eLc it own g t e s = eLcK own g t e (it s) := (rfl)
@[simp] theorem hasL_cons0 (xs : List D) : hasL (some (.lst xs) :: s) 0 = true := (rfl)
@[simp] theorem hasL_cons1 (d : Option D) (i : Nat) : hasL (d :: s) (i + 1) = hasL s i := by simp [hasL]
@[simp] theorem eCall_ap (n : Nat) (f : FN) (l : LX) : eCall n f l s = callK n f (l s) := by
  unfold eCall callK
  congr 1
  funext ds s
  split
  · cases f ds <;> rfl
  · rfl
@[simp] theorem eCall0_ap (f : FN) : eCall0 f s = call0K s (f []) := by
  unfold eCall0
  cases f [] <;> rfl
@[simp] theorem eCallIO_ap (f : FN) (l : List AX) : eCallIO f l s = if axIn s l = true then callIOK f l l [] (axs l s) else .no := by
  unfold eCallIO callIOK; simp only [List.append_nil]; rfl
@[simp] theorem eCallH_ap (f : FN) (l : List AX) (g : Nat) : eCallH f l g s = if axIn s l = true then callIOK f l (l ++ [.io g]) [none] (axs l s) else .no := (rfl)
@[simp] theorem axIn_nil : axIn s [] = true := (rfl)
@[simp] theorem axIn_v (a : EX) (r : List AX) : axIn s (.v a :: r) = axIn s r := (rfl)
@[simp] theorem axIn_io (i : Nat) (r : List AX) : axIn s (.io i :: r) = (axInK s[i]? && axIn s r) := (rfl)
@[simp] theorem axs_nil : axs [] s = .ok [] s := (rfl)
@[simp] theorem axs_v (a : EX) (r : List AX) : axs (.v a :: r) s = axsK r (a s) := (rfl)
@[simp] theorem axs_io (i : Nat) (r : List AX) : axs (.io i :: r) s = axsN (axs r s) := (rfl)
@[simp] theorem axFill_nil : axFill [] [] s = some [] := (rfl)
@[simp] theorem axFill_v (a : EX) (r : List AX) (d : D) (ds : List (Option D)) : axFill (.v a :: r) (some d :: ds) s = (axFill r ds s).map (d :: ·) := (rfl)
@[simp] theorem axFill_io (i : Nat) (r : List AX) (ds : List (Option D)) : axFill (.io i :: r) (none :: ds) s = axFillK s[i]? (axFill r ds s) := (rfl)
@[simp] theorem axBack_v (a : EX) (r : List AX) (d : D) (ds : List D) : axBack (.v a :: r) (d :: ds) s = axBack r ds s := (rfl)
@[simp] theorem axBack_io (i : Nat) (r : List AX) (d : D) (ds : List D) : axBack (.io i :: r) (d :: ds) s = axBack r ds (s.set i (some d)) := (rfl)
@[simp] theorem axBack_nil (ds : List D) : axBack [] ds s = s := by cases ds <;> rfl
@[simp] theorem eIxO_ap (i : Nat) (k : EX) : eIxO i k s = if hasL s i = true then eIxOK i (k s) else .no := (rfl)
@[simp] theorem eCaughtL_ap (cs : List String) (g : Nat) (a : EX) : eCaughtL cs g a s = eCaughtK2 cs a s s[g]? := by
  unfold eCaughtL eCaughtK2 eCaughtK
  rfl
end
/-! ### defs -/
@[simp] theorem finD_nil (args : List D) (s : En) : finD args [] s = args := by
  unfold finD
  simp only [List.contains_nil]
  refine List.ext_getElem? fun i => ?_
  simp [List.getElem?_zipWith, List.getElem?_range]
  by_cases h : i < args.length
  · simp [h]
  · simp [h]
def finGo (io : List Nat) (s : En) : Nat → List D → List D
  | _, [] => []
  | k, d :: ds => (if io.contains k = true then (s.getD k none).getD d else d) :: finGo io s (k + 1) ds
theorem finGo_eq (io : List Nat) (s : En) : ∀ (ds : List D) (k : Nat), (List.range' k ds.length).zipWith (fun i d => if io.contains i then ((s.getD i none).getD d) else d) ds = finGo io s k ds
  | [], k => rfl
  | d :: ds, k => by
    rw [List.length_cons, List.range'_succ, List.zipWith_cons_cons, finGo_eq io s ds (k + 1), finGo]
theorem finD_go (args : List D) (io : List Nat) (s : En) : finD args io s = finGo io s 0 args := by
  rw [← finGo_eq, ← List.range_eq_range']; rfl
@[simp] theorem finGo_nil (io : List Nat) (s : En) (k : Nat) : finGo io s k [] = [] := rfl
@[simp] theorem finGo_cons (io : List Nat) (s : En) (k : Nat) (d : D) (ds : List D) : finGo io s k (d :: ds) = (if io.contains k = true then (s.getD k none).getD d else d) :: finGo io s (k + 1) ds := (rfl)
@[simp] theorem finD_one (args : List D) (a : Nat) (io : List Nat) (s : En) : finD args (a :: io) s = finGo (a :: io) s 0 args := finD_go _ _ _
@[simp] theorem ioOk_cons (a : Nat) (io : List Nat) (s : En) : ioOk (a :: io) s = ((s.getD a none).isSome && ioOk io s) := by simp [ioOk]
@[simp] theorem ioOk_nil (s : En) : ioOk [] s = true := (rfl)
def fnK (io : List Nat) (args : List D) : Res En Flow → Res (List D) D
  | .ok .nx s => if ioOk io s then .ok .non (finD args io s) else .no
  | .ok (.rt d) s => if ioOk io s then .ok d (finD args io s) else .no
  | .ok _ _ => .no
  | .ex c fs s => if ioOk io s then .ex c fs (finD args io s) else .no
  | .no => .no
@[simp] theorem fnK_nx (io : List Nat) (args : List D) (s : En) : fnK io args (.ok .nx s) = if ioOk io s = true then .ok .non (finD args io s) else .no := (rfl)
@[simp] theorem fnK_rt (io : List Nat) (args : List D) (s : En) (d : D) : fnK io args (.ok (.rt d) s) = if ioOk io s = true then .ok d (finD args io s) else .no := (rfl)
@[simp] theorem fnK_ex (io : List Nat) (args : List D) (s : En) (c : String) (fs : List (String × D)) : fnK io args (.ex c fs s) = if ioOk io s = true then .ex c fs (finD args io s) else .no := (rfl)
theorem fnB_ap (n : Nat) (io : List Nat) (b : ST) (args : List D) : fnB n io b args = fnK io args (b (args.map some ++ List.replicate (n - args.length) none)) := by
  unfold fnB fnK; rfl
/-! ### operators -/
section
variable (i j : Int) (a b : D) (x y : Bool)
@[simp] theorem pAdd_int : pAdd (.int i) (.int j) = some (.int (i + j)) := (rfl)
@[simp] theorem pSub_int : pSub (.int i) (.int j) = some (.int (i - j)) := (rfl)
@[simp] theorem pLt_int : pLt (.int i) (.int j) = some (.bl (decide (i < j))) := (rfl)
@[simp] theorem pLe_int : pLe (.int i) (.int j) = some (.bl (decide (i ≤ j))) := (rfl)
@[simp] theorem pGt_int : pGt (.int i) (.int j) = some (.bl (decide (j < i))) := (rfl)
@[simp] theorem pGe_int : pGe (.int i) (.int j) = some (.bl (decide (j ≤ i))) := (rfl)
@[simp] theorem pEq_int : pEq (.int i) (.int j) = some (.bl (decide (i = j))) := by
  simp [pEq, plainD, eqv]
  rfl
@[simp] theorem pNe_int : pNe (.int i) (.int j) = some (.bl (!decide (i = j))) := by
  simp [pNe, plainD, eqv]
  rfl
@[simp] theorem pEq_bl : pEq (.bl x) (.bl y) = some (.bl (x == y)) := by simp [pEq, plainD, eqv]
@[simp] theorem pAdd_lst (u v : List D) : pAdd (.lst u) (.lst v) = if u.length + v.length ≤ line then some (.lst (u ++ v)) else none := (rfl)
theorem pMod_int (h : 0 < j) : pMod (.int i) (.int j) = some (.int (i % j)) := by
  show (if 0 < j then some (D.int (i % j)) else none) = _
  rw [if_pos h]
theorem pDivW_int (h : 0 < j) (h2 : j.natAbs < 2 ^ 9000) : pDivW (.int i) (.int j) = some (.int (i / j)) := by
  show (if 0 < j ∧ j.natAbs < 2 ^ 9000 then some (D.int (i / j)) else none) = _
  rw [if_pos ⟨h, h2⟩]
theorem smallI_of {i : Int} (h : -(2 ^ 64) < i ∧ i < 2 ^ 64) : smallI i = true := by unfold smallI; exact decide_eq_true h
theorem pMulI_l (h : -(2 ^ 64) < i ∧ i < 2 ^ 64) : pMulI (.int i) (.int j) = some (.int (i * j)) := by
  show (if (smallI i || smallI j) = true then some (D.int (i * j)) else none) = _
  rw [smallI_of h]; simp
theorem pMulI_r (h : -(2 ^ 64) < j ∧ j < 2 ^ 64) : pMulI (.int i) (.int j) = some (.int (i * j)) := by
  show (if (smallI i || smallI j) = true then some (D.int (i * j)) else none) = _
  rw [smallI_of h]; simp
theorem pPow_int (h : 0 ≤ j ∧ j ≤ 1000000 ∧ i.natAbs < 2 ^ 64) : pPow (.int i) (.int j) = some (.int (i ^ j.toNat)) := by
  show (if 0 ≤ j ∧ j ≤ 1000000 ∧ i.natAbs < 2 ^ 64 then some (D.int (i ^ j.toNat)) else none) = _
  rw [if_pos h]
@[simp] theorem pIsN_ap : pIsN a = some (.bl (isNonD a)) := (rfl)
@[simp] theorem pNotN_ap : pNotN a = some (.bl (!isNonD a)) := (rfl)
@[simp] theorem isNonD_int : isNonD (.int i) = false := (rfl)
@[simp] theorem isNonD_non : isNonD .non = true := (rfl)
@[simp] theorem isNonD_str (s : List Nat) : isNonD (.str s) = false := (rfl)
@[simp] theorem isNonD_tup (s : List D) : isNonD (.tup s) = false := (rfl)
@[simp] theorem isNonD_lst (s : List D) : isNonD (.lst s) = false := (rfl)
@[simp] theorem isNonD_bl : isNonD (.bl x) = false := (rfl)
@[simp] theorem pLen_lst (s : List D) : pLen [.lst s] = some (.int s.length) := (rfl)
@[simp] theorem pLen_tup (s : List D) : pLen [.tup s] = some (.int s.length) := (rfl)
@[simp] theorem pLen_str (s : List Nat) : pLen [.str s] = if s.length ≤ line then some (.int s.length) else none := (rfl)
@[simp] theorem pInt_int : pInt [.int i] = some (.int i) := (rfl)
@[simp] theorem pTuple_lst (s : List D) : pTuple [.lst s] = some (.tup s) := (rfl)
@[simp] theorem pTuple_tup (s : List D) : pTuple [.tup s] = some (.tup s) := (rfl)
@[simp] theorem pIx_lst (s : List D) : pIx (.lst s) (.int i) = atD s i := (rfl)
@[simp] theorem pIx_tup (s : List D) : pIx (.tup s) (.int i) = atD s i := (rfl)
@[simp] theorem pIx_str (s : List Nat) : pIx (.str s) (.int i) = if s.length ≤ line then (atD s i).map fun c => .str [c] else none := (rfl)
theorem atD_nat {A : Type} (xs : List A) (n : Nat) : atD xs (n : Int) = xs[n]? := by
  unfold atD ixD
  rw [if_pos (by omega)]
  by_cases h : n < xs.length
  · rw [if_pos (by omega)]; simp
  · rw [if_neg (by omega)]; simp; omega
theorem atD_of {A : Type} (xs : List A) (i : Int) (n : Nat) (h : i = n) : atD xs i = xs[n]? := by rw [h, atD_nat]
theorem rangeL_succ (lo : Int) (n : Nat) : rangeL lo (n + 1) = .int lo :: rangeL (lo + 1) n := by
  unfold rangeL
  rw [List.range_succ_eq_map]
  simp
  intro a _
  omega
theorem rangeL_zero (lo : Int) : rangeL lo 0 = [] := (rfl)
@[simp] theorem line_le1 : 1 ≤ line := by decide
@[simp] theorem line_le2 : 2 ≤ line := by decide
@[simp] theorem line_le3 : 3 ≤ line := by decide
@[simp] theorem line_le4 : 4 ≤ line := by decide
@[simp] theorem line_le5 : 5 ≤ line := by decide
@[simp] theorem line_le6 : 6 ≤ line := by decide
@[simp] theorem line_le7 : 7 ≤ line := by decide
@[simp] theorem line_le8 : 8 ≤ line := by decide
@[simp] theorem line_le9 : 9 ≤ line := by decide
@[simp] theorem line_le10 : 10 ≤ line := by decide
@[simp] theorem line_le11 : 11 ≤ line := by decide
@[simp] theorem line_le12 : 12 ≤ line := by decide
@[simp] theorem line_le13 : 13 ≤ line := by decide
@[simp] theorem line_le14 : 14 ≤ line := by decide
@[simp] theorem line_le15 : 15 ≤ line := by decide
@[simp] theorem line_le16 : 16 ≤ line := by decide
@[simp] theorem line_le17 : 17 ≤ line := by decide
@[simp] theorem line_le18 : 18 ≤ line := by decide
@[simp] theorem line_le19 : 19 ≤ line := by decide
@[simp] theorem line_le20 : 20 ≤ line := by decide
@[simp] theorem line_le21 : 21 ≤ line := by decide
@[simp] theorem line_le22 : 22 ≤ line := by decide
@[simp] theorem line_le23 : 23 ≤ line := by decide
@[simp] theorem line_le24 : 24 ≤ line := by decide
@[simp] theorem line_le25 : 25 ≤ line := by decide
@[simp] theorem line_le26 : 26 ≤ line := by decide
@[simp] theorem line_le27 : 27 ≤ line := by decide
@[simp] theorem line_le28 : 28 ≤ line := by decide
@[simp] theorem line_le29 : 29 ≤ line := by decide
@[simp] theorem line_le30 : 30 ≤ line := by decide
@[simp] theorem line_le31 : 31 ≤ line := by decide
@[simp] theorem line_le32 : 32 ≤ line := by decide
@[simp] theorem line_le33 : 33 ≤ line := by decide
@[simp] theorem line_le34 : 34 ≤ line := by decide
@[simp] theorem line_le35 : 35 ≤ line := by decide
@[simp] theorem line_le36 : 36 ≤ line := by decide
@[simp] theorem line_le37 : 37 ≤ line := by decide
@[simp] theorem line_le38 : 38 ≤ line := by decide
@[simp] theorem line_le39 : 39 ≤ line := by decide
@[simp] theorem line_le40 : 40 ≤ line := by decide
@[simp] theorem line_lt0 : 0 < line := by decide
theorem lt9000 {n : Nat} (h : n < 2 ^ 64) : n < 2 ^ 9000 := Nat.lt_of_lt_of_le h (Nat.pow_le_pow_right (by decide) (by decide))
@[simp] theorem small62_0 : small62 0 = true := by decide
@[simp] theorem small62_1 : small62 1 = true := by decide
@[simp] theorem small62_2 : small62 2 = true := by decide
@[simp] theorem small62_3 : small62 3 = true := by decide
@[simp] theorem small62_4 : small62 4 = true := by decide
@[simp] theorem small62_5 : small62 5 = true := by decide
@[simp] theorem small62_6 : small62 6 = true := by decide
@[simp] theorem small62_7 : small62 7 = true := by decide
@[simp] theorem small62_8 : small62 8 = true := by decide
@[simp] theorem small62_9 : small62 9 = true := by decide
@[simp] theorem small62_10 : small62 10 = true := by decide
@[simp] theorem small62_11 : small62 11 = true := by decide
@[simp] theorem small62_12 : small62 12 = true := by decide
@[simp] theorem small62_13 : small62 13 = true := by decide
@[simp] theorem small62_14 : small62 14 = true := by decide
@[simp] theorem small62_15 : small62 15 = true := by decide
@[simp] theorem small62_16 : small62 16 = true := by decide
@[simp] theorem small62_17 : small62 17 = true := by decide
@[simp] theorem small62_18 : small62 18 = true := by decide
@[simp] theorem small62_19 : small62 19 = true := by decide
@[simp] theorem small62_20 : small62 20 = true := by decide
@[simp] theorem small62_21 : small62 21 = true := by decide
@[simp] theorem small62_22 : small62 22 = true := by decide
@[simp] theorem small62_23 : small62 23 = true := by decide
@[simp] theorem small62_24 : small62 24 = true := by decide
@[simp] theorem small62_25 : small62 25 = true := by decide
@[simp] theorem small62_26 : small62 26 = true := by decide
@[simp] theorem small62_27 : small62 27 = true := by decide
@[simp] theorem small62_28 : small62 28 = true := by decide
@[simp] theorem small62_29 : small62 29 = true := by decide
@[simp] theorem small62_30 : small62 30 = true := by decide
@[simp] theorem small62_31 : small62 31 = true := by decide
@[simp] theorem small62_32 : small62 32 = true := by decide
@[simp] theorem small62_40 : small62 40 = true := by decide
@[simp] theorem small62_64 : small62 64 = true := by decide
@[simp] theorem small62_100 : small62 100 = true := by decide
@[simp] theorem small62_1000 : small62 1000 = true := by decide
theorem small62_of {i : Int} (h0 : -(2 ^ 62) ≤ i) (h : i < 2 ^ 62) : small62 i = true := by unfold small62; simp; omega
end
/-! ### draws -/
section
variable (s : En) (c : String) (fs : List (String × D)) (d : D)
@[simp] theorem drGet_rest (i j : Int) (ls cs : List D) : drGet .rest (.tup [.lst ls, .int i, .lst cs, .int j]) = some (.int i) := (rfl)
@[simp] theorem drGet_turn (ls cs : List D) (i j : Int) : drGet .turn (.tup [.lst ls, .int i, .lst cs, .int j]) = some (.int j) := (rfl)
@[simp] theorem drGet_cells (ls cs : List D) (i j : Int) : drGet .cells (.tup [.lst ls, .int i, .lst cs, .int j]) = some (.lst cs) := (rfl)
@[simp] theorem drPut_rest (ls cs : List D) (i j v : Int) : drPut .rest v (.tup [.lst ls, .int i, .lst cs, .int j]) = some (.tup [.lst ls, .int v, .lst cs, .int j]) := (rfl)
@[simp] theorem drPut_turn (ls cs : List D) (i j v : Int) : drPut .turn v (.tup [.lst ls, .int i, .lst cs, .int j]) = some (.tup [.lst ls, .int i, .lst cs, .int v]) := (rfl)
def eDrK (k : DrF) (s : En) : Option (Option D) → Res En D
  | some (some d) => ofO (drGet k d) s
  | _ => .no
@[simp] theorem eDrK_ok (k : DrF) : eDrK k s (some (some d)) = ofO (drGet k d) s := (rfl)
@[simp] theorem eDr_ap (i : Nat) (k : DrF) : eDr i k s = eDrK k s s[i]? := (rfl)
def sDrK3 (i : Nat) (s : En) : Option D → Res En Flow
  | some w' => .ok .nx (s.set i (some w'))
  | none => .no
def sDrK2 (i : Nat) (k : DrF) (d : D) (s : En) (o : Option (Option D)) : Res En Flow := match d, o with
  | .int v, some (some w) => sDrK3 i s (drPut k v w)
  | _, _ => .no
def sDrK (i : Nat) (k : DrF) (r : Res En D) : Res En Flow := r.bind fun d s => sDrK2 i k d s s[i]?
@[simp] theorem sDrK_ok (i : Nat) (k : DrF) : sDrK i k (.ok d s) = sDrK2 i k d s s[i]? := (rfl)
@[simp] theorem sDrK_ex (i : Nat) (k : DrF) : sDrK i k (.ex c fs s) = .ex c fs s := (rfl)
@[simp] theorem sDrK2_ok (i : Nat) (k : DrF) (v : Int) : sDrK2 i k (.int v) s (some (some d)) = sDrK3 i s (drPut k v d) := (rfl)
@[simp] theorem sDrK3_ok (i : Nat) : sDrK3 i s (some d) = .ok .nx (s.set i (some d)) := (rfl)
@[simp] theorem sDr_ap (i : Nat) (k : DrF) (a : EX) : sDr i k a s = sDrK i k (a s) := (rfl)
def eDrHasK (s : En) : Option (Option D) → Res En D
  | some (some (.tup [.lst l, .int _, .lst _, .int _])) => .ok (.bl (!l.isEmpty)) s
  | _ => .no
@[simp] theorem eDrHasK_ok (ls cs : List D) (i j : Int) : eDrHasK s (some (some (.tup [.lst ls, .int i, .lst cs, .int j]))) = .ok (.bl (!ls.isEmpty)) s := (rfl)
@[simp] theorem eDrHas_ap (i : Nat) : eDrHas i s = eDrHasK s s[i]? := (rfl)
def eDrPopK (i : Nat) (s : En) : Option (Option D) → Res En D
  | some (some (.tup [.lst (.int x :: l), .int r, .lst c, .int t])) => .ok (.int x) (s.set i (some (.tup [.lst l, .int r, .lst c, .int t])))
  | _ => .no
@[simp] theorem eDrPopK_ok (k : Nat) (x : Int) (ls cs : List D) (i j : Int) : eDrPopK k s (some (some (.tup [.lst (.int x :: ls), .int i, .lst cs, .int j]))) = .ok (.int x) (s.set k (some (.tup [.lst ls, .int i, .lst cs, .int j]))) := (rfl)
@[simp] theorem eDrPop_ap (i : Nat) : eDrPop i s = eDrPopK i s s[i]? := (rfl)
def sBegunK (i : Nat) (s : En) : Option (List Int) → Res En Flow
    | some ns => if ns.length ≤ 1000000 then .ok .nx (s.set i (some (.tup [.lst ((beLarge ns).map .int), .int 0, .lst ((beCells ns).map .int), .int 0]))) else .no
    | none => .no
def sBegunK2 (i : Nat) (s : En) : Option (Option D) → Res En Flow
  | some (some (.lst l)) => sBegunK i s (asInts l)
  | _ => .no
@[simp] theorem sBegunK_ok (i : Nat) (ns : List Int) : sBegunK i s (some ns) = if ns.length ≤ 1000000 then .ok .nx (s.set i (some (.tup [.lst ((beLarge ns).map .int), .int 0, .lst ((beCells ns).map .int), .int 0]))) else .no := (rfl)
@[simp] theorem sBegunK2_ok (i : Nat) (l : List D) : sBegunK2 i s (some (some (.lst l))) = sBegunK i s (asInts l) := (rfl)
@[simp] theorem sBegun_ap (i j : Nat) : sBegun i j s = sBegunK2 i s s[j]? := by
  unfold sBegun sBegunK2
  rcases s[j]? with _ | _ | d
  · rfl
  · rfl
  · cases d <;> rfl
def itScrK (s : En) : Option (Option D) → Res En (List D)
  | some (some (.lst l)) => .ok l s
  | _ => .no
@[simp] theorem itScrK_ok (l : List D) : itScrK s (some (some (.lst l))) = .ok l s := (rfl)
@[simp] theorem itScr_ap (i : Nat) : itScr i s = itScrK s s[i]? := (rfl)
def eLenScrK (s : En) : Option (Option D) → Res En D
  | some (some (.lst l)) => .ok (.int l.length) s
  | _ => .no
@[simp] theorem eLenScrK_ok (l : List D) : eLenScrK s (some (some (.lst l))) = .ok (.int l.length) s := (rfl)
@[simp] theorem eLenScr_ap (i : Nat) : eLenScr i s = eLenScrK s s[i]? := (rfl)
@[simp] theorem asInts_ints : ∀ ns : List Int, asInts (ns.map D.int) = some ns
  | [] => rfl
  | n :: ns => by simp [asInts, asInts_ints ns]
/-- a call with a new list behind -/
def callIONK3 (l2 : List AX) (n : Nat) (s : En) : Res (List D) D → Res En D
    | .ok d es => .ok d ((axBack l2 es s).take n)
    | .ex c fs es => .ex c fs ((axBack l2 es s).take n)
    | .no => .no
@[simp] theorem callIONK3_ok (l2 : List AX) (n : Nat) (es : List D) : callIONK3 l2 n s (.ok d es) = .ok d ((axBack l2 es s).take n) := (rfl)
@[simp] theorem callIONK3_ex (l2 : List AX) (n : Nat) (es : List D) : callIONK3 l2 n s (.ex c fs es) = .ex c fs ((axBack l2 es s).take n) := (rfl)
def callIONK2 (f : FN) (l2 : List AX) (n : Nat) (s : En) : Option (List D) → Res En D
  | some ds => callIONK3 l2 n s (f ds)
  | none => .no
@[simp] theorem callIONK2_ok (f : FN) (l2 : List AX) (n : Nat) (ds : List D) : callIONK2 f l2 n s (some ds) = callIONK3 l2 n s (f ds) := (rfl)
def callIONK1 (f : FN) (l : List AX) (os : List (Option D)) (r : Res En D) : Res En D := r.bind fun d s => callIONK2 f (l ++ [.io s.length]) s.length (s ++ [some d]) (axFill (l ++ [.io s.length]) (os ++ [none]) (s ++ [some d]))
@[simp] theorem callIONK1_ok (f : FN) (l : List AX) (os : List (Option D)) : callIONK1 f l os (.ok d s) = callIONK2 f (l ++ [.io s.length]) s.length (s ++ [some d]) (axFill (l ++ [.io s.length]) (os ++ [none]) (s ++ [some d])) := (rfl)
def callIONK (f : FN) (l : List AX) (m : EX) (r : Res En (List (Option D))) : Res En D := r.bind fun os s => callIONK1 f l os (m s)
@[simp] theorem callIONK_ok (f : FN) (l : List AX) (m : EX) (os : List (Option D)) : callIONK f l m (.ok os s) = callIONK1 f l os (m s) := (rfl)
@[simp] theorem eCallION_ap (f : FN) (l : List AX) (m : EX) : eCallION f l m s = if axIn s l = true then callIONK f l m (axs l s) else .no := by
  unfold eCallION callIONK
  split
  · cases axs l s with
    | ok os s1 =>
      simp only [bind_ok]
      unfold callIONK1
      cases m s1 with
      | ok d s2 => rfl
      | ex c fs s2 => rfl
      | no => rfl
    | ex c fs s1 => rfl
    | no => rfl
  · rfl
end
end PL

set_option linter.all false
set_option maxRecDepth 100000
/-! PF: more combinators evaluated. -/
namespace PL
section
variable (c : String) (fs : List (String × D)) (s : En) (d : D) (f : Flow)
def sTryK (cs ns : List String) (b : ST) : Res En Flow → Res En Flow
  | .ex c fs s' => if cs.contains c then b s' else if ns.contains c then .ex c fs s' else .no
  | .ok f s' => .ok f s'
  | .no => .no
@[simp] theorem sTryK_ok (cs ns : List String) (b : ST) : sTryK cs ns b (.ok f s) = .ok f s := (rfl)
@[simp] theorem sTryK_ex (cs ns : List String) (b : ST) : sTryK cs ns b (.ex c fs s) = if cs.contains c = true then b s else if ns.contains c = true then .ex c fs s else .no := (rfl)
@[simp] theorem sTry_ap (cs ns : List String) (a b : ST) : sTry cs ns a b s = sTryK cs ns b (a s) := by
  unfold sTry sTryK
  cases a s <;> rfl
def eCaughtWK (cs : List String) (a : EX) (s : En) : Option (Option D) → Option (Option D) → Res En D
  | some (some (.clo 0)), some (some .non) => eCaughtK cs (a s)
  | _, _ => .no
@[simp] theorem eCaughtWK_ok (cs : List String) (a : EX) : eCaughtWK cs a s (some (some (.clo 0))) (some (some .non)) = eCaughtK cs (a s) := (rfl)
@[simp] theorem eCaughtW_ap (cs : List String) (g w : Nat) (a : EX) : eCaughtW cs g w a s = eCaughtWK cs a s s[w]? s[g]? := by
  unfold eCaughtW eCaughtWK eCaughtK
  rfl
def lamGoK (w : Nat) (bs : List ST) : Res En Flow → Res En Flow
    | .ok .nx s' => lamGo w bs s'
    | .ok .ct s' => lamGo w bs s'
    | .ok (.rt d) s' => .ok (.rt d) s'
    | .ex c fs s' => .ex c fs s'
    | _ => .no
@[simp] theorem lamGoK_nx (w : Nat) (bs : List ST) : lamGoK w bs (.ok .nx s) = lamGo w bs s := (rfl)
@[simp] theorem lamGoK_rt (w : Nat) (bs : List ST) : lamGoK w bs (.ok (.rt d) s) = .ok (.rt d) s := (rfl)
@[simp] theorem lamGo_nil (w : Nat) : lamGo w [] s = .ok .nx (s.set w none) := (rfl)
@[simp] theorem lamGo_cons (w : Nat) (b : ST) (bs : List ST) : lamGo w (b :: bs) s = lamGoK w bs (b (s.set w (some (.clo 0)))) := by
  unfold lamGo lamGoK
  rfl
def sForLK (w : Nat) (bs : List ST) (s : En) : Option (Option D) → Res En Flow
  | some (some .non) => if w < s.length then lamGo w bs s else .no
  | _ => .no
@[simp] theorem sForLK_ok (w : Nat) (bs : List ST) : sForLK w bs s (some (some .non)) = if w < s.length then lamGo w bs s else .no := (rfl)
@[simp] theorem sForL_ap (w gh : Nat) (bs : List ST) : sForL w gh bs s = sForLK w bs s s[gh]? := (rfl)
@[simp] theorem pList_lst (xs : List D) : pList [.lst xs] = some (.lst xs) := (rfl)
@[simp] theorem pList_tup (xs : List D) : pList [.tup xs] = some (.lst xs) := (rfl)
theorem pSum_ints (ns : List Int) : pSum [.lst (ns.map .int)] = some (.int ns.sum) := by
  show (asInts (ns.map D.int)).map (fun ns => D.int ns.sum) = _
  rw [asInts_ints]; rfl
end
end PL

set_option linter.all false
set_option maxRecDepth 100000
set_option exponentiation.threshold 10000
/-! K66D: the draws of k66. -/
namespace K66
open PL HP
def mixIn : ST := (sSet 4 (e2 pMod (e2 pAdd (e2 pMulI (eV 4) (eC (.int 48271))) (eB pInt (lCons (eV 5) lNil))) (eV 3)))
theorem mixIn_loop (d tn fo : D) (g : Int) (hg : 0 < g) : ∀ (cs : List Int) (b : Int) (o5 : Option D), 0 ≤ b → b < g →
   ∃ b' o5', loop (gT [5] dNm) mixIn (cs.map .int) [some d, some tn, some fo, some (.int g), some (.int b), o5] = .ok .nx [some d, some tn, some fo, some (.int g), some (.int b'), o5'] ∧ 0 ≤ b' ∧ b' < g
  | [], b, o5, h0, h1 => ⟨b, o5, rfl, h0, h1⟩
  | c :: cs, b, o5, h0, h1 => by
    obtain ⟨b', o5', h, h2⟩ := mixIn_loop d tn fo g hg cs ((b * 48271 + c) % g) (some (.int c)) (Int.emod_nonneg _ (by omega)) (Int.emod_lt_of_pos _ hg)
    refine ⟨b', o5', ?_, h2⟩
    rw [← h, List.map_cons, loop_cons]
    have e1 : pMulI (.int b) (.int 48271) = some (.int (b * 48271)) := pMulI_r _ _ (by omega)
    simp [mixIn, e1, pMod_int _ _ hg]
def mixOut : ST := (sSeq (sSet 4 (e2 pMod (e2 pAdd (e2 pMulI (eV 1) (eC (.int 69621))) (e2 pDivW (eV 3) (eC (.int 7)))) (eV 3))) (sSeq (sFor (itAny (eDr 0 .cells)) (gT [5] dNm) mixIn) (sSet 2 (e2 pAdd (e2 pMulI (eV 2) (eC (.int 2147483647))) (e2 pMod (e2 pPow (eV 4) (eC (.int 5))) (eV 3))))))
theorem mixOut_loop (ls : List D) (cs : List Int) (r t tn : Int) : ∀ (gs : List Int) (fo : Int) (o3 o4 o5 : Option D), (∀ g ∈ gs, 0 < g ∧ g < 2147483648) →
   ∃ fo' o3' o4' o5', loop (gT [3] dNm) mixOut (gs.map .int) [some (.tup [.lst ls, .int r, .lst (cs.map .int), .int t]), some (.int tn), some (.int fo), o3, o4, o5] = .ok .nx [some (.tup [.lst ls, .int r, .lst (cs.map .int), .int t]), some (.int tn), some (.int fo'), o3', o4', o5']
  | [], fo, o3, o4, o5, _ => ⟨fo, o3, o4, o5, rfl⟩
  | g :: gs, fo, o3, o4, o5, hg => by
    obtain ⟨h0, h1⟩ := hg g List.mem_cons_self
    obtain ⟨b', o5', h, h2, h3⟩ := mixIn_loop (.tup [.lst ls, .int r, .lst (cs.map .int), .int t]) (.int tn) (.int fo) g h0 cs ((tn * 69621 + g / 7) % g) o5 (Int.emod_nonneg _ (by omega)) (Int.emod_lt_of_pos _ h0)
    obtain ⟨fo', o3', o4', o5'', q⟩ := mixOut_loop ls cs r t tn gs (fo * 2147483647 + b' ^ 5 % g) (some (.int g)) (some (.int b')) o5' (fun x hx => hg x (List.mem_cons_of_mem _ hx))
    refine ⟨fo', o3', o4', o5'', ?_⟩
    rw [← q, List.map_cons, loop_cons]
    have e1 : pMulI (.int tn) (.int 69621) = some (.int (tn * 69621)) := pMulI_r _ _ (by omega)
    have e2 : pMulI (.int fo) (.int 2147483647) = some (.int (fo * 2147483647)) := pMulI_r _ _ (by omega)
    have e3 : pDivW (.int g) (.int 7) = some (.int (g / 7)) := pDivW_int _ _ (by omega) (lt9000 (by decide))
    have e4 : pPow (.int b') (.int 5) = some (.int (b' ^ 5)) := by
      show (if 0 ≤ (5 : Int) ∧ (5 : Int) ≤ 1000000 ∧ b'.natAbs < 2 ^ 64 then some (D.int (b' ^ (5 : Int).toNat)) else none) = _
      rw [if_pos ⟨by omega, by omega, by omega⟩]
      rfl
    simp [mixOut, e1, e2, e3, e4, pMod_int _ _ h0, h]
theorem mixed_ok (ls : List D) (cs : List Int) (r t : Int) : ∃ v : Int, f__law_mixed [.tup [.lst ls, .int r, .lst (cs.map .int), .int t]] = .ok (.int v) [.tup [.lst ls, .int r, .lst (cs.map .int), .int (t + 1)]] := by
  obtain ⟨v, o3, o4, o5, h⟩ := mixOut_loop ls cs r (t + 1) (t + 1) [2147483629, 2147483587, 2147483579] 0 none none none (by simp)
  refine ⟨v, ?_⟩
  simp only [List.map_cons, List.map_nil, mixOut, mixIn] at h
  simp [f__law_mixed, fnB_ap, m__law_mixed, h]
/-- a draw, well formed -/
def isDr (d : D) : Prop := ∃ (l c : List Int) (r t : Int), d = .tup [.lst (l.map .int), .int r, .lst (c.map .int), .int t]
theorem take_ok {d : D} (h : isDr d) (a : Int) (h0 : 0 < a) (h1 : a < 2 ^ 64) : ∃ v d', isDr d' ∧ 0 ≤ v ∧ v < a ∧ f__law_take [d, .int a] = .ok (.int v) [d', .int a] := by
  obtain ⟨l, c, r, t, rfl⟩ := h
  have em : ∀ r : Int, pMod (.int r) (.int a) = some (.int (r % a)) := fun r => pMod_int _ _ h0
  have ed : ∀ r : Int, pDivW (.int r) (.int a) = some (.int (r / a)) := fun r => pDivW_int _ _ h0 (lt9000 (by omega))
  by_cases hr : r = 0
  · subst hr
    cases l with
    | nil =>
      obtain ⟨v, hv⟩ := mixed_ok [] c 0 t
      refine ⟨v % a, .tup [.lst [], .int (v / a), .lst (c.map .int), .int (t + 1)], ⟨[], c, v / a, t + 1, rfl⟩, Int.emod_nonneg _ (by omega), Int.emod_lt_of_pos _ h0, ?_⟩
      simp [f__law_take, fnB_ap, m__law_take, hv, em, ed]
    | cons x l =>
      refine ⟨x % a, .tup [.lst (l.map .int), .int (x / a), .lst (c.map .int), .int t], ⟨l, c, x / a, t, rfl⟩, Int.emod_nonneg _ (by omega), Int.emod_lt_of_pos _ h0, ?_⟩
      simp [f__law_take, fnB_ap, m__law_take, em, ed]
  · refine ⟨r % a, .tup [.lst (l.map .int), .int (r / a), .lst (c.map .int), .int t], ⟨l, c, r / a, t, rfl⟩, Int.emod_nonneg _ (by omega), Int.emod_lt_of_pos _ h0, ?_⟩
    simp [f__law_take, fnB_ap, m__law_take, em, ed, hr]
theorem takeN {d : D} (h : isDr d) (n : Nat) (h0 : 0 < n) (h1 : n < 2 ^ 64) : ∃ (v : Nat) (d' : D), isDr d' ∧ v < n ∧ f__law_take [d, .int n] = .ok (.int v) [d', .int n] := by
  obtain ⟨v, d', q1, q2, q3, q4⟩ := take_ok h n (by omega) (by omega)
  refine ⟨v.toNat, d', q1, by omega, ?_⟩
  rw [q4, Int.toNat_of_nonneg q2]
theorem pick_ok {d : D} (h : isDr d) (xs : List D) (h0 : xs ≠ []) (h1 : xs.length < 2 ^ 64) : ∃ x ∈ xs, ∃ d', isDr d' ∧ f__law_pick [d, .lst xs] = .ok x [d', .lst xs] := by
  obtain ⟨v, d', q1, q2, q3⟩ := takeN h xs.length (List.length_pos_iff.mpr h0) h1
  refine ⟨xs[v], List.getElem_mem q2, d', q1, ?_⟩
  simp [f__law_pick, fnB_ap, m__law_pick, q3, atD_nat, q2]
theorem pick_str {d : D} (h : isDr d) (xs : List Nat) (h0 : xs ≠ []) (h1 : xs.length ≤ line) : ∃ x ∈ xs, ∃ d', isDr d' ∧ f__law_pick [d, .str xs] = .ok (.str [x]) [d', .str xs] := by
  obtain ⟨v, d', q1, q2, q3⟩ := takeN h xs.length (List.length_pos_iff.mpr h0) (by unfold line at h1; omega)
  refine ⟨xs[v], List.getElem_mem q2, d', q1, ?_⟩
  simp [f__law_pick, fnB_ap, m__law_pick, q3, atD_nat, q2, h1]
end K66

set_option linter.all false
set_option maxRecDepth 100000
/-! K66L: what the defs of k66 compute. -/
namespace K66
open PL HP
theorem is_number_int (i : Int) : f_is_number [.int i] = .ok (.bl true) [.int i] := by
  simp [f_is_number, fnB_ap, m_is_number, pIsT, tyName]
theorem is_between_int (i a b : Int) : f_is_between [.int i, .int a, .int b] = .ok (.bl (decide (a ≤ i ∧ i ≤ b))) [.int i, .int a, .int b] := by
  by_cases h : a ≤ i <;> simp [f_is_between, fnB_ap, m_is_between, is_number_int, h]
abbrev dB (bs : List Nat) : List D := bs.map fun n => D.int (n : Nat)
/-- x is these bytes, as a list or as a tuple -/
def isBs (x : D) (bs : List Nat) : Prop := x = .lst (dB bs) ∨ x = .tup (dB bs)
def bbad {S A : Type} (p : Nat) (s : S) : Res S A := .ex "BadBytes" [("place", .int p)] s
theorem byte_at_ok {x : D} {bs : List Nat} {k b : Nat} {i : Int} (hx : isBs x bs) (h : bs[k]? = some b) (hi : i = k) : f_byte_at [x, .int i] = .ok (.int b) [x, .int i] := by
  subst hi
  have hk : ¬ bs.length ≤ k := by have := (List.getElem?_eq_some_iff.mp h).1; omega
  rcases hx with rfl | rfl <;> simp [f_byte_at, fnB_ap, m_byte_at, hk, atD_nat, h]
theorem byte_at_no {x : D} {bs : List Nat} {k : Nat} {i : Int} (hx : isBs x bs) (h : bs[k]? = none) (hi : i = k) : f_byte_at [x, .int i] = bbad bs.length [x, .int i] := by
  subst hi
  have hk : bs.length ≤ k := by simpa using h
  rcases hx with rfl | rfl <;> simp [f_byte_at, fnB_ap, m_byte_at, hk, bbad]
/-- the digits of a number at a place: n turns left, k behind us -/
def pdig (bs : List Nat) (spot : Nat) : Nat → Nat → Nat → Nat → Except Nat (Nat × Nat)
  | 0, _, _, _ => .error spot
  | n + 1, k, found, worth => match bs[spot + k]? with
    | none => .error bs.length
    | some c => if (128 ≤ c ∧ n = 0) ∨ (c = 0 ∧ 0 < k) then .error (spot + k)
      else if c < 128 then .ok (found + c % 128 * worth, spot + k + 1) else pdig bs spot n (k + 1) (found + c % 128 * worth) (worth * 128)
/-- the flow behind the loop is the result, but for the slots -/
def flowIs : Res En Flow → Except Nat (Nat × Nat) → Prop
  | .ok (.rt d) _, .ok (n, e) => d = .tup [.int n, .int e]
  | .ex c fs _, .error p => c = "BadBytes" ∧ fs = [("place", .int p)]
  | _, _ => False
def bodyD : ST := (sSeq (sSet 6 (eCall 2 f_byte_at (lCons (eV 0) (lCons (e2 pAdd (eV 1) (eV 5)) lNil)))) (sSeq (sIf (uOr (uAnd (uB (e2 pGe (eV 6) (eC (.int 128)))) (uB (e2 pEq (eV 5) (e2 pSub (eV 2) (eC (.int 1)))))) (uAnd (uB (e2 pEq (eV 6) (eC (.int 0)))) (uB (e2 pGt (eV 5) (eC (.int 0)))))) (sRaise1 "BadBytes" "place" (e2 pAdd (eV 1) (eV 5))) sSkip) (sSeq (sPar [3, 4] (lCons (e2 pAdd (eV 3) (e2 pMulI (e2 pMod (eV 6) (eC (.int 128))) (eV 4))) (lCons (e2 pMulI (eV 4) (eC (.int 128))) lNil))) (sIf (uB (e2 pLt (eV 6) (eC (.int 128)))) (sRet (eTup (lCons (eV 3) (lCons (e2 pAdd (e2 pAdd (eV 1) (eV 5)) (eC (.int 1))) lNil)))) sSkip))))
theorem bodyD_stop {bs : List Nat} {x : D} (hx : isBs x bs) (spot most k found worth : Nat) (o6 : Option D) (e : bs[spot + k]? = none) :
    bodyD [some x, some (.int spot), some (.int most), some (.int found), some (.int worth), some (.int k), o6] = bbad bs.length [some x, some (.int spot), some (.int most), some (.int found), some (.int worth), some (.int k), o6] := by
  simp [bodyD, byte_at_no hx e, bbad]
theorem bodyD_bad {bs : List Nat} {x : D} (hx : isBs x bs) (spot most k found worth c : Nat) (o6 : Option D) (e : bs[spot + k]? = some c) (h : (128 ≤ c ∧ k + 1 = most) ∨ (c = 0 ∧ 0 < k)) :
    bodyD [some x, some (.int spot), some (.int most), some (.int found), some (.int worth), some (.int k), o6] = bbad (spot + k) [some x, some (.int spot), some (.int most), some (.int found), some (.int worth), some (.int k), some (.int c)] := by
  rcases h with ⟨h, hk⟩ | ⟨h, hk⟩
  · have h1 : (128 : Int) ≤ c := by omega
    have h2 : (k : Int) = most - 1 := by omega
    simp [bodyD, byte_at_ok hx e, bbad, h1, h2]
  · subst h
    simp [bodyD, byte_at_ok hx e, bbad, hk]
theorem bodyD_go {bs : List Nat} {x : D} (hx : isBs x bs) (spot most k found worth c : Nat) (o6 : Option D) (e : bs[spot + k]? = some c) (h : ¬ ((128 ≤ c ∧ k + 1 = most) ∨ (c = 0 ∧ 0 < k))) :
    bodyD [some x, some (.int spot), some (.int most), some (.int found), some (.int worth), some (.int k), o6] =
      if c < 128 then .ok (.rt (.tup [.int ((found + c % 128 * worth : Nat)), .int ((spot + k + 1 : Nat))])) [some x, some (.int spot), some (.int most), some (.int (found + c % 128 * worth : Nat)), some (.int (worth * 128 : Nat)), some (.int k), some (.int c)]
      else .ok .nx [some x, some (.int spot), some (.int most), some (.int (found + c % 128 * worth : Nat)), some (.int (worth * 128 : Nat)), some (.int k), some (.int c)] := by
  have hmod : pMulI (.int ((c : Int) % 128)) (.int worth) = some (.int ((c : Int) % 128 * worth)) := pMulI_l _ _ (by omega)
  have hmod2 : pMulI (.int worth) (.int 128) = some (.int (worth * 128)) := pMulI_r _ _ (by omega)
  have hmod3 : pMod (.int c) (.int 128) = some (.int ((c : Int) % 128)) := pMod_int _ _ (by omega)
  have a1 : (128 ≤ (c : Int) ∧ (k : Int) = most - 1) = False := by simp; omega
  have a2 : (c = 0 ∧ 0 < k) = False := by simp; omega
  by_cases hc : c < 128
  · have h1 : ¬ (128 : Int) ≤ c := by omega
    have h2 : (c : Int) < 128 := by omega
    by_cases hz : c = 0
    · have hk : k = 0 := by omega
      subst hz hk
      simp at e hmod
      simp [bodyD, byte_at_ok hx e, hmod, hmod2, pMod_int]
    · simp [bodyD, byte_at_ok hx e, hmod, hmod2, hmod3, h1, h2, hz, hc]
  · have h1 : (128 : Int) ≤ c := by omega
    have h2 : ¬ (c : Int) < 128 := by omega
    have h3 : ¬ c = 0 := by omega
    have h4 : ¬ (k : Int) = most - 1 := by omega
    simp [bodyD, byte_at_ok hx e, hmod, hmod2, hmod3, h1, h2, h3, h4, hc]
theorem digits_loop {bs : List Nat} {x : D} (hx : isBs x bs) (spot most : Nat) : ∀ (n k : Nat) (found worth : Nat) (o5 o6 : Option D), n + 1 + k = most →
   flowIs (loop (gT [5] dNm) bodyD (rangeL k (n + 1)) [some x, some (.int spot), some (.int most), some (.int found), some (.int worth), o5, o6]) (pdig bs spot (n + 1) k found worth) := by
  intro n
  induction n with
  | zero =>
    intro k found worth o5 o6 hm
    rw [rangeL_succ, loop_cons]
    unfold pdig
    cases e : bs[spot + k]? with
    | none => simp [bodyD_stop hx, e, bbad, flowIs]
    | some c =>
      by_cases hb : (128 ≤ c ∧ k + 1 = most) ∨ (c = 0 ∧ 0 < k)
      · have hb2 : (128 ≤ c ∧ 0 = 0) ∨ (c = 0 ∧ 0 < k) := by omega
        dsimp only
        rw [if_pos hb2]
        simp [bodyD_bad hx _ _ _ _ _ _ _ e hb, bbad, flowIs]
      · have hb2 : ¬ ((128 ≤ c ∧ 0 = 0) ∨ (c = 0 ∧ 0 < k)) := by omega
        have hc : c < 128 := by omega
        dsimp only
        rw [if_neg hb2, if_pos hc]
        simp [bodyD_go hx _ _ _ _ _ _ _ e hb, hc, flowIs]
  | succ n ih =>
    intro k found worth o5 o6 hm
    rw [rangeL_succ, loop_cons]
    unfold pdig
    cases e : bs[spot + k]? with
    | none => simp [bodyD_stop hx, e, bbad, flowIs]
    | some c =>
      by_cases hb : (128 ≤ c ∧ k + 1 = most) ∨ (c = 0 ∧ 0 < k)
      · have hb2 : (128 ≤ c ∧ n + 1 = 0) ∨ (c = 0 ∧ 0 < k) := by omega
        dsimp only
        rw [if_pos hb2]
        simp [bodyD_bad hx _ _ _ _ _ _ _ e hb, bbad, flowIs]
      · have hb2 : ¬ ((128 ≤ c ∧ n + 1 = 0) ∨ (c = 0 ∧ 0 < k)) := by omega
        dsimp only
        rw [if_neg hb2]
        by_cases hc : c < 128
        · simp [bodyD_go hx _ _ _ _ _ _ _ e hb, hc, flowIs]
        · have q := ih (k + 1) (found + c % 128 * worth) (worth * 128) (some (.int k)) (some (.int c)) (by omega)
          rw [if_neg hc]
          simp [bodyD_go hx _ _ _ _ _ _ _ e hb, hc]
          simpa using q
theorem read_digits_eq {bs : List Nat} {x : D} (hx : isBs x bs) (spot most : Nat) (h0 : 0 < most) (h9 : most ≤ 9) : f_read_digits [x, .int spot, .int most] = match pdig bs spot most 0 0 1 with
    | .ok (n, e) => .ok (.tup [.int n, .int e]) [x, .int spot, .int most]
    | .error p => bbad p [x, .int spot, .int most] := by
  obtain ⟨m, rfl⟩ : ∃ m, most = m + 1 := ⟨most - 1, by omega⟩
  have q := digits_loop hx spot (m + 1) m 0 0 1 none none rfl
  have hs : small62 ((m : Int) + 1) = true := small62_of (by omega) (by omega)
  unfold bodyD at q
  simp at q
  simp [f_read_digits, fnB_ap, m_read_digits, hs]
  revert q
  generalize loop _ _ _ _ = r
  generalize pdig _ _ _ _ _ _ = s
  intro q
  cases s with
  | ok z =>
    obtain ⟨n, e⟩ := z
    match r, q with
    | .ok (.rt d) s, q => simp [flowIs] at q; subst q; simp
  | error p =>
    match r, q with
    | .ex c fs s, q => simp [flowIs] at q; obtain ⟨rfl, rfl⟩ := q; simp [bbad]
/-! ### strings -/
def ptext (bs : List Nat) : Nat → Nat → Except Nat (List Nat)
  | 0, _ => .ok []
  | n + 1, k => match bs[k]? with
    | none => .error bs.length
    | some c => if 97 ≤ c ∧ c ≤ 122 then match ptext bs n (k + 1) with
        | .ok s => .ok (c :: s)
        | .error p => .error p
      else .error k
abbrev abc : List Nat := [97, 98, 99, 100, 101, 102, 103, 104, 105, 106, 107, 108, 109, 110, 111, 112, 113, 114, 115, 116, 117, 118, 119, 120, 121, 122]
theorem abc_at : ∀ i < 26, abc[i]? = some (i + 97) := by decide
theorem abc_ix {c : Nat} (h : 97 ≤ c ∧ c ≤ 122) : atD abc ((c : Int) - 97) = some c := by
  rw [atD_of abc _ (c - 97) (by omega), abc_at _ (by omega)]
  congr 1; omega
def strs1 (s : List Nat) : List D := s.map fun c => .str [c]
def bodyT : ST := (sSeq (sIf (uNot (uB (eCh pLe pLt (eC (.int 97)) (eCall 2 f_byte_at (lCons (eV 0) (lCons (eV 4) lNil))) (e2 pAdd (eC (.int 97)) (eB pLen (lCons (eC (.str abc)) lNil)))))) (sRaise1 "BadBytes" "place" (eV 4)) sSkip) (sApp 3 (e2 pIx (eC (.str abc)) (e2 pSub (e2 pIx (eV 0) (eV 4)) (eC (.int 97))))))
theorem isBs_ix {x : D} {bs : List Nat} {k c : Nat} (hx : isBs x bs) (h : bs[k]? = some c) : pIx x (.int k) = some (.int c) := by
  rcases hx with rfl | rfl <;> simp [atD_nat, h]
theorem text_loop {bs : List Nat} {x : D} (hx : isBs x bs) (o1 o2 : Option D) : ∀ (n k : Nat) (acc : List D) (o4 : Option D), acc.length + n ≤ 1000 →
    match ptext bs n k with
    | .ok s => ∃ o4', loop (gT [4] dNm) bodyT (rangeL k n) [some x, o1, o2, some (.lst acc), o4] = .ok .nx [some x, o1, o2, some (.lst (acc ++ strs1 s)), o4'] ∧ s.length = n
    | .error p => ∃ s', loop (gT [4] dNm) bodyT (rangeL k n) [some x, o1, o2, some (.lst acc), o4] = bbad p s'
  | 0, k, acc, o4, h => by simp [ptext, rangeL_zero, loop_nil, strs1]
  | n + 1, k, acc, o4, h => by
    rw [rangeL_succ, loop_cons]
    unfold ptext
    cases e : bs[k]? with
    | none => simp [bodyT, byte_at_no hx e, bbad]
    | some c =>
      dsimp only
      by_cases hc : 97 ≤ c ∧ c ≤ 122
      · rw [if_pos hc]
        have h1 : (97 : Int) ≤ c := by omega
        have h2 : (c : Int) < 97 + 26 := by omega
        have h3 : acc.length < line := by unfold line; omega
        have q := text_loop hx o1 o2 n (k + 1) (acc ++ [.str [c]]) (some (.int k)) (by simp; omega)
        have hb : bodyT [some x, o1, o2, some (.lst acc), some (.int k)] = .ok .nx [some x, o1, o2, some (.lst (acc ++ [.str [c]])), some (.int k)] := by
          have h4 : (c : Int) < 123 := by omega
          simp [bodyT, byte_at_ok hx e, h1, h4, isBs_ix hx e, abc_ix hc, h3]
        have hl : loopK (gT [4] dNm) bodyT (rangeL (↑k + 1) n) (gT [4] dNm (.int k) [some x, o1, o2, some (.lst acc), o4]) = loop (gT [4] dNm) bodyT (rangeL ((k + 1 : Nat) : Int) n) [some x, o1, o2, some (.lst (acc ++ [.str [c]])), some (.int k)] := by
          simp [hb]
        rw [hl]
        cases e2 : ptext bs n (k + 1) with
        | ok s => rw [e2] at q; simp [strs1] at q ⊢; exact q
        | error p => rw [e2] at q; simpa using q
      · rw [if_neg hc]
        have h1 : ¬ ((97 : Int) ≤ c ∧ (c : Int) < 97 + 26) := by omega
        by_cases h2 : (97 : Int) ≤ c
        · have h3 : ¬ (c : Int) < 123 := by omega
          simp [bodyT, byte_at_ok hx e, h2, h3, bbad]
        · simp [bodyT, byte_at_ok hx e, h2, bbad]
theorem asStrs_strs1 : ∀ s : List Nat, asStrs (strs1 s) = some (s.map fun c => [c])
  | [] => rfl
  | c :: s => by
    have := asStrs_strs1 s
    unfold strs1 at this ⊢
    simp [asStrs, this]
theorem join_strs1 {s : List Nat} (h : s.length ≤ line) : pJoin (.lst (strs1 s)) = some (.str s) := by
  show (asStrs (strs1 s)).bind (fun ys => if (ys.map List.length).sum ≤ line then some (D.str ys.flatten) else none) = _
  rw [asStrs_strs1]
  have e1 : ∀ s : List Nat, ((s.map fun c => [c]).map List.length).sum = s.length := fun s => by
    induction s with
    | nil => rfl
    | cons a s ih => rw [List.map_cons, List.map_cons, List.sum_cons, ih]; simp; omega
  have e2 : ∀ s : List Nat, (s.map fun c => [c]).flatten = s := fun s => by induction s with
    | nil => rfl
    | cons a s ih => rw [List.map_cons, List.flatten_cons, ih]; rfl
  simp only [Option.bind_some, e1, h, if_true, e2]
def ptx (bs : List Nat) (spot : Nat) : Except Nat (List Nat × Nat) := match bs[spot]? with
  | none => .error bs.length
  | some z => if 127 < z then .error spot else match ptext bs z (spot + 1) with
    | .ok s => .ok (s, spot + 1 + z)
    | .error p => .error p
theorem read_text_eq {bs : List Nat} {x : D} (hx : isBs x bs) (spot : Nat) (hs : spot < 2 ^ 61) : f_read_text [x, .int spot] = match ptx bs spot with
    | .ok (s, e) => .ok (.tup [.str s, .int e]) [x, .int spot]
    | .error p => bbad p [x, .int spot] := by
  unfold ptx
  cases e : bs[spot]? with
  | none => simp [f_read_text, fnB_ap, m_read_text, byte_at_no hx e, bbad]
  | some z =>
    dsimp only
    by_cases hz : 127 < z
    · have h1 : (127 : Int) < z := by omega
      simp [f_read_text, fnB_ap, m_read_text, byte_at_ok hx e, h1, hz, bbad]
    · rw [if_neg hz]
      have h1 : ¬ (127 : Int) < z := by omega
      have q := text_loop hx (some (.int spot)) (some (.int z)) z (spot + 1) [] none (by simp; omega)
      have hs1 : small62 ((spot : Int) + 1) = true := small62_of (by omega) (by omega)
      have hs2 : small62 ((spot : Int) + 1 + z) = true := small62_of (by omega) (by omega)
      have hr : ((spot : Int) + 1 + z - (spot + 1)).toNat = z := by omega
      unfold bodyT at q
      cases e2 : ptext bs z (spot + 1) with
      | ok s =>
        rw [e2] at q
        obtain ⟨o4', q, hl⟩ := q
        simp at q
        have hj := join_strs1 (s := s) (by unfold line; omega)
        simp [f_read_text, fnB_ap, m_read_text, byte_at_ok hx e, h1, hs1, hs2, hr, q, hj]
      | error p =>
        rw [e2] at q
        obtain ⟨s', q⟩ := q
        simp [bbad] at q
        simp [f_read_text, fnB_ap, m_read_text, byte_at_ok hx e, h1, hs1, hs2, hr, q, bbad]
/-! ### values -/
theorem pdig_lt {bs : List Nat} {spot : Nat} : ∀ (n k found worth v e : Nat), pdig bs spot n k found worth = .ok (v, e) → found < worth → v < worth * 128 ^ n ∧ spot + k < e
  | 0, k, found, worth, v, e, h, _ => by cases h
  | n + 1, k, found, worth, v, e, h, hf => by
    unfold pdig at h
    cases eb : bs[spot + k]? with
    | none => rw [eb] at h; cases h
    | some c =>
      rw [eb] at h
      dsimp only at h
      split at h
      · cases h
      · have h2 : found + c % 128 * worth < worth * 128 := by
          have : c % 128 * worth ≤ 127 * worth := Nat.mul_le_mul_right _ (by omega)
          omega
        split at h
        · cases h
          refine ⟨?_, by omega⟩
          rw [Nat.pow_succ]
          have h128 : 0 < 128 ^ n := Nat.pow_pos (by decide)
          have : worth * 128 ≤ worth * (128 ^ n * 128) := Nat.mul_le_mul_left _ (by omega)
          omega
        · obtain ⟨a, b⟩ := pdig_lt n (k + 1) _ _ v e h (by omega)
          refine ⟨?_, by omega⟩
          rw [Nat.pow_succ, Nat.mul_comm (128 ^ n), ← Nat.mul_assoc]
          exact a
def pitems (p : Nat → Except Nat (D × Nat)) : Nat → Nat → Except Nat (List D × Nat)
  | 0, spot => .ok ([], spot)
  | n + 1, spot => match p spot with
    | .error e => .error e
    | .ok (v, sp) => match pitems p n sp with
      | .error e => .error e
      | .ok (vs, e) => .ok (v :: vs, e)
def pval (bs : List Nat) : Nat → Nat → Except Nat (D × Nat)
  | deep, spot => match bs[spot]? with
    | none => .error bs.length
    | some c => if c = 0 then .ok (.non, spot + 1)
      else if c = 1 then match pdig bs (spot + 1) 9 0 0 1 with
        | .ok (n, e) => .ok (.int n, e)
        | .error p => .error p
      else if c = 2 then match ptx bs (spot + 1) with
        | .ok (s, e) => .ok (.str s, e)
        | .error p => .error p
      else if c = 3 then match deep with
        | 0 => .error spot
        | d + 1 => match pdig bs (spot + 1) 3 0 0 1 with
          | .error p => .error p
          | .ok (n, sp) => match pitems (pval bs d) n sp with
            | .error p => .error p
            | .ok (vs, e) => .ok (.tup vs, e)
      else .error spot
def resV (args : List D) : Except Nat (D × Nat) → Res (List D) D
  | .ok (v, e) => .ok (.tup [v, .int e]) args
  | .error p => bbad p args
def bodyV (g : FN) : ST := (sSeq (sAsg [7, 1] (dTup [dNm, dNm]) (eCall 3 g (lCons (eV 0) (lCons (eV 1) (lCons (e2 pSub (eV 2) (eC (.int 1))) lNil))))) (sApp 5 (eV 7)))
theorem items_loop {g : FN} {x : D} {p : Nat → Except Nat (D × Nat)} {d : Nat} (hg : ∀ spot : Nat, g [x, .int spot, .int d] = resV [x, .int spot, .int d] (p spot)) (o3 o4 : Option D) : ∀ (n lo spot : Nat) (acc : List D) (o6 o7 : Option D), acc.length + n ≤ line →
    match pitems p n spot with
    | .ok (vs, e) => ∃ o6' o7', loop (gT [6] dNm) (bodyV g) (rangeL lo n) [some x, some (.int spot), some (.int (d + 1 : Nat)), o3, o4, some (.lst acc), o6, o7] = .ok .nx [some x, some (.int e), some (.int (d + 1 : Nat)), o3, o4, some (.lst (acc ++ vs)), o6', o7']
    | .error p => ∃ s', loop (gT [6] dNm) (bodyV g) (rangeL lo n) [some x, some (.int spot), some (.int (d + 1 : Nat)), o3, o4, some (.lst acc), o6, o7] = bbad p s'
  | 0, lo, spot, acc, o6, o7, h => by simp [pitems, rangeL_zero, loop_nil]
  | n + 1, lo, spot, acc, o6, o7, h => by
    rw [rangeL_succ, loop_cons]
    unfold pitems
    have hg' := hg spot
    cases e : p spot with
    | error q =>
      rw [e] at hg'
      simp [resV, bbad] at hg'
      simp [bodyV, hg', bbad]
    | ok z =>
      obtain ⟨v, sp⟩ := z
      rw [e] at hg'
      simp [resV] at hg'
      have h3 : acc.length < line := by omega
      have q := items_loop hg o3 o4 n (lo + 1) sp (acc ++ [v]) (some (.int lo)) (some v) (by simp; omega)
      have hl : loopK (gT [6] dNm) (bodyV g) (rangeL (↑lo + 1) n) (gT [6] dNm (.int lo) [some x, some (.int spot), some (.int (d + 1 : Nat)), o3, o4, some (.lst acc), o6, o7]) = loop (gT [6] dNm) (bodyV g) (rangeL ((lo + 1 : Nat) : Int) n) [some x, some (.int sp), some (.int (d + 1 : Nat)), o3, o4, some (.lst (acc ++ [v])), some (.int lo), some v] := by
        have hb : bodyV g [some x, some (.int spot), some (.int (d + 1 : Nat)), o3, o4, some (.lst acc), some (.int lo), o7] = .ok .nx [some x, some (.int sp), some (.int (d + 1 : Nat)), o3, o4, some (.lst (acc ++ [v])), some (.int lo), some v] := by
          simp [bodyV, hg', h3]
        simp at hb
        simp [hb]
      rw [hl]
      dsimp only
      cases e2 : pitems p n sp with
      | error q2 => rw [e2] at q; exact q
      | ok z2 =>
        obtain ⟨vs, e3⟩ := z2
        rw [e2] at q
        simpa using q
theorem read_value_eq {bs : List Nat} {x : D} (hx : isBs x bs) (hb : bs.length < 2 ^ 60) : ∀ (fuel deep : Nat), deep < fuel → ∀ spot : Nat, f_read_value fuel [x, .int spot, .int deep] = resV [x, .int spot, .int deep] (pval bs deep spot)
  | 0, deep, h, _ => by omega
  | fuel + 1, deep, h, spot => by
    have ih := read_value_eq hx hb fuel
    show fnB 8 [] (m_read_value (f_read_value fuel)) _ = _
    generalize f_read_value fuel = g at ih
    unfold pval
    cases e : bs[spot]? with
    | none => simp [fnB_ap, m_read_value, byte_at_no hx e, bbad, resV]
    | some c =>
      have hsp : spot < bs.length := (List.getElem?_eq_some_iff.mp e).1
      dsimp only
      by_cases h0 : c = 0
      · subst h0
        simp [fnB_ap, m_read_value, byte_at_ok hx e, resV]
      · by_cases h1 : c = 1
        · subst h1
          have q := read_digits_eq hx (spot + 1) 9 (by omega) (by omega)
          cases e2 : pdig bs (spot + 1) 9 0 0 1 with
          | ok z => rw [e2] at q; obtain ⟨n, e3⟩ := z; simp at q; simp [fnB_ap, m_read_value, byte_at_ok hx e, resV, q]
          | error p => rw [e2] at q; simp [bbad] at q; simp [fnB_ap, m_read_value, byte_at_ok hx e, resV, q, bbad]
        · by_cases h2 : c = 2
          · subst h2
            have q := read_text_eq hx (spot + 1) (by omega)
            cases e2 : ptx bs (spot + 1) with
            | ok z => rw [e2] at q; obtain ⟨n, e3⟩ := z; simp at q; simp [fnB_ap, m_read_value, byte_at_ok hx e, resV, q]
            | error p => rw [e2] at q; simp [bbad] at q; simp [fnB_ap, m_read_value, byte_at_ok hx e, resV, q, bbad]
          · have n1 : ¬ (c : Int) = 1 := by omega
            have n2 : ¬ (c : Int) = 2 := by omega
            by_cases h3 : c = 3
            · subst h3
              cases deep with
              | zero => simp [fnB_ap, m_read_value, byte_at_ok hx e, resV, bbad]
              | succ d =>
                have q := read_digits_eq hx (spot + 1) 3 (by omega) (by omega)
                have nd : ¬ (d : Int) + 1 = 0 := by omega
                cases e2 : pdig bs (spot + 1) 3 0 0 1 with
                | error p => rw [e2] at q; simp [bbad] at q; simp [fnB_ap, m_read_value, byte_at_ok hx e, resV, q, bbad, nd]
                | ok z =>
                  rw [e2] at q
                  obtain ⟨n, sp⟩ := z
                  have hn := (pdig_lt _ _ _ _ _ _ e2 (by omega)).1
                  have hs : small62 (n : Int) = true := small62_of (by omega) (by omega)
                  have q2 := items_loop (g := g) (x := x) (p := pval bs d) (d := d) (fun s => ih d (by omega) s) (some (.int 3)) (some (.int n)) n 0 sp [] none none (by unfold line; simp; omega)
                  unfold bodyV at q2
                  simp at q
                  cases e3 : pitems (pval bs d) n sp with
                  | error p =>
                    rw [e3] at q2
                    obtain ⟨s', q2⟩ := q2
                    simp [bbad] at q2
                    simp [fnB_ap, m_read_value, byte_at_ok hx e, resV, q, bbad, nd, hs, q2, e3]
                  | ok z3 =>
                    obtain ⟨vs, e4⟩ := z3
                    rw [e3] at q2
                    obtain ⟨o6, o7, q2⟩ := q2
                    simp at q2
                    simp [fnB_ap, m_read_value, byte_at_ok hx e, resV, q, nd, hs, q2, e3]
            · have n3 : ¬ (c : Int) = 3 := by omega
              simp [fnB_ap, m_read_value, byte_at_ok hx e, resV, bbad, h0, h1, h2, h3, n1, n2, n3]
end K66

set_option linter.all false
set_option maxRecDepth 100000
set_option exponentiation.threshold 10000
/-! K66M: value_of, and the law's own reading. -/
namespace K66
open PL HP
def isBy (bs : List Nat) : Prop := ∀ b ∈ bs, b < 256
theorem asBls_true : ∀ xs : List D, asBls (xs.map fun _ => D.bl true) = some (xs.map fun _ => true)
  | [] => rfl
  | _ :: xs => by simp [asBls, asBls_true xs]
theorem all_true : ∀ xs : List D, (xs.map fun _ => true).all id = true
  | [] => rfl
  | _ :: xs => by simp [all_true xs]
theorem pAll_true (xs : List D) : pAll [.lst (xs.map fun _ => D.bl true)] = some (.bl true) := by
  show (asBls _).map (fun bs => D.bl (bs.all id)) = _
  rw [asBls_true, Option.map_some, all_true]
theorem need_bytes_ok {x : D} {bs : List Nat} (hx : isBs x bs) (hb : isBy bs) (hl : bs.length ≤ line) : f_need_bytes [x] = .ok .non [x] := by
  have q : ∀ x : D, lcGo [1] (gT [1] dNm) uYes (eCall 3 f_is_between (lCons (eV 1) (lCons (eC (.int 0)) (lCons (eC (.int 255)) lNil)))) (dB bs) [] [some x, none] = .ok ([] ++ (dB bs).map fun _ => D.bl true) [some x, none] := fun x =>
    lcGo_map (P := fun y => ∃ n : Nat, n < 256 ∧ y = .int n) (fun _ => D.bl true) (fun y ⟨n, hn, hy⟩ acc xs => by
      subst hy
      have h1 : (n : Int) ≤ 255 := by omega
      simp [lcGo_cons, is_between_int, h1]) (dB bs) [] (fun y hy => by
        obtain ⟨n, hn, rfl⟩ := List.mem_map.mp hy
        exact ⟨n, hb n hn, rfl⟩) (by simpa using hl)
  have hL : ∀ s, f_is_list [.lst s] = .ok (.bl true) [.lst s] := fun s => by simp [f_is_list, fnB_ap, m_is_list, pIsT, tyName]
  have hT : ∀ s, f_is_list [.tup s] = .ok (.bl true) [.tup s] := fun s => by simp [f_is_list, fnB_ap, m_is_list, pIsT, tyName]
  have pa := pAll_true (dB bs)
  simp only [dB, List.map_map] at pa
  rcases hx with rfl | rfl
  · simp [f_need_bytes, fnB_ap, m_need_bytes, hL, q, pa]
  · simp [f_need_bytes, fnB_ap, m_need_bytes, hT, q, pa]
def vof (bs : List Nat) : Except Nat D := match pval bs 8 0 with
  | .error p => .error p
  | .ok (v, e) => if e < bs.length then .error e else .ok v
theorem value_of_eq {x : D} {bs : List Nat} (hx : isBs x bs) (hb : isBy bs) (hl : bs.length ≤ line) : f_value_of [x] = match vof bs with
    | .ok v => .ok v [x]
    | .error p => bbad p [x] := by
  have q1 := need_bytes_ok hx hb hl
  have q2 := read_value_eq hx (by unfold line at hl; omega) 12 8 (by omega) 0
  have hlen : pLen [x] = some (.int bs.length) := by rcases hx with rfl | rfl <;> simp
  unfold vof
  cases e : pval bs 8 0 with
  | error p =>
    rw [e] at q2
    simp [resV, bbad] at q2
    simp [f_value_of, fnB_ap, m_value_of, q1, q2, bbad]
  | ok z =>
    obtain ⟨v, e2⟩ := z
    rw [e] at q2
    simp [resV] at q2
    by_cases h : e2 < bs.length
    · have h1 : (e2 : Int) < bs.length := by omega
      simp [f_value_of, fnB_ap, m_value_of, q1, q2, hlen, h, bbad]
    · simp [f_value_of, fnB_ap, m_value_of, q1, q2, hlen, h]
theorem pNe_nil_cons (d : D) (ds : List D) (h : plainD 64 (.lst (d :: ds)) = true) : pNe (.lst (d :: ds)) (.lst []) = some (.bl true) := by
  unfold pNe
  rw [h]; rfl
theorem plain_dB (n : Nat) : ∀ t : List Nat, plainD (n + 1) (.lst (dB t)) = true := fun t => by
  unfold plainD
  rw [List.all_eq_true]
  intro x hx
  obtain ⟨m, _, rfl⟩ := List.mem_map.mp hx
  cases n <;> rfl
theorem cut_nat (bs : List Nat) (k z : Nat) : sliceD (.lst (dB bs)) (some (k : Int)) (some ((k : Int) + z)) = some (.lst (dB ((bs.drop k).take z))) := by
  have e1 : sIx (dB bs).length 0 (some (k : Int)) = min k bs.length := by
    simp only [sIx, List.length_map]
    rw [if_neg (by omega)]
    congr 1
  have e2 : sIx (dB bs).length (dB bs).length (some ((k : Int) + z)) = min (k + z) bs.length := by
    simp only [sIx, List.length_map]
    rw [if_neg (by omega)]
    congr 1
  show some (D.lst (cutL (dB bs) _ _)) = _
  unfold cutL
  rw [e1, e2]
  congr 2
  unfold dB
  rw [← List.map_drop, ← List.map_take]
  congr 1
  by_cases h : k ≤ bs.length
  · rw [Nat.min_eq_left h]
    by_cases h2 : k + z ≤ bs.length
    · rw [Nat.min_eq_left h2]; congr 1; omega
    · rw [Nat.min_eq_right (by omega), List.take_of_length_le (by rw [List.length_drop]; omega), List.take_of_length_le (by rw [List.length_drop]; omega)]
  · rw [List.drop_eq_nil_of_le (show bs.length ≤ min k bs.length by omega), List.drop_eq_nil_of_le (show bs.length ≤ k by omega)]
    simp
end K66

set_option linter.all false
set_option maxRecDepth 100000
set_option exponentiation.threshold 10000
/-! K66N: values as bytes. -/
namespace K66
open PL HP
def digs : Nat → Nat → List Nat
  | 0, n => [n]
  | f + 1, n => if n < 128 then [n] else (128 + n % 128) :: digs f (n / 128)
theorem digs_len : ∀ (f n : Nat), (digs f n).length ≤ f + 1
  | 0, n => by simp [digs]
  | f + 1, n => by
    unfold digs
    split
    · simp
    · have := digs_len f (n / 128)
      simp; omega
theorem digs_pos (f n : Nat) : 0 < (digs f n).length := by cases f <;> (unfold digs; try split) <;> simp
theorem digs_by : ∀ (f n : Nat), n < 128 ^ (f + 1) → isBy (digs f n)
  | 0, n, h => fun b hb => by simp [digs] at hb; omega
  | f + 1, n, h => fun b hb => by
    unfold digs at hb
    split at hb
    · simp at hb; omega
    · rcases List.mem_cons.mp hb with e | e
      · omega
      · exact digs_by f (n / 128) (by rw [Nat.pow_succ] at h; exact Nat.div_lt_of_lt_mul (by omega)) b e
/-! the program's digits -/
def bodyG : ST := (sSeq (sApp 1 (e2 pAdd (eC (.int 128)) (e2 pMod (eV 0) (eC (.int 128))))) (sSet 0 (e2 pDivW (eV 0) (eC (.int 128)))))
def testG : TX := (uB (e2 pGe (eV 0) (eC (.int 128))))
theorem div128 (n : Nat) : pDivW (.int n) (.int 128) = some (.int ((n / 128 : Nat) : Int)) := by
  rw [pDivW_int _ _ (by omega) (lt9000 (by decide))]; simp
theorem mod128 (n : Nat) : pMod (.int n) (.int 128) = some (.int ((n % 128 : Nat) : Int)) := by
  rw [pMod_int _ _ (by omega)]; simp
theorem digits_while : ∀ (f n : Nat) (acc : List Nat) (m : Nat), n < 128 ^ (f + 1) → f < m → acc.length + f < 1000 →
    ∃ q, whileN testG bodyG m [some (.int n), some (.lst (dB acc))] = .ok .nx [some (.int (q : Nat)), some (.lst (dB (acc ++ (digs f n).dropLast)))] ∧ digs f n = (digs f n).dropLast ++ [q]
  | 0, n, acc, m, h, hm, hl => by
    obtain ⟨m, rfl⟩ : ∃ k, m = k + 1 := ⟨m - 1, by omega⟩
    have h1 : ¬ (128 : Int) ≤ n := by omega
    refine ⟨n, ?_, by simp [digs]⟩
    rw [whileN_succ]
    simp [testG, h1, digs]
  | f + 1, n, acc, m, h, hm, hl => by
    obtain ⟨m, rfl⟩ : ∃ k, m = k + 1 := ⟨m - 1, by omega⟩
    rw [whileN_succ]
    by_cases hn : n < 128
    · have h1 : ¬ (128 : Int) ≤ n := by omega
      refine ⟨n, ?_, by simp [digs, hn]⟩
      simp [testG, h1, digs, hn]
    · have h1 : (128 : Int) ≤ n := by omega
      have hd : n / 128 < 128 ^ (f + 1) := by rw [Nat.pow_succ] at h; exact Nat.div_lt_of_lt_mul (by omega)
      obtain ⟨q, e1, e2⟩ := digits_while f (n / 128) (acc ++ [128 + n % 128]) m hd (by omega) (by simp; omega)
      refine ⟨q, ?_, ?_⟩
      · have hb : bodyG [some (.int n), some (.lst (dB acc))] = .ok .nx [some (.int (n / 128 : Nat)), some (.lst (dB (acc ++ [128 + n % 128])))] := by
          have h3 : acc.length < line := by unfold line; omega
          simp [bodyG, div128, mod128, h3]
        have ht : testG [some (.int n), some (.lst (dB acc))] = .ok true [some (.int n), some (.lst (dB acc))] := by simp [testG, h1]
        rw [ht, whileK_ok, if_pos rfl, hb, whileK2_nx, e1]
        have : (digs (f + 1) n).dropLast = (128 + n % 128) :: (digs f (n / 128)).dropLast := by
          rw [digs, if_neg hn, List.dropLast_cons_of_ne_nil (by intro z; have := digs_pos f (n / 128); rw [z] at this; cases this)]
        rw [this]
        simp
      · rw [digs, if_neg hn, List.dropLast_cons_of_ne_nil (by intro z; have := digs_pos f (n / 128); rw [z] at this; cases this), List.cons_append, ← e2]
theorem digits_eq (f n : Nat) (h : n < 128 ^ (f + 1)) (hf : f < 100) : f_digits [.int n] = .ok (.lst (dB (digs f n))) [.int n] := by
  obtain ⟨q, e1, e2⟩ := digits_while f n [] 100000 h (by omega) (by simp; omega)
  have hl := digs_len f n
  have e3 : (dB (digs f n).dropLast ++ [D.int q]) = dB (digs f n) := by
    conv => rhs; rw [e2]
    simp
  have h5 : (digs f n).length - 1 + 1 ≤ line := by unfold line; omega
  simp [testG, bodyG] at e1
  simp [f_digits, fnB_ap, m_digits, sWhile_ap, e1]
  simp at e3
  rw [if_pos h5]
  simp [e3]
end K66

set_option linter.all false
set_option maxRecDepth 100000
set_option exponentiation.threshold 10000
/-! K66O: values, their bytes. -/
namespace K66
open PL HP
/-- a value with at most d tuples within one another, each of at most b parts -/
def isV (b : Nat) : Nat → D → Prop
  | _, .non => True
  | _, .int i => 0 ≤ i ∧ i < 128 ^ 9
  | _, .str s => s.length ≤ 127 ∧ ∀ c ∈ s, 97 ≤ c ∧ c ≤ 122
  | 0, .tup _ => False
  | d + 1, .tup xs => xs.length ≤ b ∧ ∀ x ∈ xs, isV b d x
  | _, _ => False
def enc : Nat → D → List Nat
  | _, .non => [0]
  | _, .int i => 1 :: digs 8 i.toNat
  | _, .str s => 2 :: s.length :: s
  | 0, .tup _ => []
  | d + 1, .tup xs => 3 :: digs 8 xs.length ++ xs.flatMap (enc d)
  | _, _ => []
/-- the length of the bytes of values with at most three parts -/
def most : Nat → Nat
  | 0 => 140
  | d + 1 => 140 + 3 * most d
theorem most_le : ∀ d, 140 ≤ most d
  | 0 => Nat.le_refl _
  | d + 1 => by unfold most; omega
theorem flat_len {f : D → List Nat} {m : Nat} : ∀ {xs : List D}, (∀ x ∈ xs, (f x).length ≤ m) → (xs.flatMap f).length ≤ xs.length * m
  | [], _ => by simp
  | x :: xs, h => by
    rw [List.flatMap_cons, List.length_append, List.length_cons, Nat.add_mul]
    have := flat_len (xs := xs) fun y hy => h y (List.mem_cons_of_mem _ hy)
    have := h x List.mem_cons_self
    omega
theorem enc_len : ∀ (d : Nat) (v : D), isV 3 d v → (enc d v).length ≤ most d
  | d, .non, _ => by have := most_le d; cases d <;> simp [enc] <;> omega
  | d, .int i, _ => by have := most_le d; have := digs_len 8 i.toNat; cases d <;> simp [enc] <;> omega
  | d, .str s, h => by
    have := most_le d
    have h : s.length ≤ 127 := by cases d <;> exact h.1
    cases d <;> simp [enc] <;> omega
  | 0, .tup xs, h => h.elim
  | d + 1, .tup xs, h => by
    have h : xs.length ≤ 3 ∧ ∀ x ∈ xs, isV 3 d x := h
    have h1 := digs_len 8 xs.length
    have h2 := flat_len (f := enc d) (m := most d) (xs := xs) fun x hx => enc_len d x (h.2 x hx)
    have h3 : xs.length * most d ≤ 3 * most d := Nat.mul_le_mul_right _ h.1
    simp only [enc, most, List.length_append, List.length_cons]
    omega
  | 0, .bl _, h => h.elim
  | 0, .lst _, h => h.elim
  | 0, .dic _, h => h.elim
  | 0, .ins _ _, h => h.elim
  | 0, .exn _ _, h => h.elim
  | 0, .clo _, h => h.elim
  | d + 1, .bl _, h => h.elim
  | d + 1, .lst _, h => h.elim
  | d + 1, .dic _, h => h.elim
  | d + 1, .ins _ _, h => h.elim
  | d + 1, .exn _ _, h => h.elim
  | d + 1, .clo _, h => h.elim
theorem isV_up {b : Nat} : ∀ {d : Nat} {v : D}, isV b d v → isV b (d + 1) v
  | d, .non, _ => by cases d <;> trivial
  | d, .int i, h => by cases d <;> exact h
  | d, .str s, h => by cases d <;> exact h
  | 0, .tup xs, h => h.elim
  | d + 1, .tup xs, h => ⟨h.1, fun x hx => isV_up (h.2 x hx)⟩
  | 0, .bl _, h => h.elim
  | 0, .lst _, h => h.elim
  | 0, .dic _, h => h.elim
  | 0, .ins _ _, h => h.elim
  | 0, .exn _ _, h => h.elim
  | 0, .clo _, h => h.elim
  | d + 1, .bl _, h => h.elim
  | d + 1, .lst _, h => h.elim
  | d + 1, .dic _, h => h.elim
  | d + 1, .ins _ _, h => h.elim
  | d + 1, .exn _ _, h => h.elim
  | d + 1, .clo _, h => h.elim
theorem isV_le {b d e : Nat} {v : D} (h : isV b d v) (l : d ≤ e) : isV b e v := by
  induction l with
  | refl => exact h
  | step _ ih => exact isV_up ih
theorem isV_weak {b c : Nat} (hbc : b ≤ c) : ∀ {d : Nat} {v : D}, isV b d v → isV c d v
  | d, .non, _ => by cases d <;> trivial
  | d, .int i, h => by cases d <;> exact h
  | d, .str s, h => by cases d <;> exact h
  | 0, .tup xs, h => h.elim
  | d + 1, .tup xs, h => ⟨Nat.le_trans h.1 hbc, fun x hx => isV_weak hbc (h.2 x hx)⟩
  | 0, .bl _, h => h.elim
  | 0, .lst _, h => h.elim
  | 0, .dic _, h => h.elim
  | 0, .ins _ _, h => h.elim
  | 0, .exn _ _, h => h.elim
  | 0, .clo _, h => h.elim
  | d + 1, .bl _, h => h.elim
  | d + 1, .lst _, h => h.elim
  | d + 1, .dic _, h => h.elim
  | d + 1, .ins _ _, h => h.elim
  | d + 1, .exn _ _, h => h.elim
  | d + 1, .clo _, h => h.elim
/-- with few parts (3) at some depth, and few tuples within one another: both -/
theorem isV_both {b : Nat} : ∀ {d e : Nat} {v : D}, isV 3 e v → isV b d v → isV 3 d v
  | d, e, .non, _, _ => by cases d <;> trivial
  | d, e, .int i, _, h => by cases d <;> exact h
  | d, e, .str s, _, h => by cases d <;> exact h
  | 0, e, .tup xs, _, h => h.elim
  | d + 1, 0, .tup xs, h, _ => h.elim
  | d + 1, e + 1, .tup xs, h, h2 => ⟨h.1, fun x hx => isV_both (h.2 x hx) (h2.2 x hx)⟩
  | 0, _, .bl _, _, h => h.elim
  | 0, _, .lst _, _, h => h.elim
  | 0, _, .dic _, _, h => h.elim
  | 0, _, .ins _ _, _, h => h.elim
  | 0, _, .exn _ _, _, h => h.elim
  | 0, _, .clo _, _, h => h.elim
  | d + 1, _, .bl _, _, h => h.elim
  | d + 1, _, .lst _, _, h => h.elim
  | d + 1, _, .dic _, _, h => h.elim
  | d + 1, _, .ins _ _, _, h => h.elim
  | d + 1, _, .exn _ _, _, h => h.elim
  | d + 1, _, .clo _, _, h => h.elim
theorem flat_congr {f g : D → List Nat} : ∀ {xs : List D}, (∀ x ∈ xs, f x = g x) → xs.flatMap f = xs.flatMap g
  | [], _ => rfl
  | x :: xs, h => by
    rw [List.flatMap_cons, List.flatMap_cons, h x List.mem_cons_self, flat_congr fun y hy => h y (List.mem_cons_of_mem _ hy)]
theorem enc_up {b : Nat} : ∀ {d : Nat} {v : D}, isV b d v → enc (d + 1) v = enc d v
  | d, .non, _ => by cases d <;> rfl
  | d, .int i, h => by cases d <;> rfl
  | d, .str s, h => by cases d <;> rfl
  | 0, .tup xs, h => h.elim
  | d + 1, .tup xs, h => by
    show 3 :: digs 8 xs.length ++ xs.flatMap (enc (d + 1)) = 3 :: digs 8 xs.length ++ xs.flatMap (enc d)
    rw [flat_congr fun x hx => enc_up (h.2 x hx)]
  | 0, .bl _, h => h.elim
  | 0, .lst _, h => h.elim
  | 0, .dic _, h => h.elim
  | 0, .ins _ _, h => h.elim
  | 0, .exn _ _, h => h.elim
  | 0, .clo _, h => h.elim
  | d + 1, .bl _, h => h.elim
  | d + 1, .lst _, h => h.elim
  | d + 1, .dic _, h => h.elim
  | d + 1, .ins _ _, h => h.elim
  | d + 1, .exn _ _, h => h.elim
  | d + 1, .clo _, h => h.elim
theorem enc_le {b d e : Nat} {v : D} (h : isV b d v) (l : d ≤ e) : enc e v = enc d v := by
  induction l with
  | refl => rfl
  | step l ih => rw [enc_up (isV_le h l), ih]
theorem enc_pos {b : Nat} : ∀ {d : Nat} {v : D}, isV b d v → 0 < (enc d v).length
  | d, .non, _ => by cases d <;> simp [enc]
  | d, .int i, h => by cases d <;> simp [enc]
  | d, .str s, h => by cases d <;> simp [enc]
  | 0, .tup xs, h => h.elim
  | d + 1, .tup xs, h => by simp [enc]
  | 0, .bl _, h => h.elim
  | 0, .lst _, h => h.elim
  | 0, .dic _, h => h.elim
  | 0, .ins _ _, h => h.elim
  | 0, .exn _ _, h => h.elim
  | 0, .clo _, h => h.elim
  | d + 1, .bl _, h => h.elim
  | d + 1, .lst _, h => h.elim
  | d + 1, .dic _, h => h.elim
  | d + 1, .ins _ _, h => h.elim
  | d + 1, .exn _ _, h => h.elim
  | d + 1, .clo _, h => h.elim
theorem enc_by {b : Nat} (hb : b < 128 ^ 9) : ∀ {d : Nat} {v : D}, isV b d v → isBy (enc d v)
  | d, .non, _ => by cases d <;> simp [enc, isBy]
  | d, .int i, h => by
    have h : 0 ≤ i ∧ i < 128 ^ 9 := by cases d <;> exact h
    have q := digs_by 8 i.toNat (by omega)
    have e : enc d (.int i) = 1 :: digs 8 i.toNat := by cases d <;> rfl
    rw [e]
    intro x hx
    rcases List.mem_cons.mp hx with e | e
    · omega
    · exact q x e
  | d, .str s, h => by
    have h : s.length ≤ 127 ∧ ∀ c ∈ s, 97 ≤ c ∧ c ≤ 122 := by cases d <;> exact h
    have e : enc d (.str s) = 2 :: s.length :: s := by cases d <;> rfl
    rw [e]
    intro x hx
    rcases List.mem_cons.mp hx with e | e
    · omega
    · rcases List.mem_cons.mp e with e | e
      · omega
      · have := h.2 x e; omega
  | 0, .tup xs, h => h.elim
  | d + 1, .tup xs, h => by
    have q := digs_by 8 xs.length (Nat.lt_of_le_of_lt h.1 hb)
    intro x hx
    have hx : x ∈ 3 :: digs 8 xs.length ++ xs.flatMap (enc d) := hx
    rcases List.mem_append.mp hx with e | e
    · rcases List.mem_cons.mp e with e | e
      · omega
      · exact q x e
    · obtain ⟨y, hy, e⟩ := List.mem_flatMap.mp e
      exact enc_by hb (h.2 y hy) x e
  | 0, .bl _, h => h.elim
  | 0, .lst _, h => h.elim
  | 0, .dic _, h => h.elim
  | 0, .ins _ _, h => h.elim
  | 0, .exn _ _, h => h.elim
  | 0, .clo _, h => h.elim
  | d + 1, .bl _, h => h.elim
  | d + 1, .lst _, h => h.elim
  | d + 1, .dic _, h => h.elim
  | d + 1, .ins _ _, h => h.elim
  | d + 1, .exn _ _, h => h.elim
  | d + 1, .clo _, h => h.elim
/-! ### reading what was written -/
theorem drop_at {bs : List Nat} {k : Nat} {l : List Nat} (h : ∃ r, bs.drop k = l ++ r) {i : Nat} (hi : i < l.length) : bs[k + i]? = some l[i] := by
  obtain ⟨r, h⟩ := h
  have : (bs.drop k)[i]? = (l ++ r)[i]? := by rw [h]
  rw [List.getElem?_drop, List.getElem?_append_left hi, List.getElem?_eq_getElem hi] at this
  exact this
theorem drop_tail {bs : List Nat} {k : Nat} {l m : List Nat} (h : ∃ r, bs.drop k = l ++ m ++ r) : ∃ r, bs.drop (k + l.length) = m ++ r := by
  obtain ⟨r, h⟩ := h
  refine ⟨r, ?_⟩
  rw [← List.drop_drop, h, List.append_assoc, List.drop_left]
theorem pdig_digs {bs : List Nat} {spot : Nat} : ∀ (f m n k found worth : Nat), n < 128 ^ (m + 1) → m ≤ f → (∃ r, bs.drop (spot + k) = digs f n ++ r) → (n ≠ 0 ∨ k = 0) →
    pdig bs spot (m + 1) k found worth = .ok (found + n * worth, spot + k + (digs f n).length) := by
  intro f
  induction f with
  | zero =>
    intro m n k found worth hn hm hr h0
    have hm : m = 0 := by omega
    subst hm
    have e := drop_at hr (i := 0) (by simp [digs])
    simp [digs] at e
    unfold pdig
    rw [e]
    dsimp only
    rw [if_neg (by omega), if_pos (by omega)]
    have : n % 128 = n := by omega
    simp [digs, this]
  | succ f ih =>
    intro m n k found worth hn hm hr h0
    by_cases h : n < 128
    · have hd : digs (f + 1) n = [n] := by simp [digs, h]
      rw [hd] at hr ⊢
      have e := drop_at hr (i := 0) (by simp)
      simp at e
      unfold pdig
      rw [e]
      dsimp only
      rw [if_neg (by omega), if_pos h]
      have : n % 128 = n := by omega
      simp [this]
    · have hd : digs (f + 1) n = (128 + n % 128) :: digs f (n / 128) := by simp [digs, h]
      have h1 : 1 ≤ m := by
        cases m with
        | zero => omega
        | succ m => omega
      obtain ⟨m, rfl⟩ : ∃ j, m = j + 1 := ⟨m - 1, by omega⟩
      rw [hd] at hr ⊢
      have e := drop_at hr (i := 0) (by simp)
      simp at e
      have ht := drop_tail (l := [128 + n % 128]) (m := digs f (n / 128)) (by simpa using hr)
      unfold pdig
      rw [e]
      dsimp only
      rw [if_neg (by omega), if_neg (by omega), ih m (n / 128) (k + 1) _ _ (by rw [Nat.pow_succ] at hn; exact Nat.div_lt_of_lt_mul (by omega)) (by omega) (by simpa [Nat.add_assoc] using ht) (by omega)]
      have e1 : (128 + n % 128) % 128 = n % 128 := by omega
      have e2 : n % 128 * worth + n / 128 * (worth * 128) = n * worth := by
        conv => rhs; rw [← Nat.mod_add_div n 128, Nat.add_mul]
        rw [Nat.mul_comm 128, Nat.mul_assoc, Nat.mul_comm 128]
      rw [e1]
      simp only [List.length_cons]
      congr 2
      · rw [← e2]; omega
      · omega
theorem ptext_enc {bs : List Nat} : ∀ (s : List Nat) (k : Nat), (∃ r, bs.drop k = s ++ r) → (∀ c ∈ s, 97 ≤ c ∧ c ≤ 122) → ptext bs s.length k = .ok s
  | [], k, _, _ => rfl
  | c :: s, k, hr, h => by
    have e := drop_at hr (i := 0) (by simp)
    simp at e
    have ht := drop_tail (l := [c]) (m := s) (by simpa using hr)
    have ih := ptext_enc s (k + 1) (by simpa using ht) fun x hx => h x (List.mem_cons_of_mem _ hx)
    simp only [List.length_cons]
    unfold ptext
    rw [e]
    dsimp only
    rw [if_pos (h c List.mem_cons_self), ih]
theorem pitems_enc {bs : List Nat} {p : Nat → Except Nat (D × Nat)} {f : D → List Nat} : ∀ (xs : List D) (k : Nat), (∀ x ∈ xs, ∀ k, (∃ r, bs.drop k = f x ++ r) → p k = .ok (x, k + (f x).length)) → (∃ r, bs.drop k = xs.flatMap f ++ r) →
    pitems p xs.length k = .ok (xs, k + (xs.flatMap f).length)
  | [], k, _, _ => rfl
  | x :: xs, k, hp, hr => by
    have e := hp x List.mem_cons_self k (by obtain ⟨r, h⟩ := hr; exact ⟨xs.flatMap f ++ r, by rw [h, List.flatMap_cons, List.append_assoc]⟩)
    have ht := drop_tail (l := f x) (m := xs.flatMap f) (by simpa using hr)
    have ih := pitems_enc xs _ (fun y hy => hp y (List.mem_cons_of_mem _ hy)) ht
    simp only [List.length_cons]
    unfold pitems
    rw [e]
    dsimp only
    rw [ih]
    simp [Nat.add_assoc]
theorem pval_enc {bs : List Nat} {b : Nat} (hb : b < 128 ^ 3) : ∀ (d : Nat) (v : D) (spot : Nat), isV b d v → (∃ r, bs.drop spot = enc d v ++ r) → pval bs d spot = .ok (v, spot + (enc d v).length)
  | d, .non, spot, _, hr => by
    have ee : enc d .non = [0] := by cases d <;> rfl
    rw [ee] at hr ⊢
    have e := drop_at hr (i := 0) (by simp)
    simp at e
    unfold pval
    rw [e]
    simp
  | d, .int i, spot, h, hr => by
    have h : 0 ≤ i ∧ i < 128 ^ 9 := by cases d <;> exact h
    have ee : enc d (.int i) = 1 :: digs 8 i.toNat := by cases d <;> rfl
    rw [ee] at hr ⊢
    have e := drop_at hr (i := 0) (by simp)
    simp at e
    have ht := drop_tail (l := [1]) (m := digs 8 i.toNat) (by simpa using hr)
    have q := pdig_digs (bs := bs) (spot := spot + 1) 8 8 i.toNat 0 0 1 (by omega) (by omega) (by simpa using ht) (by omega)
    unfold pval
    rw [e]
    dsimp only
    rw [if_neg (by omega), if_pos rfl, q]
    simp [Int.toNat_of_nonneg h.1, Nat.add_assoc, Nat.add_comm]
  | d, .str s, spot, h, hr => by
    have h : s.length ≤ 127 ∧ ∀ c ∈ s, 97 ≤ c ∧ c ≤ 122 := by cases d <;> exact h
    have ee : enc d (.str s) = 2 :: s.length :: s := by cases d <;> rfl
    rw [ee] at hr ⊢
    have e := drop_at hr (i := 0) (by simp)
    have e1 := drop_at hr (i := 1) (by simp)
    simp at e e1
    have ht := drop_tail (l := [2, s.length]) (m := s) (by simpa using hr)
    have q := ptext_enc s (spot + 2) (by simpa using ht) h.2
    unfold pval ptx
    rw [e]
    dsimp only
    rw [if_neg (by omega), if_neg (by omega), if_pos rfl, e1]
    dsimp only
    rw [if_neg (by omega), q]
    simp [Nat.add_assoc, Nat.add_comm]
    omega
  | 0, .tup xs, spot, h, _ => h.elim
  | d + 1, .tup xs, spot, h, hr => by
    have h : xs.length ≤ b ∧ ∀ x ∈ xs, isV b d x := h
    have ee : enc (d + 1) (.tup xs) = 3 :: digs 8 xs.length ++ xs.flatMap (enc d) := rfl
    rw [ee] at hr ⊢
    have e := drop_at hr (i := 0) (by simp)
    simp at e
    have ht := drop_tail (l := [3]) (m := digs 8 xs.length ++ xs.flatMap (enc d)) (by simpa using hr)
    have q := pdig_digs (bs := bs) (spot := spot + 1) 8 2 xs.length 0 0 1 (Nat.lt_of_le_of_lt h.1 hb) (by omega) (by obtain ⟨r, z⟩ := ht; exact ⟨_, by simpa using z⟩) (by omega)
    have ht2 := drop_tail (l := digs 8 xs.length) (m := xs.flatMap (enc d)) ht
    have q2 := pitems_enc (p := pval bs d) (f := enc d) xs _ (fun x hx k hk => pval_enc hb d x k (h.2 x hx) hk) ht2
    unfold pval
    rw [e]
    dsimp only
    rw [if_neg (by omega), if_neg (by omega), if_neg (by omega), if_pos rfl, q]
    dsimp only
    simp at q2 ⊢
    rw [q2]
    simp [Nat.add_assoc, Nat.add_comm, Nat.add_left_comm]
  | 0, .bl _, _, h, _ => h.elim
  | 0, .lst _, _, h, _ => h.elim
  | 0, .dic _, _, h, _ => h.elim
  | 0, .ins _ _, _, h, _ => h.elim
  | 0, .exn _ _, _, h, _ => h.elim
  | 0, .clo _, _, h, _ => h.elim
  | d + 1, .bl _, _, h, _ => h.elim
  | d + 1, .lst _, _, h, _ => h.elim
  | d + 1, .dic _, _, h, _ => h.elim
  | d + 1, .ins _ _, _, h, _ => h.elim
  | d + 1, .exn _ _, _, h, _ => h.elim
  | d + 1, .clo _, _, h, _ => h.elim
end K66

set_option linter.all false
set_option maxRecDepth 100000
set_option exponentiation.threshold 10000
/-! K66Q: what is read is a value; what the defs of k66 write. -/
namespace K66
open PL HP
theorem ptext_sound {bs : List Nat} : ∀ (n k : Nat) (s : List Nat), ptext bs n k = .ok s → s.length = n ∧ ∀ c ∈ s, 97 ≤ c ∧ c ≤ 122
  | 0, k, s, h => by cases h; exact ⟨rfl, fun c hc => by cases hc⟩
  | n + 1, k, s, h => by
    unfold ptext at h
    cases e : bs[k]? with
    | none => rw [e] at h; cases h
    | some c =>
      rw [e] at h
      dsimp only at h
      split at h
      · rename_i hc
        cases e2 : ptext bs n (k + 1) with
        | error p => rw [e2] at h; cases h
        | ok t =>
          rw [e2] at h
          cases h
          obtain ⟨a, b⟩ := ptext_sound n (k + 1) t e2
          refine ⟨by simp [a], fun x hx => ?_⟩
          rcases List.mem_cons.mp hx with z | z
          · rw [z]; exact hc
          · exact b x z
      · cases h
theorem pitems_all {p : Nat → Except Nat (D × Nat)} {Q : D → Prop} (hp : ∀ k v e, p k = .ok (v, e) → Q v) : ∀ (n k : Nat) (vs : List D) (e : Nat), pitems p n k = .ok (vs, e) → vs.length = n ∧ ∀ v ∈ vs, Q v
  | 0, k, vs, e, h => by cases h; exact ⟨rfl, fun v hv => by cases hv⟩
  | n + 1, k, vs, e, h => by
    unfold pitems at h
    cases e1 : p k with
    | error q => rw [e1] at h; cases h
    | ok z =>
      obtain ⟨v, sp⟩ := z
      rw [e1] at h
      dsimp only at h
      cases e2 : pitems p n sp with
      | error q => rw [e2] at h; cases h
      | ok z2 =>
        obtain ⟨us, e3⟩ := z2
        rw [e2] at h
        cases h
        obtain ⟨a, b⟩ := pitems_all hp n sp us e e2
        refine ⟨by simp [a], fun x hx => ?_⟩
        rcases List.mem_cons.mp hx with w | w
        · rw [w]; exact hp _ _ _ e1
        · exact b x w
theorem pval_sound {bs : List Nat} : ∀ (d spot : Nat) (v : D) (e : Nat), pval bs d spot = .ok (v, e) → isV (128 ^ 3 - 1) d v := by
  intro d
  induction d with
  | zero =>
    intro spot v e h
    unfold pval at h
    cases eb : bs[spot]? with
    | none => rw [eb] at h; cases h
    | some c =>
      rw [eb] at h
      dsimp only at h
      split at h
      · cases h; trivial
      · split at h
        · cases e1 : pdig bs (spot + 1) 9 0 0 1 with
          | error p => rw [e1] at h; cases h
          | ok z =>
            rw [e1] at h; cases h
            have := (pdig_lt _ _ _ _ _ _ e1 (by omega)).1
            exact ⟨by omega, by omega⟩
        · split at h
          · unfold ptx at h
            cases e1 : bs[spot + 1]? with
            | none => rw [e1] at h; cases h
            | some z =>
              rw [e1] at h
              dsimp only at h
              by_cases hz : 127 < z
              · rw [if_pos hz] at h; cases h
              · rw [if_neg hz] at h
                cases e2 : ptext bs z (spot + 1 + 1) with
                | error p => rw [e2] at h; cases h
                | ok s =>
                  rw [e2] at h; cases h
                  obtain ⟨a, b⟩ := ptext_sound _ _ _ e2
                  exact ⟨by omega, b⟩
          · split at h <;> cases h
  | succ d ih =>
    intro spot v e h
    unfold pval at h
    cases eb : bs[spot]? with
    | none => rw [eb] at h; cases h
    | some c =>
      rw [eb] at h
      dsimp only at h
      split at h
      · cases h; trivial
      · split at h
        · cases e1 : pdig bs (spot + 1) 9 0 0 1 with
          | error p => rw [e1] at h; cases h
          | ok z =>
            rw [e1] at h; cases h
            have := (pdig_lt _ _ _ _ _ _ e1 (by omega)).1
            exact ⟨by omega, by omega⟩
        · split at h
          · unfold ptx at h
            cases e1 : bs[spot + 1]? with
            | none => rw [e1] at h; cases h
            | some z =>
              rw [e1] at h
              dsimp only at h
              by_cases hz : 127 < z
              · rw [if_pos hz] at h; cases h
              · rw [if_neg hz] at h
                cases e2 : ptext bs z (spot + 1 + 1) with
                | error p => rw [e2] at h; cases h
                | ok s =>
                  rw [e2] at h; cases h
                  obtain ⟨a, b⟩ := ptext_sound _ _ _ e2
                  exact ⟨by omega, b⟩
          · split at h
            · cases e1 : pdig bs (spot + 1) 3 0 0 1 with
              | error p => rw [e1] at h; cases h
              | ok z =>
                obtain ⟨n, sp⟩ := z
                rw [e1] at h
                dsimp only at h
                cases e2 : pitems (pval bs d) n sp with
                | error p => rw [e2] at h; cases h
                | ok z2 =>
                  obtain ⟨vs, e3⟩ := z2
                  rw [e2] at h
                  cases h
                  have hn := (pdig_lt _ _ _ _ _ _ e1 (by omega)).1
                  obtain ⟨a, b⟩ := pitems_all (Q := isV (128 ^ 3 - 1) d) (fun k v e h => ih k v e h) n sp vs e e2
                  exact ⟨by omega, b⟩
            · cases h
theorem pitems_mono {p q : Nat → Except Nat (D × Nat)} (hp : ∀ k r, p k = .ok r → q k = .ok r) : ∀ (n k : Nat) (r : List D × Nat), pitems p n k = .ok r → pitems q n k = .ok r
  | 0, k, r, h => h
  | n + 1, k, r, h => by
    unfold pitems at h ⊢
    cases e1 : p k with
    | error q => rw [e1] at h; cases h
    | ok z =>
      obtain ⟨v, sp⟩ := z
      rw [e1] at h
      dsimp only at h
      rw [hp _ _ e1]
      dsimp only
      cases e2 : pitems p n sp with
      | error q => rw [e2] at h; cases h
      | ok z2 => rw [e2] at h; rw [pitems_mono hp n sp z2 e2]; exact h
theorem pval_mono {bs : List Nat} : ∀ (d spot : Nat) (r : D × Nat), pval bs d spot = .ok r → pval bs (d + 1) spot = .ok r := by
  intro d
  induction d with
  | zero =>
    intro spot r h
    unfold pval at h ⊢
    cases eb : bs[spot]? with
    | none => rw [eb] at h; cases h
    | some c =>
      rw [eb] at h
      dsimp only at h ⊢
      by_cases h0 : c = 0
      · rw [if_pos h0] at h ⊢; exact h
      · rw [if_neg h0] at h ⊢
        by_cases h1 : c = 1
        · rw [if_pos h1] at h ⊢; exact h
        · rw [if_neg h1] at h ⊢
          by_cases h2 : c = 2
          · rw [if_pos h2] at h ⊢; exact h
          · rw [if_neg h2] at h
            split at h <;> cases h
  | succ d ih =>
    intro spot r h
    unfold pval at h ⊢
    cases eb : bs[spot]? with
    | none => rw [eb] at h; cases h
    | some c =>
      rw [eb] at h
      dsimp only at h ⊢
      by_cases h0 : c = 0
      · rw [if_pos h0] at h ⊢; exact h
      · rw [if_neg h0] at h ⊢
        by_cases h1 : c = 1
        · rw [if_pos h1] at h ⊢; exact h
        · rw [if_neg h1] at h ⊢
          by_cases h2 : c = 2
          · rw [if_pos h2] at h ⊢; exact h
          · rw [if_neg h2] at h ⊢
            by_cases h3 : c = 3
            · rw [if_pos h3] at h ⊢
              cases e1 : pdig bs (spot + 1) 3 0 0 1 with
              | error p => rw [e1] at h; cases h
              | ok z =>
                obtain ⟨n, sp⟩ := z
                rw [e1] at h
                dsimp only at h ⊢
                cases e2 : pitems (pval bs d) n sp with
                | error p => rw [e2] at h; cases h
                | ok z2 => rw [e2] at h; rw [pitems_mono (fun k r h => ih k r h) n sp z2 e2]; exact h
            · rw [if_neg h3] at h; cases h
/-! ### values compared -/
theorem eqvs_refl_of {xs : List D} : (∀ x ∈ xs, eqv x x = true) → eqvs xs xs = true := by
  induction xs with
  | nil => intro _; rfl
  | cons x xs ih =>
    intro h
    unfold eqvs
    rw [h x List.mem_cons_self, ih fun y hy => h y (List.mem_cons_of_mem _ hy)]
    rfl
theorem isV_plain {b : Nat} : ∀ {d : Nat} {v : D}, isV b d v → plainD d v = true ∧ eqv v v = true
  | d, .non, _ => by cases d <;> exact ⟨rfl, rfl⟩
  | d, .int i, h => ⟨by cases d <;> rfl, by simp [eqv]⟩
  | d, .str s, h => by
    have h : s.length ≤ 127 ∧ ∀ c ∈ s, 97 ≤ c ∧ c ≤ 122 := by cases d <;> exact h
    have e : strOkD s = true := by
      unfold strOkD
      rw [List.all_eq_true]
      intro c hc
      have := h.2 c hc
      exact decide_eq_true (by omega)
    exact ⟨by cases d <;> exact e, by simp [eqv]⟩
  | 0, .tup xs, h => h.elim
  | d + 1, .tup xs, h => by
    refine ⟨?_, ?_⟩
    · show xs.all (plainD d) = true
      rw [List.all_eq_true]
      exact fun x hx => (isV_plain (h.2 x hx)).1
    · show eqvs xs xs = true
      exact eqvs_refl_of fun x hx => (isV_plain (h.2 x hx)).2
  | 0, .bl _, h => h.elim
  | 0, .lst _, h => h.elim
  | 0, .dic _, h => h.elim
  | 0, .ins _ _, h => h.elim
  | 0, .exn _ _, h => h.elim
  | 0, .clo _, h => h.elim
  | d + 1, .bl _, h => h.elim
  | d + 1, .lst _, h => h.elim
  | d + 1, .dic _, h => h.elim
  | d + 1, .ins _ _, h => h.elim
  | d + 1, .exn _ _, h => h.elim
  | d + 1, .clo _, h => h.elim
theorem isV_eq {b d : Nat} {v : D} (h : isV b d v) (hd : d ≤ 64) : pEq v v = some (.bl true) ∧ pNe v v = some (.bl false) := by
  obtain ⟨h1, h2⟩ := isV_plain (isV_le h hd)
  unfold pEq pNe
  simp [h1, h2]
theorem dB_eq (bs : List Nat) : pEq (.lst (dB bs)) (.lst (dB bs)) = some (.bl true) ∧ pNe (.lst (dB bs)) (.lst (dB bs)) = some (.bl false) := by
  have h1 := plain_dB 63 bs
  have h2 : eqv (.lst (dB bs)) (.lst (dB bs)) = true := by
    show eqvs _ _ = true
    refine eqvs_refl_of fun x hx => ?_
    obtain ⟨n, _, rfl⟩ := List.mem_map.mp hx
    simp [eqv]
  unfold pEq pNe
  simp [h1, h2]
theorem slice_to (bs : List Nat) (c : Nat) : sliceD (.lst (dB bs)) none (some (c : Int)) = some (.lst (dB (bs.take c))) := by
  have e2 : sIx (dB bs).length (dB bs).length (some (c : Int)) = min c bs.length := by
    simp only [sIx, List.length_map]
    rw [if_neg (by omega)]
    congr 1
  show some (D.lst (cutL (dB bs) _ _)) = _
  unfold cutL
  rw [e2]
  have e1 : sIx (dB bs).length 0 none = 0 := rfl
  rw [e1, List.drop_zero, Nat.sub_zero, ← List.map_take]
  congr 3
  by_cases h : c ≤ bs.length
  · rw [Nat.min_eq_left h]
  · rw [Nat.min_eq_right (by omega), List.take_of_length_le (Nat.le_refl _), List.take_of_length_le (by omega)]
theorem slice_from (bs : List Nat) (c : Nat) : sliceD (.lst (dB bs)) (some (c : Int)) none = some (.lst (dB (bs.drop c))) := by
  have e1 : sIx (dB bs).length 0 (some (c : Int)) = min c bs.length := by
    simp only [sIx, List.length_map]
    rw [if_neg (by omega)]
    congr 1
  show some (D.lst (cutL (dB bs) _ _)) = _
  unfold cutL
  rw [e1]
  have e2 : sIx (dB bs).length (dB bs).length none = bs.length := by simp [sIx]
  rw [e2, List.take_of_length_le (by rw [List.length_drop, List.length_map]; omega), ← List.map_drop]
  congr 3
  by_cases h : c ≤ bs.length
  · rw [Nat.min_eq_left h]
  · rw [Nat.min_eq_right (by omega), List.drop_length, List.drop_eq_nil_of_le (by omega)]
theorem isBy_sub {bs cs : List Nat} (h : isBy bs) (s : ∀ x ∈ cs, x ∈ bs) : isBy cs := fun x hx => h x (s x hx)
end K66

set_option linter.all false
set_option maxRecDepth 100000
set_option exponentiation.threshold 10000
/-! K66R: what the defs of k66 write. -/
namespace K66
open PL HP
theorem pow9 : pPow (.int 128) (.int 9) = some (.int (128 ^ 9)) := pPow_int _ _ ⟨by omega, by omega, by decide⟩
theorem pow3 : pPow (.int 128) (.int 3) = some (.int 2097152) := pPow_int _ _ ⟨by omega, by omega, by decide⟩
theorem abc_pos : ∀ i < 26, posOf (i + 97) abc = some i := by decide +kernel
theorem abc_index {c : Nat} (h : 97 ≤ c ∧ c ≤ 122) : pIndex (.str abc) (.str [c]) = some (.int ((c : Int) - 97)) := by
  have e := abc_pos (c - 97) (by omega)
  rw [show c - 97 + 97 = c by omega] at e
  show (if abc.length ≤ line then (posOf c abc).map fun (k : Nat) => D.int k else none) = _
  rw [if_pos (by decide), e]
  simp only [Option.map_some]
  congr 2
  omega
theorem abc_mem {c : Nat} (h : 97 ≤ c ∧ c ≤ 122) : c ∈ abc := by
  have := abc_at (c - 97) (by omega)
  rw [show c - 97 + 97 = c by omega] at this
  exact List.mem_of_getElem? this
theorem isT_int (i : Int) (cs : List String) : pIsT cs (.int i) = some (.bl (cs.any fun c => c == "int")) := by
  unfold pIsT tyName; simp
theorem num_str (s : List Nat) : f_is_number [.str s] = .ok (.bl false) [.str s] := by simp [f_is_number, fnB_ap, m_is_number, pIsT, tyName]
theorem num_tup (s : List D) : f_is_number [.tup s] = .ok (.bl false) [.tup s] := by simp [f_is_number, fnB_ap, m_is_number, pIsT, tyName]
theorem txt_tup (s : List D) : f_is_text [.tup s] = .ok (.bl false) [.tup s] := by simp [f_is_text, fnB_ap, m_is_text, pIsT, tyName]
theorem txt_loop (o : Option D) : ∀ (s : List Nat) (acc : List D), (∀ c ∈ s, 97 ≤ c ∧ c ≤ 122) → acc.length + s.length ≤ line →
    lcGo [1] (gT [1] dNm) uYes (e2 pIn (eV 1) (eC (.str abc))) (strs1 s) acc [o, none] = .ok (acc ++ s.map fun _ => .bl true) [o, none]
  | [], acc, _, _ => by simp [strs1, lcGo_nil]
  | c :: s, acc, h, hl => by
    rw [List.length_cons] at hl
    have q := txt_loop o s (acc ++ [.bl true]) (fun x hx => h x (List.mem_cons_of_mem _ hx)) (by rw [List.length_append, List.length_singleton]; omega)
    have hc := abc_mem (h c List.mem_cons_self)
    have e : pIn (.str [c]) (.str abc) = some (.bl true) := by
      show some (D.bl (decide (c ∈ abc))) = _
      rw [decide_eq_true hc]
    have h3 : acc.length < line := by omega
    rw [show acc ++ (c :: s).map (fun _ => D.bl true) = acc ++ [.bl true] ++ s.map fun _ => .bl true by simp, ← q, show strs1 (c :: s) = .str [c] :: strs1 s from rfl, lcGo_cons]
    simp [e, h3]
theorem pAll_trueN (s : List Nat) : pAll [.lst (s.map fun _ => D.bl true)] = some (.bl true) := by
  have := pAll_true (s.map fun n => D.int (n : Nat))
  rwa [List.map_map] at this
theorem txt_str {s : List Nat} (h : s.length ≤ 127 ∧ ∀ c ∈ s, 97 ≤ c ∧ c ≤ 122) : f_is_text [.str s] = .ok (.bl true) [.str s] := by
  have q := txt_loop (some (.str s)) s [] h.2 (by unfold line; simp; omega)
  have hl : s.length ≤ line := by unfold line; omega
  have h2 : (s.length : Int) ≤ 127 := by omega
  have pa := pAll_trueN s
  have es : (s.map fun c => D.str [c]) = strs1 s := rfl
  simp at q
  simp [f_is_text, fnB_ap, m_is_text, pIsT, tyName, hl, h2, es, q, pa]
theorem idx_loop (o0 o1 o3 o4 : Option D) : ∀ (s : List Nat) (acc : List D), (∀ c ∈ s, 97 ≤ c ∧ c ≤ 122) → acc.length + s.length ≤ line →
    lcGo [2] (gT [2] dNm) uYes (e2 pAdd (eC (.int 97)) (eIdx (eC (.str abc)) (eV 2))) (strs1 s) acc [o0, o1, none, o3, o4] = .ok (acc ++ dB s) [o0, o1, none, o3, o4]
  | [], acc, _, _ => by simp [strs1, lcGo_nil]
  | c :: s, acc, h, hl => by
    rw [List.length_cons] at hl
    have q := idx_loop o0 o1 o3 o4 s (acc ++ [.int c]) (fun x hx => h x (List.mem_cons_of_mem _ hx)) (by rw [List.length_append, List.length_singleton]; omega)
    have hc := abc_index (h c List.mem_cons_self)
    have h3 : acc.length < line := by omega
    have e3 : (97 : Int) + ((c : Int) - 97) = c := by omega
    rw [show acc ++ dB (c :: s) = acc ++ [.int c] ++ dB s by simp, ← q, show strs1 (c :: s) = .str [c] :: strs1 s from rfl, lcGo_cons]
    simp [hc, h3, e3]
def bodyB (g : FN) : ST := (sExt 3 (eCall 2 g (lCons (eV 4) (lCons (e2 pSub (eV 1) (eC (.int 1))) lNil))))
theorem ext_loop {g : FN} {d b m : Nat} (x : D) (hg : ∀ v, isV b d v → (enc d v).length ≤ m → g [v, .int d] = .ok (.lst (dB (enc d v))) [v, .int d]) (o2 : Option D) : ∀ (xs : List D) (acc : List Nat) (o4 : Option D), (∀ v ∈ xs, isV b d v) → (xs.flatMap (enc d)).length ≤ m → acc.length + (xs.flatMap (enc d)).length ≤ line →
    ∃ o4', loop (gT [4] dNm) (bodyB g) xs [some x, some (.int (d + 1 : Nat)), o2, some (.lst (dB acc)), o4] = .ok .nx [some x, some (.int (d + 1 : Nat)), o2, some (.lst (dB (acc ++ xs.flatMap (enc d)))), o4']
  | [], acc, o4, _, _, _ => ⟨o4, by simp [loop_nil]⟩
  | v :: xs, acc, o4, h, hm, hl => by
    rw [List.flatMap_cons, List.length_append] at hl hm
    obtain ⟨o4', q⟩ := ext_loop x hg o2 xs (acc ++ enc d v) (some v) (fun y hy => h y (List.mem_cons_of_mem _ hy)) (by omega) (by rw [List.length_append]; omega)
    refine ⟨o4', ?_⟩
    have e := hg v (h v List.mem_cons_self) (by omega)
    have h3 : acc.length + (enc d v).length ≤ line := by omega
    rw [loop_cons, List.flatMap_cons, ← List.append_assoc, ← q]
    simp [bodyB, e, h3]
theorem digs8_len (n : Nat) : (digs 8 n).length ≤ 9 := digs_len 8 n
theorem bytes_at_eq {b : Nat} (hb : b < 2097152) : ∀ (fuel d : Nat) (v : D), d < fuel → d ≤ 9 → isV b d v → (enc d v).length ≤ 5000000 → f_bytes_at fuel [v, .int d] = .ok (.lst (dB (enc d v))) [v, .int d]
  | 0, d, v, h, _, _, _ => by omega
  | fuel + 1, d, v, h, h9, hv, hlen => by
    have ih := bytes_at_eq hb fuel
    show fnB 5 [] (m_bytes_at (f_bytes_at fuel)) _ = _
    generalize f_bytes_at fuel = g at ih
    match d, v, hv, hlen with
    | d, .non, _, _ =>
      have ee : enc d .non = [0] := by cases d <;> rfl
      rw [ee]
      simp [fnB_ap, m_bytes_at]
    | d, .int i, hv, _ =>
      have hi : 0 ≤ i ∧ i < 128 ^ 9 := by cases d <;> exact hv
      have ee : enc d (.int i) = 1 :: digs 8 i.toNat := by cases d <;> rfl
      have q := digits_eq 8 i.toNat (by omega) (by omega)
      rw [Int.toNat_of_nonneg hi.1] at q
      have hl := digs8_len i.toNat
      have h3 : (digs 8 i.toNat).length + 1 ≤ line := by unfold line; omega
      rw [ee]
      simp [fnB_ap, m_bytes_at, is_number_int, pow9, hi.1, q, h3]
      have hi2 : i < 9223372036854775808 := by omega
      simp [hi2]
    | d, .str s, hv, _ =>
      have hs : s.length ≤ 127 ∧ ∀ c ∈ s, 97 ≤ c ∧ c ≤ 122 := by cases d <;> exact hv
      have ee : enc d (.str s) = 2 :: s.length :: s := by cases d <;> rfl
      have q := idx_loop (some (.str s)) (some (.int d)) none none s [] hs.2 (by unfold line; simp; omega)
      have hl : s.length ≤ line := by unfold line; omega
      have h3 : s.length + 1 + 1 ≤ line := by unfold line; omega
      have es : (s.map fun c => D.str [c]) = strs1 s := rfl
      rw [ee]
      simp at q
      simp [fnB_ap, m_bytes_at, num_str, txt_str hs, hl, es, q, h3]
    | d + 1, .tup xs, hv, hlen =>
      have hv : xs.length ≤ b ∧ ∀ x ∈ xs, isV b d x := hv
      have ee : enc (d + 1) (.tup xs) = 3 :: digs 8 xs.length ++ xs.flatMap (enc d) := rfl
      rw [ee, List.length_append] at hlen
      have q := digits_eq 8 xs.length (by omega) (by omega)
      have hl := digs8_len xs.length
      have h3 : (digs 8 xs.length).length + 1 ≤ line := by unfold line; omega
      obtain ⟨o4', w⟩ := ext_loop (m := 5000000) (.tup xs) (fun v hv hl => ih d v (by omega) (by omega) hv hl) none xs (3 :: digs 8 xs.length) none hv.2 (by omega) (by unfold line; omega)
      have nd : ¬ (d : Int) + 1 = 0 := by omega
      have n3 : ¬ (2097152 : Int) ≤ xs.length := by omega
      unfold bodyB at w
      simp at w
      rw [ee]
      simp [fnB_ap, m_bytes_at, num_tup, txt_tup, pIsT, tyName, nd, pow3, n3, q, h3, w]
    | 0, .bl _, h, _ => exact h.elim
    | 0, .lst _, h, _ => exact h.elim
    | 0, .dic _, h, _ => exact h.elim
    | 0, .ins _ _, h, _ => exact h.elim
    | 0, .exn _ _, h, _ => exact h.elim
    | 0, .clo _, h, _ => exact h.elim
    | d + 1, .bl _, h, _ => exact h.elim
    | d + 1, .lst _, h, _ => exact h.elim
    | d + 1, .dic _, h, _ => exact h.elim
    | d + 1, .ins _ _, h, _ => exact h.elim
    | d + 1, .exn _ _, h, _ => exact h.elim
    | d + 1, .clo _, h, _ => exact h.elim
theorem value_bytes_eq {b : Nat} (hb : b < 2097152) {v : D} (h : isV b 8 v) (hl : (enc 8 v).length ≤ 5000000) : f_value_bytes [v] = .ok (.lst (dB (enc 8 v))) [v] := by
  have q := bytes_at_eq hb 12 8 v (by omega) (by omega) h hl
  simp at q
  simp [f_value_bytes, fnB_ap, m_value_bytes, q]
end K66

set_option linter.all false
set_option maxRecDepth 100000
set_option exponentiation.threshold 10000
/-! K66S: records. -/
namespace K66
open PL HP
def sum1 (bs : List Nat) : Nat := bs.sum
/-- (k + 1) times the k-th, from k = j on -/
def sum2 : Nat → List Nat → Nat
  | _, [] => 0
  | j, c :: r => (j + 1) * c + sum2 (j + 1) r
def tailOf (bs : List Nat) : List Nat := [sum1 bs % 65521 / 256, sum1 bs % 65521 % 256, sum2 0 bs % 65521 / 256, sum2 0 bs % 65521 % 256]
def headOf (n : Nat) : List Nat := [n / 16777216 % 256, n / 65536 % 256, n / 256 % 256, n % 256, 255 - n / 16777216 % 256, 255 - n / 65536 % 256, 255 - n / 256 % 256, 255 - n % 256]
def recB (bs : List Nat) : List Nat := headOf bs.length ++ bs ++ tailOf bs
/-- enumerate, from j on -/
def enumF : Nat → List D → List D
  | _, [] => []
  | j, x :: r => .tup [.int j, x] :: enumF (j + 1) r
theorem enumL_eq : ∀ (xs : List D) (j : Nat), (List.range' j xs.length).zipWith (fun (i : Nat) x => D.tup [.int i, x]) xs = enumF j xs
  | [], _ => rfl
  | x :: xs, j => by
    rw [List.length_cons, List.range'_succ, List.zipWith_cons_cons, enumL_eq xs (j + 1), enumF]
theorem enumL_F (xs : List D) : enumL xs = enumF 0 xs := by
  rw [← enumL_eq, ← List.range_eq_range']; rfl
def mulsF : Nat → List Nat → List Int
  | _, [] => []
  | j, c :: r => ((j : Int) + 1) * c :: mulsF (j + 1) r
theorem muls_sum : ∀ (bs : List Nat) (j : Nat), (mulsF j bs).sum = (sum2 j bs : Nat)
  | [], _ => rfl
  | c :: r, j => by
    rw [mulsF, List.sum_cons, muls_sum r (j + 1), sum2]
    simp
theorem muls_len : ∀ (bs : List Nat) (j : Nat), (mulsF j bs).length = bs.length
  | [], _ => rfl
  | c :: r, j => by rw [mulsF, List.length_cons, List.length_cons, muls_len r (j + 1)]
theorem sums_loop (o0 o1 o2 : Option D) : ∀ (bs : List Nat) (j : Nat) (acc : List D), isBy bs → acc.length + bs.length ≤ line →
    lcGo [3, 4] (gT [3, 4] (dTup [dNm, dNm])) uYes (e2 pMulI (e2 pAdd (eV 3) (eC (.int 1))) (eV 4)) (enumF j (dB bs)) acc [o0, o1, o2, none, none] = .ok (acc ++ (mulsF j bs).map .int) [o0, o1, o2, none, none]
  | [], j, acc, _, _ => by simp [enumF, lcGo_nil, mulsF]
  | c :: bs, j, acc, hb, hl => by
    rw [List.length_cons] at hl
    have hc := hb c List.mem_cons_self
    have q := sums_loop o0 o1 o2 bs (j + 1) (acc ++ [.int (((j : Int) + 1) * c)]) (fun x hx => hb x (List.mem_cons_of_mem _ hx)) (by rw [List.length_append, List.length_singleton]; omega)
    have e : pMulI (.int ((j : Int) + 1)) (.int c) = some (.int (((j : Int) + 1) * c)) := pMulI_r _ _ (by omega)
    have h3 : acc.length < line := by omega
    rw [show acc ++ (mulsF j (c :: bs)).map D.int = acc ++ [.int (((j : Int) + 1) * c)] ++ (mulsF (j + 1) bs).map .int by simp [mulsF], ← q, show dB (c :: bs) = .int c :: dB bs from rfl, enumF, lcGo_cons]
    simp [e, h3]
theorem sum_cast : ∀ bs : List Nat, (bs.map fun n : Nat => (n : Int)).sum = (bs.sum : Nat)
  | [] => rfl
  | c :: r => by rw [List.map_cons, List.sum_cons, List.sum_cons, sum_cast r]; simp
theorem pDivW_nat (n k : Nat) {kk : Int} (hk : kk = k) (h0 : 0 < k) (h : k < 2 ^ 64) : pDivW (.int n) (.int kk) = some (.int ((n / k : Nat) : Int)) := by
  subst hk
  rw [pDivW_int _ _ (by omega) (lt9000 (by omega))]; simp
theorem pMod_nat (n k : Nat) {kk : Int} (hk : kk = k) (h0 : 0 < k) : pMod (.int n) (.int kk) = some (.int ((n % k : Nat) : Int)) := by
  subst hk
  rw [pMod_int _ _ (by omega)]; simp
theorem sums_eq {bs : List Nat} (hb : isBy bs) (hl : bs.length ≤ line) : f_sums [.lst (dB bs)] = .ok (.lst (dB (tailOf bs))) [.lst (dB bs)] := by
  have e1 : pSum [.lst (dB bs)] = some (.int (bs.sum : Nat)) := by
    have := pSum_ints (bs.map fun n : Nat => (n : Int))
    rw [List.map_map, sum_cast] at this
    exact this
  have e2 : pSum [.lst ((mulsF 0 bs).map .int)] = some (.int (sum2 0 bs : Nat)) := by rw [pSum_ints, muls_sum]
  have m1 := pMod_nat bs.sum 65521 (kk := 65521) rfl (by omega)
  have m2 := pMod_nat (sum2 0 bs) 65521 (kk := 65521) rfl (by omega)
  have q := sums_loop (some (.lst (dB bs))) (some (.int (bs.sum % 65521 : Nat))) none bs 0 [] hb (by simpa using hl)
  have d1 := pDivW_nat (bs.sum % 65521) 256 (kk := 256) rfl (by omega) (by omega)
  have d2 := pDivW_nat (sum2 0 bs % 65521) 256 (kk := 256) rfl (by omega) (by omega)
  have n1 := pMod_nat (bs.sum % 65521) 256 (kk := 256) rfl (by omega)
  have n2 := pMod_nat (sum2 0 bs % 65521) 256 (kk := 256) rfl (by omega)
  rw [List.nil_append] at q
  generalize (mulsF 0 bs).map D.int = z at q e2
  simp only [tailOf, sum1]
  generalize bs.sum % 65521 = a at *
  generalize sum2 0 bs % 65521 = b at *
  generalize hx : dB bs = x at *
  simp [f_sums, fnB_ap, m_sums, e1, m1, enumL_F, q, e2, m2, d1, d2, n1, n2]
theorem sizes_eq (n : Nat) : f_sizes [.int n] = .ok (.lst (dB (headOf n))) [.int n] := by
  have d1 := pDivW_nat n 16777216 (kk := 16777216) rfl (by omega) (by omega)
  have d2 := pDivW_nat n 65536 (kk := 65536) rfl (by omega) (by omega)
  have d3 := pDivW_nat n 256 (kk := 256) rfl (by omega) (by omega)
  have m1 := pMod_nat (n / 16777216) 256 (kk := 256) rfl (by omega)
  have m2 := pMod_nat (n / 65536) 256 (kk := 256) rfl (by omega)
  have m3 := pMod_nat (n / 256) 256 (kk := 256) rfl (by omega)
  have m4 := pMod_nat n 256 (kk := 256) rfl (by omega)
  simp only [headOf]
  have h1 : n / 16777216 % 256 ≤ 255 := by omega
  have h2 : n / 65536 % 256 ≤ 255 := by omega
  have h3 : n / 256 % 256 ≤ 255 := by omega
  have h4 : n % 256 ≤ 255 := by omega
  generalize n / 16777216 % 256 = a at *
  generalize n / 65536 % 256 = b at *
  generalize n / 256 % 256 = c at *
  generalize n % 256 = d at *
  generalize n / 16777216 = p1 at d1 m1
  generalize n / 65536 = p2 at d2 m2
  generalize n / 256 = p3 at d3 m3
  have k1 : ((255 - a : Nat) : Int) = 255 - (a : Int) := by omega
  have k2 : ((255 - b : Nat) : Int) = 255 - (b : Int) := by omega
  have k3 : ((255 - c : Nat) : Int) = 255 - (c : Int) := by omega
  have k4 : ((255 - d : Nat) : Int) = 255 - (d : Int) := by omega
  have ll : 0 < line ∧ 1 < line ∧ 2 < line ∧ 3 < line := by decide
  simp [f_sizes, fnB_ap, m_sizes, d1, d2, d3, m1, m2, m3, m4, lcGo_cons, lcGo_nil, k1, k2, k3, k4, ll]
end K66

set_option linter.all false
set_option maxRecDepth 100000
set_option exponentiation.threshold 10000
/-! K66T: reading records. -/
namespace K66
open PL HP
theorem cutL_nat (bs : List Nat) (k z : Nat) {a b : Int} (ha : a = k) (hb : b = (k : Int) + z) : cutL (dB bs) (some a) (some b) = dB ((bs.drop k).take z) := by
  subst ha hb
  have := cut_nat bs k z
  have e : D.lst (cutL (dB bs) (some (k : Int)) (some ((k : Int) + z))) = .lst (dB ((bs.drop k).take z)) := Option.some.inj this
  exact D.lst.inj e
theorem slice_is {x : D} {bs : List Nat} (hx : isBs x bs) (k z : Nat) {a b : Int} (ha : a = k) (hb : b = (k : Int) + z) : ∃ y, sliceD x (some a) (some b) = some y ∧ isBs y ((bs.drop k).take z) := by
  rcases hx with rfl | rfl
  · exact ⟨_, rfl, .inl (by rw [cutL_nat bs k z ha hb])⟩
  · exact ⟨_, rfl, .inr (by rw [cutL_nat bs k z ha hb])⟩
theorem isBs_list {x : D} {bs : List Nat} (hx : isBs x bs) : pList [x] = some (.lst (dB bs)) := by
  rcases hx with rfl | rfl <;> rfl
theorem isBs_len {x : D} {bs : List Nat} (hx : isBs x bs) : pLen [x] = some (.int bs.length) := by
  rcases hx with rfl | rfl <;> simp
/-- big-endian -/
def size4 : List Nat → Option Nat
  | [a, b, c, d, e, f, g, h] => if e = 255 - a ∧ f = 255 - b ∧ g = 255 - c ∧ h = 255 - d then some (((a * 256 + b) * 256 + c) * 256 + d) else none
  | _ => none
def szAt (bs : List Nat) (spot : Nat) : Option Nat := size4 ((bs.drop spot).take 8)
def optI : Option Nat → D
  | some n => .int n
  | none => .non
theorem eqv_ints (xs ys : List Nat) : eqvs (dB xs) (dB ys) = decide (xs = ys) := by
  induction xs generalizing ys with
  | nil => cases ys <;> rfl
  | cons x xs ih =>
    cases ys with
    | nil => rfl
    | cons y ys =>
      show (eqv (.int x) (.int y) && eqvs (dB xs) (dB ys)) = _
      rw [ih ys]
      by_cases h : x = y
      · subst h; simp [eqv]
      · have h2 : ¬ ((x : Int) = y) := by omega
        simp [eqv, h]
        intro z
        exact absurd z h2
theorem pNe_dB (xs ys : List Nat) : pNe (.lst (dB xs)) (.lst (dB ys)) = some (.bl (!decide (xs = ys))) := by
  have h1 := plain_dB 63 xs
  have h2 := plain_dB 63 ys
  have h3 : eqv (.lst (dB xs)) (.lst (dB ys)) = decide (xs = ys) := eqv_ints xs ys
  unfold pNe
  simp [h1, h2, h3]
theorem pEq_dB (xs ys : List Nat) : pEq (.lst (dB xs)) (.lst (dB ys)) = some (.bl (decide (xs = ys))) := by
  have h1 := plain_dB 63 xs
  have h2 := plain_dB 63 ys
  have h3 : eqv (.lst (dB xs)) (.lst (dB ys)) = decide (xs = ys) := eqv_ints xs ys
  unfold pEq
  simp [h1, h2, h3]
theorem size_at_eq {x : D} {bs : List Nat} (hx : isBs x bs) (hb : isBy bs) (spot : Nat) : f_size_at [x, .int spot] = .ok (optI (szAt bs spot)) [x, .int spot] := by
  obtain ⟨y, e1, hy⟩ := slice_is hx spot 8 (a := spot) (b := (spot : Int) + 8) rfl rfl
  have e2 := isBs_list hy
  have hh : isBy ((bs.drop spot).take 8) := isBy_sub hb fun x hx => List.mem_of_mem_drop (List.mem_of_mem_take hx)
  unfold szAt
  have hl8 : ((bs.drop spot).take 8).length ≤ 8 := by rw [List.length_take]; omega
  generalize (bs.drop spot).take 8 = l at *
  by_cases hl : l.length < 8
  · have hl2 : (l.length : Int) < 8 := by omega
    have e3 : size4 l = none := by
      unfold size4
      split
      · simp at hl
      · rfl
    simp [f_size_at, fnB_ap, m_size_at, e1, e2, hl2, e3, optI]
  · obtain ⟨a, b, c, d, e, f, g, h, rfl⟩ : ∃ a b c d e f g h, l = [a, b, c, d, e, f, g, h] := by
      match l, hl, hl8 with
      | [a, b, c, d, e, f, g, h], _, _ => exact ⟨a, b, c, d, e, f, g, h, rfl⟩
      | [], hl, _ => simp at hl
      | [_], hl, _ => simp at hl
      | [_, _], hl, _ => simp at hl
      | [_, _, _], hl, _ => simp at hl
      | [_, _, _, _], hl, _ => simp at hl
      | [_, _, _, _, _], hl, _ => simp at hl
      | [_, _, _, _, _, _], hl, _ => simp at hl
      | [_, _, _, _, _, _, _], hl, _ => simp at hl
      | _ :: _ :: _ :: _ :: _ :: _ :: _ :: _ :: _ :: _, _, h8 => simp at h8
    have ha := hh a (by simp)
    have hb' := hh b (by simp)
    have hc := hh c (by simp)
    have hd := hh d (by simp)
    have k1 : 255 - (a : Int) = ((255 - a : Nat) : Int) := by omega
    have k2 : 255 - (b : Int) = ((255 - b : Nat) : Int) := by omega
    have k3 : 255 - (c : Int) = ((255 - c : Nat) : Int) := by omega
    have k4 : 255 - (d : Int) = ((255 - d : Nat) : Int) := by omega
    have s1 : sliceD (.lst (dB [a, b, c, d, e, f, g, h])) (some 4) none = some (.lst (dB [e, f, g, h])) := rfl
    have s2 : sliceD (.lst (dB [a, b, c, d, e, f, g, h])) none (some 4) = some (.lst (dB [a, b, c, d])) := rfl
    have pn := pNe_dB [e, f, g, h] [255 - a, 255 - b, 255 - c, 255 - d]
    have ll : 0 < line ∧ 1 < line ∧ 2 < line ∧ 3 < line := by decide
    have i0 : atD (dB [a, b, c, d, e, f, g, h]) 0 = some (.int a) := rfl
    have i1 : atD (dB [a, b, c, d, e, f, g, h]) 1 = some (.int b) := rfl
    have i2 : atD (dB [a, b, c, d, e, f, g, h]) 2 = some (.int c) := rfl
    have i3 : atD (dB [a, b, c, d, e, f, g, h]) 3 = some (.int d) := rfl
    have p1 : pMulI (.int a) (.int 256) = some (.int ((a : Int) * 256)) := pMulI_r _ _ (by omega)
    have p2 : pMulI (.int ((a : Int) * 256 + b)) (.int 256) = some (.int (((a : Int) * 256 + b) * 256)) := pMulI_r _ _ (by omega)
    have p3 : pMulI (.int (((a : Int) * 256 + b) * 256 + c)) (.int 256) = some (.int ((((a : Int) * 256 + b) * 256 + c) * 256)) := pMulI_r _ _ (by omega)
    have hlen : (dB [a, b, c, d, e, f, g, h]).length = 8 := rfl
    generalize hz : dB [a, b, c, d, e, f, g, h] = z at *
    simp only [dB, List.map_cons, List.map_nil] at pn s1 s2
    rw [← k1, ← k2, ← k3, ← k4] at pn
    by_cases hq : e = 255 - a ∧ f = 255 - b ∧ g = 255 - c ∧ h = 255 - d
    · have hq2 : [e, f, g, h] = [255 - a, 255 - b, 255 - c, 255 - d] := by obtain ⟨a1, a2, a3, a4⟩ := hq; rw [a1, a2, a3, a4]
      rw [decide_eq_true hq2] at pn
      have e4 : size4 [a, b, c, d, e, f, g, h] = some (((a * 256 + b) * 256 + c) * 256 + d) := by
        show (if e = 255 - a ∧ f = 255 - b ∧ g = 255 - c ∧ h = 255 - d then some (((a * 256 + b) * 256 + c) * 256 + d) else none) = _
        rw [if_pos hq]
      simp [f_size_at, fnB_ap, m_size_at, e1, e2, hlen, s1, s2, lcGo_cons, lcGo_nil, ll, pn, i0, i1, i2, i3, p1, p2, p3, e4, optI]
    · have hq2 : ¬ [e, f, g, h] = [255 - a, 255 - b, 255 - c, 255 - d] := by simpa using hq
      rw [decide_eq_false hq2] at pn
      have e3 : size4 [a, b, c, d, e, f, g, h] = none := by
        show (if e = 255 - a ∧ f = 255 - b ∧ g = 255 - c ∧ h = 255 - d then some _ else none) = _
        rw [if_neg hq]
      simp [f_size_at, fnB_ap, m_size_at, e1, e2, hlen, s1, s2, lcGo_cons, lcGo_nil, ll, pn, e3, optI]
/-- the record at a place -/
def rrec (bs : List Nat) (spot : Nat) : Option (D × Nat) := match szAt bs spot with
  | none => none
  | some z => if bs.length < spot + 8 + z + 4 then none
    else if (bs.drop (spot + 8 + z)).take 4 ≠ tailOf ((bs.drop (spot + 8)).take z) then none
    else match vof ((bs.drop (spot + 8)).take z) with
      | .ok v => some (v, spot + 8 + z + 4)
      | .error _ => none
def optR : Option (D × Nat) → D
  | some (v, e) => .tup [v, .int e]
  | none => .non
theorem read_record_eq {x : D} {bs : List Nat} (hx : isBs x bs) (hb : isBy bs) (hl : bs.length ≤ line) (spot : Nat) : f_read_record [x, .int spot] = .ok (optR (rrec bs spot)) [x, .int spot] := by
  have q0 := size_at_eq hx hb spot
  have hlen := isBs_len hx
  unfold rrec
  cases e : szAt bs spot with
  | none =>
    rw [e] at q0
    simp [optI] at q0
    simp [f_read_record, fnB_ap, m_read_record, q0, optR]
  | some z =>
    rw [e] at q0
    simp [optI] at q0
    dsimp only
    by_cases h1 : bs.length < spot + 8 + z + 4
    · have h2 : (bs.length : Int) < (spot : Int) + 8 + z + 4 := by omega
      rw [if_pos h1]
      simp [f_read_record, fnB_ap, m_read_record, q0, hlen, h2, optR]
    · have h2 : ¬ (bs.length : Int) < (spot : Int) + 8 + z + 4 := by omega
      rw [if_neg h1]
      obtain ⟨y1, s1, hy1⟩ := slice_is hx (spot + 8) z (a := (spot : Int) + 8) (b := (spot : Int) + 8 + z) (by omega) (by omega)
      obtain ⟨y2, s2, hy2⟩ := slice_is hx (spot + 8 + z) 4 (a := (spot : Int) + 8 + z) (b := (spot : Int) + 8 + z + 4) (by omega) (by omega)
      have l1 := isBs_list hy1
      have l2 := isBs_list hy2
      have b1 : isBy ((bs.drop (spot + 8)).take z) := isBy_sub hb fun x hx => List.mem_of_mem_drop (List.mem_of_mem_take hx)
      have len1 : ((bs.drop (spot + 8)).take z).length ≤ line := by rw [List.length_take, List.length_drop]; omega
      generalize (bs.drop (spot + 8)).take z = body at *
      generalize (bs.drop (spot + 8 + z)).take 4 = tl at *
      have w := sums_eq b1 len1
      have pn := pNe_dB tl (tailOf body)
      have v := value_of_eq (x := .lst (dB body)) (.inl rfl) b1 len1
      generalize dB (tailOf body) = t2 at w pn
      generalize dB tl = t1 at l2 pn
      generalize dB body = t3 at *
      by_cases h3 : tl = tailOf body
      · rw [if_neg (by simpa using h3)]
        rw [decide_eq_true h3] at pn
        cases ev : vof body with
        | ok u =>
          rw [ev] at v
          dsimp only at v
          simp [f_read_record, fnB_ap, m_read_record, q0, hlen, h2, s1, s2, l1, l2, w, pn, v, optR]
        | error p =>
          rw [ev] at v
          simp [bbad] at v
          simp [f_read_record, fnB_ap, m_read_record, q0, hlen, h2, s1, s2, l1, l2, w, pn, v, optR]
      · rw [if_pos (by simpa using h3)]
        rw [decide_eq_false h3] at pn
        simp [f_read_record, fnB_ap, m_read_record, q0, hlen, h2, s1, s2, l1, l2, w, pn, optR]
/-- the records from a place on: values with their ends; then none -/
inductive Recs (bs : List Nat) : Nat → List (D × Nat) → Prop
  | nil {spot : Nat} : rrec bs spot = none → Recs bs spot []
  | cons {spot : Nat} {v : D} {e : Nat} {r : List (D × Nat)} : rrec bs spot = some (v, e) → Recs bs e r → Recs bs spot ((v, e) :: r)
def dR (r : List (D × Nat)) : List D := r.map fun p => .tup [p.1, .int p.2]
def bodyE : ST := (sSeq (sApp 1 (eV 2)) (sSet 2 (eCall 2 f_read_record (lCons (eV 0) (lCons (e2 pIx (eV 2) (eC (.int 1))) lNil)))))
def testE : TX := (uB (e1 pNotN (eV 2)))
theorem at1 (a b : D) : atD [a, b] 1 = some b := rfl
theorem ends_while {x : D} {bs : List Nat} (hx : isBs x bs) (hb : isBy bs) (hl : bs.length ≤ line) : ∀ {spot : Nat} {r : List (D × Nat)} (acc : List D) (m : Nat), Recs bs spot r → r.length < m → acc.length + r.length ≤ 1000 →
    whileN testE bodyE m [some x, some (.lst acc), some (optR (rrec bs spot))] = .ok .nx [some x, some (.lst (acc ++ dR r)), some .non]
  | spot, [], acc, m, h, hm, hl2 => by
    cases h with
    | nil e =>
      obtain ⟨m, rfl⟩ : ∃ k, m = k + 1 := ⟨m - 1, by omega⟩
      rw [whileN_succ, e]
      simp [testE, optR, dR]
  | spot, (v, e) :: r, acc, m, h, hm, hl2 => by
    cases h with
    | cons er hr =>
      rw [List.length_cons] at hm hl2
      obtain ⟨m, rfl⟩ : ∃ k, m = k + 1 := ⟨m - 1, by omega⟩
      have ih := ends_while hx hb hl (acc ++ [.tup [v, .int e]]) m hr (by omega) (by rw [List.length_append, List.length_singleton]; omega)
      have q := read_record_eq hx hb hl e
      have h3 : acc.length < line := by unfold line; omega
      rw [whileN_succ, er]
      have ht : testE [some x, some (.lst acc), some (optR (some (v, e)))] = .ok true [some x, some (.lst acc), some (optR (some (v, e)))] := by simp [testE, optR]
      have hbd : bodyE [some x, some (.lst acc), some (optR (some (v, e)))] = .ok .nx [some x, some (.lst (acc ++ [.tup [v, .int e]])), some (optR (rrec bs e))] := by
        simp [bodyE, optR, h3, at1, q]
      rw [ht, whileK_ok, if_pos rfl, hbd, whileK2_nx, ih]
      simp [dR]
theorem ends_of_eq {x : D} {bs : List Nat} (hx : isBs x bs) (hb : isBy bs) (hl : bs.length ≤ line) {r : List (D × Nat)} (h : Recs bs 0 r) (hr : r.length ≤ 1000) : f_ends_of [x] = .ok (.lst (dR r)) [x] := by
  have q := read_record_eq hx hb hl 0
  have w := ends_while hx hb hl [] 100000 h (by omega) (by simpa using hr)
  unfold testE bodyE at w
  simp at q w
  simp [f_ends_of, fnB_ap, m_ends_of, q, sWhile_ap, w]
theorem vals_loop (o0 o1 : Option D) : ∀ (r : List (D × Nat)) (acc : List D), acc.length + r.length ≤ 1000 →
    lcGo [2, 3] (gT [2, 3] (dTup [dNm, dNm])) uYes (eV 2) (dR r) acc [o0, o1, none, none] = .ok (acc ++ r.map (·.1)) [o0, o1, none, none]
  | [], acc, _ => by simp [dR, lcGo_nil]
  | (v, e) :: r, acc, hl => by
    rw [List.length_cons] at hl
    have q := vals_loop o0 o1 r (acc ++ [v]) (by rw [List.length_append, List.length_singleton]; omega)
    have h3 : acc.length < line := by unfold line; omega
    rw [show acc ++ ((v, e) :: r).map (·.1) = acc ++ [v] ++ r.map (·.1) by simp, ← q, show dR ((v, e) :: r) = .tup [v, .int e] :: dR r from rfl, lcGo_cons]
    simp [h3]
def endOf (r : List (D × Nat)) : Nat := match r.getLast? with
  | some p => p.2
  | none => 0
theorem read_log_eq {x : D} {bs : List Nat} (hx : isBs x bs) (hb : isBy bs) (hl : bs.length ≤ line) {r : List (D × Nat)} (h : Recs bs 0 r) (hr : r.length ≤ 1000) : f_read_log [x] = .ok (.tup [.lst (r.map (·.1)), .int (endOf r)]) [x] := by
  have q1 := need_bytes_ok hx hb hl
  have q2 := ends_of_eq hx hb hl h hr
  have q3 := vals_loop (some x) (some (.lst (dR r))) r [] (by simpa using hr)
  simp at q3
  cases r with
  | nil =>
    simp [dR] at q2 q3
    have tr : truth (.lst []) = some false := rfl
    simp [f_read_log, fnB_ap, m_read_log, q1, q2, q3, tr, endOf]
  | cons p r =>
    have tr : truth (.lst (dR (p :: r))) = some true := rfl
    have e1 : pNeg (.int 1) = some (.int (-1)) := rfl
    have hlast : atD (dR (p :: r)) (-1) = some (.tup [((p :: r).getLast (by simp)).1, .int ((p :: r).getLast (by simp)).2]) := by
      have hn : (dR (p :: r)).length = r.length + 1 := by simp [dR]
      unfold atD ixD
      rw [hn, if_neg (by omega), if_pos (by omega)]
      simp only [Option.bind_some]
      rw [show ((-1 : Int) + ((r.length + 1 : Nat) : Int)).toNat = r.length by omega]
      unfold dR
      rw [List.getElem?_map]
      have : (p :: r)[r.length]? = some ((p :: r).getLast (by simp)) := by
        rw [← List.getLast?_eq_some_getLast, List.getLast?_eq_getElem?]; simp
      rw [this]; rfl
    have he : endOf (p :: r) = ((p :: r).getLast (by simp)).2 := by
      unfold endOf
      rw [List.getLast?_eq_some_getLast (by simp)]
    rw [he]
    generalize (p :: r).getLast _ = lp at *
    generalize dR (p :: r) = z at *
    simp only [List.map_cons] at q3 ⊢
    simp [f_read_log, fnB_ap, m_read_log, q1, q2, q3, tr, e1, hlast, at1]
end K66

set_option linter.all false
set_option maxRecDepth 100000
set_option exponentiation.threshold 10000
/-! K66U: records and logs of values. -/
namespace K66
open PL HP
def good (v : D) : Prop := isV 4000 8 v ∧ (enc 8 v).length ≤ 60000
def rcd (v : D) : List Nat := recB (enc 8 v)
def logB (vs : List D) : List Nat := vs.flatMap rcd
theorem good_by {v : D} (h : good v) : isBy (enc 8 v) := enc_by (b := 4000) (by decide) h.1
theorem tail_by (bs : List Nat) : isBy (tailOf bs) := by
  intro b hb
  simp [tailOf] at hb
  omega
theorem head_by (n : Nat) : isBy (headOf n) := by
  intro b hb
  simp [headOf] at hb
  omega
theorem isBy_app {a b : List Nat} (ha : isBy a) (hb : isBy b) : isBy (a ++ b) := fun x hx => (List.mem_append.mp hx).elim (ha x) (hb x)
theorem rcd_by {v : D} (h : good v) : isBy (rcd v) := isBy_app (isBy_app (head_by _) (good_by h)) (tail_by _)
theorem rcd_len (v : D) : (rcd v).length = (enc 8 v).length + 12 := by
  simp [rcd, recB, headOf, tailOf]
theorem logB_by {vs : List D} (h : ∀ v ∈ vs, good v) : isBy (logB vs) := by
  intro b hb
  obtain ⟨v, hv, hb⟩ := List.mem_flatMap.mp hb
  exact rcd_by (h v hv) b hb
theorem logB_len {vs : List D} (h : ∀ v ∈ vs, good v) : (logB vs).length ≤ vs.length * 60012 := flat_len fun v hv => by
  rw [rcd_len]; have := (h v hv).2; omega
theorem value_bytes_good {v : D} (h : good v) : f_value_bytes [v] = .ok (.lst (dB (enc 8 v))) [v] := value_bytes_eq (by decide) h.1 (by have := h.2; omega)
theorem line_ge {n : Nat} (h : n ≤ 1000000) : n ≤ line := by unfold line; omega
theorem record_eq {v : D} (h : good v) : f_record [v] = .ok (.lst (dB (rcd v))) [v] := by
  have q1 := value_bytes_good h
  have q2 := sums_eq (good_by h) (line_ge (by have := h.2; omega))
  have q3 := sizes_eq (enc 8 v).length
  have hl := h.2
  have e : dB (rcd v) = dB (headOf (enc 8 v).length) ++ dB (enc 8 v) ++ dB (tailOf (enc 8 v)) := by simp [rcd, recB]
  have l1 : (dB (headOf (enc 8 v).length)).length = 8 := by simp [headOf]
  have l2 : (dB (enc 8 v)).length = (enc 8 v).length := by simp
  have l3 : (dB (tailOf (enc 8 v))).length = 4 := by simp [tailOf]
  rw [e]
  generalize dB (headOf (enc 8 v).length) = a at *
  generalize dB (tailOf (enc 8 v)) = c at *
  generalize dB (enc 8 v) = b at *
  generalize (enc 8 v).length = n at *
  have k1 : 8 + n ≤ line := line_ge (by omega)
  have k2 : 8 + (n + 4) ≤ line := line_ge (by omega)
  have k3 : 8 + n + 4 ≤ line := line_ge (by omega)
  simp [f_record, fnB_ap, m_record, q1, q2, q3, l1, l2, l3, k1, k2, k3]
def bodyO : ST := (sExt 1 (eCall 1 f_record (lCons (eV 2) lNil)))
theorem log_loop (x : D) : ∀ (vs : List D) (acc : List Nat) (o2 : Option D), (∀ v ∈ vs, good v) → acc.length + vs.length * 60012 ≤ 1000000 →
    ∃ o2', loop (gT [2] dNm) bodyO vs [some x, some (.lst (dB acc)), o2] = .ok .nx [some x, some (.lst (dB (acc ++ logB vs))), o2']
  | [], acc, o2, _, _ => ⟨o2, by simp [loop_nil, logB]⟩
  | v :: vs, acc, o2, h, hl => by
    have hv := h v List.mem_cons_self
    rw [List.length_cons] at hl
    have hr := rcd_len v
    have hv2 := hv.2
    obtain ⟨o2', q⟩ := log_loop x vs (acc ++ rcd v) (some v) (fun y hy => h y (List.mem_cons_of_mem _ hy)) (by rw [List.length_append]; omega)
    refine ⟨o2', ?_⟩
    have e := record_eq hv
    have h3 : acc.length + (rcd v).length ≤ line := line_ge (by omega)
    rw [loop_cons, show acc ++ logB (v :: vs) = acc ++ rcd v ++ logB vs by simp [logB], ← q]
    simp [bodyO, e, h3]
theorem log_of_eq {x : D} {vs : List D} (hx : x = .lst vs ∨ x = .tup vs) (h : ∀ v ∈ vs, good v) (hl : vs.length ≤ 16) : f_log_of [x] = .ok (.lst (dB (logB vs))) [x] := by
  obtain ⟨o, q⟩ := log_loop x vs [] none h (by simp; omega)
  unfold bodyO at q
  simp only [List.nil_append] at q
  rw [show dB [] = [] from rfl] at q
  generalize dB (logB vs) = z at *
  rcases hx with rfl | rfl
  · have e : f_is_list [.lst vs] = .ok (.bl true) [.lst vs] := by simp [f_is_list, fnB_ap, m_is_list, pIsT, tyName]
    simp [f_log_of, fnB_ap, m_log_of, e, q]
  · have e : f_is_list [.tup vs] = .ok (.bl true) [.tup vs] := by simp [f_is_list, fnB_ap, m_is_list, pIsT, tyName]
    simp [f_log_of, fnB_ap, m_log_of, e, q]
/-! the law's own record -/
def bodyR : ST := (sPar [2, 3] (lCons (e2 pMod (e2 pAdd (eV 2) (eV 5)) (eC (.int 65521))) (lCons (e2 pMod (e2 pAdd (eV 3) (e2 pMulI (e2 pAdd (eV 4) (eC (.int 1))) (eV 5))) (eC (.int 65521))) lNil)))
theorem lrec_loop (x n : D) : ∀ (bs : List Nat) (j t u : Nat) (o4 o5 : Option D), isBy bs → t < 65521 → u < 65521 →
    ∃ o4' o5', loop (gT [4, 5] (dTup [dNm, dNm])) bodyR (enumF j (dB bs)) [some x, some n, some (.int t), some (.int u), o4, o5, none] = .ok .nx [some x, some n, some (.int ((t + sum1 bs) % 65521 : Nat)), some (.int ((u + sum2 j bs) % 65521 : Nat)), o4', o5', none]
  | [], j, t, u, o4, o5, _, ht, hu => ⟨o4, o5, by
      have e1 : (t + sum1 []) % 65521 = t := by simp [sum1]; omega
      have e2 : (u + sum2 j []) % 65521 = u := by simp [sum2]; omega
      rw [e1, e2]; rfl⟩
  | c :: bs, j, t, u, o4, o5, hb, ht, hu => by
    have hc := hb c List.mem_cons_self
    obtain ⟨o4', o5', q⟩ := lrec_loop x n bs (j + 1) ((t + c) % 65521) ((u + (j + 1) * c) % 65521) (some (.int j)) (some (.int c)) (fun y hy => hb y (List.mem_cons_of_mem _ hy)) (Nat.mod_lt _ (by omega)) (Nat.mod_lt _ (by omega))
    refine ⟨o4', o5', ?_⟩
    have e1 : ((t + c) % 65521 + sum1 bs) % 65521 = (t + sum1 (c :: bs)) % 65521 := by
      simp only [sum1, List.sum_cons]; omega
    have e2 : ((u + (j + 1) * c) % 65521 + sum2 (j + 1) bs) % 65521 = (u + sum2 j (c :: bs)) % 65521 := by
      simp only [sum2]; omega
    rw [e1, e2] at q
    rw [← q]
    have m1 := pMod_nat (t + c) 65521 (kk := 65521) rfl (by omega)
    have m2 := pMod_nat (u + (j + 1) * c) 65521 (kk := 65521) rfl (by omega)
    have e : pMulI (.int ((j : Int) + 1)) (.int c) = some (.int (((j : Int) + 1) * c)) := pMulI_r _ _ (by omega)
    rw [show dB (c :: bs) = .int c :: dB bs from rfl, enumF, loop_cons]
    simp at m1 m2
    simp [bodyR, m1, m2, e]
theorem law_record_eq {bs : List Nat} (hb : isBy bs) (hl : bs.length ≤ 60000) : f__law_record [.lst (dB bs)] = .ok (.lst (dB (recB bs))) [.lst (dB bs)] := by
  obtain ⟨o4, o5, q⟩ := lrec_loop (.lst (dB bs)) (.int bs.length) bs 0 0 0 none none hb (by omega) (by omega)
  unfold bodyR at q
  rw [Nat.zero_add, Nat.zero_add] at q
  have hh : headOf bs.length = [0, bs.length / 65536, bs.length / 256 % 256, bs.length % 256, 255, 255 - bs.length / 65536, 255 - bs.length / 256 % 256, 255 - bs.length % 256] := by
    have h1 : bs.length / 16777216 % 256 = 0 := by omega
    have h2 : bs.length / 65536 % 256 = bs.length / 65536 := by omega
    simp only [headOf, h1, h2]
  have d2 := pDivW_nat bs.length 65536 (kk := 65536) rfl (by omega) (by omega)
  have d3 := pDivW_nat bs.length 256 (kk := 256) rfl (by omega) (by omega)
  have m3 := pMod_nat (bs.length / 256) 256 (kk := 256) rfl (by omega)
  have m4 := pMod_nat bs.length 256 (kk := 256) rfl (by omega)
  have h2 : bs.length / 65536 ≤ 255 := by omega
  have h3 : bs.length / 256 % 256 ≤ 255 := by omega
  have h4 : bs.length % 256 ≤ 255 := by omega
  have s1 := pDivW_nat (sum1 bs % 65521) 256 (kk := 256) rfl (by omega) (by omega)
  have s2 := pDivW_nat (sum2 0 bs % 65521) 256 (kk := 256) rfl (by omega) (by omega)
  have n1 := pMod_nat (sum1 bs % 65521) 256 (kk := 256) rfl (by omega)
  have n2 := pMod_nat (sum2 0 bs % 65521) 256 (kk := 256) rfl (by omega)
  have e : dB (recB bs) = [D.int (0 : Nat), .int (bs.length / 65536 : Nat), .int (bs.length / 256 % 256 : Nat), .int (bs.length % 256 : Nat), .int (255 : Nat), .int (255 - bs.length / 65536 : Nat), .int (255 - bs.length / 256 % 256 : Nat), .int (255 - bs.length % 256 : Nat)] ++ dB bs ++ dB (tailOf bs) := by
    unfold recB; rw [hh]; simp
  rw [e]
  have l2 : (dB bs).length = bs.length := by simp
  simp only [tailOf]
  generalize sum1 bs % 65521 = A at *
  generalize sum2 0 bs % 65521 = B at *
  generalize bs.length / 65536 = p2 at *
  generalize bs.length / 256 = p3 at *
  generalize hp3 : p3 % 256 = p4 at *
  generalize bs.length % 256 = p5 at *
  generalize dB bs = x at *
  generalize bs.length = n at *
  have k2 : ((255 - p2 : Nat) : Int) = 255 - (p2 : Int) := by omega
  have k3 : ((255 - p4 : Nat) : Int) = 255 - (p4 : Int) := by omega
  have k4 : ((255 - p5 : Nat) : Int) = 255 - (p5 : Int) := by omega
  have ll : 0 < line ∧ 1 < line ∧ 2 < line ∧ 3 < line := by decide
  have g1 : 8 + n ≤ line := line_ge (by omega)
  have g2 : 8 + n + 4 ≤ line := line_ge (by omega)
  have g3 : 8 + (n + 4) ≤ line := line_ge (by omega)
  have g4 : n + 8 ≤ line := line_ge (by omega)
  have g5 : n + 8 + 4 ≤ line := line_ge (by omega)
  rw [k2, k3, k4]
  clear k2 k3 k4 h2 h3 h4 hb
  simp at q d2 d3 m3 m4 s1 s2 n1 n2
  simp [f__law_record, fnB_ap, m__law_record, enumL_F, q, d2, d3, m3, m4, s1, s2, n1, n2, lcGo_cons, lcGo_nil, ll, l2, g1, g2, g3, g4, g5]
/-! the law's own comparison -/
theorem good_plain {v : D} (h : good v) : plainD 63 v = true ∧ eqv v v = true := isV_plain (isV_le h.1 (by omega : 8 ≤ 63))
theorem goods_plain {vs : List D} (h : ∀ v ∈ vs, good v) : plainD 64 (.lst vs) = true ∧ eqv (.lst vs) (.lst vs) = true := by
  constructor
  · show vs.all (plainD 63) = true
    exact List.all_eq_true.mpr fun v hv => (good_plain (h v hv)).1
  · exact eqvs_refl_of fun v hv => (good_plain (h v hv)).2
theorem goods_eq {vs : List D} (h : ∀ v ∈ vs, good v) : pEq (.lst vs) (.lst vs) = some (.bl true) ∧ pNe (.lst vs) (.lst vs) = some (.bl false) := by
  obtain ⟨h1, h2⟩ := goods_plain h
  unfold pEq pNe
  simp [h1, h2]
theorem at0 (a b : D) : atD [a, b] 0 = some a := rfl
theorem same_ok {vs : List D} (h : ∀ v ∈ vs, good v) (n : Nat) : f__law_same [.tup [.lst vs, .int n], .lst vs, .int n] = .ok (.bl true) [.tup [.lst vs, .int n], .lst vs, .int n] := by
  have e := (goods_eq h).1
  have t : pIsT ["tuple"] (.tup [.lst vs, .int n]) = some (.bl true) := rfl
  simp [f__law_same, fnB_ap, m__law_same, e, t, at0, at1]
theorem pair_plain {vs : List D} (h : ∀ v ∈ vs, good v) (n : Nat) : pNe (.tup [.lst vs, .int n]) (.tup [.lst vs, .int n]) = some (.bl false) := by
  have h1 : plainD 64 (.tup [.lst vs, .int n]) = true := by
    show (plainD 63 (.lst vs) && (plainD 63 (.int n) && true)) = true
    have : plainD 63 (.lst vs) = true := by
      show vs.all (plainD 62) = true
      exact List.all_eq_true.mpr fun v hv => (isV_plain (isV_le (h v hv).1 (by omega : 8 ≤ 62))).1
    rw [this]; rfl
  have h2 : eqv (.tup [.lst vs, .int n]) (.tup [.lst vs, .int n]) = true := by
    show (eqv (.lst vs) (.lst vs) && (eqv (.int n) (.int n) && true)) = true
    rw [(goods_plain h).2]; simp [eqv]
  unfold pNe
  simp [h1, h2]
end K66

set_option linter.all false
set_option maxRecDepth 100000
set_option exponentiation.threshold 10000
/-! K66V: what is read of records that are whole, cut or changed. -/
namespace K66
open PL HP
theorem head_len (n : Nat) : (headOf n).length = 8 := rfl
theorem tail_len (bs : List Nat) : (tailOf bs).length = 4 := rfl
theorem size4_head {n : Nat} (h : n < 2 ^ 32) : size4 (headOf n) = some n := by
  unfold headOf size4
  dsimp only
  rw [if_pos ⟨rfl, rfl, rfl, rfl⟩]
  congr 1
  omega
theorem rrec_shift {bs : List Nat} {spot : Nat} (h : spot ≤ bs.length) : rrec bs spot = (rrec (bs.drop spot) 0).map fun p => (p.1, spot + p.2) := by
  unfold rrec szAt
  simp only [List.drop_zero, List.drop_drop, List.length_drop, Nat.zero_add]
  cases size4 ((bs.drop spot).take 8) with
  | none => rfl
  | some z =>
    dsimp only
    by_cases h1 : bs.length < spot + 8 + z + 4
    · have h1' : bs.length - spot < 8 + z + 4 := by omega
      rw [if_pos h1, if_pos h1']; rfl
    · have h1' : ¬ bs.length - spot < 8 + z + 4 := by omega
      rw [if_neg h1, if_neg h1', ← Nat.add_assoc spot 8 z]
      by_cases h2 : (bs.drop (spot + 8 + z)).take 4 ≠ tailOf ((bs.drop (spot + 8)).take z)
      · rw [if_pos h2, if_pos h2]; rfl
      · rw [if_neg h2, if_neg h2]
        cases vof ((bs.drop (spot + 8)).take z) with
        | error p => rfl
        | ok v =>
          show some (v, spot + 8 + z + 4) = some (v, spot + (8 + z + 4))
          rw [show spot + (8 + z + 4) = spot + 8 + z + 4 by omega]
/-- what looks like a record -/
theorem rrec_form {n : Nat} {b t rest : List Nat} (hb : b.length = n) (ht : t.length = 4) (hn : n < 2 ^ 32) :
    rrec (headOf n ++ b ++ t ++ rest) 0 = if t ≠ tailOf b then none else match vof b with
      | .ok v => some (v, n + 12)
      | .error _ => none := by
  have e0 : (headOf n ++ b ++ t ++ rest).take 8 = headOf n := by
    rw [List.append_assoc, List.append_assoc, List.take_append_of_le_length (by rw [head_len]; omega), List.take_of_length_le (by rw [head_len]; omega)]
  have e1 : (headOf n ++ b ++ t ++ rest).drop 8 = b ++ (t ++ rest) := by
    rw [List.append_assoc, List.append_assoc]
    exact List.drop_left' (head_len n)
  have e2 : (headOf n ++ b ++ t ++ rest).drop (8 + n) = t ++ rest := by
    rw [← List.drop_drop, e1]; exact List.drop_left' hb
  have e3 : (b ++ (t ++ rest)).take n = b := List.take_left' hb
  have e4 : (t ++ rest).take 4 = t := List.take_left' ht
  have el : ¬ (headOf n ++ b ++ t ++ rest).length < 0 + 8 + n + 4 := by
    simp only [List.length_append, head_len, hb, ht]; omega
  unfold rrec szAt
  rw [List.drop_zero, e0, size4_head hn]
  dsimp only
  rw [if_neg el, Nat.zero_add, e1, e2, e3, e4]
  split
  · rfl
  · cases vof b with
    | error p => rfl
    | ok v => dsimp only; congr 2; omega
theorem vof_good {v : D} (h : good v) : vof (enc 8 v) = .ok v := by
  have e := pval_enc (bs := enc 8 v) (b := 4000) (by decide) 8 v 0 h.1 ⟨[], by simp⟩
  unfold vof
  rw [e]
  simp
theorem rrec_good {v : D} (h : good v) (rest : List Nat) : rrec (rcd v ++ rest) 0 = some (v, (rcd v).length) := by
  have h2 := h.2
  have := rrec_form (b := enc 8 v) (t := tailOf (enc 8 v)) (rest := rest) rfl (tail_len _) (by omega)
  unfold rcd recB
  rw [this, if_neg (by simp), vof_good h]
  dsimp only
  congr 2
  simp [headOf, tailOf]
/-- values with the ends of their records -/
def recsF : Nat → List D → List (D × Nat)
  | _, [] => []
  | spot, v :: vs => (v, spot + (rcd v).length) :: recsF (spot + (rcd v).length) vs
theorem recsF_vals : ∀ (vs : List D) (spot : Nat), (recsF spot vs).map (·.1) = vs
  | [], _ => rfl
  | v :: vs, spot => by rw [recsF, List.map_cons, recsF_vals vs]
theorem recsF_len (vs : List D) (spot : Nat) : (recsF spot vs).length = vs.length := by
  have := congrArg List.length (recsF_vals vs spot)
  rwa [List.length_map] at this
theorem recsF_last : ∀ (vs : List D) (spot : Nat), (match (recsF spot vs).getLast? with | some p => p.2 | none => spot) = spot + (logB vs).length
  | [], spot => by simp [recsF, logB]
  | v :: vs, spot => by
    have ih := recsF_last vs (spot + (rcd v).length)
    have e : (logB (v :: vs)).length = (rcd v).length + (logB vs).length := by simp [logB]
    cases vs with
    | nil => simp [recsF, logB]
    | cons w ws =>
      rw [recsF, List.getLast?_cons]
      rw [recsF] at ih
      rw [recsF]
      rw [List.getLast?_eq_some_getLast (by simp)] at ih ⊢
      simp only [Option.getD_some] at ih ⊢
      rw [e]; omega
theorem endOf_recsF (vs : List D) : endOf (recsF 0 vs) = (logB vs).length := by
  have := recsF_last vs 0
  rw [Nat.zero_add] at this
  exact this
theorem recs_of {bs rest : List Nat} : ∀ (vs : List D) (spot : Nat), (∀ v ∈ vs, good v) → spot ≤ bs.length → bs.drop spot = logB vs ++ rest → rrec rest 0 = none → Recs bs spot (recsF spot vs)
  | [], spot, _, hs, e, hr => by
    refine .nil ?_
    rw [rrec_shift hs, e]
    simp only [logB, List.flatMap_nil, List.nil_append]
    rw [hr]; rfl
  | v :: vs, spot, h, hs, e, hr => by
    have hv := h v List.mem_cons_self
    have e2 : bs.drop spot = rcd v ++ (logB vs ++ rest) := by rw [e]; simp [logB]
    have hl : spot + (rcd v).length ≤ bs.length := by
      have := congrArg List.length e2
      rw [List.length_drop, List.length_append] at this
      omega
    refine .cons (e := spot + (rcd v).length) ?_ (recs_of vs _ (fun y hy => h y (List.mem_cons_of_mem _ hy)) hl ?_ hr)
    · rw [rrec_shift hs, e2, rrec_good hv]; rfl
    · rw [← List.drop_drop, e2, List.drop_left]
theorem read_is {x : D} {bs rest : List Nat} {vs : List D} (hx : isBs x bs) (hb : isBy bs) (hl : bs.length ≤ 1000000) (h : ∀ v ∈ vs, good v) (hn : vs.length ≤ 16) (e : bs = logB vs ++ rest) (hr : rrec rest 0 = none) :
    f_read_log [x] = .ok (.tup [.lst vs, .int (logB vs).length]) [x] := by
  have r := recs_of (bs := bs) (rest := rest) vs 0 h (by omega) (by rw [List.drop_zero]; exact e) hr
  have q := read_log_eq hx hb (line_ge hl) r (by rw [recsF_len]; omega)
  rw [q, endOf_recsF, recsF_vals]
/-! what is no record -/
theorem no_nil : rrec [] 0 = none := rfl
theorem no_zero : rrec (List.replicate 9 0) 0 = none := by decide
theorem no_short {l : List Nat} (h : l.length < 8) : rrec l 0 = none := by
  have e : size4 l = none := by
    unfold size4
    split
    · simp at h
    · rfl
  unfold rrec szAt
  rw [List.drop_zero, List.take_of_length_le (by omega), e]
theorem no_cut {n : Nat} {p : List Nat} (hn : n < 2 ^ 32) (hp : p.length < n + 4) : rrec (headOf n ++ p) 0 = none := by
  have e0 : (headOf n ++ p).take 8 = headOf n := by
    rw [List.take_append_of_le_length (by rw [head_len]; omega), List.take_of_length_le (by rw [head_len]; omega)]
  unfold rrec szAt
  rw [List.drop_zero, e0, size4_head hn]
  dsimp only
  rw [if_pos (by rw [List.length_append, head_len]; omega)]
theorem no_prefix {v : D} (h : good v) {c : Nat} (hc : c < (rcd v).length) : rrec ((rcd v).take c) 0 = none := by
  have hl := rcd_len v
  have h2 := h.2
  by_cases h8 : c < 8
  · exact no_short (by rw [List.length_take]; omega)
  · have e : (rcd v).take c = headOf (enc 8 v).length ++ ((enc 8 v ++ tailOf (enc 8 v)).take (c - 8)) := by
      unfold rcd recB
      rw [List.append_assoc, List.take_append, head_len, List.take_of_length_le (by rw [head_len]; omega)]
    rw [e]
    exact no_cut (by omega) (by rw [List.length_take]; omega)
/-- one byte of the head changed -/
theorem no_head {n i c : Nat} {p : List Nat} (hi : i < 8) (hc : c < 256) (hd : (headOf n)[i]? ≠ some c) : rrec ((headOf n).set i c ++ p) 0 = none := by
  have e0 : ((headOf n).set i c ++ p).take 8 = (headOf n).set i c := by
    rw [List.take_append_of_le_length (by rw [List.length_set, head_len]; omega), List.take_of_length_le (by rw [List.length_set, head_len]; omega)]
  have e : size4 ((headOf n).set i c) = none := by
    have b0 : n / 16777216 % 256 < 256 := by omega
    have b1 : n / 65536 % 256 < 256 := by omega
    have b2 : n / 256 % 256 < 256 := by omega
    have b3 : n % 256 < 256 := by omega
    unfold headOf at hd ⊢
    generalize n / 16777216 % 256 = a0 at *
    generalize n / 65536 % 256 = a1 at *
    generalize n / 256 % 256 = a2 at *
    generalize n % 256 = a3 at *
    have : i = 0 ∨ i = 1 ∨ i = 2 ∨ i = 3 ∨ i = 4 ∨ i = 5 ∨ i = 6 ∨ i = 7 := by omega
    rcases this with rfl | rfl | rfl | rfl | rfl | rfl | rfl | rfl <;> simp at hd <;> simp [List.set] <;> unfold size4 <;> dsimp only <;> rw [if_neg (by omega)]
  unfold rrec szAt
  rw [List.drop_zero, e0, e]
/-! the two sums -/
theorem sum1_set : ∀ (bs : List Nat) (i c b : Nat), bs[i]? = some b → sum1 (bs.set i c) + b = sum1 bs + c
  | [], i, c, b, h => by simp at h
  | x :: bs, 0, c, b, h => by simp at h; subst h; simp [sum1]; omega
  | x :: bs, i + 1, c, b, h => by
    rw [List.getElem?_cons_succ] at h
    have := sum1_set bs i c b h
    simp only [sum1, List.set_cons_succ, List.sum_cons] at this ⊢
    omega
theorem sum2_set : ∀ (bs : List Nat) (j i c b : Nat), bs[i]? = some b → sum2 j (bs.set i c) + (j + i + 1) * b = sum2 j bs + (j + i + 1) * c
  | [], j, i, c, b, h => by simp at h
  | x :: bs, j, 0, c, b, h => by simp at h; subst h; simp [sum2]; omega
  | x :: bs, j, i + 1, c, b, h => by
    rw [List.getElem?_cons_succ] at h
    have := sum2_set bs (j + 1) i c b h
    rw [show j + 1 + i + 1 = j + (i + 1) + 1 by omega] at this
    simp only [sum2, List.set_cons_succ] at this ⊢
    omega
theorem cop : ∀ d < 256, 0 < d → Nat.Coprime 65521 d := by decide +kernel
/-- the sums tell a change -/
theorem mul_ne {k : Nat} {d : Int} (hk : 0 < k) (hk2 : k < 65521) (h0 : d ≠ 0) (h1 : -256 < d) (h2 : d < 256) : ¬ (65521 : Int) ∣ (k : Int) * d := by
  intro h
  have h3 : 65521 ∣ k * d.natAbs := by
    have := Int.natAbs_dvd_natAbs.mpr h
    rw [Int.natAbs_mul] at this
    simpa using this
  have h4 := (cop d.natAbs (by omega) (by omega)).dvd_of_dvd_mul_right h3
  exact absurd (Nat.le_of_dvd hk h4) (by omega)
theorem mod_eq_dvd {a b : Nat} (h : a % 65521 = b % 65521) : (65521 : Int) ∣ (a : Int) - b := by
  omega
/-- one byte of the body changed: both sums change -/
theorem both_change {bs : List Nat} {i c b : Nat} (h : bs[i]? = some b) (hl : bs.length ≤ 60000) (hb : b < 256) (hc : c < 256) (hn : c ≠ b) :
    sum1 (bs.set i c) % 65521 ≠ sum1 bs % 65521 ∧ sum2 0 (bs.set i c) % 65521 ≠ sum2 0 bs % 65521 := by
  have hi := (List.getElem?_eq_some_iff.mp h).1
  have s1 := sum1_set bs i c b h
  have s2 := sum2_set bs 0 i c b h
  constructor
  · intro e
    omega
  · intro e
    have := mod_eq_dvd e
    refine mul_ne (k := i + 1) (d := (c : Int) - b) (by omega) (by omega) (by omega) (by omega) (by omega) ?_
    have e2 : ((i + 1 : Nat) : Int) * ((c : Int) - b) = (sum2 0 (bs.set i c) : Int) - sum2 0 bs := by
      rw [Nat.zero_add] at s2
      have s3 : (sum2 0 (bs.set i c) : Int) + ((i + 1 : Nat) : Int) * b = sum2 0 bs + ((i + 1 : Nat) : Int) * c := by exact_mod_cast s2
      rw [Int.mul_sub]; omega
    rw [e2]; exact this
/-- two bytes of the body changed: the tail changes -/
theorem two_change {bs : List Nat} {i j c d b1 b2 : Nat} (h1 : bs[i]? = some b1) (h2 : bs[j]? = some b2) (hij : i ≠ j) (hl : bs.length ≤ 60000) (hb1 : b1 < 256) (hb2 : b2 < 256) (hc : c < 256) (hd : d < 256) (hn : c ≠ b1) :
    sum1 ((bs.set i c).set j d) % 65521 ≠ sum1 bs % 65521 ∨ sum2 0 ((bs.set i c).set j d) % 65521 ≠ sum2 0 bs % 65521 := by
  have hi := (List.getElem?_eq_some_iff.mp h1).1
  have hj := (List.getElem?_eq_some_iff.mp h2).1
  have h3 : (bs.set i c)[j]? = some b2 := by rw [List.getElem?_set_ne hij]; exact h2
  have s1 := sum1_set bs i c b1 h1
  have s2 := sum2_set bs 0 i c b1 h1
  have t1 := sum1_set _ j d b2 h3
  have t2 := sum2_set _ 0 j d b2 h3
  by_cases e1 : sum1 ((bs.set i c).set j d) % 65521 = sum1 bs % 65521
  · refine .inr fun e2 => ?_
    have m1 := mod_eq_dvd e1
    have m2 := mod_eq_dvd e2
    have hz : (d : Int) - b2 = -((c : Int) - b1) := by omega
    rw [Nat.zero_add] at s2 t2
    have s3 : (sum2 0 (bs.set i c) : Int) + ((i + 1 : Nat) : Int) * b1 = sum2 0 bs + ((i + 1 : Nat) : Int) * c := by exact_mod_cast s2
    have t3 : (sum2 0 ((bs.set i c).set j d) : Int) + ((j + 1 : Nat) : Int) * b2 = sum2 0 (bs.set i c) + ((j + 1 : Nat) : Int) * d := by exact_mod_cast t2
    have key : (sum2 0 ((bs.set i c).set j d) : Int) - sum2 0 bs = ((i : Int) - j) * ((c : Int) - b1) := by
      have u1 : ((i + 1 : Nat) : Int) * c - ((i + 1 : Nat) : Int) * b1 = ((i + 1 : Nat) : Int) * ((c : Int) - b1) := by rw [Int.mul_sub]
      have u2 : ((j + 1 : Nat) : Int) * d - ((j + 1 : Nat) : Int) * b2 = ((j + 1 : Nat) : Int) * (-((c : Int) - b1)) := by rw [← hz, Int.mul_sub]
      have u3 : ((i : Int) - j) * ((c : Int) - b1) = ((i + 1 : Nat) : Int) * ((c : Int) - b1) + ((j + 1 : Nat) : Int) * (-((c : Int) - b1)) := by
        rw [Int.mul_neg, ← Int.sub_eq_add_neg, ← Int.sub_mul]; congr 1; omega
      omega
    rw [key] at m2
    rcases Nat.lt_or_gt_of_ne hij with g | g
    · refine mul_ne (k := j - i) (d := (c : Int) - b1) (by omega) (by omega) (by omega) (by omega) (by omega) ?_
      have : ((j - i : Nat) : Int) * ((c : Int) - b1) = -(((i : Int) - j) * ((c : Int) - b1)) := by
        rw [← Int.neg_mul]; congr 1; omega
      rw [this]; exact Int.dvd_neg.mpr m2
    · refine mul_ne (k := i - j) (d := (c : Int) - b1) (by omega) (by omega) (by omega) (by omega) (by omega) ?_
      have : ((i - j : Nat) : Int) * ((c : Int) - b1) = ((i : Int) - j) * ((c : Int) - b1) := by congr 1; omega
      rw [this]; exact m2
  · exact .inl e1
theorem tail_eq {a b : List Nat} (h : tailOf a = tailOf b) : sum1 a % 65521 = sum1 b % 65521 ∧ sum2 0 a % 65521 = sum2 0 b % 65521 := by
  unfold tailOf at h
  simp at h
  omega
theorem tail_set {a b : List Nat} {k c : Nat} (h : (tailOf a).set k c = tailOf b) : sum1 a % 65521 = sum1 b % 65521 ∨ sum2 0 a % 65521 = sum2 0 b % 65521 := by
  unfold tailOf at h
  by_cases h4 : k < 4
  · have : k = 0 ∨ k = 1 ∨ k = 2 ∨ k = 3 := by omega
    rcases this with rfl | rfl | rfl | rfl <;> simp [List.set] at h <;> omega
  · rw [List.set_eq_of_length_le (by simp; omega)] at h
    exact .inl (tail_eq h).1
end K66

set_option linter.all false
set_option maxRecDepth 100000
set_option exponentiation.threshold 10000
/-! K66X: changed bytes; a log cut at a byte. -/
namespace K66
open PL HP
theorem no_body {b b' t rest : List Nat} (hl : b.length ≤ 60000) (hb : b'.length = b.length) (ht : t.length = 4) (h : t ≠ tailOf b') : rrec (headOf b.length ++ b' ++ t ++ rest) 0 = none := by
  rw [rrec_form hb ht (by omega), if_pos h]
theorem set_three {h : List Nat} (hh : h.length = 8) (b t : List Nat) (i c : Nat) : (h ++ b ++ t).set i c = if i < 8 then h.set i c ++ (b ++ t) else if i < 8 + b.length then h ++ b.set (i - 8) c ++ t else h ++ b ++ t.set (i - 8 - b.length) c := by
  rw [List.append_assoc, List.set_append, hh]
  by_cases g8 : i < 8
  · rw [if_pos g8, if_pos g8]
  · rw [if_neg g8, if_neg g8, List.set_append]
    by_cases g : i - 8 < b.length
    · rw [if_pos g, if_pos (by omega)]; simp
    · rw [if_neg g, if_neg (by omega)]; simp
theorem get_three {h : List Nat} (hh : h.length = 8) (b t : List Nat) (i : Nat) : (h ++ b ++ t)[i]? = if i < 8 then h[i]? else if i < 8 + b.length then b[i - 8]? else t[i - 8 - b.length]? := by
  rw [List.append_assoc, List.getElem?_append, hh]
  by_cases g8 : i < 8
  · rw [if_pos g8, if_pos g8]
  · rw [if_neg g8, if_neg g8, List.getElem?_append]
    by_cases g : i - 8 < b.length
    · rw [if_pos g, if_pos (by omega)]
    · rw [if_neg g, if_neg (by omega)]
theorem set_ne {l : List Nat} {k c b : Nat} (h : l[k]? = some b) (hn : c ≠ b) : l.set k c ≠ l := by
  intro e
  have hk := (List.getElem?_eq_some_iff.mp h).1
  have : (l.set k c)[k]? = some c := by rw [List.getElem?_set_self hk]
  rw [e, h] at this
  exact hn (Option.some.inj this).symm
/-- one byte changed: no record -/
theorem no_change1 {v : D} (hv : good v) {i c b : Nat} (hb : (rcd v)[i]? = some b) (hc : c < 256) (hn : c ≠ b) (rest : List Nat) : rrec ((rcd v).set i c ++ rest) 0 = none := by
  have hl := hv.2
  have hby := good_by hv
  have hbb : b < 256 := rcd_by hv b (List.mem_of_getElem? hb)
  unfold rcd recB at hb ⊢
  rw [get_three (head_len _)] at hb
  rw [set_three (head_len _)]
  generalize enc 8 v = e at *
  by_cases h8 : i < 8
  · rw [if_pos h8] at hb ⊢
    rw [List.append_assoc]
    refine no_head h8 hc ?_
    rw [hb]
    intro h
    exact hn (Option.some.inj h).symm
  · rw [if_neg h8] at hb ⊢
    by_cases hm : i < 8 + e.length
    · rw [if_pos hm] at hb ⊢
      refine no_body hl (List.length_set ..) (tail_len e) fun h => ?_
      have := both_change hb hl hbb hc hn
      exact this.1 (tail_eq h).1.symm
    · rw [if_neg hm] at hb ⊢
      refine no_body hl rfl (by rw [List.length_set]; exact tail_len e) ?_
      exact set_ne hb hn
/-- a second byte changed as well, both behind the head: no record -/
theorem no_change2 {v : D} (hv : good v) {i j c d b1 b2 : Nat} (h1 : (rcd v)[i]? = some b1) (h2 : (rcd v)[j]? = some b2) (hi : 8 ≤ i) (hj : 8 ≤ j) (hij : i ≠ j) (hc : c < 256) (hd : d < 256) (hn : c ≠ b1) (rest : List Nat) : rrec (((rcd v).set i c).set j d ++ rest) 0 = none := by
  have hl := hv.2
  have hbb1 : b1 < 256 := rcd_by hv b1 (List.mem_of_getElem? h1)
  have hbb2 : b2 < 256 := rcd_by hv b2 (List.mem_of_getElem? h2)
  unfold rcd recB at h1 h2 ⊢
  rw [get_three (head_len _)] at h1 h2
  rw [set_three (head_len _)]
  generalize enc 8 v = e at *
  rw [if_neg (by omega)] at h1 h2 ⊢
  by_cases hm : i < 8 + e.length
  · rw [if_pos hm] at h1 ⊢
    rw [set_three (head_len _)]
    rw [List.length_set]
    rw [if_neg (by omega)]
    by_cases hm2 : j < 8 + e.length
    · rw [if_pos hm2] at h2 ⊢
      refine no_body hl (by rw [List.length_set, List.length_set]) (tail_len e) fun h => ?_
      have := two_change h1 h2 (by omega) hl hbb1 hbb2 hc hd hn
      have t := tail_eq h
      rcases this with t1 | t1
      · exact t1 t.1.symm
      · exact t1 t.2.symm
    · rw [if_neg hm2] at h2 ⊢
      refine no_body hl (by rw [List.length_set]) (by rw [List.length_set]; exact tail_len e) fun h => ?_
      have := both_change h1 hl hbb1 hc hn
      rcases tail_set h with t | t
      · exact this.1 t.symm
      · exact this.2 t.symm
  · rw [if_neg hm] at h1 ⊢
    rw [set_three (head_len _)]
    rw [if_neg (by omega)]
    by_cases hm2 : j < 8 + e.length
    · rw [if_pos hm2] at h2 ⊢
      refine no_body hl (by rw [List.length_set]) (by rw [List.length_set]; exact tail_len e) fun h => ?_
      by_cases hdb : d = b2
      · have : e.set (j - 8) d = e := by
          rw [hdb]
          refine List.ext_getElem? fun k => ?_
          by_cases hk : j - 8 = k
          · subst hk
            rw [List.getElem?_set_self (by omega), h2]
          · rw [List.getElem?_set_ne hk]
        rw [this] at h
        exact set_ne h1 hn h
      · have := both_change h2 hl hbb2 hd hdb
        rcases tail_set h with t | t
        · exact this.1 t.symm
        · exact this.2 t.symm
    · rw [if_neg hm2] at h2 ⊢
      refine no_body hl rfl (by rw [List.length_set, List.length_set]; exact tail_len e) fun h => ?_
      have hk := (List.getElem?_eq_some_iff.mp h1).1
      have e1 : (((tailOf e).set (i - 8 - e.length) c).set (j - 8 - e.length) d)[i - 8 - e.length]? = some c := by
        rw [List.getElem?_set_ne (by omega), List.getElem?_set_self hk]
      rw [h, h1] at e1
      exact hn (Option.some.inj e1).symm
/-! a log cut at a byte -/
def endsF (spot : Nat) (vs : List D) : List Nat := (recsF spot vs).map (·.2)
theorem endsF_cons (spot : Nat) (v : D) (vs : List D) : endsF spot (v :: vs) = (spot + (rcd v).length) :: endsF (spot + (rcd v).length) vs := rfl
theorem endsF_ge : ∀ (vs : List D) (spot : Nat), ∀ e ∈ endsF spot vs, spot ≤ e
  | [], _, e, h => by cases h
  | v :: vs, spot, e, h => by
    rw [endsF_cons, List.mem_cons] at h
    rcases h with rfl | h
    · omega
    · have := endsF_ge vs _ e h; omega
theorem endsF_len (vs : List D) (spot : Nat) : (endsF spot vs).length = vs.length := by rw [endsF, List.length_map, recsF_len]
theorem endsF_at : ∀ (a b : List D) (spot : Nat), (spot :: endsF spot (a ++ b))[a.length]? = some (spot + (logB a).length)
  | [], b, spot => by simp [logB]
  | v :: a, b, spot => by
    rw [List.length_cons, List.getElem?_cons_succ, List.cons_append, endsF_cons, endsF_at a b]
    simp [logB]; omega
theorem cut_split : ∀ (vs : List D) (spot cut : Nat), spot ≤ cut → cut ≤ spot + (logB vs).length →
    ∃ a b, vs = a ++ b ∧ ((endsF spot vs).filter fun e => decide (e ≤ cut)).length = a.length ∧ spot + (logB a).length ≤ cut ∧ (b = [] ∨ ∃ v b', b = v :: b' ∧ cut < spot + (logB a).length + (rcd v).length)
  | [], spot, cut, h0, h1 => ⟨[], [], rfl, rfl, by simpa [logB] using h0, .inl rfl⟩
  | v :: vs, spot, cut, h0, h1 => by
    have e : (logB (v :: vs)).length = (rcd v).length + (logB vs).length := by simp [logB]
    by_cases h : spot + (rcd v).length ≤ cut
    · obtain ⟨a, b, q1, q2, q3, q4⟩ := cut_split vs (spot + (rcd v).length) cut h (by omega)
      have ea : (logB (v :: a)).length = (rcd v).length + (logB a).length := by simp [logB]
      refine ⟨v :: a, b, by rw [q1]; rfl, ?_, by omega, ?_⟩
      · rw [endsF_cons, List.filter_cons_of_pos (by simpa using h), List.length_cons, List.length_cons, q2]
      · rcases q4 with q4 | ⟨w, b', q4, q5⟩
        · exact .inl q4
        · exact .inr ⟨w, b', q4, by omega⟩
    · refine ⟨[], v :: vs, rfl, ?_, by simpa [logB] using h0, .inr ⟨v, vs, rfl, by simp [logB]; omega⟩⟩
      rw [List.filter_eq_nil_iff.mpr]
      · rfl
      · intro x hx
        rw [endsF_cons, List.mem_cons] at hx
        have : spot + (rcd v).length ≤ x := by
          rcases hx with rfl | hx
          · omega
          · exact endsF_ge vs _ x hx
        simp; omega
theorem logB_app (a b : List D) : logB (a ++ b) = logB a ++ logB b := by simp [logB]
theorem logB_cons (v : D) (b : List D) : logB (v :: b) = rcd v ++ logB b := by simp [logB]
/-- what is left of a cut -/
theorem cut_rest {a b : List D} {cut : Nat} (h : ∀ v ∈ b, good v) (h0 : (logB a).length ≤ cut) (h1 : b = [] ∨ ∃ v b', b = v :: b' ∧ cut < (logB a).length + (rcd v).length) :
    ∃ rest, (logB (a ++ b)).take cut = logB a ++ rest ∧ rrec rest 0 = none := by
  rw [logB_app, List.take_append, List.take_of_length_le h0]
  refine ⟨_, rfl, ?_⟩
  rcases h1 with rfl | ⟨v, b', rfl, h1⟩
  · simp [logB]; exact no_nil
  · rw [logB_cons, List.take_append_of_le_length (by omega)]
    exact no_prefix (h v List.mem_cons_self) (by omega)
/-- one byte of the log changed -/
theorem set_rest {a b' : List D} {v : D} {cut c x : Nat} (h : good v) (h0 : (logB a).length ≤ cut) (h1 : cut < (logB a).length + (rcd v).length) (hx : (logB (a ++ v :: b'))[cut]? = some x) (hc : c < 256) (hn : c ≠ x) :
    ∃ rest, (logB (a ++ v :: b')).set cut c = logB a ++ rest ∧ rrec rest 0 = none := by
  rw [logB_app, List.getElem?_append_right h0, logB_cons, List.getElem?_append_left (by omega)] at hx
  rw [logB_app, List.set_append, if_neg (by omega), logB_cons, List.set_append, if_pos (by omega)]
  exact ⟨_, rfl, no_change1 h hx hc hn _⟩
end K66

set_option linter.all false
set_option maxRecDepth 100000
set_option exponentiation.threshold 10000
/-! K66Y: the drawn values of k66. -/
namespace K66
open PL HP
theorem signs_ok : f__law_signs [] = .ok (.str abc) [] := by simp [f__law_signs, fnB_ap, m__law_signs]
theorem sign_loop (o1 o2 : Option D) : ∀ (n : Nat) (lo : Int) (d : D) (acc : List Nat), isDr d → (∀ c ∈ acc, 97 ≤ c ∧ c ≤ 122) → acc.length + n ≤ 1000 →
    ∃ d' s, isDr d' ∧ s.length = acc.length + n ∧ (∀ c ∈ s, 97 ≤ c ∧ c ≤ 122) ∧
      lcGo [3] (gT [3] dNm) uYes (eCallIO f__law_pick (.io 0 :: (.v (eCall0 f__law_signs) :: []))) (rangeL lo n) (strs1 acc) [some d, o1, o2, none] = .ok (strs1 s) [some d', o1, o2, none]
  | 0, lo, d, acc, h, ha, hl => ⟨d, acc, h, rfl, ha, by simp [rangeL_zero, lcGo_nil]⟩
  | n + 1, lo, d, acc, h, ha, hl => by
    obtain ⟨x, hx, d1, h1, e1⟩ := pick_str h abc (by decide) (by decide)
    have hx2 : 97 ≤ x ∧ x ≤ 122 := by
      have : ∀ y ∈ abc, 97 ≤ y ∧ y ≤ 122 := by decide
      exact this x hx
    obtain ⟨d', s, q1, q2, q3, q4⟩ := sign_loop o1 o2 n (lo + 1) d1 (acc ++ [x]) h1 (fun c hc => by
      rcases List.mem_append.mp hc with z | z
      · exact ha c z
      · simp at z; rw [z]; exact hx2) (by simp; omega)
    refine ⟨d', s, q1, by simp at q2; omega, q3, ?_⟩
    have h3 : acc.length < line := by unfold line; omega
    have h4 : (strs1 acc).length < line := by simpa [strs1] using h3
    rw [← q4, rangeL_succ, lcGo_cons]
    simp [signs_ok, e1, strs1, h3]
theorem val_loop {g : FN} {deep : Nat} (hg : ∀ (d : D), isDr d → ∃ v d', isDr d' ∧ isV 3 deep v ∧ g [d, .int deep] = .ok v [d', .int deep]) (o2 : Option D) : ∀ (n : Nat) (lo : Int) (d : D) (acc : List D), isDr d → (∀ v ∈ acc, isV 3 deep v) → acc.length + n ≤ 1000 →
    ∃ d' vs, isDr d' ∧ vs.length = acc.length + n ∧ (∀ v ∈ vs, isV 3 deep v) ∧
      lcGo [3] (gT [3] dNm) uYes (eCallIO g (.io 0 :: (.v (e2 pSub (eV 1) (eC (.int 1))) :: []))) (rangeL lo n) acc [some d, some (.int (deep + 1 : Nat)), o2, none] = .ok vs [some d', some (.int (deep + 1 : Nat)), o2, none]
  | 0, lo, d, acc, h, ha, hl => ⟨d, acc, h, rfl, ha, by simp [rangeL_zero, lcGo_nil]⟩
  | n + 1, lo, d, acc, h, ha, hl => by
    obtain ⟨v, d1, h1, hv, e1⟩ := hg d h
    obtain ⟨d', vs, q1, q2, q3, q4⟩ := val_loop hg o2 n (lo + 1) d1 (acc ++ [v]) h1 (fun c hc => by
      rcases List.mem_append.mp hc with z | z
      · exact ha c z
      · simp at z; rw [z]; exact hv) (by simp; omega)
    refine ⟨d', vs, q1, by simp at q2; omega, q3, ?_⟩
    have h3 : acc.length < line := by unfold line; omega
    rw [← q4, rangeL_succ, lcGo_cons]
    simp [e1, h3]
abbrev tops : List D := [.int 2, .int 128, .int 300, .int 1000000, .int 1000000000000000000]
theorem tops_ok : ∀ x ∈ tops, ∃ e : Nat, x = .int e ∧ 0 < e ∧ e ≤ 1000000000000000000 := by
  intro x hx
  simp at hx
  rcases hx with h | h | h | h | h
  · exact ⟨2, h, by omega, by omega⟩
  · exact ⟨128, h, by omega, by omega⟩
  · exact ⟨300, h, by omega, by omega⟩
  · exact ⟨1000000, h, by omega, by omega⟩
  · exact ⟨1000000000000000000, h, by omega, by omega⟩
theorem p10_6 : pPow (.int 10) (.int 6) = some (.int 1000000) := pPow_int _ _ ⟨by omega, by omega, by decide⟩
theorem p10_18 : pPow (.int 10) (.int 18) = some (.int 1000000000000000000) := pPow_int _ _ ⟨by omega, by omega, by decide⟩
theorem some_value_eq : ∀ (fuel deep : Nat) (d : D), deep < fuel → isDr d → ∃ v d', isDr d' ∧ isV 3 deep v ∧ f__law_some_value fuel [d, .int deep] = .ok v [d', .int deep]
  | 0, deep, d, h, _ => by omega
  | fuel + 1, deep, d, h, hd => by
    have ih := some_value_eq fuel
    show ∃ v d', isDr d' ∧ isV 3 deep v ∧ fnB 4 [0] (m__law_some_value (f__law_some_value fuel)) _ = _
    generalize f__law_some_value fuel = g at ih
    obtain ⟨c, d1, h1, hc, e1⟩ := takeN hd 5 (by omega) (by omega)
    simp at e1
    have p6 := p10_6
    have p18 := p10_18
    by_cases hc0 : c = 0
    · subst hc0
      refine ⟨.non, d1, h1, by cases deep <;> trivial, ?_⟩
      simp [fnB_ap, m__law_some_value, e1]
    · by_cases hn : c = 1 ∨ (deep = 0 ∧ 2 < c)
      · obtain ⟨x, hx, d2, h2, e2⟩ := pick_ok h1 tops (by decide) (by decide)
        obtain ⟨e, rfl, he0, he⟩ := tops_ok x hx
        obtain ⟨a, d3, h3, ha, e3⟩ := takeN h2 e he0 (by omega)
        refine ⟨.int a, d3, h3, ?_, ?_⟩
        · have : 0 ≤ (a : Int) ∧ (a : Int) < 128 ^ 9 := by omega
          cases deep <;> exact this
        · rcases hn with hn | ⟨hn, hn2⟩
          · subst hn
            simp [fnB_ap, m__law_some_value, e1, e2, e3, p6, p18]
          · subst hn
            have c1 : ¬ c = 1 := by omega
            have c2 : (2 : Int) < c := by omega
            have c3 : ¬ (c : Int) = 1 := by omega
            simp [fnB_ap, m__law_some_value, e1, e2, e3, p6, p18, hc0, c1, c2, c3]
      · have c1 : ¬ (c : Int) = 1 := by omega
        have c1' : ¬ c = 1 := by omega
        by_cases hc2 : c = 2
        · subst hc2
          obtain ⟨x, hx, d2, h2, e2⟩ := pick_ok h1 [.int 0, .int 1, .int 2, .int 5, .int 127] (by decide) (by decide)
          obtain ⟨n, rfl, hn⟩ : ∃ n : Nat, x = .int n ∧ n ≤ 127 := by
            simp at hx
            rcases hx with h | h | h | h | h
            · exact ⟨0, h, by omega⟩
            · exact ⟨1, h, by omega⟩
            · exact ⟨2, h, by omega⟩
            · exact ⟨5, h, by omega⟩
            · exact ⟨127, h, by omega⟩
          obtain ⟨d3, s, h3, hs, hs2, e3⟩ := sign_loop (some (.int deep)) (some (.int (2 : Nat))) n 0 d2 [] h2 (by simp) (by simp; omega)
          refine ⟨.str s, d3, h3, ?_, ?_⟩
          · have : s.length ≤ 127 ∧ ∀ c ∈ s, 97 ≤ c ∧ c ≤ 122 := ⟨by simp at hs; omega, hs2⟩
            cases deep <;> exact this
          · have hj := join_strs1 (s := s) (by simp at hs; unfold line; omega)
            have hs62 : small62 (n : Int) = true := small62_of (by omega) (by omega)
            simp [strs1] at e3
            simp [strs1] at hj
            simp at e1
            simp [fnB_ap, m__law_some_value, e1, e2, hs62, e3, hj]
        · have c2 : ¬ (c : Int) = 2 := by omega
          obtain ⟨dd, rfl⟩ : ∃ k, deep = k + 1 := ⟨deep - 1, by omega⟩
          obtain ⟨n, d2, h2, hn2, e2⟩ := takeN h1 4 (by omega) (by omega)
          obtain ⟨d3, vs, h3, hl, hvs, e3⟩ := val_loop (g := g) (deep := dd) (fun d hd => ih dd d (by omega) hd) (some (.int c)) n 0 d2 [] h2 (by simp) (by simp; omega)
          refine ⟨.tup vs, d3, h3, ⟨by simp at hl; omega, hvs⟩, ?_⟩
          have hs62 : small62 (n : Int) = true := small62_of (by omega) (by omega)
          have nd : ¬ (dd : Int) + 1 = 0 := by omega
          simp at e1 e2 e3
          simp [fnB_ap, m__law_some_value, e1, e2, hs62, e3, hc0, c1, c1', hc2, c2, nd]
theorem some_good {v : D} (h : isV 3 3 v) : good v := by
  have h8 : isV 3 8 v := isV_le h (by omega)
  refine ⟨isV_weak (by omega) h8, ?_⟩
  rw [enc_le h (by omega : 3 ≤ 8)]
  have := enc_len 3 v h
  have e : most 3 = 5600 := by decide
  omega
end K66

set_option linter.all false
set_option maxRecDepth 100000
set_option exponentiation.threshold 10000
/-! K66Z: one log of the law, first half. -/
namespace K66
open PL HP
theorem slice_toD (xs : List D) (c : Nat) : sliceD (.lst xs) none (some (c : Int)) = some (.lst (xs.take c)) := by
  have e2 : sIx xs.length xs.length (some (c : Int)) = min c xs.length := by
    simp only [sIx]
    rw [if_neg (by omega)]
    congr 1
  show some (D.lst ((xs.drop (sIx xs.length 0 none)).take _)) = _
  have e1 : sIx xs.length 0 none = 0 := rfl
  rw [e1, e2, List.drop_zero]
  congr 2
  rw [Nat.sub_zero, List.take_eq_take_iff]
  omega
def partD (v : D) : D := .lst (dB (rcd v))
abbrev st0 (d x : D) : En := [some d, some x, none, none, none, none, none, none, none, none, none, none, none, none]
theorem parts_loop (d x : D) : ∀ (vs acc : List D), (∀ v ∈ vs, good v) → acc.length + vs.length ≤ 1000 →
    lcGo [3] (gT [3] dNm) uYes (eCall 1 f__law_record (lCons (eCall 1 f_value_bytes (lCons (eV 3) lNil)) lNil)) vs acc (st0 d x) = .ok (acc ++ vs.map partD) (st0 d x) := fun vs acc h hl =>
  lcGo_map (P := good) partD (fun v hv acc xs => by
    have e1 := value_bytes_good hv
    have e2 := law_record_eq (good_by hv) hv.2
    have e3 : D.lst (dB (recB (enc 8 v))) = partD v := rfl
    rw [e3] at e2
    rw [lcGo_cons]
    generalize D.lst (dB (enc 8 v)) = z at *
    simp [st0, e1, e2]) vs acc h (by unfold line; omega)
theorem zip_parts : ∀ vs : List D, zipL (vs.map partD) vs = vs.map fun v => .tup [partD v, v]
  | [] => rfl
  | v :: vs => by
    have := zip_parts vs
    unfold zipL at this ⊢
    rw [List.map_cons, List.map_cons, List.zipWith_cons_cons, this]
def bodyZ : ST := (sSeq (sIf (uOr (uB (e2 pNe (eCall 1 f_record (lCons (eV 3) lNil)) (eV 6))) (uB (e2 pNe (eCall 1 f_record (lCons (eV 3) lNil)) (eV 6)))) (sRet (eC (.bl false))) sSkip) (sSeq (sSet 4 (e2 pAdd (eV 4) (eV 6))) (sApp 5 (eB pLen (lCons (eV 4) lNil)))))
abbrev stR (d vs p : D) (o3 : Option D) (l e : D) (o6 o7 o8 o9 o11 o12 o13 : Option D) : En := [some d, some vs, some p, o3, some l, some e, o6, o7, o8, o9, none, o11, o12, o13]
theorem zip_loop (d x p : D) : ∀ (vs : List D) (acc es : List Nat) (o3 o6 : Option D), (∀ v ∈ vs, good v) → acc.length + vs.length * 60012 ≤ 1000000 → es.length + vs.length ≤ 1000 →
    ∃ o3' o6', loop (gT [6, 3] (dTup [dNm, dNm])) bodyZ (vs.map fun v => .tup [partD v, v]) (stR d x p o3 (.lst (dB acc)) (.lst (dB es)) o6 none none none none none none) = .ok .nx (stR d x p o3' (.lst (dB (acc ++ logB vs))) (.lst (dB (es ++ endsF acc.length vs))) o6' none none none none none none)
  | [], acc, es, o3, o6, _, _, _ => ⟨o3, o6, by simp [loop_nil, logB, endsF, recsF]⟩
  | v :: vs, acc, es, o3, o6, h, hl, hl2 => by
    have hv := h v List.mem_cons_self
    have hv2 := hv.2
    have hr := rcd_len v
    rw [List.length_cons] at hl hl2
    obtain ⟨o3', o6', q⟩ := zip_loop d x p vs (acc ++ rcd v) (es ++ [acc.length + (rcd v).length]) (some v) (some (partD v)) (fun y hy => h y (List.mem_cons_of_mem _ hy)) (by rw [List.length_append]; omega) (by rw [List.length_append, List.length_singleton]; omega)
    refine ⟨o3', o6', ?_⟩
    have e1 := record_eq hv
    have e2 := (dB_eq (rcd v)).2
    have e3 : acc.length + (rcd v).length ≤ line := line_ge (by omega)
    have e4 : es.length < line := by unfold line; omega
    have ea : dB (acc ++ rcd v) = dB acc ++ dB (rcd v) := by simp
    have eb : dB (es ++ [acc.length + (rcd v).length]) = dB es ++ [.int ((acc.length : Int) + (rcd v).length)] := by simp
    rw [logB_cons, endsF_cons, ← List.append_assoc]
    rw [List.append_assoc es, List.singleton_append] at q
    rw [List.length_append] at q
    rw [← q, List.map_cons, loop_cons, ea, eb]
    have l1 : (dB acc).length = acc.length := by simp
    have l2 : (dB (rcd v)).length = (rcd v).length := by simp
    have l3 : (dB es).length = es.length := by simp
    have ep : partD v = .lst (dB (rcd v)) := rfl
    rw [ep]
    generalize dB (rcd v) = z1 at *
    generalize dB acc = z2 at *
    generalize dB es = z3 at *
    generalize (rcd v).length = n1 at *
    generalize acc.length = n2 at *
    generalize es.length = n3 at *
    simp [stR, bodyZ, e1, e2, e3, e4, l1, l2, l3]
theorem whole_loop (d x p : D) (l e : D) (o3 o6 o7 o9 o11 o12 o13 : Option D) (cut : Nat) : ∀ (es acc : List Nat), acc.length + es.length ≤ 1000 →
    lcGo [10] (gT [10] dNm) (uB (e2 pLe (eV 10) (eV 8))) (eV 10) (dB es) (dB acc) (stR d x p o3 l e o6 o7 (some (.int cut)) o9 o11 o12 o13) = .ok (dB (acc ++ es.filter fun e => decide (e ≤ cut))) (stR d x p o3 l e o6 o7 (some (.int cut)) o9 o11 o12 o13)
  | [], acc, _ => by simp [lcGo_nil]
  | c :: es, acc, hl => by
    rw [List.length_cons] at hl
    by_cases h : c ≤ cut
    · have q := whole_loop d x p l e o3 o6 o7 o9 o11 o12 o13 cut es (acc ++ [c]) (by rw [List.length_append, List.length_singleton]; omega)
      rw [List.filter_cons_of_pos (by simpa using h), show acc ++ c :: es.filter (fun e => decide (e ≤ cut)) = acc ++ [c] ++ es.filter (fun e => decide (e ≤ cut)) by simp, ← q, show dB (c :: es) = .int c :: dB es from rfl, lcGo_cons]
      have h3 : acc.length < line := by unfold line; omega
      have h4 : (c : Int) ≤ cut := by omega
      simp [stR, h3, h4]
    · have q := whole_loop d x p l e o3 o6 o7 o9 o11 o12 o13 cut es acc (by omega)
      rw [List.filter_cons_of_neg (by simpa using h), ← q, show dB (c :: es) = .int c :: dB es from rfl, lcGo_cons]
      have h4 : ¬ (c : Int) ≤ cut := by omega
      simp [stR, h4]
def cutX : EX := (PL.eIf (uB (e2 pGt (eV 7) (eC (.int 0)))) (eCallIO f__law_take (.io 0 :: (.v (e2 pAdd (eB pLen (lCons (eV 4) lNil)) (eC (.int 1))) :: []))) (eB pLen (lCons (eV 4) lNil)))
theorem cut_draw {d : D} (hd : isDr d) (x p : D) (L : List Nat) (hL : L.length ≤ 1000000) (e : D) (k : Int) (o3 o6 o8 o9 o11 o12 o13 : Option D) :
    ∃ d' cut, isDr d' ∧ cut ≤ L.length ∧ cutX (stR d x p o3 (.lst (dB L)) e o6 (some (.int k)) o8 o9 o11 o12 o13) = .ok (.int (cut : Nat)) (stR d' x p o3 (.lst (dB L)) e o6 (some (.int k)) o8 o9 o11 o12 o13) := by
  by_cases hk : 0 < k
  · obtain ⟨cut, d', h1, h2, e1⟩ := takeN hd (L.length + 1) (by omega) (by omega)
    refine ⟨d', cut, h1, by omega, ?_⟩
    simp at e1
    simp [cutX, stR, hk, e1]
  · refine ⟨d, L.length, hd, Nat.le_refl _, ?_⟩
    simp [cutX, stR, hk]
def bodyC1 : ST := (sIf (uNot (uB (eCall 3 f__law_same (lCons (eCall 1 f_read_log (lCons (eB pTuple (lCons (eSl (eV 4) oNone (oSome (eV 8))) lNil)) lNil)) (lCons (eSl (eV 1) oNone (oSome (eV 9))) (lCons (e2 pIx (e2 pAdd (eLst (lCons (eC (.int 0)) lNil)) (eV 5)) (eV 9)) lNil)))))) (sRet (eC (.bl false))) sSkip)
def bodyC2 : ST := (sIf (uB (e2 pLt (eV 8) (eB pLen (lCons (eV 4) lNil)))) (sSeq (sSet 3 (e2 pMod (e2 pAdd (e2 pAdd (e2 pIx (eV 4) (eV 8)) (eC (.int 1))) (eCallIO f__law_take (.io 0 :: (.v (eC (.int 255)) :: [])))) (eC (.int 256)))) (sIf (uNot (uB (eCall 3 f__law_same (lCons (eCall 1 f_read_log (lCons (e2 pAdd (e2 pAdd (eSl (eV 4) oNone (oSome (eV 8))) (eLst (lCons (eV 3) lNil))) (eSl (eV 4) (oSome (e2 pAdd (eV 8) (eC (.int 1)))) oNone)) lNil)) (lCons (eSl (eV 1) oNone (oSome (eV 9))) (lCons (e2 pIx (e2 pAdd (eLst (lCons (eC (.int 0)) lNil)) (eV 5)) (eV 9)) lNil)))))) (sRet (eC (.bl false))) sSkip)) sSkip)
def wholeS : ST := (sSet 9 (eB pLen (lCons (eLc (itAny (eV 5)) [10] (gT [10] dNm) (uB (e2 pLe (eV 10) (eV 8))) (eV 10)) lNil)))
def bodyK : ST := sSeq (sSet 8 cutX) (sSeq wholeS (sSeq bodyC1 bodyC2))
theorem whole_ok (d x p : D) (l : D) (es : List Nat) (o3 o6 o7 o9 o11 o12 o13 : Option D) (cut : Nat) (hl : es.length ≤ 1000) :
    wholeS (stR d x p o3 l (.lst (dB es)) o6 o7 (some (.int cut)) o9 o11 o12 o13) = .ok .nx (stR d x p o3 l (.lst (dB es)) o6 o7 (some (.int cut)) (some (.int (es.filter fun e => decide (e ≤ cut)).length)) o11 o12 o13) := by
  have q := whole_loop d x p l (.lst (dB es)) o3 o6 o7 o9 o11 o12 o13 cut es [] (by simpa using hl)
  rw [List.nil_append, show dB [] = [] from rfl] at q
  have l1 : (dB (es.filter fun e => decide (e ≤ cut))).length = (es.filter fun e => decide (e ≤ cut)).length := by simp
  generalize dB (es.filter fun e => decide (e ≤ cut)) = z at *
  generalize dB es = y at *
  generalize (es.filter fun e => decide (e ≤ cut)).length = n at *
  simp only [stR] at q
  simp [stR, wholeS, q, l1]
theorem at_ends {a b : List D} : atD (.int 0 :: dB (endsF 0 (a ++ b))) ((a.length : Nat) : Int) = some (.int (logB a).length) := by
  have e := endsF_at a b 0
  rw [Nat.zero_add] at e
  rw [atD_nat, show (D.int 0 :: dB (endsF 0 (a ++ b))) = dB (0 :: endsF 0 (a ++ b)) from rfl]
  show ((0 :: endsF 0 (a ++ b)).map _)[a.length]? = _
  rw [List.getElem?_map, e]; rfl
theorem isBy_take {l : List Nat} (h : isBy l) (n : Nat) : isBy (l.take n) := isBy_sub h fun x hx => List.mem_of_mem_take hx
theorem isBy_set {l : List Nat} (h : isBy l) (n c : Nat) (hc : c < 256) : isBy (l.set n c) := fun x hx => by
  rcases List.mem_or_eq_of_mem_set hx with h1 | h1
  · exact h x h1
  · omega
theorem c1_ok {a b : List D} {cut : Nat} (h : ∀ v ∈ a ++ b, good v) (hn : (a ++ b).length ≤ 16) (h0 : (logB a).length ≤ cut) (hc : cut ≤ (logB (a ++ b)).length) (h1 : b = [] ∨ ∃ v b', b = v :: b' ∧ cut < (logB a).length + (rcd v).length) (d p : D) (o3 o6 o7 o11 o12 o13 : Option D) :
    bodyC1 (stR d (.lst (a ++ b)) p o3 (.lst (dB (logB (a ++ b)))) (.lst (dB (endsF 0 (a ++ b)))) o6 o7 (some (.int cut)) (some (.int a.length)) o11 o12 o13) = .ok .nx (stR d (.lst (a ++ b)) p o3 (.lst (dB (logB (a ++ b)))) (.lst (dB (endsF 0 (a ++ b)))) o6 o7 (some (.int cut)) (some (.int a.length)) o11 o12 o13) := by
  have ha : ∀ v ∈ a, good v := fun v hv => h v (List.mem_append_left _ hv)
  have hb : ∀ v ∈ b, good v := fun v hv => h v (List.mem_append_right _ hv)
  have hlen := logB_len h
  have hmul : (a ++ b).length * 60012 ≤ 16 * 60012 := Nat.mul_le_mul_right _ hn
  obtain ⟨rest, e1, e2⟩ := cut_rest hb h0 h1
  have q := read_is (x := .tup (dB ((logB (a ++ b)).take cut))) (.inr rfl) (isBy_take (logB_by h) cut) (by rw [List.length_take]; omega) ha (by rw [List.length_append] at hn; omega) e1 e2
  have s1 := slice_to (logB (a ++ b)) cut
  have s2 := slice_toD (a ++ b) a.length
  rw [List.take_left' rfl] at s2
  have s3 := at_ends (a := a) (b := b)
  have s4 := same_ok ha (logB a).length
  have l1 : (dB (endsF 0 (a ++ b))).length = (a ++ b).length := by simp [endsF_len]
  have l2 : 1 + (dB (endsF 0 (a ++ b))).length ≤ line := line_ge (by omega)
  generalize dB (endsF 0 (a ++ b)) = z1 at *
  generalize dB ((logB (a ++ b)).take cut) = z2 at *
  generalize dB (logB (a ++ b)) = z3 at *
  generalize (logB a).length = n1 at *
  generalize a ++ b = ab at *
  generalize a.length = n2 at *
  have l3 : z1.length + 1 ≤ line := by omega
  clear l1
  simp [stR, bodyC1, q, s1, s2, s3, s4, l2, l3]
theorem c2_ok {a b : List D} {cut : Nat} (h : ∀ v ∈ a ++ b, good v) (hn : (a ++ b).length ≤ 16) (h0 : (logB a).length ≤ cut) (hc : cut ≤ (logB (a ++ b)).length) (h1 : b = [] ∨ ∃ v b', b = v :: b' ∧ cut < (logB a).length + (rcd v).length) {d : D} (hd : isDr d) (p : D) (o3 o6 o7 o11 o12 o13 : Option D) :
    ∃ d' o3', isDr d' ∧ bodyC2 (stR d (.lst (a ++ b)) p o3 (.lst (dB (logB (a ++ b)))) (.lst (dB (endsF 0 (a ++ b)))) o6 o7 (some (.int cut)) (some (.int a.length)) o11 o12 o13) = .ok .nx (stR d' (.lst (a ++ b)) p o3' (.lst (dB (logB (a ++ b)))) (.lst (dB (endsF 0 (a ++ b)))) o6 o7 (some (.int cut)) (some (.int a.length)) o11 o12 o13) := by
  have ha : ∀ v ∈ a, good v := fun v hv => h v (List.mem_append_left _ hv)
  have hb : ∀ v ∈ b, good v := fun v hv => h v (List.mem_append_right _ hv)
  have hlen := logB_len h
  have hmul : (a ++ b).length * 60012 ≤ 16 * 60012 := Nat.mul_le_mul_right _ hn
  by_cases hcut : cut < (logB (a ++ b)).length
  · obtain ⟨t, d1, hd1, ht, et⟩ := takeN hd 255 (by omega) (by omega)
    simp at et
    obtain ⟨x, hx⟩ : ∃ x, (logB (a ++ b))[cut]? = some x := ⟨_, List.getElem?_eq_getElem hcut⟩
    have hx256 := logB_by h x (List.mem_of_getElem? hx)
    have hch : (x + 1 + t) % 256 ≠ x := by omega
    refine ⟨d1, some (.int ((x + 1 + t) % 256 : Nat)), hd1, ?_⟩
    have hch2 : (x + 1 + t) % 256 < 256 := Nat.mod_lt _ (by omega)
    have m := pMod_nat (x + 1 + t) 256 (kk := 256) rfl (by omega)
    simp only [Int.natCast_add, Int.natCast_one] at m
    generalize (x + 1 + t) % 256 = c at *
    rcases h1 with rfl | ⟨v, b', rfl, h1⟩
    · rw [List.append_nil] at hcut; omega
    · obtain ⟨rest, e1, e2⟩ := set_rest (hb v List.mem_cons_self) h0 h1 hx hch2 hch
      have q := read_is (x := .lst (dB ((logB (a ++ v :: b')).set cut c))) (.inl rfl) (isBy_set (logB_by h) cut c hch2) (by rw [List.length_set]; omega) ha (by rw [List.length_append] at hn; omega) e1 e2
      have eset : dB ((logB (a ++ v :: b')).set cut c) = dB ((logB (a ++ v :: b')).take cut) ++ .int c :: dB ((logB (a ++ v :: b')).drop (cut + 1)) := by
        rw [List.set_eq_take_append_cons_drop, if_pos hcut]; simp only [dB, List.map_append, List.map_cons]
      rw [eset] at q
      have s1 := slice_to (logB (a ++ v :: b')) cut
      have s5 := slice_from (logB (a ++ v :: b')) (cut + 1)
      simp only [Int.natCast_add, Int.natCast_one] at s5
      have s2 := slice_toD (a ++ v :: b') a.length
      rw [List.take_left' rfl] at s2
      have s3 := at_ends (a := a) (b := v :: b')
      have s4 := same_ok ha (logB a).length
      have s6 : atD (dB (logB (a ++ v :: b'))) (cut : Int) = some (.int x) := by
        rw [atD_nat, List.getElem?_map, hx]; rfl
      have l1 : (dB (endsF 0 (a ++ v :: b'))).length = (a ++ v :: b').length := by simp [endsF_len]
      have l2 : 1 + (dB (endsF 0 (a ++ v :: b'))).length ≤ line := line_ge (by omega)
      have l3 : (dB (endsF 0 (a ++ v :: b'))).length + 1 ≤ line := by omega
      have l4 : (dB ((logB (a ++ v :: b')).take cut)).length = cut := by
        rw [List.length_map, List.length_take]; omega
      have l5 : (dB ((logB (a ++ v :: b')).drop (cut + 1))).length = (logB (a ++ v :: b')).length - (cut + 1) := by rw [List.length_map, List.length_drop]
      have l6 : (dB (logB (a ++ v :: b'))).length = (logB (a ++ v :: b')).length := by rw [List.length_map]
      generalize dB (endsF 0 (a ++ v :: b')) = z1 at *
      generalize dB ((logB (a ++ v :: b')).take cut) = z2 at *
      generalize dB ((logB (a ++ v :: b')).drop (cut + 1)) = z4 at *
      generalize dB (logB (a ++ v :: b')) = z3 at *
      generalize (logB (a ++ v :: b')).length = n3 at *
      generalize (logB a).length = n1 at *
      generalize a ++ v :: b' = ab at *
      generalize a.length = n2 at *
      have g0 : (cut : Int) < n3 := by omega
      have g1 : cut + 1 ≤ line := line_ge (by omega)
      have g2 : cut + 1 + z4.length ≤ line := line_ge (by omega)
      have g3 : cut + (z4.length + 1) ≤ line := line_ge (by omega)
      have g4 : cut + (1 + z4.length) ≤ line := line_ge (by omega)
      clear l1 l5
      simp [stR, bodyC2, et, m, q, s1, s2, s3, s4, s5, s6, l2, l3, l4, l6, g0, g1, g2, g3, g4]
  · refine ⟨d, o3, hd, ?_⟩
    have g0 : ¬ (cut : Int) < (logB (a ++ b)).length := by omega
    have l6 : (dB (logB (a ++ b))).length = (logB (a ++ b)).length := by rw [List.length_map]
    generalize dB (logB (a ++ b)) = z3 at *
    generalize (logB (a ++ b)).length = n3 at *
    simp [stR, bodyC2, g0, l6]
theorem k_step {vs : List D} (h : ∀ v ∈ vs, good v) (hn : vs.length ≤ 16) {d : D} (hd : isDr d) (p : D) (k : Int) (o3 o6 o8 o9 o11 o12 o13 : Option D) :
    ∃ d' o3' o8' o9', isDr d' ∧ bodyK (stR d (.lst vs) p o3 (.lst (dB (logB vs))) (.lst (dB (endsF 0 vs))) o6 (some (.int k)) o8 o9 o11 o12 o13) = .ok .nx (stR d' (.lst vs) p o3' (.lst (dB (logB vs))) (.lst (dB (endsF 0 vs))) o6 (some (.int k)) o8' o9' o11 o12 o13) := by
  have hlen := logB_len h
  have hmul : vs.length * 60012 ≤ 16 * 60012 := Nat.mul_le_mul_right _ hn
  obtain ⟨d1, cut, hd1, hcut, e1⟩ := cut_draw hd (.lst vs) p (logB vs) (by omega) (.lst (dB (endsF 0 vs))) k o3 o6 o8 o9 o11 o12 o13
  have e2 := whole_ok d1 (.lst vs) p (.lst (dB (logB vs))) (endsF 0 vs) o3 o6 (some (.int k)) o9 o11 o12 o13 cut (by rw [endsF_len]; omega)
  obtain ⟨a, b, rfl, w, h0, h1⟩ := cut_split vs 0 cut (by omega) (by omega)
  rw [Nat.zero_add] at h0
  simp only [Nat.zero_add] at h1
  rw [w] at e2
  have e3 := c1_ok h hn h0 hcut h1 d1 p o3 o6 (some (.int k)) o11 o12 o13
  obtain ⟨d2, o3', hd2, e4⟩ := c2_ok h hn h0 hcut h1 hd1 p o3 o6 (some (.int k)) o11 o12 o13
  refine ⟨d2, o3', some (.int cut), some (.int a.length), hd2, ?_⟩
  unfold bodyK
  rw [sSeq_ap, sSet_ap, e1, sSetK_ok]
  show sSeqK _ (.ok .nx (stR d1 (.lst (a ++ b)) p o3 (.lst (dB (logB (a ++ b)))) (.lst (dB (endsF 0 (a ++ b)))) o6 (some (.int k)) (some (.int cut)) o9 o11 o12 o13)) = _
  rw [sSeqK_nx, sSeq_ap, e2, sSeqK_nx, sSeq_ap, e3, sSeqK_nx, e4]
theorem k_loop {vs : List D} (h : ∀ v ∈ vs, good v) (hn : vs.length ≤ 16) (p : D) (o6 o11 o12 o13 : Option D) : ∀ (n : Nat) (lo : Int) (d : D) (o3 o7 o8 o9 : Option D), isDr d →
    ∃ d' o3' o7' o8' o9', isDr d' ∧ loop (gT [7] dNm) bodyK (rangeL lo n) (stR d (.lst vs) p o3 (.lst (dB (logB vs))) (.lst (dB (endsF 0 vs))) o6 o7 o8 o9 o11 o12 o13) = .ok .nx (stR d' (.lst vs) p o3' (.lst (dB (logB vs))) (.lst (dB (endsF 0 vs))) o6 o7' o8' o9' o11 o12 o13)
  | 0, lo, d, o3, o7, o8, o9, hd => ⟨d, o3, o7, o8, o9, hd, rfl⟩
  | n + 1, lo, d, o3, o7, o8, o9, hd => by
    obtain ⟨d1, q3, q8, q9, hd1, e1⟩ := k_step h hn hd p lo o3 o6 o8 o9 o11 o12 o13
    obtain ⟨d2, r3, r7, r8, r9, hd2, e2⟩ := k_loop h hn p o6 o11 o12 o13 n (lo + 1) d1 q3 (some (.int lo)) q8 q9 hd1
    refine ⟨d2, r3, r7, r8, r9, hd2, ?_⟩
    rw [rangeL_succ, loop_cons]
    show loopK _ _ _ (.ok () (stR d (.lst vs) p o3 (.lst (dB (logB vs))) (.lst (dB (endsF 0 vs))) o6 (some (.int lo)) o8 o9 o11 o12 o13)) = _
    rw [loopK_ok, e1, loopK2_nx, e2]
end K66

set_option linter.all false
set_option maxRecDepth 100000
set_option exponentiation.threshold 10000
/-! K66AA: one log of the law, second half. -/
namespace K66
open PL HP
theorem ixD_nat {n k : Nat} (h : k < n) : ixD n (k : Int) = some k := by
  unfold ixD
  rw [if_pos (by omega), if_pos (by omega)]; simp
def bodyP : ST := (sSeq (sPar [11, 12] (lCons (e2 pAdd (eC (.int 8)) (eCallIO f__law_take (.io 0 :: (.v (e2 pSub (eB pLen (lCons (eV 6) lNil)) (eC (.int 8))) :: [])))) (lCons (e2 pAdd (eC (.int 8)) (eCallIO f__law_take (.io 0 :: (.v (e2 pSub (eB pLen (lCons (eV 6) lNil)) (eC (.int 8))) :: [])))) lNil))) (sSeq (sSet 13 (eB pList (lCons (eV 6) lNil))) (sSeq (sPut 13 (eV 11) (e2 pMod (e2 pAdd (e2 pAdd (eIxO 13 (eV 11)) (eC (.int 1))) (eCallIO f__law_take (.io 0 :: (.v (eC (.int 255)) :: [])))) (eC (.int 256)))) (sSeq (sIf (uB (e2 pNe (eV 12) (eV 11))) (sPut 13 (eV 12) (e2 pMod (e2 pAdd (eIxO 13 (eV 12)) (PL.eIf (uB (e2 pEq (eCallIO f__law_take (.io 0 :: (.v (eC (.int 2)) :: []))) (eC (.int 0)))) (e2 pSub (e2 pIx (eV 6) (eV 11)) (eIxO 13 (eV 11))) (eCallIO f__law_take (.io 0 :: (.v (eC (.int 256)) :: []))))) (eC (.int 256)))) sSkip) (sIf (uB (e2 pNe (eCall 1 f_read_log (lCons (eV 13) lNil)) (eTup (lCons (eLst lNil) (lCons (eC (.int 0)) lNil))))) (sRet (eC (.bl false))) sSkip)))))
theorem none_read {R : List Nat} (hb : isBy R) (hl : R.length ≤ 1000000) (h : rrec R 0 = none) : f_read_log [.lst (dB R)] = .ok (.tup [.lst [], .int 0]) [.lst (dB R)] := by
  have := read_is (x := .lst (dB R)) (rest := R) (vs := []) (.inl rfl) hb hl (by simp) (by simp) (by simp [logB]) h
  simpa [logB] using this
theorem pair_nil : pNe (.tup [.lst [], .int 0]) (.tup [.lst [], .int 0]) = some (.bl false) := pair_plain (vs := []) (by simp) 0
theorem dB_set (R : List Nat) (i c : Nat) : (dB R).set i (.int c) = dB (R.set i c) := by rw [dB, dB, List.map_set]
theorem dB_at {R : List Nat} {i b : Nat} (h : R[i]? = some b) : atD (dB R) (i : Int) = some (.int b) := by
  rw [atD_nat, List.getElem?_map, h]; rfl
theorem p_step {v : D} (hv : good v) {d : D} (hd : isDr d) (x p l e : D) (o3 o7 o8 o9 o11 o12 o13 : Option D) :
    ∃ d' q11 q12 q13, isDr d' ∧ bodyP (stR d x p o3 l e (some (partD v)) o7 o8 o9 o11 o12 o13) = .ok .nx (stR d' x p o3 l e (some (partD v)) o7 o8 o9 q11 q12 q13) := by
  have hby := rcd_by hv
  have hlen := rcd_len v
  have hv2 := hv.2
  have n1 : ∀ i c b : Nat, (rcd v)[i]? = some b → c < 256 → c ≠ b → f_read_log [.lst (dB ((rcd v).set i c))] = .ok (.tup [.lst [], .int 0]) [.lst (dB ((rcd v).set i c))] := fun i c b h1 h2 h3 =>
    none_read (isBy_set hby i c h2) (by rw [List.length_set]; omega) (by have := no_change1 hv h1 h2 h3 []; rwa [List.append_nil] at this)
  have n2 : ∀ i j c d b1 b2 : Nat, (rcd v)[i]? = some b1 → (rcd v)[j]? = some b2 → 8 ≤ i → 8 ≤ j → i ≠ j → c < 256 → d < 256 → c ≠ b1 → f_read_log [.lst (dB (((rcd v).set i c).set j d))] = .ok (.tup [.lst [], .int 0]) [.lst (dB (((rcd v).set i c).set j d))] := fun i j c d b1 b2 h1 h2 h3 h4 h5 h6 h7 h8 =>
    none_read (isBy_set (isBy_set hby i c h6) j d h7) (by rw [List.length_set, List.length_set]; omega) (by have := no_change2 hv h1 h2 h3 h4 h5 h6 h7 h8 []; rwa [List.append_nil] at this)
  have hR : 12 ≤ (rcd v).length ∧ (rcd v).length ≤ 60012 := by omega
  unfold partD
  generalize rcd v = R at *
  obtain ⟨i0, d1, hd1, hi0, e1⟩ := takeN hd (R.length - 8) (by omega) (by omega)
  obtain ⟨j0, d2, hd2, hj0, e2⟩ := takeN hd1 (R.length - 8) (by omega) (by omega)
  obtain ⟨t, d3, hd3, ht, e3⟩ := takeN hd2 255 (by omega) (by omega)
  obtain ⟨b1, hb1⟩ : ∃ b, R[8 + i0]? = some b := ⟨_, List.getElem?_eq_getElem (by omega)⟩
  obtain ⟨b2, hb2⟩ : ∃ b, R[8 + j0]? = some b := ⟨_, List.getElem?_eq_getElem (by omega)⟩
  have hb1' := hby b1 (List.mem_of_getElem? hb1)
  have hb2' := hby b2 (List.mem_of_getElem? hb2)
  have m := pMod_nat (b1 + 1 + t) 256 (kk := 256) rfl (by omega)
  simp only [Int.natCast_add, Int.natCast_one] at m
  have hc1 : (b1 + 1 + t) % 256 < 256 := Nat.mod_lt _ (by omega)
  have hc2 : (b1 + 1 + t) % 256 ≠ b1 := by omega
  have g0 : (R.length : Int) - 8 = ((R.length - 8 : Nat) : Int) := by omega
  have gi : 8 + (i0 : Int) = ((8 + i0 : Nat) : Int) := by omega
  have gj : 8 + (j0 : Int) = ((8 + j0 : Nat) : Int) := by omega
  have xi : ixD R.length ((8 + i0 : Nat) : Int) = some (8 + i0) := ixD_nat (by omega)
  have xj : ixD R.length ((8 + j0 : Nat) : Int) = some (8 + j0) := ixD_nat (by omega)
  have ai := dB_at hb1
  have aj := dB_at hb2
  have si := dB_set R (8 + i0) ((b1 + 1 + t) % 256)
  have l0 : (dB R).length = R.length := by rw [List.length_map]
  have pn := pair_nil
  have i8 : 8 ≤ 8 + i0 := by omega
  have j8 : 8 ≤ 8 + j0 := by omega
  have hlt : 8 + i0 < R.length := by omega
  generalize (b1 + 1 + t) % 256 = c at *
  generalize R.length - 8 = n8 at *
  have hij : (8 + j0 = 8 + i0) ↔ ((j0 : Int) = i0) := by omega
  generalize 8 + i0 = i at *
  generalize 8 + j0 = j at *
  by_cases h : j = i
  · subst h
    have r := n1 _ _ _ hb1 hc1 hc2
    refine ⟨d3, some (.int (j : Nat)), some (.int (j : Nat)), some (.lst (dB (R.set j c))), hd3, ?_⟩
    rw [← si] at r ⊢
    generalize dB R = z at *
    have l2 : (z.set j (.int c)).length = R.length := by rw [List.length_set, l0]
    generalize hz2 : z.set j (.int c) = z2 at *
    simp at e3
    simp [stR, bodyP, l0, g0, gi, gj, e1, e2, e3, m, xi, ai, hz2, r, pn]
  · have hnij : ¬ (j : Int) = i := by omega
    have hij' : i ≠ j := fun q => h q.symm
    have hb2s : (R.set i c)[j]? = some b2 := by rw [List.getElem?_set_ne hij']; exact hb2
    have aj2 := dB_at hb2s
    have ai2 : atD (dB (R.set i c)) (i : Int) = some (.int c) := dB_at (List.getElem?_set_self hlt)
    have xj2 : ixD (R.set i c).length (j : Int) = some j := by rw [List.length_set]; exact xj
    have l2 : (dB (R.set i c)).length = (R.set i c).length := by rw [List.length_map]
    obtain ⟨u, d4, hd4, hu, e4⟩ := takeN hd3 2 (by omega) (by omega)
    simp at e3 e4
    by_cases hu0 : u = 0
    · subst hu0
      have hk0 : 0 ≤ ((b2 : Int) + ((b1 : Int) - c)) % 256 := Int.emod_nonneg _ (by omega)
      obtain ⟨k, hk⟩ : ∃ k : Nat, ((b2 : Int) + ((b1 : Int) - c)) % 256 = k := ⟨_, (Int.toNat_of_nonneg hk0).symm⟩
      have hk2 : k < 256 := by omega
      have m2 : pMod (.int ((b2 : Int) + ((b1 : Int) - c))) (.int 256) = some (.int k) := by rw [pMod_int _ _ (by omega), hk]
      have r := n2 _ _ _ k _ _ hb1 hb2 i8 j8 hij' hc1 hk2 hc2
      have sj := dB_set (R.set i c) j k
      refine ⟨d4, some (.int (i : Nat)), some (.int (j : Nat)), some (.lst (dB ((R.set i c).set j k))), hd4, ?_⟩
      generalize dB ((R.set i c).set j k) = z3 at *
      generalize dB (R.set i c) = z2 at *
      generalize (R.set i c).length = n2' at *
      generalize dB R = z at *
      simp at e4
      simp [stR, bodyP, l0, l2, g0, gi, gj, e1, e2, e3, e4, m, m2, xi, xj, xj2, ai, aj, ai2, aj2, si, sj, hnij, r, pn]
    · obtain ⟨w, d5, hd5, hw, e5⟩ := takeN hd4 256 (by omega) (by omega)
      simp at e5
      have m2 := pMod_nat (b2 + w) 256 (kk := 256) rfl (by omega)
      simp only [Int.natCast_add] at m2
      have hk2 : (b2 + w) % 256 < 256 := Nat.mod_lt _ (by omega)
      generalize (b2 + w) % 256 = k at *
      have r := n2 _ _ _ k _ _ hb1 hb2 i8 j8 hij' hc1 hk2 hc2
      have sj := dB_set (R.set i c) j k
      refine ⟨d5, some (.int (i : Nat)), some (.int (j : Nat)), some (.lst (dB ((R.set i c).set j k))), hd5, ?_⟩
      generalize dB ((R.set i c).set j k) = z3 at *
      generalize dB (R.set i c) = z2 at *
      generalize (R.set i c).length = n2' at *
      generalize dB R = z at *
      simp [stR, bodyP, l0, l2, g0, gi, gj, e1, e2, e3, e4, e5, m, m2, xi, xj, xj2, ai, aj, ai2, aj2, si, sj, hnij, hu0, r, pn]
theorem p_loop (x p l e : D) (o3 o7 o8 o9 : Option D) : ∀ (vs : List D) (d : D) (o6 o11 o12 o13 : Option D), (∀ v ∈ vs, good v) → isDr d →
    ∃ d' q6 q11 q12 q13, isDr d' ∧ loop (gT [6] dNm) bodyP (vs.map partD) (stR d x p o3 l e o6 o7 o8 o9 o11 o12 o13) = .ok .nx (stR d' x p o3 l e q6 o7 o8 o9 q11 q12 q13)
  | [], d, o6, o11, o12, o13, _, hd => ⟨d, o6, o11, o12, o13, hd, rfl⟩
  | v :: vs, d, o6, o11, o12, o13, h, hd => by
    obtain ⟨d1, q11, q12, q13, hd1, e1⟩ := p_step (h v List.mem_cons_self) hd x p l e o3 o7 o8 o9 o11 o12 o13
    obtain ⟨d2, r6, r11, r12, r13, hd2, e2⟩ := p_loop x p l e o3 o7 o8 o9 vs d1 (some (partD v)) q11 q12 q13 (fun y hy => h y (List.mem_cons_of_mem _ hy)) hd1
    refine ⟨d2, r6, r11, r12, r13, hd2, ?_⟩
    rw [List.map_cons, loop_cons]
    show loopK _ _ _ (.ok () (stR d x p o3 l e (some (partD v)) o7 o8 o9 o11 o12 o13)) = _
    rw [loopK_ok, e1, loopK2_nx, e2]
def condA : ST := (sIf (uOr (uB (e2 pNe (eCall 1 f_log_of (lCons (eV 1) lNil)) (eV 4))) (uOr (uB (e2 pNe (eCall 1 f_log_of (lCons (eB pTuple (lCons (eV 1) lNil)) lNil)) (eV 4))) (uNot (uB (eCall 3 f__law_same (lCons (eCall 1 f_read_log (lCons (eV 4) lNil)) (lCons (eV 1) (lCons (eB pLen (lCons (eV 4) lNil)) lNil)))))))) (sRet (eC (.bl false))) sSkip)
def condB : ST := (sIf (uOr (uB (e2 pNe (eCall 1 f_read_log (lCons (e2 pAdd (eV 4) (e2 pMulL (eLst (lCons (eC (.int 0)) lNil)) (eC (.int 9)))) lNil)) (eTup (lCons (eV 1) (lCons (eB pLen (lCons (eV 4) lNil)) lNil))))) (uB (e2 pNe (eCall 1 f_read_log (lCons (eLst lNil) lNil)) (eTup (lCons (eLst lNil) (lCons (eC (.int 0)) lNil)))))) (sRet (eC (.bl false))) sSkip)
def partsS : ST := (sSet 2 (eLc (itAny (eV 1)) [3] (gT [3] dNm) uYes (eCall 1 f__law_record (lCons (eCall 1 f_value_bytes (lCons (eV 3) lNil)) lNil))))
theorem m_right_eq : m__law_log_right = sSeq partsS (sSeq (sPar [4, 5] (lCons (eLst lNil) (lCons (eLst lNil) lNil))) (sSeq (sFor (itZip (eV 2) (eV 1)) (gT [6, 3] (dTup [dNm, dNm])) bodyZ) (sSeq condA (sSeq (sFor (itR1 (eC (.int 8))) (gT [7] dNm) bodyK) (sSeq condB (sSeq (sFor (itAny (eV 2)) (gT [6] dNm) bodyP) (sRet (eC (.bl true))))))))) := rfl
theorem condA_ok {vs : List D} (h : ∀ v ∈ vs, good v) (hn : vs.length ≤ 16) (d p e : D) (o3 o6 o7 o8 o9 o11 o12 o13 : Option D) :
    condA (stR d (.lst vs) p o3 (.lst (dB (logB vs))) e o6 o7 o8 o9 o11 o12 o13) = .ok .nx (stR d (.lst vs) p o3 (.lst (dB (logB vs))) e o6 o7 o8 o9 o11 o12 o13) := by
  have hlen := logB_len h
  have hmul : vs.length * 60012 ≤ 16 * 60012 := Nat.mul_le_mul_right _ hn
  have q1 := log_of_eq (x := .lst vs) (.inl rfl) h hn
  have q2 := log_of_eq (x := .tup vs) (.inr rfl) h hn
  have q3 := read_is (x := .lst (dB (logB vs))) (rest := []) (.inl rfl) (logB_by h) (by omega) h hn (by simp) no_nil
  have q4 := same_ok h (logB vs).length
  have q5 := (dB_eq (logB vs)).2
  have l1 : (dB (logB vs)).length = (logB vs).length := by rw [List.length_map]
  generalize dB (logB vs) = z at *
  generalize (logB vs).length = n at *
  simp [stR, condA, q1, q2, q3, q4, q5, l1]
theorem rep9 : pMulL (.lst [.int 0]) (.int 9) = some (.lst (dB (List.replicate 9 0))) := rfl
theorem condB_ok {vs : List D} (h : ∀ v ∈ vs, good v) (hn : vs.length ≤ 16) (d p e : D) (o3 o6 o7 o8 o9 o11 o12 o13 : Option D) :
    condB (stR d (.lst vs) p o3 (.lst (dB (logB vs))) e o6 o7 o8 o9 o11 o12 o13) = .ok .nx (stR d (.lst vs) p o3 (.lst (dB (logB vs))) e o6 o7 o8 o9 o11 o12 o13) := by
  have hlen := logB_len h
  have hmul : vs.length * 60012 ≤ 16 * 60012 := Nat.mul_le_mul_right _ hn
  have hb : isBy (logB vs ++ List.replicate 9 0) := isBy_app (logB_by h) (by intro b hb; simp at hb; omega)
  have q1 := read_is (x := .lst (dB (logB vs ++ List.replicate 9 0))) (rest := List.replicate 9 0) (.inl rfl) hb (by rw [List.length_append, List.length_replicate]; omega) h hn rfl no_zero
  have q2 := none_read (R := []) (by intro b hb; cases hb) (by simp) no_nil
  rw [show dB [] = [] from rfl] at q2
  have q3 := pair_plain h (logB vs).length
  have q4 := pair_nil
  have q5 := rep9
  have l1 : (dB (logB vs)).length = (logB vs).length := by rw [List.length_map]
  have ea : dB (logB vs ++ List.replicate 9 0) = dB (logB vs) ++ dB (List.replicate 9 0) := by rw [dB, List.map_append]
  rw [ea] at q1
  have l2 : (dB (List.replicate 9 0)).length = 9 := rfl
  generalize dB (List.replicate 9 0) = w at *
  generalize dB (logB vs) = z at *
  generalize (logB vs).length = n at *
  have g1 : n + 9 ≤ line := line_ge (by omega)
  simp [stR, condB, q1, q2, q3, q4, q5, l1, l2, g1]
theorem log_right_eq {vs : List D} (h : ∀ v ∈ vs, good v) (hn : vs.length ≤ 16) {d : D} (hd : isDr d) : ∃ d', isDr d' ∧ f__law_log_right [d, .lst vs] = .ok (.bl true) [d', .lst vs] := by
  have e1 := parts_loop d (.lst vs) vs [] h (by simp; omega)
  rw [List.nil_append] at e1
  obtain ⟨a3, a6, e2⟩ := zip_loop d (.lst vs) (.lst (vs.map partD)) vs [] [] none none h (by simp; omega) (by simp; omega)
  rw [List.nil_append, List.nil_append, List.length_nil, show dB [] = [] from rfl] at e2
  have e3 := condA_ok h hn d (.lst (vs.map partD)) (.lst (dB (endsF 0 vs))) a3 a6 none none none none none none
  obtain ⟨d1, b3, b7, b8, b9, hd1, e4⟩ := k_loop h hn (.lst (vs.map partD)) a6 none none none 8 0 d a3 none none none hd
  have e5 := condB_ok h hn d1 (.lst (vs.map partD)) (.lst (dB (endsF 0 vs))) b3 a6 b7 b8 b9 none none none
  obtain ⟨d2, c6, c11, c12, c13, hd2, e6⟩ := p_loop (.lst vs) (.lst (vs.map partD)) (.lst (dB (logB vs))) (.lst (dB (endsF 0 vs))) b3 b7 b8 b9 vs d1 a6 none none none h hd1
  refine ⟨d2, hd2, ?_⟩
  have ez := zip_parts vs
  rw [← ez] at e2
  have lz : (vs.map partD).length = vs.length := List.length_map ..
  have t8 : (8 : Int).toNat = 8 := rfl
  have eP : partsS (st0 d (.lst vs)) = .ok .nx [some d, some (.lst vs), some (.lst (vs.map partD)), none, none, none, none, none, none, none, none, none, none, none] := by
    simp only [st0] at e1
    simp [partsS, st0, e1]
  unfold f__law_log_right
  rw [fnB_ap, m_right_eq]
  show fnK [0] [d, .lst vs] (sSeq partsS _ (st0 d (.lst vs))) = _
  rw [sSeq_ap, eP, sSeqK_nx]
  generalize vs.map partD = z at *
  generalize dB (logB vs) = z2 at *
  generalize dB (endsF 0 vs) = z3 at *
  simp only [stR] at e2 e3 e4 e5 e6
  simp [lz, e2, e3, e4, e5, e6, t8]
end K66

set_option linter.all false
set_option maxRecDepth 100000
set_option exponentiation.threshold 10000
/-! K66BB: the law of k66 holds, in plain Lean. -/
namespace K66
open PL HP
abbrev stM (sc d : D) (o3 o4 o6 o8 : Option D) : En := [some sc, some .non, some d, o3, o4, none, o6, none, o8]
theorem vals_draw (sc : D) (o3 o4 o6 o8 : Option D) : ∀ (n : Nat) (lo : Int) (d : D) (acc : List D), isDr d → (∀ v ∈ acc, good v) → acc.length + n ≤ 1000 →
    ∃ d' vs, isDr d' ∧ vs.length = acc.length + n ∧ (∀ v ∈ vs, good v) ∧
      lcGo [5] (gT [5] dNm) uYes (eCallIO (f__law_some_value 6) (.io 2 :: (.v (eC (.int 3)) :: []))) (rangeL lo n) acc (stM sc d o3 o4 o6 o8) = .ok vs (stM sc d' o3 o4 o6 o8)
  | 0, lo, d, acc, h, ha, hl => ⟨d, acc, h, rfl, ha, by simp [rangeL_zero, lcGo_nil]⟩
  | n + 1, lo, d, acc, h, ha, hl => by
    obtain ⟨v, d1, h1, hv, e1⟩ := some_value_eq 6 3 d (by omega) h
    simp at e1
    obtain ⟨d', vs, q1, q2, q3, q4⟩ := vals_draw sc o3 o4 o6 o8 n (lo + 1) d1 (acc ++ [v]) h1 (fun c hc => by
      rcases List.mem_append.mp hc with z | z
      · exact ha c z
      · simp at z; rw [z]; exact some_good hv) (by simp; omega)
    refine ⟨d', vs, q1, by simp at q2; omega, q3, ?_⟩
    have h3 : acc.length < line := by unfold line; omega
    rw [← q4, rangeL_succ, lcGo_cons]
    generalize f__law_some_value 6 = g at *
    simp [stM, e1, h3]
def isNum (v : D) : Prop := ∃ n : Nat, v = .int n ∧ n < 1000000
theorem nums_draw (sc : D) (o3 o4 o6 o8 : Option D) : ∀ (n : Nat) (lo : Int) (d : D) (acc : List D), isDr d → (∀ v ∈ acc, isNum v) → acc.length + n ≤ 1000 →
    ∃ d' vs, isDr d' ∧ vs.length = acc.length + n ∧ (∀ v ∈ vs, isNum v) ∧
      lcGo [5] (gT [5] dNm) uYes (eCallIO f__law_take (.io 2 :: (.v (e2 pPow (eC (.int 10)) (eC (.int 6))) :: []))) (rangeL lo n) acc (stM sc d o3 o4 o6 o8) = .ok vs (stM sc d' o3 o4 o6 o8)
  | 0, lo, d, acc, h, ha, hl => ⟨d, acc, h, rfl, ha, by simp [rangeL_zero, lcGo_nil]⟩
  | n + 1, lo, d, acc, h, ha, hl => by
    obtain ⟨v, d1, h1, hv, e1⟩ := takeN h 1000000 (by omega) (by omega)
    simp at e1
    obtain ⟨d', vs, q1, q2, q3, q4⟩ := nums_draw sc o3 o4 o6 o8 n (lo + 1) d1 (acc ++ [.int v]) h1 (fun c hc => by
      rcases List.mem_append.mp hc with z | z
      · exact ha c z
      · simp at z; rw [z]; exact ⟨v, rfl, hv⟩) (by simp; omega)
    refine ⟨d', vs, q1, by simp at q2; omega, q3, ?_⟩
    have h3 : acc.length < line := by unfold line; omega
    have p6 := p10_6
    rw [← q4, rangeL_succ, lcGo_cons]
    simp [stM, e1, h3, p6]
theorem big_good {xs : List D} {j : Nat} (hx : ∀ v ∈ xs, isNum v) (hl : xs.length ≤ 100) (hj : j ≤ 40) : good (.tup (List.replicate j xs).flatten) := by
  have hm : ∀ v ∈ (List.replicate j xs).flatten, isNum v := by
    intro v hv
    obtain ⟨l, h1, h2⟩ := List.mem_flatten.mp hv
    rw [(List.mem_replicate.mp h1).2] at h2
    exact hx v h2
  have hlen : (List.replicate j xs).flatten.length ≤ 4000 := by
    rw [List.length_flatten, List.map_replicate, List.sum_replicate_nat]
    exact Nat.le_trans (Nat.mul_le_mul hj hl) (by omega)
  generalize (List.replicate j xs).flatten = ys at *
  refine ⟨⟨hlen, fun v hv => ?_⟩, ?_⟩
  · obtain ⟨n, rfl, hn⟩ := hm v hv
    show 0 ≤ (n : Int) ∧ (n : Int) < 128 ^ 9
    omega
  · show (3 :: digs 8 ys.length ++ ys.flatMap (enc 7)).length ≤ 60000
    have h1 := digs_len 8 ys.length
    have h2 : (ys.flatMap (enc 7)).length ≤ ys.length * 10 := flat_len fun v hv => by
      obtain ⟨n, rfl, hn⟩ := hm v hv
      show (1 :: digs 8 (n : Int).toNat).length ≤ 10
      have := digs_len 8 (n : Int).toNat
      simp only [List.length_cons]; omega
    simp only [List.length_append, List.length_cons]
    omega
theorem mulT_ok {xs : List D} {j : Nat} (h0 : xs ≠ []) (h1 : xs.length ≤ 1000) (h2 : 1 ≤ j) (h3 : j ≤ 1000) : pMulT (.tup xs) (.int j) = some (.tup (List.replicate j xs).flatten) := by
  show (if xs ≠ [] ∧ 1 ≤ (j : Int) ∧ (j : Int) ≤ 1000 ∧ xs.length ≤ 1000 then some (D.tup (List.replicate (j : Int).toNat xs).flatten) else none) = _
  rw [if_pos ⟨h0, by omega, by omega, h1⟩, Int.toNat_natCast]
def drawS : ST := (sSet 4 (eLc (itR1 (eCallIO f__law_take (.io 2 :: (.v (eC (.int 6)) :: [])))) [5] (gT [5] dNm) uYes (eCallIO (f__law_some_value 6) (.io 2 :: (.v (eC (.int 3)) :: [])))))
def bigS : ST := (sIf (uB (e2 pEq (eCallIO f__law_take (.io 2 :: (.v (eC (.int 6)) :: []))) (eC (.int 0)))) (sApp 4 (e2 pMulT (eB pTuple (lCons (eLc (itR1 (eC (.int 100))) [5] (gT [5] dNm) uYes (eCallIO f__law_take (.io 2 :: (.v (e2 pPow (eC (.int 10)) (eC (.int 6))) :: [])))) lNil)) (eCallIO f__law_pick (.io 2 :: (.v (eLst (lCons (eC (.int 1)) (lCons (eC (.int 3)) (lCons (eC (.int 40)) lNil)))) :: []))))) sSkip)
def rightS : ST := (sIf (uNot (uB (eCallIO f__law_log_right (.io 2 :: (.v (eV 4) :: []))))) (sRet (eC (.bl false))) sSkip)
def turnB : ST := sSeq drawS (sSeq bigS rightS)
theorem draw_ok (sc : D) (o3 o4 o6 o8 : Option D) {d : D} (hd : isDr d) : ∃ d' vs, isDr d' ∧ vs.length ≤ 5 ∧ (∀ v ∈ vs, good v) ∧ drawS (stM sc d o3 o4 o6 o8) = .ok .nx (stM sc d' o3 (some (.lst vs)) o6 o8) := by
  obtain ⟨n, d1, h1, hn, e1⟩ := takeN hd 6 (by omega) (by omega)
  simp at e1
  obtain ⟨d2, vs, h2, hl, hg, e2⟩ := vals_draw sc o3 o4 o6 o8 n 0 d1 [] h1 (by simp) (by simp; omega)
  refine ⟨d2, vs, h2, by simp at hl; omega, hg, ?_⟩
  have hs : small62 (n : Int) = true := small62_of (by omega) (by omega)
  simp only [stM] at e2
  generalize hgg : eCallIO (f__law_some_value 6) (.io 2 :: (.v (eC (.int 3)) :: [])) = g at e2
  have e3 : drawS = sSet 4 (eLc (itR1 (eCallIO f__law_take (.io 2 :: (.v (eC (.int 6)) :: [])))) [5] (gT [5] dNm) uYes g) := by rw [← hgg]; rfl
  rw [e3]
  simp [stM, e1, hs, e2]
theorem big_ok (sc : D) (o3 o6 o8 : Option D) {d : D} (hd : isDr d) {vs : List D} (hl : vs.length ≤ 5) (hg : ∀ v ∈ vs, good v) : ∃ d' ws, isDr d' ∧ ws.length ≤ 6 ∧ (∀ v ∈ ws, good v) ∧ bigS (stM sc d o3 (some (.lst vs)) o6 o8) = .ok .nx (stM sc d' o3 (some (.lst ws)) o6 o8) := by
  obtain ⟨n, d1, h1, hn, e1⟩ := takeN hd 6 (by omega) (by omega)
  simp at e1
  by_cases h0 : n = 0
  · subst h0
    obtain ⟨d2, xs, h2, hl2, hx, e2⟩ := nums_draw sc o3 (some (.lst vs)) o6 o8 100 0 d1 [] h1 (by simp) (by simp)
    obtain ⟨x, hxm, d3, h3, e3⟩ := pick_ok h2 [.int 1, .int 3, .int 40] (by decide) (by decide)
    obtain ⟨j, rfl, hj1, hj2⟩ : ∃ j : Nat, x = .int j ∧ 1 ≤ j ∧ j ≤ 40 := by
      simp at hxm
      rcases hxm with h | h | h
      · exact ⟨1, h, by omega, by omega⟩
      · exact ⟨3, h, by omega, by omega⟩
      · exact ⟨40, h, by omega, by omega⟩
    have hl3 : xs.length = 100 := by simpa using hl2
    have m := mulT_ok (xs := xs) (j := j) (by intro h; rw [h] at hl3; simp at hl3) (by omega) hj1 (by omega)
    refine ⟨d3, vs ++ [.tup (List.replicate j xs).flatten], h3, by simp; omega, ?_, ?_⟩
    · intro v hv
      rcases List.mem_append.mp hv with z | z
      · exact hg v z
      · simp only [List.mem_singleton] at z; rw [z]; exact big_good hx (by omega) hj2
    · have h3 : vs.length < line := by unfold line; omega
      have t100 : (100 : Int).toNat = 100 := rfl
      generalize (List.replicate j xs).flatten = ys at *
      simp only [stM] at e2
      simp at e1 e3
      have p6 := p10_6
      generalize hgg : eCallIO f__law_take (.io 2 :: (.v (PL.e2 pPow (eC (.int 10)) (eC (.int 6))) :: [])) = g at e2
      have e4 : bigS = (sIf (uB (PL.e2 pEq (eCallIO f__law_take (.io 2 :: (.v (eC (.int 6)) :: []))) (eC (.int 0)))) (sApp 4 (PL.e2 pMulT (eB pTuple (lCons (eLc (itR1 (eC (.int 100))) [5] (gT [5] dNm) uYes g) lNil)) (eCallIO f__law_pick (.io 2 :: (.v (eLst (lCons (eC (.int 1)) (lCons (eC (.int 3)) (lCons (eC (.int 40)) lNil)))) :: []))))) sSkip) := by rw [← hgg]; rfl
      rw [e4]
      simp [stM, e1, t100, e2, e3, m, h3]
  · refine ⟨d1, vs, h1, by omega, hg, ?_⟩
    simp [stM, bigS, e1, h0]
theorem turn_step (sc : D) (o3 o4 o6 o8 : Option D) {d : D} (hd : isDr d) : ∃ d' o4', isDr d' ∧ turnB (stM sc d o3 o4 o6 o8) = .ok .nx (stM sc d' o3 o4' o6 o8) := by
  obtain ⟨d1, vs, h1, hl, hg, e1⟩ := draw_ok sc o3 o4 o6 o8 hd
  obtain ⟨d2, ws, h2, hl2, hg2, e2⟩ := big_ok sc o3 o6 o8 h1 hl hg
  obtain ⟨d3, h3, e3⟩ := log_right_eq hg2 (by omega) h2
  refine ⟨d3, some (.lst ws), h3, ?_⟩
  unfold turnB
  rw [sSeq_ap, e1, sSeqK_nx, sSeq_ap, e2, sSeqK_nx]
  simp [stM, rightS, e3]
theorem turn_loop (sc : D) (o6 o8 : Option D) : ∀ (xs : List D) (d : D) (o3 o4 : Option D), isDr d → ∃ d' o3' o4', isDr d' ∧ loop (gT [3] dNm) turnB xs (stM sc d o3 o4 o6 o8) = .ok .nx (stM sc d' o3' o4' o6 o8)
  | [], d, o3, o4, hd => ⟨d, o3, o4, hd, rfl⟩
  | x :: xs, d, o3, o4, hd => by
    obtain ⟨d1, q4, h1, e1⟩ := turn_step sc (some x) o4 o6 o8 hd
    obtain ⟨d2, r3, r4, h2, e2⟩ := turn_loop sc o6 o8 xs d1 (some x) q4 h1
    refine ⟨d2, r3, r4, h2, ?_⟩
    have eg : gT [3] dNm x (stM sc d o3 o4 o6 o8) = .ok () (stM sc d (some x) o4 o6 o8) := by simp [stM]
    rw [loop_cons, eg, loopK_ok, e1, loopK2_nx, e2]
/-! refusals -/
def isBadV : Res (List D) D → Bool
  | .ex c fs _ => c == "BadValue" && fs.isEmpty
  | _ => false
theorem isBadV_of {r : Res (List D) D} (h : isBadV r = true) : ∃ s, r = .ex "BadValue" [] s := by
  cases r with
  | ex c fs s =>
    unfold isBadV at h
    rw [Bool.and_eq_true] at h
    have h1 : c = "BadValue" := by simpa using h.1
    have h2 : fs = [] := by simpa using h.2
    exact ⟨s, by rw [h1, h2]⟩
  | _ => cases h
def isBadB : Res (List D) D → Bool
  | .ex c [(f, .non)] _ => c == "BadBytes" && f == "place"
  | _ => false
theorem isBadB_of {r : Res (List D) D} (h : isBadB r = true) : ∃ s, r = .ex "BadBytes" [("place", .non)] s := by
  unfold isBadB at h
  split at h
  · rename_i c f s
    rw [Bool.and_eq_true] at h
    have h1 : c = "BadBytes" := by simpa using h.1
    have h2 : f = "place" := by simpa using h.2
    exact ⟨s, by rw [h1, h2]⟩
  · cases h
abbrev items1 : List D := [.bl true, .int (-1), .lst [.int 0], .dic [], .str [65]]
abbrev items2 : List D := [.non, .int 5, .dic [], .str [118, 97, 108, 117, 101, 115]]
abbrev items3 : List D := [.non, .int 5, .str [98, 121, 116, 101, 115], .lst [.int 256], .lst [.int (-1)], .lst [.bl true], .lst [.non], .dic []]
theorem bad1 : (items1.all fun x => isBadV (f_record [x]) && isBadV (f_log_of [.lst [.int 0, x]])) = true := by decide +kernel
theorem bad2 : (items2.all fun x => isBadV (f_log_of [x])) = true := by decide +kernel
theorem bad3 : (items3.all fun x => isBadB (f_read_log [x])) = true := by decide +kernel
def lamA : ST := (sIf (uNot (uB (e1 (pIsC ["GroupError", "BadValue", "BadBytes"] ["BadValue"]) (eCaughtW ["GroupError", "BadValue", "BadBytes"] 1 7 (eCall 1 f_record (lCons (eV 6) lNil)))))) (sRet (eC (.bl false))) sSkip)
def lamB : ST := (sIf (uNot (uB (e1 (pIsC ["GroupError", "BadValue", "BadBytes"] ["BadValue"]) (eCaughtW ["GroupError", "BadValue", "BadBytes"] 1 7 (eCall 1 f_log_of (lCons (eLst (lCons (eC (.int 0)) (lCons (eV 6) lNil))) lNil)))))) (sRet (eC (.bl false))) sSkip)
theorem bad1_loop (sc d : D) (o3 o4 o8 : Option D) : ∀ (xs : List D) (o6 : Option D), (∀ x ∈ xs, (∃ s, f_record [x] = .ex "BadValue" [] s) ∧ ∃ s, f_log_of [.lst [.int 0, x]] = .ex "BadValue" [] s) → ∃ o6', loop (gT [6] dNm) (sForL 7 1 [lamA, lamB]) xs (stM sc d o3 o4 o6 o8) = .ok .nx (stM sc d o3 o4 o6' o8)
  | [], o6, _ => ⟨o6, rfl⟩
  | x :: xs, o6, h => by
    obtain ⟨⟨s, hs⟩, ⟨s2, hs2⟩⟩ := h x List.mem_cons_self
    obtain ⟨o6', e⟩ := bad1_loop sc d o3 o4 o8 xs (some x) fun y hy => h y (List.mem_cons_of_mem _ hy)
    refine ⟨o6', ?_⟩
    rw [← e, loop_cons]
    simp [stM, lamA, lamB, hs, hs2, pIsC]
theorem bad2_loop (sc d : D) (o3 o4 o7 o8 : Option D) : ∀ (xs acc : List D), (∀ x ∈ xs, ∃ s, f_log_of [x] = .ex "BadValue" [] s) → acc.length + xs.length ≤ 1000 → lcGo [6] (gT [6] dNm) uYes (e1 (pIsC ["GroupError", "BadValue", "BadBytes"] ["BadValue"]) (eCaughtL ["GroupError", "BadValue", "BadBytes"] 1 (eCall 1 f_log_of (lCons (eV 6) lNil)))) xs acc (stM sc d o3 o4 none o8) = .ok (acc ++ xs.map fun _ => .bl true) (stM sc d o3 o4 none o8) := fun xs acc h hl =>
  lcGo_map (P := fun x => ∃ s, f_log_of [x] = .ex "BadValue" [] s) (fun _ => .bl true) (fun x ⟨s, hs⟩ acc xs => by
    rw [lcGo_cons]
    simp [stM, hs, pIsC]) xs acc h (by unfold line; omega)
def badB3 : ST := (sSeq (sSet 8 (eCaughtL ["GroupError", "BadValue", "BadBytes"] 1 (eCall 1 f_read_log (lCons (eV 6) lNil)))) (sIf (uOr (uNot (uB (e1 (pIsC ["GroupError", "BadValue", "BadBytes"] ["BadBytes"]) (eV 8)))) (uB (e1 pNotN (e1 (pFldX "place" ["BadBytes"]) (eV 8))))) (sRet (eC (.bl false))) sSkip))
theorem bad3_loop (sc d : D) (o3 o4 : Option D) : ∀ (xs : List D) (o6 o8 : Option D), (∀ x ∈ xs, ∃ s, f_read_log [x] = .ex "BadBytes" [("place", .non)] s) → ∃ o6' o8', loop (gT [6] dNm) badB3 xs (stM sc d o3 o4 o6 o8) = .ok .nx (stM sc d o3 o4 o6' o8')
  | [], o6, o8, _ => ⟨o6, o8, rfl⟩
  | x :: xs, o6, o8, h => by
    obtain ⟨s, hs⟩ := h x List.mem_cons_self
    obtain ⟨o6', o8', e⟩ := bad3_loop sc d o3 o4 xs (some x) (some (.exn "BadBytes" [("place", .non)])) fun y hy => h y (List.mem_cons_of_mem _ hy)
    refine ⟨o6', o8', ?_⟩
    rw [← e, loop_cons]
    simp [stM, badB3, hs, pIsC, pFldX]
theorem min3 (n : Nat) : pMin2 [.int n, .int 3] = some (.int (min n 3 : Nat)) := by
  have e : (if (3 : Int) < n then (3 : Int) else n) = (min n 3 : Nat) := by split <;> omega
  show some (D.int (if (3 : Int) < n then (3 : Int) else n)) = _
  rw [e]
theorem neg1 : pNeg (.int 1) = some (.int (-1)) := rfl
def tailA : ST := (sFor (itAny (eLst (lCons (eC (.bl true)) (lCons (e1 pNeg (eC (.int 1))) (lCons (eLst (lCons (eC (.int 0)) lNil)) (lCons (eC (.dic [])) (lCons (eC (.str [65])) lNil))))))) (gT [6] dNm) (sForL 7 1 [lamA, lamB]))
def tailB : ST := (sIf (uOr (uB (e2 pNe (eCall 1 f_log_of (lCons (eLst lNil) lNil)) (eLst lNil))) (uNot (uB (eB pAll (lCons (eLc (itAny (eLst (lCons (eC .non) (lCons (eC (.int 5)) (lCons (eC (.dic [])) (lCons (eC (.str [118, 97, 108, 117, 101, 115])) lNil)))))) [6] (gT [6] dNm) uYes (e1 (pIsC ["GroupError", "BadValue", "BadBytes"] ["BadValue"]) (eCaughtL ["GroupError", "BadValue", "BadBytes"] 1 (eCall 1 f_log_of (lCons (eV 6) lNil))))) lNil))))) (sRet (eC (.bl false))) sSkip)
def tailC : ST := (sFor (itAny (eLst (lCons (eC .non) (lCons (eC (.int 5)) (lCons (eC (.str [98, 121, 116, 101, 115])) (lCons (eLst (lCons (eC (.int 256)) lNil)) (lCons (eLst (lCons (e1 pNeg (eC (.int 1))) lNil)) (lCons (eLst (lCons (eC (.bl true)) lNil)) (lCons (eLst (lCons (eC .non) lNil)) (lCons (eC (.dic [])) lNil)))))))))) (gT [6] dNm) badB3)
theorem m_law_eq : m_law = (sSeq (sBegun 2 0) (sSeq (sFor (itR1 (e2 pAdd (eC (.int 2)) (eB pMin2 (lCons (eLenScr 0) (lCons (eC (.int 3)) lNil))))) (gT [3] dNm) turnB) (sSeq tailA (sSeq tailB (sSeq tailC (sRet (eC (.bl true)))))))) := rfl
theorem log_nil : ∃ s, f_log_of [.lst []] = .ok (.lst []) s := ⟨_, log_of_eq (vs := []) (.inl rfl) (by simp) (by simp)⟩
theorem tailA_ok (sc d : D) (o3 o4 o6 o8 : Option D) : ∃ o6', tailA (stM sc d o3 o4 o6 o8) = .ok .nx (stM sc d o3 o4 o6' o8) := by
  obtain ⟨o6', e⟩ := bad1_loop sc d o3 o4 o8 items1 o6 fun x hx => by
    have := List.all_eq_true.mp bad1 x hx
    rw [Bool.and_eq_true] at this
    exact ⟨isBadV_of this.1, isBadV_of this.2⟩
  refine ⟨o6', ?_⟩
  have n1 := neg1
  generalize hf : sForL 7 1 [lamA, lamB] = f at *
  have et : tailA = (sFor (itAny (eLst (lCons (eC (.bl true)) (lCons (e1 pNeg (eC (.int 1))) (lCons (eLst (lCons (eC (.int 0)) lNil)) (lCons (eC (.dic [])) (lCons (eC (.str [65])) lNil))))))) (gT [6] dNm) f) := by rw [← hf]; rfl
  rw [et]
  simp only [stM, items1] at e
  simp [stM, n1, e]
theorem tailB_ok (sc d : D) (o3 o4 o6 o8 : Option D) : ∃ o6', tailB (stM sc d o3 o4 o6 o8) = .ok .nx (stM sc d o3 o4 o6' o8) := by
  have e := bad2_loop sc d o3 o4 none o8 items2 [] (fun x hx => isBadV_of (List.all_eq_true.mp bad2 x hx)) (by simp)
  obtain ⟨s, e2⟩ := log_nil
  have e3 : pNe (.lst []) (.lst []) = some (.bl false) := (goods_eq (vs := []) (by simp)).2
  have e4 := pAll_true items2
  refine ⟨o6, ?_⟩
  simp only [items2, List.map_cons, List.map_nil] at e4
  generalize hf : (e1 (pIsC ["GroupError", "BadValue", "BadBytes"] ["BadValue"]) (eCaughtL ["GroupError", "BadValue", "BadBytes"] 1 (eCall 1 f_log_of (lCons (eV 6) lNil)))) = f at *
  have et : tailB = (sIf (uOr (uB (PL.e2 pNe (eCall 1 f_log_of (lCons (eLst lNil) lNil)) (eLst lNil))) (uNot (uB (eB pAll (lCons (eLc (itAny (eLst (lCons (eC .non) (lCons (eC (.int 5)) (lCons (eC (.dic [])) (lCons (eC (.str [118, 97, 108, 117, 101, 115])) lNil)))))) [6] (gT [6] dNm) uYes f) lNil))))) (sRet (eC (.bl false))) sSkip) := by rw [← hf]; rfl
  rw [et]
  simp only [stM, items2, List.map_cons, List.map_nil, List.nil_append] at e
  simp [stM, e2, e3, e, e4]
theorem tailC_ok (sc d : D) (o3 o4 o6 o8 : Option D) : ∃ o6' o8', tailC (stM sc d o3 o4 o6 o8) = .ok .nx (stM sc d o3 o4 o6' o8') := by
  obtain ⟨o6', o8', e⟩ := bad3_loop sc d o3 o4 items3 o6 o8 fun x hx => isBadB_of (List.all_eq_true.mp bad3 x hx)
  refine ⟨o6', o8', ?_⟩
  have n1 := neg1
  generalize hf : badB3 = f at *
  have et : tailC = (sFor (itAny (eLst (lCons (eC .non) (lCons (eC (.int 5)) (lCons (eC (.str [98, 121, 116, 101, 115])) (lCons (eLst (lCons (eC (.int 256)) lNil)) (lCons (eLst (lCons (e1 pNeg (eC (.int 1))) lNil)) (lCons (eLst (lCons (eC (.bl true)) lNil)) (lCons (eLst (lCons (eC .non) lNil)) (lCons (eC (.dic [])) lNil)))))))))) (gT [6] dNm) f) := by rw [← hf]; rfl
  rw [et]
  simp only [stM, items3] at e
  simp [stM, n1, e]
theorem law_ok (ns : List Int) (hn : ns.length ≤ 63) : ∃ es, f_law [.lst (ns.map .int), .non] = .ok (.bl true) es := by
  have hd : isDr (.tup [.lst ((beLarge ns).map .int), .int 0, .lst ((beCells ns).map .int), .int 0]) := ⟨_, _, _, _, rfl⟩
  obtain ⟨d1, p3, p4, h1, e1⟩ := turn_loop (.lst (ns.map .int)) none none (rangeL 0 (2 + min ns.length 3)) _ none none hd
  obtain ⟨p6, e2⟩ := tailA_ok (.lst (ns.map .int)) d1 p3 p4 none none
  obtain ⟨q6, e3⟩ := tailB_ok (.lst (ns.map .int)) d1 p3 p4 p6 none
  obtain ⟨r6, r8, e4⟩ := tailC_ok (.lst (ns.map .int)) d1 p3 p4 q6 none
  have en : ns.length ≤ 1000000 := by omega
  have em := min3 ns.length
  have es : small62 (2 + ((min ns.length 3 : Nat) : Int)) = true := small62_of (by omega) (by omega)
  have et : (2 + ((min ns.length 3 : Nat) : Int)).toNat = 2 + min ns.length 3 := by omega
  simp only [stM] at e1 e2 e3 e4
  generalize min ns.length 3 = z5 at *
  simp [f_law, fnB_ap, m_law_eq, en, em, es, et, e1, e2, e3, e4]
end K66

open PySem PySem.W PyProof.Rows
theorem PySem.Challenge.cw_gatewords_k66_whole_logs_cut_at_any_byte_holds : PySem.Challenge.rw_gatewords_k66_whole_logs_cut_at_any_byte.Holds :=
  K66_holds fun ns h _ => K66.law_ok ns h
