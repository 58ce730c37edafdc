import PyProof.Rows.All
import Wide.All
import OpenK.AllK
import Wide.FinOn
import HandS.ForMost
import HandS.ForExc
import HandS.TupAny
import HandS.IsInst
import HandS.Deep
import PyProof.EqAt
import PyProof.EqKinds
import HandS.DictEq
import HandS.DeepEq
import PyProof.NeKinds
import PyProof.ListStr
import PyProof.TupleOfStr
import HandS.More
import HandS.Base
import HandS.Call
import HandS.List
import HandS.Dict
import HandS.Conv
import HandS.SortInts
import HandS.TupSets
import PyProof.ListNew
import HandS.Rev
import PyProof.WalkInts
import PyProof.WalksMore
import PyProof.StrBlock2
import HandS.Text
import PyProof.StrLawsTight
import PyProof.StrLawsChain
import PyProof.StrLawsLast
import PyProof.StrLawsIn
import HandS.StrMore
import HandS.Style
import HandS.Zip
import HandS.HotCalls
import HandS.ExcCtx
import HandS.TryOnly
import HandS.ExcIs
import HandS.Defaults
import HandS.HeadHook1
import HandS.Lambda
import HandS.Small
import HandS.ExcOwn
import KE.KStateDown
import Lean
import HandS.Words
import HandS.WordsExc
import HandS.Head0
import HandS.Head1
import HandS.Head2
import HandS.HeadEnd
import HandS.HeadHook2
import HandS.HeadHook3
import HandS.HeadHook4
import PySem.Challenge.RW_inkloom_k13_nodes_joined
set_option Elab.async false
set_option linter.all false
set_option maxRecDepth 100000
set_option maxHeartbeats 1000000
/-! V1: a small language of data with its runs (own work): values D, objects O, expressions E, statements S, and what they come to. -/
namespace VI

inductive D where
  | non | bl (b : Bool) | int (i : Int) | str (s : List Char) | tup (xs : List D) | lst (xs : List D) | ref (n : Nat) | exc (c : String) | scr (xs : List Int)
deriving Inhabited

abbrev Ky := Sum Int (List Char)

inductive O where
  | lst (xs : List D) | dct (kvs : List (Ky × D)) | dt (kvs : List (List Ky × D)) | ins (c : String) (fs : List (String × D)) | dead

abbrev Hs := List O
abbrev Env := List (Option D)

inductive R where
  | ok (d : D) (h : Hs) | exc (c : String) (h : Hs) | bad
inductive Rs where
  | ok (d : List D) (h : Hs) | exc (c : String) (h : Hs) | bad
inductive X where
  | nx (s : Env) (h : Hs) | rt (d : D) (h : Hs) | ex (c : String) (s : Env) (h : Hs) | bad

@[reducible] def SZ : Nat := 16777216

inductive Bop where
  | add | sub | mul | fdv | mod | pow
deriving DecidableEq
inductive Cop where
  | eq | ne | lt | le | gt | ge | isin | notin | is | isnot
deriving DecidableEq
inductive Blt where
  | len | all | int | min | max | sum | list | tuple | sorted | abs | str | repr | dict | bool
deriving DecidableEq
inductive Mth where
  | append | extend | pop | popat | insert | clear | count | index | join | split | find | find2 | replace | get1 | get2 | rfind3 | scount | dpop
deriving DecidableEq
/-- what isinstance asks for -/
inductive Cr where
  | int | bool | str | list | tuple | dict | ve | own (c : String) | cls (c : String)
deriving DecidableEq
inductive Tg where
  | nm (i : Nat) | tp (is : List Nat)
deriving DecidableEq

mutual
inductive E where
  | nop | non | bl (b : Bool) | int (i : Int) | str (s : List Char) | var (i : Nat) | glob (x : String)
  | tup (es : Es) | lst (hp : Bool) (es : Es) | dct (ks : List Ky) (vs : Es) | dtn | dck (a b : E)
  | bin (op : Bop) (hp : Bool) (a b : E) | neg (a : E)
  | cmp (op : Cop) (a b : E) | ch2 (o1 o2 : Cop) (a b c : E) | ch3 (o1 o2 o3 : Cop) (a b c d : E)
  | and (a b : E) | or (a b : E) | not (a : E) | ife (c a b : E)
  | idx (a b : E) | sli (hp : Bool) (a lo hi : E) | rvs (hp : Bool) (a : E)
  | fld (o : E) (f : String)
  | call (f : Nat) (dr : Bool) (args : Es)
  | meth (o : E) (m : String) (dr : Bool) (args : Es)
  | new (c : String) (args : Es)
  | blt (b : Blt) (hp : Bool) (args : Es)
  | mth (m : Mth) (hp : Bool) (o : E) (args : Es)
  | comp (hp : Bool) (elt : E) (tg : Tg) (src : Src) (cond : E)
  | inst (a : E) (c : Cr)
  | frz (a : E)
  | drop (a : E)
inductive Es where
  | nil | cons (e : E) (es : Es)
inductive Src where
  | seq (e : E) | lst (e : E) | rg1 (a : E) | rg2 (a b : E) | rg3 (a b c : E) | enum (e : E) | zip (a b : E) | rev (e : E)
end

mutual
inductive S where
  | asg (t : Tg) (e : E) | setf (o : E) (f : String) (e : E) | seti (o i e : E) | sets (o lo hi e : E) | par (i j : Nat) (a b : E)
  | exp (e : E) | ite (c : E) (a b : Ss) | loop (t : Tg) (src : Src) (body : Ss) | whl (c : E) (body : Ss)
  | ret (e : E) | retn | rai (c : String) | try (body : Ss) (hs : Hd) | pas | frz (i : Nat)
inductive Ss where
  | nil | cons (s : S) (ss : Ss)
inductive Hd where
  | nil | one (c : String) (slot : Option Nat) (suite : Ss) (rest : Hd)
end

/-- a def: how many parameters, how many slots, its body -/
structure Fn where
  np : Nat
  ns : Nat
  body : Ss

/-- the program: its defs by numbers, methods and makers by classes, fields, constants, who is under whom -/
structure Pr where
  tab : Nat → Option Fn
  mid : String → String → Option Nat
  ini : String → Option Nat
  fok : String → String → Bool
  con : String → Option D
  sub : String → String → Bool
  exs : String → Bool

/-! ### data -/
mutual
/-- no reference from n on -/
def D.blw (n : Nat) : D → Bool
  | .ref m => decide (m < n)
  | .tup xs => D.blws n xs
  | .lst xs => D.blws n xs
  | _ => true
def D.blws (n : Nat) : List D → Bool
  | [] => true
  | x :: xs => x.blw n && D.blws n xs
end
mutual
/-- pure data with lists out of the heap laid open, to a depth -/
def rsl (h : Hs) : Nat → D → Option D
  | 0, _ => none
  | k + 1, .ref n => match h[n]? with
    | some (.lst xs) => match rsls h k xs with
      | some ys => some (.lst ys)
      | none => none
    | _ => none
  | k + 1, .tup xs => match rsls h k xs with
    | some ys => some (.tup ys)
    | none => none
  | k + 1, .lst xs => match rsls h k xs with
    | some ys => some (.lst ys)
    | none => none
  | _ + 1, .exc _ => none
  | _ + 1, .scr _ => none
  | _ + 1, d => some d
def rsls (h : Hs) : Nat → List D → Option (List D)
  | _, [] => some []
  | k, x :: xs => match rsl h k x with
    | some y => match rsls h k xs with
      | some ys => some (y :: ys)
      | none => none
    | none => none
end
mutual
/-- == of pure data -/
def deq : D → D → Bool
  | .non, .non => true
  | .bl a, .bl b => a == b
  | .bl a, .int j => (if a then 1 else 0) == j
  | .int i, .bl b => i == (if b then 1 else 0)
  | .int i, .int j => i == j
  | .str x, .str y => x == y
  | .lst xs, .lst ys => deqs xs ys
  | .tup xs, .tup ys => deqs xs ys
  | _, _ => false
def deqs : List D → List D → Bool
  | [], [] => true
  | x :: xs, y :: ys => deq x y && deqs xs ys
  | _, _ => false
end
def seqOf (h : Hs) : D → Option (List D)
  | .lst xs => some xs
  | .ref n => match h[n]? with
    | some (.lst xs) => some xs
    | _ => none
  | _ => none
/-- a list or a tuple -/
def anyOf (h : Hs) : D → Option (List D)
  | .tup xs => some xs
  | d => seqOf h d
def mkL (hp : Bool) (xs : List D) (h : Hs) : R := if hp then .ok (.ref h.length) (h ++ [.lst xs]) else .ok (.lst xs) h
def ixOf (n : Nat) (i : Int) : Option Nat := if 0 ≤ i then (if i < n then some i.toNat else none) else if -(n : Int) ≤ i then some (i + n).toNat else none
def getI {α : Type} (xs : List α) (i : Int) : Option α := match ixOf xs.length i with
  | some j => xs[j]?
  | none => none
/-- a slice's end -/
def clip (n d : Nat) : Option Int → Nat
  | none => d
  | some v => if v < 0 then (v + n).toNat else min v.toNat n
def cut {α : Type} (xs : List α) (lo hi : Option Int) : List α := (xs.drop (clip xs.length 0 lo)).take (clip xs.length xs.length hi - clip xs.length 0 lo)
def ltInts : List Int → List Int → Bool
  | [], [] => false
  | [], _ :: _ => true
  | _ :: _, [] => false
  | x :: xs, y :: ys => if x = y then ltInts xs ys else decide (x < y)
def intsOf : List D → Option (List Int)
  | [] => some []
  | .int i :: r => match intsOf r with
    | some is => some (i :: is)
    | none => none
  | _ :: _ => none
def strsOf : List D → Option (List (List Char))
  | [] => some []
  | .str i :: r => match strsOf r with
    | some is => some (i :: is)
    | none => none
  | _ :: _ => none
def blsOf : List D → Option (List Bool)
  | [] => some []
  | .bl i :: r => match blsOf r with
    | some is => some (i :: is)
    | none => none
  | _ :: _ => none
def keyOf : D → Option Ky
  | .int i => some (.inl i)
  | .str s => some (.inr s)
  | _ => none
def isInt : D → Bool
  | .int _ => true
  | _ => false
def keysOf : List D → Option (List Ky)
  | [] => some []
  | d :: r => match keyOf d with
    | some k => match keysOf r with
      | some ks => some (k :: ks)
      | none => none
    | none => none
/-- a tuple as a key (a number is in it) -/
def keyT : D → Option (List Ky)
  | .tup xs => if xs.any isInt then keysOf xs else none
  | _ => none
def lookQ (k : List Ky) (kvs : List (List Ky × D)) : Option D := (kvs.find? fun p => decide (p.1 = k)).map (·.2)
def putQ (k : List Ky) (v : D) (kvs : List (List Ky × D)) : List (List Ky × D) := if (kvs.any fun p => decide (p.1 = k)) = true then kvs.map (fun p => if p.1 = k then (p.1, v) else p) else kvs ++ [(k, v)]
def kd : Ky → D
  | .inl i => .int i
  | .inr s => .str s
def lookK (k : Ky) (kvs : List (Ky × D)) : Option D := (kvs.find? fun p => decide (p.1 = k)).map (·.2)
def putK (k : Ky) (v : D) (kvs : List (Ky × D)) : List (Ky × D) := if (kvs.any fun p => decide (p.1 = k)) = true then kvs.map (fun p => if p.1 = k then (p.1, v) else p) else kvs ++ [(k, v)]
def dropKy (k : Ky) (kvs : List (Ky × D)) : List (Ky × D) := kvs.filter fun p => !decide (p.1 = k)
def putFd (f : String) (v : D) : List (String × D) → List (String × D)
  | [] => [(f, v)]
  | p :: r => if p.1 = f then (f, v) :: r else p :: putFd f v r

/-! ### operators -/
def mulOk (i j : Int) : Bool := (decide (-(2 ^ 64) < i) && decide (i < 2 ^ 64)) || (decide (-(2 ^ 64) < j) && decide (j < 2 ^ 64))
def addD (hp : Bool) (x y : D) (h : Hs) : R := match x, y with
  | .int i, .int j => .ok (.int (i + j)) h
  | .str a, .str b => if a.length + b.length ≤ SZ then .ok (.str (a ++ b)) h else .bad
  | .tup a, .tup b => if a.length + b.length ≤ SZ then .ok (.tup (a ++ b)) h else .bad
  | _, _ => match seqOf h x, seqOf h y with
    | some a, some b => if a.length + b.length ≤ SZ then mkL hp (a ++ b) h else .bad
    | _, _ => .bad
def binD (op : Bop) (hp : Bool) (x y : D) (h : Hs) : R := match op with
  | .add => addD hp x y h
  | .sub => match x, y with
    | .int i, .int j => .ok (.int (i - j)) h
    | _, _ => .bad
  | .mul => match x, y with
    | .int i, .int j => if mulOk i j then .ok (.int (i * j)) h else .bad
    | .str a, .int j => if decide (-(2 ^ 63) ≤ j) && decide (j < 2 ^ 63) && decide (a.length * j.toNat ≤ SZ) then .ok (.str (List.replicate j.toNat a).flatten) h else .bad
    | _, .int j => match seqOf h x with
      | some a => if decide (-(2 ^ 63) ≤ j) && decide (j < 2 ^ 63) && decide (a.length * j.toNat ≤ SZ) then mkL hp (List.replicate j.toNat a).flatten h else .bad
      | none => .bad
    | _, _ => .bad
  | .fdv => match x, y with
    | .int i, .int j => if decide (0 < j) && decide (j < 1073741824) then .ok (.int (i / j)) h else .bad
    | _, _ => .bad
  | .mod => match x, y with
    | .int i, .int j => if 0 < j then .ok (.int (i % j)) h else .bad
    | _, _ => .bad
  | .pow => match x, y with
    | .int i, .int j => if decide (0 ≤ j) && decide (j ≤ 1000000) && decide (i.natAbs < 2 ^ 64) then .ok (.int (i ^ j.toNat)) h else .bad
    | _, _ => .bad
@[reducible] def DP : Nat := 60
def eqD (x y : D) (h : Hs) : Option Bool := match rsl h DP x with
  | some a => match rsl h DP y with
    | some b => some (deq a b)
    | none => none
  | none => none
/-- a dict beside a text -/
def eqS (x y : D) (h : Hs) : Option Bool := match x, y with
  | .ref n, .str _ => match h[n]? with
    | some (.dct _) => some false
    | _ => none
  | _, _ => none
/-- plain items: alike or not -/
def dctAt (h : Hs) : D → Bool
  | .ref n => match h[n]? with
    | some (.dct _) => true
    | _ => false
  | _ => false
def isTx : D → Bool
  | .str _ => true
  | _ => false
def flatE : D → Bool
  | .non => true
  | .bl _ => true
  | .int _ => true
  | .str _ => true
  | _ => false
def refEq : D → D → Bool
  | .ref n, .ref m => decide (n = m)
  | _, _ => false
/-- a row: whether it is a tuple, its items -/
def rowOf (h : Hs) : D → Option (Bool × List D)
  | .tup xs => some (true, xs)
  | d => match seqOf h d with
    | some xs => some (false, xs)
    | none => none
def eqB (h : Hs) (x y : D) : Option Bool :=
  if flatE x && flatE y then some (deq x y) else if refEq x y then some true else if (rowOf h x).isSome && flatE y then some false else if (rowOf h y).isSome && flatE x then some false else
    if dctAt h x && isTx y then some false else if dctAt h y && isTx x then some false else none
def zipE (f : D → D → Option Bool) : List D → List D → Option (List Bool)
  | [], _ => some []
  | _ :: _, [] => some []
  | x :: xs, y :: ys => match f x y with
    | some b => match zipE f xs ys with
      | some bs => some (b :: bs)
      | none => none
    | none => none
def eqR (h : Hs) (f : D → D → Option Bool) (x y : D) : Option Bool := match rowOf h x with
  | some (k, xs) => match rowOf h y with
    | some (l, ys) => if k = l then (match zipE f xs ys with
      | some bs => some (bs.all id && decide (xs.length = ys.length))
      | none => none) else some false
    | none => none
  | none => none
def eqG (h : Hs) : Nat → D → D → Option Bool
  | 0 => eqB h
  | n + 1 => fun x y => match eqB h x y with
    | some b => some b
    | none => eqR h (eqG h n) x y
/-- == of rows whose items may be dicts -/
def eqM (x y : D) (h : Hs) : Option Bool := eqR h (eqG h 8) x y
def anyE (f : D → Option Bool) : List D → Option (List Bool)
  | [] => some []
  | y :: ys => match f y with
    | some b => match anyE f ys with
      | some bs => some (b :: bs)
      | none => none
    | none => none
/-- in a row whose items may be whatever -/
def inM (x y : D) (h : Hs) : Option Bool := match rowOf h y with
  | some (_, ys) => match anyE (fun z => eqG h 8 z x) ys with
    | some bs => some (bs.any id)
    | none => none
  | none => none
def orS (a b : Option Bool) : Option Bool := match a with
  | some k => some k
  | none => b
def ltD (x y : D) : Option Bool := match x, y with
  | .int i, .int j => some (decide (i < j))
  | .str a, .str b => some (decide (a.map Char.toNat < b.map Char.toNat))
  | .tup a, .tup b => match intsOf a with
    | some is => match intsOf b with
      | some js => some (ltInts is js)
      | none => none
    | none => none
  | _, _ => none
def gtD (x y : D) : Option Bool := match x, y with
  | .int i, .int j => some (decide (j < i))
  | .str a, .str b => some (decide (b.map Char.toNat < a.map Char.toNat))
  | _, _ => none
def geD (x y : D) : Option Bool := match x, y with
  | .int i, .int j => some (decide (j ≤ i))
  | .str a, .str b => some (!decide (a.map Char.toNat < b.map Char.toNat))
  | _, _ => none
def leD (x y : D) : Option Bool := match x, y with
  | .int i, .int j => some (decide (i ≤ j))
  | .str a, .str b => some (!decide (b.map Char.toNat < a.map Char.toNat))
  | _, _ => none
def anyEq (x : D) : List D → Bool
  | [] => false
  | y :: ys => deq y x || anyEq x ys
def flatD : D → Bool
  | .non => true
  | .bl _ => true
  | .int _ => true
  | .str _ => true
  | _ => false
def inL (x y : D) (h : Hs) : Option Bool := match rsl h DP x with
  | some a => match rsl h DP y with
    | some (.lst ys) => some (anyEq a ys)
    | _ => none
  | none => none
def inD (x y : D) (h : Hs) : Option Bool := match y with
  | .str b => match x with
    | .str [c] => some (decide (c ∈ b))
    | _ => none
  | .tup ys => if flatD x && ys.all flatD then some (anyEq x ys) else none
  | .ref n => match h[n]? with
    | some (.dct kvs) => match keyOf x with
      | some k => some (lookK k kvs).isSome
      | none => none
    | some (.dt kvs) => match keyT x with
      | some k => some (lookQ k kvs).isSome
      | none => none
    | _ => inL x (.ref n) h
  | y => inL x y h
def isD (x y : D) : Option Bool := match x, y with
  | .non, .non => some true
  | _, .non => some false
  | .bl a, .bl b => some (decide (a = b))
  | _, _ => none
def cmpD (op : Cop) (x y : D) (h : Hs) : Option Bool := match op with
  | .eq => orS (orS (eqD x y h) (eqS x y h)) (eqM x y h)
  | .ne => (orS (orS (eqD x y h) (eqS x y h)) (eqM x y h)).map not
  | .lt => ltD x y
  | .gt => gtD x y
  | .le => leD x y
  | .ge => geD x y
  | .isin => orS (inD x y h) (inM x y h)
  | .notin => (orS (inD x y h) (inM x y h)).map not
  | .is => isD x y
  | .isnot => (isD x y).map not
def idxD (x y : D) (h : Hs) : R := match x, y with
  | .str a, .int i => match getI a i with
    | some c => if a.length ≤ SZ then .ok (.str [c]) h else .bad
    | none => .bad
  | .tup a, .int i => match getI a i with
    | some d => .ok d h
    | none => .bad
  | .lst a, .int i => match getI a i with
    | some d => .ok d h
    | none => .bad
  | .scr a, .int i => match getI a i with
    | some d => .ok (.int d) h
    | none => .bad
  | .ref n, k => match h[n]? with
    | some (.lst a) => match k with
      | .int i => match getI a i with
        | some d => .ok d h
        | none => .bad
      | _ => .bad
    | some (.dct kvs) => match keyOf k with
      | some q => match lookK q kvs with
        | some d => .ok d h
        | none => .bad
      | none => .bad
    | some (.dt kvs) => match keyT k with
      | some q => match lookQ q kvs with
        | some d => .ok d h
        | none => .bad
      | none => .bad
    | _ => .bad
  | _, _ => .bad
def sliD (hp : Bool) (x : D) (lo hi : Option Int) (h : Hs) : R := match x with
  | .str a => if a.length ≤ SZ then .ok (.str (cut a lo hi)) h else .bad
  | .tup a => .ok (.tup (cut a lo hi)) h
  | .scr a => mkL hp (cut (a.map .int) lo hi) h
  | d => match seqOf h d with
    | some a => mkL hp (cut a lo hi) h
    | none => .bad
def minI : Int → List Int → Int
  | m, [] => m
  | m, x :: r => minI (if x < m then x else m) r
def maxI : Int → List Int → Int
  | m, [] => m
  | m, x :: r => maxI (if x > m then x else m) r
/-- a text's signs -/
def sigL (x : List Char) : List D := x.map fun c => .str [c]
def lstOf (h : Hs) (d : D) : Option (List D) := match d with
  | .str x => if x.length ≤ SZ then some (sigL x) else none
  | .ref n => match h[n]? with
    | some (.lst xs) => some xs
    | some (.dct kvs) => some (kvs.map fun p => kd p.1)
    | _ => none
  | d => anyOf h d
/-- rows of whole numbers, one behind the other -/
def rowI : D → Option (List Int)
  | .tup xs => intsOf xs
  | _ => none
def rowsI : List D → Option (List (List Int))
  | [] => some []
  | d :: r => match rowI d with
    | some i => match rowsI r with
      | some is => some (i :: is)
      | none => none
    | none => none
def leI (a b : List Int) : Bool := !ltInts b a
def rowD (i : List Int) : D := .tup (i.map .int)
def rowsOk (is : List (List Int)) : Bool := decide (is.length < 64) && is.all fun i => decide (0 < i.length) && decide (i.length = (is.headD []).length) && i.all fun k => decide (0 ≤ k)
def sortD (xs : List D) : Option (List D) := match intsOf xs with
  | some is => some ((is.mergeSort fun a b => decide (a ≤ b)).map .int)
  | none => match rowsI xs with
    | some is => if rowsOk is then some ((is.mergeSort leI).map rowD) else none
    | none => none
def tupOf (h : Hs) (d : D) : Option (List D) := match d with
  | .str x => if x.length ≤ SZ then some (sigL x) else none
  | d => seqOf h d
def bltD (b : Blt) (hp : Bool) (ds : List D) (h : Hs) : R := match b, ds with
  | .len, [.str a] => if a.length ≤ SZ then .ok (.int a.length) h else .bad
  | .len, [.scr a] => .ok (.int a.length) h
  | .len, [d] => match anyOf h d with
    | some xs => .ok (.int xs.length) h
    | none => .bad
  | .all, [d] => match seqOf h d with
    | some xs => match blsOf xs with
      | some bs => .ok (.bl (bs.all id)) h
      | none => .bad
    | none => .bad
  | .int, [.int i] => .ok (.int i) h
  | .int, [.bl k] => .ok (.int (if k then 1 else 0)) h
  | .min, [.int i, .int j] => .ok (.int (if j < i then j else i)) h
  | .max, [.int i, .int j] => .ok (.int (if j > i then j else i)) h
  | .min, [d] => match anyOf h d with
    | some xs => match intsOf xs with
      | some (i :: r) => .ok (.int (minI i r)) h
      | _ => .bad
    | none => .bad
  | .max, [d] => match anyOf h d with
    | some xs => match intsOf xs with
      | some (i :: r) => .ok (.int (maxI i r)) h
      | _ => .bad
    | none => .bad
  | .sum, [d] => match seqOf h d with
    | some xs => match intsOf xs with
      | some is => .ok (.int is.sum) h
      | none => .bad
    | none => .bad
  | .list, [d] => match lstOf h d with
    | some xs => mkL hp xs h
    | none => .bad
  | .tuple, [.tup xs] => .ok (.tup xs) h
  | .tuple, [d] => match tupOf h d with
    | some xs => .ok (.tup xs) h
    | none => .bad
  | .abs, [.int i] => .ok (.int (if i < 0 then -i else i)) h
  | .sorted, [d] => match seqOf h d with
    | some xs => match sortD xs with
      | some ys => mkL hp ys h
      | none => .bad
    | none => .bad
  | _, _ => .bad
def splitS (c : Char) : List Char → List (List Char)
  | [] => [[]]
  | x :: r => if x = c then [] :: splitS c r else match splitS c r with
    | [] => [[x]]
    | w :: ws => (x :: w) :: ws
def joinS (y : List Char) : List (List Char) → List Char
  | [] => []
  | [w] => w
  | w :: v :: r => w ++ y ++ joinS y (v :: r)
/-- the last place of a sign -/
def rfd (c : Char) : List Char → Option Nat
  | [] => none
  | x :: r => match rfd c r with
    | some k => some (k + 1)
    | none => if x = c then some 0 else none
/-- the first place of a sign from one on -/
def fnd (c : Char) : Nat → List Char → Option Nat
  | _, [] => none
  | i, x :: r => if x = c then some i else fnd c (i + 1) r
/-- whose method it is: 0 a list's, 1 a text's, 2 a dict's -/
def mthK : Mth → Nat
  | .append => 0 | .extend => 0 | .pop => 0 | .popat => 0 | .insert => 0 | .clear => 0 | .count => 0 | .index => 0
  | .get1 => 2 | .get2 => 2 | .dpop => 2
  | _ => 1
def mtyD (m : Mth) (d : D) (h : Hs) : Bool := match mthK m with
  | 0 => (seqOf h d).isSome
  | 1 => match d with
    | .str _ => true
    | _ => false
  | _ => match d with
    | .ref n => match h[n]? with
      | some (.dct _) => true
      | some (.dt _) => true
      | _ => false
    | _ => false
/-- where the first of these stands -/
def fstEq (d : D) : List D → Option Nat
  | [] => none
  | x :: r => if deq x d = true then some 0 else (fstEq d r).map (· + 1)
def mthD (m : Mth) (hp : Bool) (o : D) (ds : List D) (h : Hs) : R := match m, o, ds with
  | .append, .ref n, [d] => match h[n]? with
    | some (.lst xs) => if xs.length < SZ then .ok .non (h.set n (.lst (xs ++ [d]))) else .bad
    | _ => .bad
  | .extend, .ref n, [d] => match h[n]? with
    | some (.lst xs) => match seqOf h d with
      | some ys => if xs.length + ys.length ≤ SZ then .ok .non (h.set n (.lst (xs ++ ys))) else .bad
      | none => .bad
    | _ => .bad
  | .pop, .ref n, [] => match h[n]? with
    | some (.lst xs) => match xs[xs.length - 1]? with
      | some d => .ok d (h.set n (.lst xs.dropLast))
      | none => .bad
    | _ => .bad
  | .popat, .ref n, [.int i] => match h[n]? with
    | some (.lst xs) => match ixOf xs.length i with
      | some k => match xs[k]? with
        | some d => if xs.length ≤ SZ then .ok d (h.set n (.lst (xs.eraseIdx k))) else .bad
        | none => .bad
      | none => .bad
    | _ => .bad
  | .clear, .ref n, [] => match h[n]? with
    | some (.lst _) => .ok .non (h.set n (.lst []))
    | _ => .bad
  | .insert, .ref n, [.int i, d] => match h[n]? with
    | some (.lst xs) => if decide (i = 0) && decide (xs.length < SZ) then .ok .non (h.set n (.lst (d :: xs))) else .bad
    | _ => .bad
  | .join, .str y, [d] => match seqOf h d with
    | some xs => match strsOf xs with
      | some ws => if (ws.map List.length).sum + ws.length * y.length ≤ SZ then .ok (.str (joinS y ws)) h else .bad
      | none => .bad
    | none => .bad
  | .scount, .str x, [.str [c]] => .ok (.int (x.count c)) h
  | .index, o, [d] => match seqOf h o with
    | some xs => if flatD d && xs.all flatD then (match fstEq d xs with | some j => .ok (.int (j : Nat)) h | none => .bad) else .bad
    | none => .bad
  | .count, o, [d] => match seqOf h o with
    | some xs => if flatD d && xs.all flatD then .ok (.int ((xs.countP fun x => deq x d : Nat))) h else .bad
    | none => .bad
  | .dpop, .ref n, [k] => match h[n]? with
    | some (.dct kvs) => match keyOf k with
      | some q => match lookK q kvs with
        | some d => .ok d (h.set n (.dct (dropKy q kvs)))
        | none => .bad
      | none => .bad
    | _ => .bad
  | .get2, .ref n, [k, d] => match h[n]? with
    | some (.dct kvs) => match keyOf k with
      | some q => .ok ((lookK q kvs).getD d) h
      | none => .bad
    | some (.dt kvs) => match keyT k with
      | some q => .ok ((lookQ q kvs).getD d) h
      | none => .bad
    | _ => .bad
  | .split, .str x, [.str [c]] => if x.length + 2 ≤ SZ then mkL hp ((splitS c x).map .str) h else .bad
  | .find2, .str x, [.str [c], .int i] => if decide (0 ≤ i) && decide (i ≤ x.length) then .ok (.int (match fnd c i.toNat (x.drop i.toNat) with | some k => ((k : Nat) : Int) | none => -1)) h else .bad
  | .rfind3, .str x, [.str [c], .int i, .int j] => if decide (i = 0) && (decide (0 ≤ j) && decide (j ≤ x.length)) then .ok (.int (match rfd c (x.take j.toNat) with | some k => ((k : Nat) : Int) | none => -1)) h else .bad
  | _, _, _ => .bad
def crB : Cr → Option String
  | .int => some "int"
  | .bool => some "bool"
  | .str => some "str"
  | .list => some "list"
  | .tuple => some "tuple"
  | .dict => some "dict"
  | _ => none
/-- a value's built-in type -/
def tyD (d : D) (h : Hs) : Option String := match d with
  | .non => some "NoneType"
  | .bl _ => some "bool"
  | .int _ => some "int"
  | .str _ => some "str"
  | .tup _ => some "tuple"
  | .lst _ => some "list"
  | .ref n => match h[n]? with
    | some (.lst _) => some "list"
    | some (.dct _) => some "dict"
    | some (.dt _) => some "dict"
    | _ => none
  | _ => none
/-- an instance of that very class -/
def isC (d : D) (c : String) (h : Hs) : Option Bool := match d with
  | .ref n => match h[n]? with
    | some (.ins k _) => if k = c then some true else none
    | _ => none
  | _ => none
def instD (sub : String → String → Bool) (d : D) (c : Cr) (h : Hs) : Option Bool := match crB c with
  | some b => match tyD d h with
    | some t => some (t == b || (t == "bool" && b == "int"))
    | none => none
  | none => match c with
    | .ve => match d with
      | .exc k => some (sub k "ValueError")
      | _ => none
    | .own c' => match d with
      | .exc k => some (sub k c')
      | _ => none
    | .cls c' => isC d c' h
    | _ => none

/-! ### runs of expressions -/
def R.bnd (r : R) (k : D → Hs → R) : R := match r with
  | .ok d h => k d h
  | .exc c h => .exc c h
  | .bad => .bad
def R.bns (r : R) (k : D → Hs → Rs) : Rs := match r with
  | .ok d h => k d h
  | .exc c h => .exc c h
  | .bad => .bad
def Rs.bns (r : Rs) (k : List D → Hs → Rs) : Rs := match r with
  | .ok d h => k d h
  | .exc c h => .exc c h
  | .bad => .bad
def Rs.bnd (r : Rs) (k : List D → Hs → R) : R := match r with
  | .ok d h => k d h
  | .exc c h => .exc c h
  | .bad => .bad
/-- by a truth -/
def R.tst (r : R) (a b : Hs → R) : R := match r with
  | .ok (.bl true) h => a h
  | .ok (.bl false) h => b h
  | .ok _ _ => .bad
  | .exc c h => .exc c h
  | .bad => .bad
def R.bx (r : R) (s : Env) (k : D → Hs → X) : X := match r with
  | .ok d h => k d h
  | .exc c h => .ex c s h
  | .bad => .bad
def R.tsx (r : R) (s : Env) (a b : Hs → X) : X := match r with
  | .ok (.bl true) h => a h
  | .ok (.bl false) h => b h
  | .ok _ _ => .bad
  | .exc c h => .ex c s h
  | .bad => .bad
def X.sq (r : X) (k : Env → Hs → X) : X := match r with
  | .nx s h => k s h
  | .rt d h => .rt d h
  | .ex c s h => .ex c s h
  | .bad => .bad
/-- the heap behind a call that leaves nothing -/
noncomputable def dropH (h : Hs) (r : R) : R := open Classical in match r with
  | .ok d h' => if h'.take h.length = h ∧ d.blw h.length = true then .ok d h else .bad
  | .exc c h' => if h'.take h.length = h then .exc c h else .bad
  | .bad => .bad
def putT (t : Tg) (d : D) (s : Env) (h : Hs) : Option Env := match t with
  | .nm i => if i < s.length then some (s.set i (some d)) else none
  | .tp is => match anyOf h d with
    | some xs => if xs.length = is.length ∧ (∀ i ∈ is, i < s.length) then some ((is.zip xs).foldl (fun s p => s.set p.1 (some p.2)) s) else none
    | none => none
/-- the lists that are walked stand as they are -/
abbrev Lks := List (Nat × List D)
def lkOk (l : Lks) (h : Hs) : Prop := ∀ p ∈ l, h[p.1]? = some (.lst p.2)
def lkOf : D → List D → Lks
  | .ref n, xs => [(n, xs)]
  | _, _ => []
/-- a comprehension's turns: what came so far is acc -/
noncomputable def compL (elt : Env → Hs → R) (cond : Env → Hs → R) (t : Tg) (s : Env) (l : Lks) : List D → List D → Hs → Rs
  | [], acc, h => open Classical in if lkOk l h then .ok acc h else .bad
  | x :: xs, acc, h => open Classical in if lkOk l h then match putT t x s h with
    | some s1 => match cond s1 h with
      | .ok (.bl true) h1 => match elt s1 h1 with
        | .ok d h2 => if acc.length < SZ then compL elt cond t s l xs (acc ++ [d]) h2 else .bad
        | _ => .bad
      | .ok (.bl false) h1 => compL elt cond t s l xs acc h1
      | _ => .bad
    | none => .bad
    else .bad
def rgOk (i j : Int) : Bool := decide (-(2 ^ 62) ≤ i) && decide (i < 2 ^ 62) && decide (-(2 ^ 62) ≤ j) && decide (j < 2 ^ 62)
def rgL (i : Int) (n : Nat) : List D := (List.range n).map fun k => .int (i + (k : Nat))
def enumL (i : Nat) : List D → List D
  | [] => []
  | x :: r => .tup [.int i, x] :: enumL (i + 1) r
def zipL : List D → List D → List D
  | x :: xs, y :: ys => .tup [x, y] :: zipL xs ys
  | _, _ => []
inductive Rl where
  | ok (xs : List D) (l : Lks) (h : Hs) | exc (c : String) (h : Hs) | bad
def R.bnl (r : R) (k : D → Hs → Rl) : Rl := match r with
  | .ok d h => k d h
  | .exc c h => .exc c h
  | .bad => .bad
def Rl.bnd (r : Rl) (k : List D → Lks → Hs → R) : R := match r with
  | .ok d l h => k d l h
  | .exc c h => .exc c h
  | .bad => .bad
def Rl.bx (r : Rl) (s : Env) (k : List D → Lks → Hs → X) : X := match r with
  | .ok d l h => k d l h
  | .exc c h => .ex c s h
  | .bad => .bad
def isNop : E → Bool
  | .nop => true
  | _ => false
def optI (b : Bool) (d : D) : Option (Option Int) := if b then some none else match d with
  | .int i => some (some i)
  | _ => none
def okB (o : Option Bool) (h : Hs) : R := match o with
  | some k => .ok (.bl k) h
  | none => .bad
def negD (d : D) (h : Hs) : R := match d with
  | .int i => .ok (.int (-i)) h
  | _ => .bad
def notD (d : D) (h : Hs) : R := match d with
  | .bl k => .ok (.bl (!k)) h
  | _ => .bad
/-- a display of one pair whose key is computed -/
def dckD (ds : List D) (h : Hs) : R := match ds with
  | [k, v] => match keyOf k with
    | some q => .ok (.ref h.length) (h ++ [.dct [(q, v)]])
    | none => .bad
  | _ => .bad
def rvsD (hp : Bool) (d : D) (h : Hs) : R := match seqOf h d with
  | some xs => mkL hp xs.reverse h
  | none => .bad
/-- the instance at a reference -/
def insOf (d : D) (h : Hs) : Option (Nat × String × List (String × D)) := match d with
  | .ref n => match h[n]? with
    | some (.ins c fs) => some (n, c, fs)
    | _ => none
  | _ => none
def fldD (fok : String → String → Bool) (f : String) (d : D) (h : Hs) : R := match insOf d h with
  | some (_, c, fs) => if fok c f then match fs.lookup f with
      | some v => .ok v h
      | none => .bad
    else .bad
  | none => .bad
def frzD (d : D) (h : Hs) : R := match d with
  | .ref n => match h[n]? with
    | some (.lst xs) => .ok (.lst xs) (h.set n .dead)
    | _ => .bad
  | .tup [.ref n, .ref m] => match h[n]? with
    | some (.lst xs) => match (h.set n .dead)[m]? with
      | some (.lst ys) => .ok (.tup [.lst xs, .lst ys]) ((h.set n .dead).set m .dead)
      | _ => .bad
    | _ => .bad
  | _ => .bad
noncomputable def drp (dr : Bool) (h : Hs) (r : R) : R := if dr then dropH h r else r
def newD (n : Nat) (d : D) (h : Hs) : R := match d with
  | .non => .ok (.ref n) h
  | _ => .bad
def strL (x : List Char) : List D := x.map fun c => .str [c]
def seqR (d : D) (h : Hs) : Rl := match d with
  | .str x => .ok (strL x) [] h
  | d => match anyOf h d with
    | some xs => .ok xs (lkOf d xs) h
    | none => .bad
def lstR (d : D) (h : Hs) : Rl := match seqOf h d with
  | some xs => .ok xs (lkOf d xs) h
  | none => .bad
def rg1R (d : D) (h : Hs) : Rl := match d with
  | .int j => if rgOk 0 j then .ok (rgL 0 j.toNat) [] h else .bad
  | _ => .bad
def rg2R (d e : D) (h : Hs) : Rl := match d, e with
  | .int i, .int j => if rgOk i j then .ok (rgL i (j - i).toNat) [] h else .bad
  | _, _ => .bad
def enumR (d : D) (h : Hs) : Rl := match seqOf h d with
  | some xs => .ok (enumL 0 xs) (lkOf d xs) h
  | none => .bad
def zipR (x y : D) (h : Hs) : Rl := match seqOf h x with
  | some xs => match seqOf h y with
    | some ys => .ok (zipL xs ys) (lkOf x xs ++ lkOf y ys) h
    | none => .bad
  | none => .bad
def revR (d : D) (h : Hs) : Rl := match seqOf h d with
  | some xs => .ok xs.reverse (lkOf d xs) h
  | none => .bad

mutual
noncomputable def ev (P : Pr) (F : Nat → List D → Hs → R) : E → Env → Hs → R
  | .nop, _, h => .ok .non h
  | .non, _, h => .ok .non h
  | .bl b, _, h => .ok (.bl b) h
  | .int i, _, h => .ok (.int i) h
  | .str x, _, h => .ok (.str x) h
  | .var i, s, h => match s[i]? with
    | some (some d) => .ok d h
    | _ => .bad
  | .glob x, _, h => match P.con x with
    | some d => .ok d h
    | none => .bad
  | .tup es, s, h => (evs P F es s h).bnd fun ds h1 => .ok (.tup ds) h1
  | .lst hp es, s, h => (evs P F es s h).bnd fun ds h1 => mkL hp ds h1
  | .dct ks vs, s, h => (evs P F vs s h).bnd fun ds h1 => .ok (.ref h1.length) (h1 ++ [.dct ((ks.zip ds).foldl (fun kvs p => putK p.1 p.2 kvs) [])])
  | .dtn, _, h => .ok (.ref h.length) (h ++ [.dt []])
  | .dck a b, s, h => ((ev P F a s h).bns fun d h1 => (ev P F b s h1).bns fun d2 h2 => .ok [d, d2] h2).bnd dckD
  | .bin op hp a b, s, h => (ev P F a s h).bnd fun x h1 => (ev P F b s h1).bnd fun y h2 => binD op hp x y h2
  | .neg a, s, h => (ev P F a s h).bnd negD
  | .cmp op a b, s, h => (ev P F a s h).bnd fun x h1 => (ev P F b s h1).bnd fun y h2 => okB (cmpD op x y h2) h2
  | .ch2 o1 o2 a b c, s, h => (ev P F a s h).bnd fun x h1 => (ev P F b s h1).bnd fun y h2 => match cmpD o1 x y h2 with
    | some true => (ev P F c s h2).bnd fun z h3 => okB (cmpD o2 y z h3) h3
    | some false => .ok (.bl false) h2
    | none => .bad
  | .ch3 o1 o2 o3 a b c d, s, h => (ev P F a s h).bnd fun x h1 => (ev P F b s h1).bnd fun y h2 => match cmpD o1 x y h2 with
    | some true => (ev P F c s h2).bnd fun z h3 => match cmpD o2 y z h3 with
      | some true => (ev P F d s h3).bnd fun w h4 => okB (cmpD o3 z w h4) h4
      | some false => .ok (.bl false) h3
      | none => .bad
    | some false => .ok (.bl false) h2
    | none => .bad
  | .and a b, s, h => (ev P F a s h).tst (fun h1 => ev P F b s h1) fun h1 => .ok (.bl false) h1
  | .or a b, s, h => (ev P F a s h).tst (fun h1 => .ok (.bl true) h1) fun h1 => ev P F b s h1
  | .not a, s, h => (ev P F a s h).bnd notD
  | .ife c a b, s, h => (ev P F c s h).tst (fun h1 => ev P F a s h1) fun h1 => ev P F b s h1
  | .idx a b, s, h => (ev P F a s h).bnd fun x h1 => (ev P F b s h1).bnd fun y h2 => idxD x y h2
  | .sli hp a lo hi, s, h => (ev P F a s h).bnd fun x h1 => (ev P F lo s h1).bnd fun l h2 => match optI (isNop lo) l with
    | some l' => (ev P F hi s h2).bnd fun u h3 => match optI (isNop hi) u with
      | some u' => sliD hp x l' u' h3
      | none => .bad
    | none => .bad
  | .rvs hp a, s, h => (ev P F a s h).bnd (rvsD hp)
  | .fld o f, s, h => (ev P F o s h).bnd (fldD P.fok f)
  | .call f dr args, s, h => (evs P F args s h).bnd fun ds h1 => drp dr h1 (F f ds h1)
  | .meth o m dr args, s, h => (ev P F o s h).bnd fun d h1 => match insOf d h1 with
    | some (n, c, fs) => match P.mid c m with
      | some f => match fs.lookup m with
        | none => (evs P F args s h1).bnd fun ds h2 => drp dr h2 (F f (.ref n :: ds) h2)
        | some _ => .bad
      | none => .bad
    | none => .bad
  | .new c args, s, h => (evs P F args s h).bnd fun ds h1 => match P.ini c with
    | some f => (F f (.ref h1.length :: ds) (h1 ++ [.ins c []])).bnd (newD h1.length)
    | none => .bad
  | .blt b hp args, s, h => (evs P F args s h).bnd (bltD b hp)
  | .mth m hp o args, s, h => (ev P F o s h).bnd fun x h1 => if mtyD m x h1 then (evs P F args s h1).bnd fun ds h2 => mthD m hp x ds h2 else .bad
  | .comp hp elt t src cond, s, h => (evr P F src s h).bnd fun xs l h1 => (compL (ev P F elt) (ev P F cond) t s l xs [] h1).bnd (mkL hp)
  | .inst a c, s, h => (ev P F a s h).bnd fun x h1 => okB (instD P.sub x c h1) h1
  | .frz a, s, h => (ev P F a s h).bnd frzD
  | .drop a, s, h => dropH h (ev P F a s h)
noncomputable def evs (P : Pr) (F : Nat → List D → Hs → R) : Es → Env → Hs → Rs
  | .nil, _, h => .ok [] h
  | .cons e es, s, h => (ev P F e s h).bns fun d h1 => (evs P F es s h1).bns fun ds h2 => .ok (d :: ds) h2
noncomputable def evr (P : Pr) (F : Nat → List D → Hs → R) : Src → Env → Hs → Rl
  | .seq e, s, h => (ev P F e s h).bnl seqR
  | .lst e, s, h => (ev P F e s h).bnl lstR
  | .rg1 a, s, h => (ev P F a s h).bnl rg1R
  | .rg2 a b, s, h => (ev P F a s h).bnl fun x h1 => (ev P F b s h1).bnl fun y h2 => rg2R x y h2
  | .rg3 _ _ _, _, _ => .bad
  | .enum e, s, h => (ev P F e s h).bnl enumR
  | .zip a b, s, h => (ev P F a s h).bnl fun x h1 => (ev P F b s h1).bnl fun y h2 => zipR x y h2
  | .rev e, s, h => (ev P F e s h).bnl revR
end

/-! ### runs of statements -/
noncomputable def forL (body : Env → Hs → X) (t : Tg) (l : Lks) : List D → Env → Hs → X
  | [], s, h => open Classical in if lkOk l h then .nx s h else .bad
  | x :: xs, s, h => open Classical in if lkOk l h then match putT t x s h with
    | some s1 => (body s1 h).sq fun s2 h2 => forL body t l xs s2 h2
    | none => .bad
    else .bad
noncomputable def whlN (c : Env → Hs → R) (b : Env → Hs → X) : Nat → Env → Hs → X
  | 0, _, _ => .bad
  | n + 1, s, h => (c s h).tsx s (fun h1 => (b s h1).sq fun s2 h2 => whlN c b n s2 h2) fun h1 => .nx s h1
noncomputable def whlL (c : Env → Hs → R) (b : Env → Hs → X) (s : Env) (h : Hs) : X := open Classical in
  if q : ∃ n, whlN c b n s h ≠ .bad then whlN c b (Classical.choose q) s h else .bad
def setfD (fok : String → String → Bool) (f : String) (v d : D) (s : Env) (h : Hs) : X := match insOf d h with
  | some (n, c, fs) => if fok c f && decide (fs.length < 1000) then .nx s (h.set n (.ins c (putFd f v fs))) else .bad
  | none => .bad
def setiD (v o k : D) (s : Env) (h : Hs) : X := match o with
  | .ref n => match h[n]? with
    | some (.lst xs) => match k with
      | .int j => match ixOf xs.length j with
        | some q => .nx s (h.set n (.lst (xs.set q v)))
        | none => .bad
      | _ => .bad
    | some (.dct kvs) => match keyOf k with
      | some q => if kvs.length < SZ then .nx s (h.set n (.dct (putK q v kvs))) else .bad
      | none => .bad
    | some (.dt kvs) => match keyT k with
      | some q => if kvs.length < SZ then .nx s (h.set n (.dt (putQ q v kvs))) else .bad
      | none => .bad
    | _ => .bad
  | _ => .bad
def intX (a : D) (x : X) : X := match a with
  | .int _ => x
  | _ => .bad
def setsD (v o a c : D) (s : Env) (h : Hs) : X := match o, v, a, c with
  | .ref n, .ref m, .int i, .int j => match h[n]?, h[m]? with
    | some (.lst xs), some (.lst ys) => if decide (n ≠ m) && decide (0 ≤ i) && decide (i ≤ j) && decide (j ≤ (xs.length : Nat)) && decide (xs.length + ys.length ≤ SZ) then .nx s (h.set n (.lst (xs.take i.toNat ++ ys ++ xs.drop j.toNat))) else .bad
    | _, _ => .bad
  | _, _, _, _ => .bad
def asgD (t : Tg) (s : Env) (d : D) (h : Hs) : X := match putT t d s h with
  | some s1 => .nx s1 h
  | none => .bad

mutual
/-- no exception in it -/
def noX : D → Bool
  | .exc _ => false
  | .tup xs => noXs xs
  | .lst xs => noXs xs
  | _ => true
def noXs : List D → Bool
  | [] => true
  | x :: xs => noX x && noXs xs
end
/-- what an except clause may end by: a value told, nothing changed -/
noncomputable def qs (h : Hs) (r : X) : X := open Classical in match r with
  | .rt d h1 => if h1 = h ∧ noX d = true then .rt d h else .bad
  | _ => .bad
def setO (o : Option Nat) (d : D) (s : Env) : Env := match o with
  | some i => s.set i (some d)
  | none => s

mutual
noncomputable def exec (P : Pr) (F : Nat → List D → Hs → R) : S → Env → Hs → X
  | .asg t e, s, h => (ev P F e s h).bx s (asgD t s)
  | .setf o f e, s, h => (ev P F e s h).bx s fun v h1 => (ev P F o s h1).bx s fun d h2 => setfD P.fok f v d s h2
  | .seti o i e, s, h => (ev P F e s h).bx s fun v h1 => (ev P F o s h1).bx s fun d h2 => (ev P F i s h2).bx s fun k h3 => setiD v d k s h3
  | .sets o lo hi e, s, h => (ev P F e s h).bx s fun v h1 => (ev P F o s h1).bx s fun d h2 => (ev P F lo s h2).bx s fun a h3 => intX a ((ev P F hi s h3).bx s fun c h4 => setsD v d a c s h4)
  | .par _ _ _ _, _, _ => .bad
  | .exp e, s, h => (ev P F e s h).bx s fun _ h1 => .nx s h1
  | .ite c a b, s, h => (ev P F c s h).tsx s (fun h1 => execs P F a s h1) fun h1 => execs P F b s h1
  | .loop t src body, s, h => (evr P F src s h).bx s fun xs l h1 => forL (execs P F body) t l xs s h1
  | .whl c body, s, h => whlL (ev P F c) (execs P F body) s h
  | .ret e, s, h => (ev P F e s h).bx s fun d h1 => .rt d h1
  | .retn, _, h => .rt .non h
  | .rai c, s, h => .ex c s h
  | .try body hs, s, h => match execs P F body s h with
    | .ex c s1 h1 => if P.exs c then hdl P F c hs s1 h1 else .bad
    | .nx s1 h1 => .nx s1 h1
    | .rt d h1 => .rt d h1
    | .bad => .bad
  | .pas, s, h => .nx s h
  | .frz i, s, h => match s[i]? with
    | some (some d) => (frzD d h).bx s fun v h1 => .nx (s.set i (some v)) h1
    | _ => .bad
noncomputable def execs (P : Pr) (F : Nat → List D → Hs → R) : Ss → Env → Hs → X
  | .nil, s, h => .nx s h
  | .cons a ss, s, h => (exec P F a s h).sq fun s1 h1 => execs P F ss s1 h1
noncomputable def hdl (P : Pr) (F : Nat → List D → Hs → R) (c : String) : Hd → Env → Hs → X
  | .nil, s, h => .ex c s h
  | .one k sl suite rest, s, h => if P.sub c k then qs h (execs P F suite (setO sl (.exc c) s) h) else hdl P F c rest s h
end
/-- a def's call -/
def X.fin (r : X) : R := match r with
  | .nx _ h => .ok .non h
  | .rt v h => .ok v h
  | .ex c _ h => .exc c h
  | .bad => .bad
noncomputable def apply (P : Pr) (F : Nat → List D → Hs → R) (d : Fn) (ds : List D) (h : Hs) : R :=
  if ds.length = d.np then (execs P F d.body (ds.map some ++ List.replicate (d.ns - ds.length) none) h).fin else .bad
noncomputable def run (P : Pr) : Nat → Nat → List D → Hs → R
  | 0, _, _, _ => .bad
  | k + 1, f, ds, h => match P.tab f with
    | some d => apply P (run P k) d ds h
    | none => .bad
end VI
/-! V2: what the small language's runs come to is what the model's come to: relations. -/
namespace VI
open PySem PySem.Spec PyProof.Rows L2

abbrev AHp := L2.Hp
def sOf (x : List Char) : Str := ⟨(x.map Char.toNat).toArray⟩
/-- what does not change: the written part, which addresses are exceptions in hand, where the classes stand, the lists that are being made -/
structure Cst where
  K : PySem.W.Frag
  xc : Addr → String → Prop
  ca : String → Addr
  cv : String → Value
  hd : List Addr
def Cst.hid (C : Cst) (l : List Addr) : Cst := { C with hd := l }
/-- an address that may be written -/
def Mu (C : Cst) (p : List Addr) (h : Hs) (a : Addr) : Prop := a ∈ C.hd ∨ ∃ (n : Nat) (o : O), p[n]? = some a ∧ h[n]? = some o ∧ o ≠ O.dead
def LAt (C : Cst) (p : List Addr) (h : Hs) (H : AHp) (a : Addr) (vs : List V) : Prop := H a = some (.lst vs) ∧ ¬ Mu C p h a
def TAt (C : Cst) (p : List Addr) (h : Hs) (H : AHp) (a : Addr) (vs : List V) : Prop := (H a = some (.tup vs) ∧ ¬ Mu C p h a) ∨ (SqT C.K (fun _ => none) a vs ∧ ∀ v ∈ vs, ∃ z, v = .str z)
/-- a list that nobody writes: the law's own, or in the written part -/
def ZAt (C : Cst) (p : List Addr) (h : Hs) (H : AHp) (a : Addr) (vs : List V) : Prop := (Rd H a (.lst vs) ∧ ¬ Mu C p h a) ∨ SqL C.K (fun _ => none) a vs
mutual
inductive DR (C : Cst) (p : List Addr) (h : Hs) (H : AHp) : D → V → Prop where
  | non : DR C p h H .non .non
  | bl (b : Bool) : DR C p h H (.bl b) (.bl b)
  | int (i : Int) : DR C p h H (.int i) (.int i)
  | str (x : List Char) : DR C p h H (.str x) (.str (sOf x))
  | tup {a : Addr} {xs : List D} {vs : List V} : TAt C p h H a vs → DRs C p h H xs vs → DR C p h H (.tup xs) (.ref a)
  | lst {a : Addr} {xs : List D} {vs : List V} : LAt C p h H a vs → DRs C p h H xs vs → DR C p h H (.lst xs) (.ref a)
  | ref {n : Nat} {a : Addr} : p[n]? = some a → DR C p h H (.ref n) (.ref a)
  | exc {c : String} {a : Addr} : C.xc a c → DR C p h H (.exc c) (.ref a)
  | scr {a : Addr} {is : List Int} : ZAt C p h H a (is.map V.int) → DR C p h H (.scr is) (.ref a)
inductive DRs (C : Cst) (p : List Addr) (h : Hs) (H : AHp) : List D → List V → Prop where
  | nil : DRs C p h H [] []
  | cons {x : D} {v : V} {xs : List D} {vs : List V} : DR C p h H x v → DRs C p h H xs vs → DRs C p h H (x :: xs) (v :: vs)
end
/-- what grows -/
structure Ext (C : Cst) (p : List Addr) (h : Hs) (H : AHp) (p' : List Addr) (h' : Hs) (H' : AHp) : Prop where
  pre : p <+: p'
  st : ∀ a o, H a = some o → ¬ Mu C p h a → H' a = some o ∧ ¬ Mu C p' h' a
  hid : ∀ a ∈ C.hd, H' a = H a
theorem Ext.refl {C : Cst} {p : List Addr} {h : Hs} {H : AHp} : Ext C p h H p h H := ⟨List.prefix_refl _, fun _ _ e n => ⟨e, n⟩, fun _ _ => rfl⟩
theorem Ext.trans {C : Cst} {p p1 p2 : List Addr} {h h1 h2 : Hs} {H H1 H2 : AHp} (a : Ext C p h H p1 h1 H1) (b : Ext C p1 h1 H1 p2 h2 H2) : Ext C p h H p2 h2 H2 :=
  ⟨a.pre.trans b.pre, fun x o e n => b.st x o (a.st x o e n).1 (a.st x o e n).2, fun x m => (b.hid x m).trans (a.hid x m)⟩
theorem get_pre {α : Type} {l l' : List α} (q : l <+: l') {n : Nat} {x : α} (e : l[n]? = some x) : l'[n]? = some x := by
  obtain ⟨r, rfl⟩ := q
  rw [List.getElem?_append_left (List.getElem?_eq_some_iff.mp e).1]; exact e
section
variable {C : Cst} {p p' : List Addr} {h h' : Hs} {H H' : AHp}
theorem rd_ext (x : Ext C p h H p' h' H') {a : Addr} {u : HO} (r : Rd H a u) (n : ¬ Mu C p h a) : Rd H' a u ∧ ¬ Mu C p' h' a := by
  rcases r with r | ⟨o, r⟩
  · exact ⟨.inl (x.st a _ r n).1, (x.st a _ r n).2⟩
  · exact ⟨.inr ⟨o, (x.st a _ r n).1⟩, (x.st a _ r n).2⟩
theorem LAt.ext (x : Ext C p h H p' h' H') {a : Addr} {vs : List V} (r : LAt C p h H a vs) : LAt C p' h' H' a vs := x.st a _ r.1 r.2
theorem TAt.ext (x : Ext C p h H p' h' H') {a : Addr} {vs : List V} (r : TAt C p h H a vs) : TAt C p' h' H' a vs := by
  rcases r with ⟨r, n⟩ | r
  · exact .inl (x.st a _ r n)
  · exact .inr r
theorem ZAt.ext (x : Ext C p h H p' h' H') {a : Addr} {vs : List V} (r : ZAt C p h H a vs) : ZAt C p' h' H' a vs := by
  rcases r with ⟨r, n⟩ | r
  · exact .inl (rd_ext x r n)
  · exact .inr r
theorem rd_none {a : Addr} {u : HO} (r : Rd (fun _ => none) a u) : False := by
  rcases r with r | ⟨o, r⟩ <;> cases r
theorem LAt.sq {a : Addr} {vs : List V} (r : LAt C p h H a vs) : SqL C.K H a vs := .of r.1
theorem TAt.sq {a : Addr} {vs : List V} (r : TAt C p h H a vs) : SqT C.K H a vs := by
  rcases r with ⟨r, _⟩ | ⟨r | r, _⟩
  · exact .of r
  · exact (rd_none r).elim
  · exact .inr r
theorem ZAt.sq {a : Addr} {vs : List V} (r : ZAt C p h H a vs) : SqL C.K H a vs := by
  rcases r with ⟨r, _⟩ | r | r
  · exact .inl r
  · exact (rd_none r).elim
  · exact .inr r
mutual
theorem DR.ext (x : Ext C p h H p' h' H') : ∀ {d : D} {v : V}, DR C p h H d v → DR C p' h' H' d v
  | _, _, .non => .non
  | _, _, .bl b => .bl b
  | _, _, .int i => .int i
  | _, _, .str s => .str s
  | _, _, .tup a r => .tup (a.ext x) (DRs.ext x r)
  | _, _, .lst a r => .lst (a.ext x) (DRs.ext x r)
  | _, _, .ref e => .ref (get_pre x.pre e)
  | _, _, .exc e => .exc e
  | _, _, .scr r => .scr (r.ext x)
theorem DRs.ext (x : Ext C p h H p' h' H') : ∀ {d : List D} {v : List V}, DRs C p h H d v → DRs C p' h' H' d v
  | _, _, .nil => .nil
  | _, _, .cons a r => .cons (DR.ext x a) (DRs.ext x r)
end
theorem DRs.len : ∀ {d : List D} {v : List V}, DRs C p h H d v → d.length = v.length
  | _, _, .nil => rfl
  | _, _, .cons _ r => by rw [List.length_cons, List.length_cons, DRs.len r]
theorem DRs.get : ∀ {d : List D} {v : List V} {i : Nat} {x : D}, DRs C p h H d v → d[i]? = some x → ∃ y, v[i]? = some y ∧ DR C p h H x y
  | _, _, _, _, .nil, e => by simp at e
  | _, _, 0, _, .cons a _, e => by simp at e; subst e; exact ⟨_, rfl, a⟩
  | _, _, i + 1, x, .cons _ r, e => by
    obtain ⟨y, h1, h2⟩ := DRs.get (i := i) (x := x) r (by simpa using e)
    exact ⟨y, by simpa using h1, h2⟩
theorem DRs.app : ∀ {d e : List D} {v w : List V}, DRs C p h H d v → DRs C p h H e w → DRs C p h H (d ++ e) (v ++ w)
  | _, _, _, _, .nil, s => s
  | _, _, _, _, .cons a r, s => .cons a (DRs.app r s)
theorem DRs.take : ∀ {d : List D} {v : List V} (n : Nat), DRs C p h H d v → DRs C p h H (d.take n) (v.take n)
  | _, _, 0, _ => .nil
  | _, _, _ + 1, .nil => .nil
  | _, _, n + 1, .cons a r => .cons a (DRs.take n r)
theorem DRs.drop : ∀ {d : List D} {v : List V} (n : Nat), DRs C p h H d v → DRs C p h H (d.drop n) (v.drop n)
  | _, _, 0, r => r
  | _, _, _ + 1, .nil => .nil
  | _, _, n + 1, .cons _ r => DRs.drop n r
theorem DRs.set {x : D} {y : V} (q : DR C p h H x y) : ∀ {d : List D} {v : List V} (i : Nat), DRs C p h H d v → DRs C p h H (d.set i x) (v.set i y)
  | _, _, _, .nil => .nil
  | _, _, 0, .cons _ r => .cons q r
  | _, _, i + 1, .cons a r => .cons a (DRs.set q i r)
theorem DRs.erase : ∀ {d : List D} {v : List V} (i : Nat), DRs C p h H d v → DRs C p h H (d.eraseIdx i) (v.eraseIdx i)
  | _, _, _, .nil => .nil
  | _, _, 0, .cons _ r => r
  | _, _, i + 1, .cons a r => .cons a (DRs.erase i r)
theorem DRs.rev {d : List D} {v : List V} (r : DRs C p h H d v) : DRs C p h H d.reverse v.reverse := by
  induction d generalizing v with
  | nil => cases r; exact .nil
  | cons x xs ih =>
    cases r with
    | cons a r => rw [List.reverse_cons, List.reverse_cons]; exact (ih r).app (.cons a .nil)
theorem DRs.rep {d : List D} {v : List V} (r : DRs C p h H d v) : ∀ k : Nat, DRs C p h H (List.replicate k d).flatten (List.replicate k v).flatten
  | 0 => .nil
  | k + 1 => by rw [List.replicate_succ, List.replicate_succ, List.flatten_cons, List.flatten_cons]; exact r.app (DRs.rep r k)
theorem DRs.dropLast {d : List D} {v : List V} (r : DRs C p h H d v) : DRs C p h H d.dropLast v.dropLast := by
  rw [List.dropLast_eq_take, List.dropLast_eq_take, r.len]; exact r.take _
end
/-- a class's fields -/
abbrev FR (C : Cst) (p : List Addr) (h : Hs) (H : AHp) : List (String × D) → List (Str × V) → Prop := Paired fun a b => Str.ofString a.1 = b.1 ∧ DR C p h H a.2 b.2
def kyR : Ky → Key → Prop
  | .inl i, .inl j => i = j
  | .inr x, .inr y => sOf x = y
  | _, _ => False
abbrev KR (C : Cst) (p : List Addr) (h : Hs) (H : AHp) : List (Ky × D) → List (Key × V) → Prop := Paired fun a b => kyR a.1 b.1 ∧ DR C p h H a.2 b.2
abbrev QR (C : Cst) (p : List Addr) (h : Hs) (H : AHp) : List (List Ky × D) → List (List Key × V) → Prop := Paired fun a b => Paired kyR a.1 b.1 ∧ DR C p h H a.2 b.2
/-- an object of the small heap at an address -/
def OR (C : Cst) (p : List Addr) (h : Hs) (H : AHp) (a : Addr) : O → Prop
  | .lst xs => ∃ vs, H a = some (.lst vs) ∧ DRs C p h H xs vs
  | .ins c fs => ∃ dx gs, H a = some (.ins (C.ca c) dx gs) ∧ FR C p h H fs gs
  | .dct kvs => ∃ ws, H a = some (.dK ws) ∧ KR C p h H kvs ws
  | .dt kvs => ∃ ws, H a = some (.dT ws) ∧ QR C p h H kvs ws
  | .dead => True
structure SR (C : Cst) (p : List Addr) (h : Hs) (H : AHp) : Prop where
  len : p.length = h.length
  nd : p.Nodup
  tr : ∀ a ∈ p, ∃ o, H a = some o
  ob : ∀ (n : Nat) o a, h[n]? = some o → p[n]? = some a → OR C p h H a o
  hid : ∀ a ∈ C.hd, a ∉ p ∧ ∃ o, H a = some o
structure ER (C : Cst) (p : List Addr) (h : Hs) (H : AHp) (s : Env) (sg : L2.St) : Prop where
  len : s.length = sg.length
  at_ : ∀ (i : Nat) d, s[i]? = some (some d) → ∃ v, sg[i]? = some (some v) ∧ DR C p h H d v
section
variable {C : Cst} {p p' : List Addr} {h h' : Hs} {H H' : AHp}
theorem FR.ext (x : Ext C p h H p' h' H') {a : List (String × D)} {b : List (Str × V)} (r : FR C p h H a b) : FR C p' h' H' a b := Paired.mapP r fun _ _ q => ⟨q.1, q.2.ext x⟩
theorem KR.ext (x : Ext C p h H p' h' H') {a : List (Ky × D)} {b : List (Key × V)} (r : KR C p h H a b) : KR C p' h' H' a b := Paired.mapP r fun _ _ q => ⟨q.1, q.2.ext x⟩
theorem QR.ext (x : Ext C p h H p' h' H') {a : List (List Ky × D)} {b : List (List Key × V)} (r : QR C p h H a b) : QR C p' h' H' a b := Paired.mapP r fun _ _ q => ⟨q.1, q.2.ext x⟩
theorem ER.ext (x : Ext C p h H p' h' H') {s : Env} {sg : L2.St} (r : ER C p h H s sg) : ER C p' h' H' s sg := ⟨r.len, fun i d e => let ⟨v, a, b⟩ := r.at_ i d e; ⟨v, a, b.ext x⟩⟩
theorem SR.fresh (r : SR C p h H) {a : Addr} (e : H a = none) : a ∉ p := fun m => by
  obtain ⟨o, q⟩ := r.tr a m
  rw [e] at q; cases q
theorem SR.frM (r : SR C p h H) {a : Addr} (e : H a = none) : ¬ Mu C p h a := fun m => by
  rcases m with m | ⟨_, _, q, _⟩
  · obtain ⟨_, o, q⟩ := r.hid a m
    rw [e] at q; cases q
  · exact r.fresh e (List.mem_of_getElem? q)
/-- a new object that is never written -/
theorem ext_new (r : SR C p h H) {a : Addr} {o : HO} (e : H a = none) : Ext C p h H p h (upd H a o) :=
  ⟨List.prefix_refl _, fun b u q n => ⟨by rw [upd_ne (ne_of_none q e)]; exact q, n⟩, fun b m => let ⟨_, u, q⟩ := r.hid b m; upd_ne (ne_of_none q e)⟩
theorem OR.ext {a : Addr} {o : O} (x : Ext C p h H p' h' H') (q : OR C p h H a o) (hH : H' a = H a) : OR C p' h' H' a o := by
  cases o with
  | lst xs => obtain ⟨vs, q, r⟩ := q; exact ⟨vs, hH.trans q, DRs.ext x r⟩
  | ins c fs => obtain ⟨dx, gs, q, r⟩ := q; exact ⟨dx, gs, hH.trans q, r.ext x⟩
  | dct kvs => obtain ⟨ws, q, r⟩ := q; exact ⟨ws, hH.trans q, r.ext x⟩
  | dt kvs => obtain ⟨ws, q, r⟩ := q; exact ⟨ws, hH.trans q, r.ext x⟩
  | dead => trivial
theorem SR.new (r : SR C p h H) {a : Addr} {o : HO} (e : H a = none) : SR C p h (upd H a o) :=
  ⟨r.len, r.nd, fun b hb => let ⟨u, q⟩ := r.tr b hb; ⟨u, by rw [upd_ne (ne_of_none q e)]; exact q⟩, fun n u b h1 h2 => (r.ob n u b h1 h2).ext (ext_new r e) (by
    obtain ⟨w, q⟩ := r.tr b (List.mem_of_getElem? h2)
    rw [upd_ne (ne_of_none q e)]), fun b hb => let ⟨n, u, q⟩ := r.hid b hb; ⟨n, u, by rw [upd_ne (ne_of_none q e)]; exact q⟩⟩
theorem at_tup (r : SR C p h H) {a : Addr} {vs : List V} (e : H a = none) : TAt C p h (upd H a (.tup vs)) a vs := .inl ⟨upd_same, r.frM e⟩
theorem at_lst (r : SR C p h H) {a : Addr} {vs : List V} (e : H a = none) : LAt C p h (upd H a (.lst vs)) a vs := ⟨upd_same, r.frM e⟩
theorem get_app_self {α : Type} (l : List α) (x : α) : (l ++ [x])[l.length]? = some x := by simp
theorem mu_new (r : SR C p h H) {a b : Addr} {o : O} (m : Mu C (p ++ [a]) (h ++ [o]) b) : Mu C p h b ∨ b = a := by
  rcases m with m | ⟨n, u, e1, e2, ne⟩
  · exact .inl (.inl m)
  by_cases q : n < p.length
  · rw [List.getElem?_append_left q] at e1
    rw [List.getElem?_append_left (by rw [← r.len]; exact q)] at e2
    exact .inl (.inr ⟨n, u, e1, e2, ne⟩)
  · have l1 := (List.getElem?_eq_some_iff.mp e1).1
    rw [List.length_append, List.length_singleton] at l1
    have en : n = p.length := by omega
    subst en
    rw [get_app_self] at e1
    exact .inr (Option.some.inj e1).symm
/-- a new object of the small heap -/
theorem ext_cell (r : SR C p h H) {a : Addr} {o : O} (e : H a = none) (hH : ∀ b w, H b = some w → H' b = some w) : Ext C p h H (p ++ [a]) (h ++ [o]) H' :=
  ⟨List.prefix_append _ _, fun b w q n => ⟨hH b w q, fun m => by
    rcases mu_new r m with m | m
    · exact n m
    · subst m; rw [e] at q; cases q⟩, fun b m => let ⟨_, w, q⟩ := r.hid b m; (hH b w q).trans q.symm⟩
theorem SR.cell (r : SR C p h H) {a : Addr} {o : O} (e : H a = none) (hH : ∀ b w, H b = some w → H' b = some w) (ha : ∃ w, H' a = some w) (q : OR C (p ++ [a]) (h ++ [o]) H' a o) : SR C (p ++ [a]) (h ++ [o]) H' := by
  refine ⟨by simp [r.len], ?_, fun b hb => ?_, fun n u b h1 h2 => ?_, fun b hb => ?_⟩
  · rw [List.nodup_append]
    refine ⟨r.nd, by simp, fun x hx y hy => ?_⟩
    rw [List.mem_singleton] at hy
    subst hy
    exact fun z => r.fresh e (z ▸ hx)
  · rcases List.mem_append.mp hb with z | z
    · obtain ⟨w, z⟩ := r.tr b z
      exact ⟨w, hH b w z⟩
    · rw [List.mem_singleton] at z; subst z; exact ha
  · by_cases l : n < p.length
    · rw [List.getElem?_append_left l] at h2
      rw [List.getElem?_append_left (by rw [← r.len]; exact l)] at h1
      obtain ⟨w, z⟩ := r.tr b (List.mem_of_getElem? h2)
      exact (r.ob n u b h1 h2).ext (ext_cell r e hH) ((hH b w z).trans z.symm)
    · have l1 := (List.getElem?_eq_some_iff.mp h2).1
      rw [List.length_append, List.length_singleton] at l1
      have en : n = p.length := by omega
      have e1 : b = a := by
        rw [en, get_app_self] at h2; exact (Option.some.inj h2).symm
      have e2 : u = o := by
        rw [en, r.len, get_app_self] at h1; exact (Option.some.inj h1).symm
      subst e1 e2
      exact q
  · obtain ⟨nb, w, z⟩ := r.hid b hb
    refine ⟨fun m => ?_, w, hH b w z⟩
    rcases List.mem_append.mp m with m | m
    · exact nb m
    · rw [List.mem_singleton] at m; subst m; rw [e] at z; cases z
/-- a list, an instance, a dict is changed -/
theorem mu_set {n : Nat} {o : O} {b : Addr} (al : ∀ u, h[n]? = some u → u ≠ O.dead) (m : Mu C p (h.set n o) b) : Mu C p h b := by
  rcases m with m | ⟨k, u, e1, e2, ne⟩
  · exact .inl m
  by_cases q : n = k
  · subst q
    have l : n < h.length := by
      have := (List.getElem?_eq_some_iff.mp e2).1
      rwa [List.length_set] at this
    exact .inr ⟨n, h[n], e1, List.getElem?_eq_getElem l, al _ (List.getElem?_eq_getElem l)⟩
  · rw [List.getElem?_set_ne q] at e2
    exact .inr ⟨k, u, e1, e2, ne⟩
theorem ext_set (r : SR C p h H) {n : Nat} {a : Addr} {o u : O} {w : HO} (e1 : h[n]? = some u) (al : u ≠ .dead) (e2 : p[n]? = some a) : Ext C p h H p (h.set n o) (upd H a w) := by
  have al' : ∀ v, h[n]? = some v → v ≠ O.dead := fun v q => by rw [e1] at q; cases q; exact al
  refine ⟨List.prefix_refl _, fun b x q nm => ⟨?_, fun m => nm (mu_set al' m)⟩, fun b m => upd_ne fun z => (r.hid b m).1 (by rw [z]; exact List.mem_of_getElem? e2)⟩
  rw [upd_ne]
  · exact q
  · exact fun z => nm (z ▸ .inr ⟨n, u, e2, e1, al⟩)
theorem SR.set (r : SR C p h H) {n : Nat} {a : Addr} {o u : O} {w : HO} (e1 : h[n]? = some u) (al : u ≠ .dead) (e2 : p[n]? = some a) (q : OR C p (h.set n o) (upd H a w) a o) : SR C p (h.set n o) (upd H a w) := by
  refine ⟨by rw [List.length_set]; exact r.len, r.nd, fun b hb => ?_, fun k v b h1 h2 => ?_, fun b hb => ?_⟩
  · by_cases z : b = a
    · subst z; exact ⟨w, upd_same⟩
    · rw [upd_ne z]; exact r.tr b hb
  · by_cases z : n = k
    · subst z
      rw [e2] at h2; cases h2
      have l : n < h.length := (List.getElem?_eq_some_iff.mp e1).1
      rw [List.getElem?_set_self l] at h1
      cases h1
      exact q
    · rw [List.getElem?_set_ne z] at h1
      refine (r.ob k v b h1 h2).ext (ext_set r e1 al e2) (upd_ne fun y => z ?_)
      subst y
      obtain ⟨l1, f1⟩ := List.getElem?_eq_some_iff.mp e2
      obtain ⟨l2, f2⟩ := List.getElem?_eq_some_iff.mp h2
      exact (List.getElem_inj r.nd).mp (f1.trans f2.symm)
  · obtain ⟨nb, v, z⟩ := r.hid b hb
    have na : b ≠ a := fun y => nb (by rw [y]; exact List.mem_of_getElem? e2)
    exact ⟨nb, v, by rw [upd_ne na]; exact z⟩
/-- a list is never written again -/
theorem ext_dead {n : Nat} : Ext C p h H p (h.set n .dead) H := by
  refine ⟨List.prefix_refl _, fun b x q nm => ⟨q, fun m => nm ?_⟩, fun _ _ => rfl⟩
  rcases m with m | ⟨k, u, e1, e2, ne⟩
  · exact .inl m
  by_cases z : n = k
  · subst z
    have l : n < h.length := by
      have := (List.getElem?_eq_some_iff.mp e2).1
      rwa [List.length_set] at this
    rw [List.getElem?_set_self l] at e2
    cases e2
    exact absurd rfl ne
  · rw [List.getElem?_set_ne z] at e2
    exact .inr ⟨k, u, e1, e2, ne⟩
theorem SR.dead (r : SR C p h H) {n : Nat} : SR C p (h.set n .dead) H := by
  refine ⟨by rw [List.length_set]; exact r.len, r.nd, r.tr, fun k v b h1 h2 => ?_, r.hid⟩
  by_cases z : n = k
  · subst z
    have l : n < h.length := by
      have := (List.getElem?_eq_some_iff.mp h1).1
      rwa [List.length_set] at this
    rw [List.getElem?_set_self l] at h1
    cases h1
    trivial
  · rw [List.getElem?_set_ne z] at h1
    exact (r.ob k v b h1 h2).ext ext_dead rfl
theorem dead_at (r : SR C p h H) {n : Nat} {a : Addr} {xs : List D} {vs : List V} (e1 : h[n]? = some (.lst xs)) (e2 : p[n]? = some a) (q : H a = some (.lst vs)) : LAt C p (h.set n .dead) H a vs := by
  refine ⟨q, fun m => ?_⟩
  rcases m with m | ⟨k, u, f1, f2, ne⟩
  · exact (r.hid a m).1 (List.mem_of_getElem? e2)
  obtain ⟨l1, g1⟩ := List.getElem?_eq_some_iff.mp e2
  obtain ⟨l2, g2⟩ := List.getElem?_eq_some_iff.mp f1
  have z : n = k := (List.getElem_inj r.nd).mp (g1.trans g2.symm)
  subst z
  rw [List.getElem?_set_self (List.getElem?_eq_some_iff.mp e1).1] at f2
  cases f2
  exact ne rfl

/-! ### a call that leaves nothing -/
mutual
theorem DR.blw (l : p.length = h.length) : ∀ {d : D} {v : V}, DR C p h H d v → d.blw h.length = true
  | _, _, .non => rfl
  | _, _, .bl b => rfl
  | _, _, .int i => rfl
  | _, _, .str s => rfl
  | _, _, .tup a r => DRs.blw l r
  | _, _, .lst a r => DRs.blw l r
  | _, _, .ref e => by
    show decide _ = true
    rw [decide_eq_true_eq, ← l]; exact (List.getElem?_eq_some_iff.mp e).1
  | _, _, .exc e => rfl
  | _, _, .scr _ => rfl
theorem DRs.blw (l : p.length = h.length) : ∀ {d : List D} {v : List V}, DRs C p h H d v → D.blws h.length d = true
  | _, _, .nil => rfl
  | _, _, .cons a r => by
    show (_ && _) = true
    rw [DR.blw l a, DRs.blw l r]; rfl
end
/-- behind: the first part of the small heap is as it was -/
structure Bk (p : List Addr) (h : Hs) (p' : List Addr) (h' : Hs) : Prop where
  pre : p <+: p'
  l : p.length = h.length
  tk : h'.take h.length = h
theorem Bk.mu (b : Bk p h p' h') {a : Addr} (m : Mu C p h a) : Mu C p' h' a := by
  rcases m with m | ⟨n, o, e1, e2, ne⟩
  · exact .inl m
  refine .inr ⟨n, o, get_pre b.pre e1, ?_, ne⟩
  rw [← b.tk] at e2
  rw [List.getElem?_take] at e2
  split at e2
  · exact e2
  · cases e2
mutual
theorem DR.back (b : Bk p h p' h') : ∀ {d : D} {v : V}, d.blw h.length = true → DR C p' h' H' d v → DR C p h H' d v
  | _, _, _, .non => .non
  | _, _, _, .bl b => .bl b
  | _, _, _, .int i => .int i
  | _, _, _, .str s => .str s
  | _, _, q, .tup a r => .tup (match a with | .inl a => .inl ⟨a.1, fun m => a.2 (b.mu m)⟩ | .inr a => .inr a) (DRs.back b q r)
  | _, _, q, .lst a r => .lst ⟨a.1, fun m => a.2 (b.mu m)⟩ (DRs.back b q r)
  | .ref n, _, q, .ref e => .ref (by
    have q' : n < h.length := of_decide_eq_true q
    obtain ⟨r, hr⟩ := b.pre
    rw [← hr, List.getElem?_append_left (by rw [b.l]; exact q')] at e
    exact e)
  | _, _, _, .exc e => .exc e
  | _, _, _, .scr a => .scr (match a with | .inl a => .inl ⟨a.1, fun m => a.2 (b.mu m)⟩ | .inr a => .inr a)
theorem DRs.back (b : Bk p h p' h') : ∀ {d : List D} {v : List V}, D.blws h.length d = true → DRs C p' h' H' d v → DRs C p h H' d v
  | _, _, _, .nil => .nil
  | x :: xs, _, q, .cons a r => by
    have q' : (x.blw h.length && D.blws h.length xs) = true := q
    rw [Bool.and_eq_true] at q'
    exact .cons (DR.back b q'.1 a) (DRs.back b q'.2 r)
end
theorem pair_back {α β : Type} {f g : α → β → Prop} {B : α → Prop} (k : ∀ a b, B a → f a b → g a b) : ∀ {l : List α} {m : List β}, (∀ a ∈ l, B a) → Paired f l m → Paired g l m
  | _, _, _, .nil => .nil
  | _, _, q, .cons r t => .cons (k _ _ (q _ List.mem_cons_self) r) (pair_back k (fun a ha => q a (List.mem_cons_of_mem _ ha)) t)
theorem pair_all {α β : Type} {f : α → β → Prop} {B : α → Prop} (k : ∀ a b, f a b → B a) : ∀ {l : List α} {m : List β}, Paired f l m → ∀ a ∈ l, B a
  | _, _, .nil, _, q => by cases q
  | _, _, .cons r t, a, q => by
    rcases List.mem_cons.mp q with z | z
    · subst z; exact k _ _ r
    · exact pair_all k t a z
theorem OR.back (b : Bk p h p' h') (r : SR C p h H) {n : Nat} {a : Addr} {o : O} (e1 : h[n]? = some o) (e2 : p[n]? = some a) (q : OR C p' h' H' a o) : OR C p h H' a o := by
  have q0 := r.ob n o a e1 e2
  cases o with
  | lst xs =>
    obtain ⟨vs, q, z⟩ := q
    obtain ⟨_, _, z0⟩ := q0
    exact ⟨vs, q, DRs.back b (DRs.blw r.len z0) z⟩
  | ins c fs =>
    obtain ⟨dx, gs, q, z⟩ := q
    obtain ⟨_, _, _, z0⟩ := q0
    exact ⟨dx, gs, q, pair_back (B := fun x => x.2.blw h.length = true) (fun _ _ l r => ⟨r.1, DR.back b l r.2⟩) (pair_all (fun _ _ y => y.2.blw r.len) z0) z⟩
  | dct kvs =>
    obtain ⟨ws, q, z⟩ := q
    obtain ⟨_, _, z0⟩ := q0
    exact ⟨ws, q, pair_back (B := fun x => x.2.blw h.length = true) (fun _ _ l r => ⟨r.1, DR.back b l r.2⟩) (pair_all (fun _ _ y => y.2.blw r.len) z0) z⟩
  | dt kvs =>
    obtain ⟨ws, q, z⟩ := q
    obtain ⟨_, _, z0⟩ := q0
    exact ⟨ws, q, pair_back (B := fun x => x.2.blw h.length = true) (fun _ _ l r => ⟨r.1, DR.back b l r.2⟩) (pair_all (fun _ _ y => y.2.blw r.len) z0) z⟩
  | dead => trivial
theorem ext_back (b : Bk p h p' h') (x : Ext C p h H p' h' H') : Ext C p h H p h H' := ⟨List.prefix_refl _, fun a o e n => ⟨(x.st a o e n).1, n⟩, x.hid⟩
theorem SR.back (b : Bk p h p' h') (r : SR C p h H) (r' : SR C p' h' H') : SR C p h H' := by
  refine ⟨r.len, r.nd, fun a ha => r'.tr a (b.pre.subset ha), fun n o a e1 e2 => OR.back b r e1 e2 (r'.ob n o a ?_ (get_pre b.pre e2)), fun a ha => ⟨(r.hid a ha).1, (r'.hid a ha).2⟩⟩
  rw [← b.tk] at e1
  rw [List.getElem?_take] at e1
  split at e1
  · exact e1
  · cases e1
end
/-! ### with and without exceptions in hand -/
def Cst.xw (C : Cst) (f : Addr → String → Prop) : Cst := { C with xc := f }
def Cst.cold (C : Cst) : Cst := C.xw fun _ _ => False
def Cst.one (C : Cst) (a : Addr) (c : String) : Cst := C.xw fun b k => b = a ∧ k = c
def noXo : O → Bool
  | .lst xs => noXs xs
  | .ins _ fs => fs.all fun q => noX q.2
  | .dct kvs => kvs.all fun q => noX q.2
  | .dt kvs => kvs.all fun q => noX q.2
  | .dead => true
section
variable {C : Cst} {p p' : List Addr} {h h' : Hs} {H H' : AHp} {f g : Addr → String → Prop}
mutual
theorem DR.xm (m : ∀ a c, f a c → g a c) : ∀ {d : D} {v : V}, DR (C.xw f) p h H d v → DR (C.xw g) p h H d v
  | _, _, .non => .non
  | _, _, .bl b => .bl b
  | _, _, .int i => .int i
  | _, _, .str s => .str s
  | _, _, .tup a r => .tup a (DRs.xm m r)
  | _, _, .lst a r => .lst a (DRs.xm m r)
  | _, _, .ref e => .ref e
  | _, _, .exc e => .exc (m _ _ e)
  | _, _, .scr r => .scr r
theorem DRs.xm (m : ∀ a c, f a c → g a c) : ∀ {d : List D} {v : List V}, DRs (C.xw f) p h H d v → DRs (C.xw g) p h H d v
  | _, _, .nil => .nil
  | _, _, .cons a r => .cons (DR.xm m a) (DRs.xm m r)
end
mutual
theorem DR.xb : ∀ {d : D} {v : V}, noX d = true → DR (C.xw f) p h H d v → DR (C.xw g) p h H d v
  | _, _, _, .non => .non
  | _, _, _, .bl b => .bl b
  | _, _, _, .int i => .int i
  | _, _, _, .str s => .str s
  | _, _, q, .tup a r => .tup a (DRs.xb (by simpa [noX] using q) r)
  | _, _, q, .lst a r => .lst a (DRs.xb (by simpa [noX] using q) r)
  | _, _, _, .ref e => .ref e
  | _, _, q, .exc e => by simp [noX] at q
  | _, _, _, .scr r => .scr r
theorem DRs.xb : ∀ {d : List D} {v : List V}, noXs d = true → DRs (C.xw f) p h H d v → DRs (C.xw g) p h H d v
  | _, _, _, .nil => .nil
  | _, _, q, .cons a r => by
    simp only [noXs, Bool.and_eq_true] at q
    exact .cons (DR.xb q.1 a) (DRs.xb q.2 r)
end
mutual
theorem DR.nox (no : ∀ a c, ¬ C.xc a c) : ∀ {d : D} {v : V}, DR C p h H d v → noX d = true
  | _, _, .non => by simp [noX]
  | _, _, .bl b => by simp [noX]
  | _, _, .int i => by simp [noX]
  | _, _, .str s => by simp [noX]
  | _, _, .tup a r => by simpa [noX] using DRs.nox no r
  | _, _, .lst a r => by simpa [noX] using DRs.nox no r
  | _, _, .ref e => by simp [noX]
  | _, _, .exc e => (no _ _ e).elim
  | _, _, .scr r => by simp [noX]
theorem DRs.nox (no : ∀ a c, ¬ C.xc a c) : ∀ {d : List D} {v : List V}, DRs C p h H d v → noXs d = true
  | _, _, .nil => by simp [noXs]
  | _, _, .cons a r => by simp only [noXs, Bool.and_eq_true]; exact ⟨DR.nox no a, DRs.nox no r⟩
end
theorem FR.nox (no : ∀ a c, ¬ C.xc a c) : ∀ {a : List (String × D)} {b : List (Str × V)}, FR C p h H a b → a.all (fun q => noX q.2) = true
  | _, _, .nil => rfl
  | _, _, .cons q r => by rw [List.all_cons, DR.nox no q.2, FR.nox no r]; rfl
theorem KR.nox (no : ∀ a c, ¬ C.xc a c) : ∀ {a : List (Ky × D)} {b : List (Key × V)}, KR C p h H a b → a.all (fun q => noX q.2) = true
  | _, _, .nil => rfl
  | _, _, .cons q r => by rw [List.all_cons, DR.nox no q.2, KR.nox no r]; rfl
theorem FR.xb : ∀ {a : List (String × D)} {b : List (Str × V)}, a.all (fun q => noX q.2) = true → FR (C.xw f) p h H a b → FR (C.xw g) p h H a b
  | _, _, _, .nil => .nil
  | _, _, e, .cons q r => by
    rw [List.all_cons, Bool.and_eq_true] at e
    exact .cons ⟨q.1, DR.xb e.1 q.2⟩ (FR.xb e.2 r)
theorem KR.xb : ∀ {a : List (Ky × D)} {b : List (Key × V)}, a.all (fun q => noX q.2) = true → KR (C.xw f) p h H a b → KR (C.xw g) p h H a b
  | _, _, _, .nil => .nil
  | _, _, e, .cons q r => by
    rw [List.all_cons, Bool.and_eq_true] at e
    exact .cons ⟨q.1, DR.xb e.1 q.2⟩ (KR.xb e.2 r)
theorem QR.nox (no : ∀ a c, ¬ C.xc a c) : ∀ {a : List (List Ky × D)} {b : List (List Key × V)}, QR C p h H a b → a.all (fun q => noX q.2) = true
  | _, _, .nil => rfl
  | _, _, .cons q r => by rw [List.all_cons, DR.nox no q.2, QR.nox no r]; rfl
theorem QR.xb : ∀ {a : List (List Ky × D)} {b : List (List Key × V)}, a.all (fun q => noX q.2) = true → QR (C.xw f) p h H a b → QR (C.xw g) p h H a b
  | _, _, _, .nil => .nil
  | _, _, e, .cons q r => by
    rw [List.all_cons, Bool.and_eq_true] at e
    exact .cons ⟨q.1, DR.xb e.1 q.2⟩ (QR.xb e.2 r)
theorem OR.nox (no : ∀ a c, ¬ C.xc a c) {a : Addr} {o : O} (q : OR C p h H a o) : noXo o = true := by
  cases o with
  | lst xs => obtain ⟨vs, q, r⟩ := q; exact DRs.nox no r
  | ins c fs => obtain ⟨dx, gs, q, r⟩ := q; exact FR.nox no r
  | dct kvs => obtain ⟨ws, q, r⟩ := q; exact KR.nox no r
  | dt kvs => obtain ⟨ws, q, r⟩ := q; exact QR.nox no r
  | dead => rfl
theorem OR.xb {a : Addr} {o : O} (e : noXo o = true) (q : OR (C.xw f) p h H a o) : OR (C.xw g) p h H a o := by
  cases o with
  | lst xs => obtain ⟨vs, q, r⟩ := q; exact ⟨vs, q, DRs.xb e r⟩
  | ins c fs => obtain ⟨dx, gs, q, r⟩ := q; exact ⟨dx, gs, q, FR.xb e r⟩
  | dct kvs => obtain ⟨ws, q, r⟩ := q; exact ⟨ws, q, KR.xb e r⟩
  | dt kvs => obtain ⟨ws, q, r⟩ := q; exact ⟨ws, q, QR.xb e r⟩
  | dead => trivial
theorem SR.nox (no : ∀ a c, ¬ C.xc a c) (r : SR C p h H) : ∀ o ∈ h, noXo o = true := fun o m => by
  obtain ⟨n, e⟩ := List.mem_iff_getElem?.mp m
  have l : n < p.length := by rw [r.len]; exact (List.getElem?_eq_some_iff.mp e).1
  exact (r.ob n o _ e (List.getElem?_eq_getElem l)).nox no
theorem SR.xb (e : ∀ o ∈ h, noXo o = true) (r : SR (C.xw f) p h H) : SR (C.xw g) p h H :=
  ⟨r.len, r.nd, r.tr, fun n o a h1 h2 => (r.ob n o a h1 h2).xb (e o (List.mem_of_getElem? h1)), r.hid⟩
theorem ER.xm (m : ∀ a c, f a c → g a c) {s : Env} {sg : L2.St} (r : ER (C.xw f) p h H s sg) : ER (C.xw g) p h H s sg := ⟨r.len, fun i d e => let ⟨v, a, b⟩ := r.at_ i d e; ⟨v, a, b.xm m⟩⟩
theorem Ext.xw (x : Ext (C.xw f) p h H p' h' H') : Ext (C.xw g) p h H p' h' H' := ⟨x.pre, x.st, x.hid⟩
end
end VI
/-! H4: a dict beside a text (own work). -/
namespace VH
open PySem PySem.Spec PyProof.Rows L2 PySem.SeqAt
theorem str_eq_declines_dict (b : Str) (u : Tok) (l : Addr) (c : Value) (es : Array DictEntry) (ep : Nat) (dd : Option Addr) (sl : Array (Option Value)) :
    Meets (Builtin.«str.__eq__» ⟨[.str b u, .ref l], []⟩) (fun _ R s => s.heap.get? l = some { cls := c, dict := dd, data := .dict es ep, slots := sl } ∧ R (.ok (.ret .notImplemented)) s) :=
  .of_wp fun prog w A R s h => by obtain ⟨hp, g, d, tk, os⟩ := s; obtain ⟨hl, h⟩ := h; wp_walk using wpAny_loadPart' hl, wpAny_load hl; exact ⟨_, rfl, h⟩
section
variable {prog : Program} {w : World} {A : Around} {E : Value → Shared → Prop} {s : Shared}
/-- a dict is no text -/
theorem rc_dict_str {l : Addr} {es : Array DictEntry} {ep : Nat} {dd : Option Addr} {sl : Array (Option Value)} (b : Str) (u : Tok) (ho : s.heap.get? l = some { cls := .type "dict", dict := dd, data := .dict es ep, slots := sl }) (hu : A.units < cLine) {Q : Value → Shared → Prop} (q : Q (.bool false) s) :
    wpAny (model prog w) A (richCompare .Eq (.ref l) (.str b u)) Q E s := by
  have ty : s.TypeIs (.ref l) "dict" := ⟨_, ho, rfl⟩
  refine rc_eq_decline_or (k := false) ty (typeIs_str s b u) (by decide) (by rw [isSubtype_type]; kernel_rfl) PySem.F.slot_dict_eq F.slot_str_eq_refl ?_ ?_
    (fun _ hq => wpAny_of_eq (rfl : isSame (.ref l) (.str b u) = pure false) hq) (.inr hu) q
  · intro Q' hq
    refine wpAny_call_entry PySem.F.slot_dict_eq ty PySem.F.entry_dict_eq ?_ (PySem.F.args_dict_eq_2 _ _)
    show wpAny _ _ (Builtin.Dict.dictSlotArgs "__eq__" ⟨[.ref l, .str b u], []⟩ >>= _) _ _ s
    refine wpAny_bind ?_
    unfold Builtin.Dict.dictSlotArgs
    refine wpAny_bind (wpAny_notOrdered_dict ty ?_)
    show wpAny _ _ (pure (Value.ref l, Value.str b u)) _ _ s
    refine wpAny_pure ?_
    refine wpAny_bind (wpAny_isInstance (T := "str") (b := false) (typeIs_str s b u) (by rw [isSubtype_type]; kernel_rfl) ?_)
    simp only [Bool.not_false, if_true]
    refine wpAny_bind (wpAny_rule ?_)
    show wpAny _ _ (pure (Fin.done (Flow.ret Value.notImplemented))) _ _ s
    refine wpAny_pure ?_
    exact ⟨_, rfl, hq⟩
  · exact fun _ hq => call_meets F.slot_str_eq_refl (typeIs_str s b u) F.entry_str_eq (F.args_str_eq_2 _ _) (str_eq_declines_dict b u l (.type "dict") es ep dd sl) ⟨ho, hq⟩
end
section
variable {X : Cx}
def rEqDS : R2 := fun x y H Q => ∃ a kvs z, x = .ref a ∧ H a = some (.dK kvs) ∧ y = .str z ∧ Q (.bl false) H
theorem op_eqDS (hu : X.A.units < cLine) : OpR X (compareOp .Eq) rEqDS := by
  intro pins s σ H x y v u Q I rx ry h
  obtain ⟨a, kvs, z, rfl, ea, rfl, q⟩ := h
  obtain rfl : v = Value.ref a := rx
  obtain ⟨t, rfl⟩ : ∃ t, u = Value.str z t := ry
  obtain ⟨_, ya, va, ra, o, es, ep, h1, h2, h3, _⟩ := (show ObjOk X.prog X.w H s.heap a (.dK kvs) from I.hok a _ ea)
  obtain ⟨oc, od, dt, sl⟩ := o
  have e1 : oc = .type "dict" := h2.1
  subst e1
  have e3 : dt = .dict es ep := h3
  subst e3
  exact rc_dict_str z t h1 hu ⟨.bl false, H, I, rfl, q⟩
end
end VH
/-! H6: ==, !=, in of rows whose items may be dicts (own work). -/
namespace VH
open PySem PySem.Spec PyProof.Rows L2
open PySem.SeqAt (EqAt RcAt RcNeAt rc_eq_decline_or)
section
variable {A : Around} {s : Shared}
/-- a dict and a text, as items -/
theorem at_dict_str {l : Addr} {es : Array DictEntry} {ep : Nat} {dd : Option Addr} {sl : Array (Option Value)} (b : Str) (u : Tok) (ho : s.heap.get? l = some { cls := .type "dict", dict := dd, data := .dict es ep, slots := sl }) (hu : A.units < cLine) : EqAt A s (.ref l) (.str b u) false := fun prog w E Q h => by
  unfold eqBool
  refine wpAny_holding ?_
  refine wpAny_ite_split (fun hab => absurd (eq_of_beq hab) nofun) (fun _ => ?_)
  exact wpAny_bind (rc_dict_str b u ho hu (wpAny_truthy_bool h))
theorem rc_str_dict {prog : Program} {w : World} {E Q : Value → Shared → Prop} {l : Addr} {es : Array DictEntry} {ep : Nat} {dd : Option Addr} {sl : Array (Option Value)} (b : Str) (u : Tok) (ho : s.heap.get? l = some { cls := .type "dict", dict := dd, data := .dict es ep, slots := sl }) (hu : A.units < cLine) (q : Q (.bool false) s) :
    wpAny (model prog w) A (richCompare .Eq (.str b u) (.ref l)) Q E s := by
  have ty : s.TypeIs (.ref l) "dict" := ⟨_, ho, rfl⟩
  refine rc_eq_decline_or (k := false) (typeIs_str s b u) ty (by decide) (by rw [isSubtype_type]; kernel_rfl) F.slot_str_eq PySem.F.slot_dict_eq ?_ ?_
    (fun _ hq => wpAny_of_eq (rfl : isSame (.str b u) (.ref l) = pure false) hq) (.inr hu) q
  · exact fun _ hq => call_meets F.slot_str_eq (typeIs_str s b u) F.entry_str_eq (F.args_str_eq_2 _ _) (str_eq_declines_dict b u l (.type "dict") es ep dd sl) ⟨ho, hq⟩
  · intro Q' hq
    refine wpAny_call_entry PySem.F.slot_dict_eq ty PySem.F.entry_dict_eq ?_ (PySem.F.args_dict_eq_2 _ _)
    show wpAny _ _ (Builtin.Dict.dictSlotArgs "__eq__" ⟨[.ref l, .str b u], []⟩ >>= _) _ _ s
    refine wpAny_bind ?_
    unfold Builtin.Dict.dictSlotArgs
    refine wpAny_bind (wpAny_notOrdered_dict ty ?_)
    show wpAny _ _ (pure (Value.ref l, Value.str b u)) _ _ s
    refine wpAny_pure ?_
    refine wpAny_bind (wpAny_isInstance (T := "str") (b := false) (typeIs_str s b u) (by rw [isSubtype_type]; kernel_rfl) ?_)
    simp only [Bool.not_false, if_true]
    refine wpAny_bind (wpAny_rule ?_)
    show wpAny _ _ (pure (Fin.done (Flow.ret Value.notImplemented))) _ _ s
    refine wpAny_pure ?_
    exact ⟨_, rfl, hq⟩
theorem at_str_dict {l : Addr} {es : Array DictEntry} {ep : Nat} {dd : Option Addr} {sl : Array (Option Value)} (b : Str) (u : Tok) (ho : s.heap.get? l = some { cls := .type "dict", dict := dd, data := .dict es ep, slots := sl }) (hu : A.units < cLine) : EqAt A s (.str b u) (.ref l) false := fun prog w E Q h => by
  unfold eqBool
  refine wpAny_holding ?_
  refine wpAny_ite_split (fun hab => absurd (eq_of_beq hab) nofun) (fun _ => ?_)
  exact wpAny_bind (rc_str_dict b u ho hu (wpAny_truthy_bool h))
end
theorem str_ne_declines_dict (b : Str) (u : Tok) (l : Addr) (c : Value) (es : Array DictEntry) (ep : Nat) (dd : Option Addr) (sl : Array (Option Value)) :
    Meets (Builtin.«str.__ne__» ⟨[.str b u, .ref l], []⟩) (fun _ R s => s.heap.get? l = some { cls := c, dict := dd, data := .dict es ep, slots := sl } ∧ R (.ok (.ret .notImplemented)) s) :=
  .of_wp fun prog w A R s h => by obtain ⟨hp, g, d, tk, os⟩ := s; obtain ⟨hl, h⟩ := h; wp_walk using PySem.AutoSeq1.wpAny_loadPart' hl, wpAny_load hl; exact ⟨_, rfl, h⟩
theorem rc_ne_dict_str {A : Around} {s : Shared} {prog : Program} {w : World} {E Q : Value → Shared → Prop} {l : Addr} {es : Array DictEntry} {ep : Nat} {dd : Option Addr} {sl : Array (Option Value)} (b : Str) (u : Tok) (ho : s.heap.get? l = some { cls := .type "dict", dict := dd, data := .dict es ep, slots := sl }) (hu : A.units < cLine) (q : Q (.bool true) s) :
    wpAny (model prog w) A (richCompare .NotEq (.ref l) (.str b u)) Q E s := by
  have ty : s.TypeIs (.ref l) "dict" := ⟨_, ho, rfl⟩
  refine PySem.SeqAt.rc_ne_decline_or (k := false) ty (typeIs_str s b u) (by decide) (by rw [isSubtype_type]; kernel_rfl) PySem.F.slot_dict_ne F.slot_str_ne_refl ?_ ?_
    (fun _ hq => wpAny_of_eq (rfl : isSame (.ref l) (.str b u) = pure false) hq) (.inr hu) q
  · intro Q' hq
    refine wpAny_call_entry PySem.F.slot_dict_ne ty PySem.F.entry_dict_ne ?_ (PySem.F.args_dict_ne_2 _ _)
    show wpAny _ _ (Builtin.Dict.dictSlotArgs "__ne__" ⟨[.ref l, .str b u], []⟩ >>= _) _ _ s
    refine wpAny_bind ?_
    unfold Builtin.Dict.dictSlotArgs
    refine wpAny_bind (wpAny_notOrdered_dict ty ?_)
    show wpAny _ _ (pure (Value.ref l, Value.str b u)) _ _ s
    refine wpAny_pure ?_
    refine wpAny_bind (wpAny_isInstance (T := "str") (b := false) (typeIs_str s b u) (by rw [isSubtype_type]; kernel_rfl) ?_)
    simp only [Bool.not_false, if_true]
    refine wpAny_bind (wpAny_rule ?_)
    show wpAny _ _ (pure (Fin.done (Flow.ret Value.notImplemented))) _ _ s
    refine wpAny_pure ?_
    exact ⟨_, rfl, hq⟩
  · exact fun _ hq => call_meets F.slot_str_ne_refl (typeIs_str s b u) F.entry_str_ne (F.args_str_ne_2 _ _) (str_ne_declines_dict b u l (.type "dict") es ep dd sl) ⟨ho, hq⟩
/-! ### rows on the model's side -/
inductive EgL (F : V → V → Bool → Prop) : List V → List V → List Bool → Prop
  | nl {ys} : EgL F [] ys []
  | nr {xs} : EgL F xs [] []
  | cons {x y b xs ys es} : F x y b → EgL F xs ys es → EgL F (x :: xs) (y :: ys) (b :: es)
def Sq (K : PySem.W.Frag) (H : Hp) (a : Addr) : Prop := (∃ xs, SqL K H a xs) ∨ ∃ xs, SqT K H a xs
/-- plain items -/
def EgB (K : PySem.W.Frag) (H : Hp) (x y : V) (r : Bool) : Prop :=
  (flatV x = true ∧ flatV y = true ∧ r = eqV x y) ∨ (∃ a, x = .ref a ∧ y = .ref a ∧ r = true) ∨ (∃ a, x = .ref a ∧ Sq K H a ∧ flatV y = true ∧ r = false) ∨ (∃ a, y = .ref a ∧ Sq K H a ∧ flatV x = true ∧ r = false) ∨
    (∃ a ws z, x = .ref a ∧ H a = some (.dK ws) ∧ y = .str z ∧ r = false) ∨ (∃ a ws z, y = .ref a ∧ H a = some (.dK ws) ∧ x = .str z ∧ r = false)
/-- two rows -/
def EgS (K : PySem.W.Frag) (H : Hp) (F : V → V → Bool → Prop) (x y : V) (r : Bool) : Prop :=
  (∃ a b xs ys es, x = .ref a ∧ y = .ref b ∧ SqT K H a xs ∧ SqT K H b ys ∧ EgL F xs ys es ∧ r = (es.all id && decide (xs.length = ys.length))) ∨
  (∃ a b xs ys es, x = .ref a ∧ y = .ref b ∧ SqL K H a xs ∧ SqL K H b ys ∧ EgL F xs ys es ∧ r = (es.all id && decide (xs.length = ys.length))) ∨
  (∃ a b xs ys, x = .ref a ∧ y = .ref b ∧ SqL K H a xs ∧ SqT K H b ys ∧ r = false) ∨ (∃ a b xs ys, x = .ref a ∧ y = .ref b ∧ SqT K H a xs ∧ SqL K H b ys ∧ r = false)
def Eg (K : PySem.W.Frag) (H : Hp) : Nat → V → V → Bool → Prop
  | 0 => EgB K H
  | n + 1 => fun x y r => EgB K H x y r ∨ EgS K H (Eg K H n) x y r
theorem EgL.len {F : V → V → Bool → Prop} {xs ys : List V} {es : List Bool} (h : EgL F xs ys es) : es.length = min xs.length ys.length := by
  induction h with
  | nl => simp
  | nr => simp
  | cons _ _ ih => simp only [List.length_cons, ih]; omega
theorem EgL.at {F : V → V → Bool → Prop} {A : Around} {s : Shared} (ih : ∀ x y r v u, F x y r → RelV x v → RelV y u → EqAt A s v u r) {xs ys : List V} {es : List Bool} (h : EgL F xs ys es) :
    ∀ {us ws : List Value}, Vals xs us → Vals ys ws → ∀ j (h1 : j < us.length) (h2 : j < ws.length), EqAt A s us[j] ws[j] (es.getD j true) := by
  induction h with
  | nl => intro us ws r1 r2 j h1 h2; cases r1; exact absurd h1 (Nat.not_lt_zero j)
  | nr => intro us ws r1 r2 j h1 h2; cases r2; exact absurd h2 (Nat.not_lt_zero j)
  | cons f _ k =>
    intro us ws r1 r2 j h1 h2
    cases r1 with
    | cons a1 b1 =>
      cases r2 with
      | cons a2 b2 =>
        cases j with
        | zero => exact ih _ _ _ _ _ f a1 a2
        | succ j => exact k b1 b2 j (Nat.lt_of_succ_lt_succ h1) (Nat.lt_of_succ_lt_succ h2)
theorem EgL.same {F : V → V → Bool → Prop} (ih : ∀ x r, F x x r → r = true) : ∀ {xs : List V} {es : List Bool}, EgL F xs xs es → es.all id = true
  | [], _, h => by cases h <;> rfl
  | x :: xs, _, h => by
    cases h with
    | cons f t => rw [List.all_cons, ih _ _ f, EgL.same ih t]; rfl
theorem all_range (es : List Bool) (n : Nat) (e : es.length = n) : (List.range n).all (fun j => es.getD j true) = es.all id := by
  subst e
  rw [Bool.eq_iff_iff, List.all_eq_true, List.all_eq_true]
  constructor
  · intro h b m
    obtain ⟨j, lt, rfl⟩ := List.getElem_of_mem m
    have := h j (List.mem_range.mpr lt)
    rwa [List.getD_eq_getElem?_getD, List.getElem?_eq_getElem lt] at this
  · intro h j m
    have lt := List.mem_range.mp m
    rw [List.getD_eq_getElem?_getD, List.getElem?_eq_getElem lt]
    exact h _ (List.getElem_mem lt)
theorem eqV_self {x : V} (f : flatV x = true) : eqV x x = true := by
  cases x <;> first | (cases f; done) | rfl | simp [eqV]
section
variable {X : Cx} {pins : List (Addr × Obj)} {σ : L2.St} {H : Hp} {s : Shared}
theorem no_lt (I : Inv X pins σ H s) {a : Addr} {xs ys : List V} (h : SqL X.K H a xs) (k : SqT X.K H a ys) : False := by
  obtain ⟨its, _, pl, _⟩ := I.list h
  obtain ⟨its', _, pt, _⟩ := I.tuple k
  exact SeqAt.ne_of_list_tuple pl.isList pt rfl
theorem egB_self (I : Inv X pins σ H s) {x : V} {r : Bool} (h : EgB X.K H x x r) : r = true := by
  rcases h with ⟨f, _, rfl⟩ | ⟨a, _, _, rfl⟩ | ⟨a, rfl, _, f, _⟩ | ⟨a, rfl, _, f, _⟩ | ⟨a, _, _, rfl, _, e, _⟩ | ⟨a, _, _, rfl, _, e, _⟩
  · exact eqV_self f
  · rfl
  · cases f
  · cases f
  · cases e
  · cases e
theorem egS_self (I : Inv X pins σ H s) {F : V → V → Bool → Prop} (ih : ∀ x r, F x x r → r = true) {x : V} {r : Bool} (h : EgS X.K H F x x r) : r = true := by
  rcases h with ⟨a, b, xs, ys, es, rfl, e, h1, h2, l, rfl⟩ | ⟨a, b, xs, ys, es, rfl, e, h1, h2, l, rfl⟩ | ⟨a, b, xs, ys, rfl, e, h1, h2, _⟩ | ⟨a, b, xs, ys, rfl, e, h1, h2, _⟩
  · cases e
    obtain rfl := I.tuple_inj h1 h2
    rw [l.same ih]; simp
  · cases e
    obtain rfl := I.list_inj h1 h2
    rw [l.same ih]; simp
  · cases e; exact (no_lt I h1 h2).elim
  · cases e; exact (no_lt I h2 h1).elim
theorem eg_self (I : Inv X pins σ H s) : ∀ (n : Nat) (x : V) (r : Bool), Eg X.K H n x x r → r = true
  | 0, _, _, h => egB_self I h
  | n + 1, x, r, h => by
    rcases h with h | h
    · exact egB_self I h
    · exact egS_self I (eg_self I n) h
theorem sq_flat (I : Inv X pins σ H s) {A : Around} (hu : A.units < cLine) {a : Addr} (h : Sq X.K H a) {y : V} {u : Value} (ry : RelV y u) (f : flatV y = true) : EqAt A s (.ref a) u false ∧ EqAt A s u (.ref a) false := by
  rcases h with ⟨xs, h⟩ | ⟨xs, h⟩
  · obtain ⟨its, _, pl, _⟩ := I.list h
    cases y with
    | non => cases ry; exact ⟨EqAt.list_none pl.isList hu, EqAt.none_list pl.isList hu⟩
    | bl b => cases ry; exact ⟨EqAt.list_bool b pl.isList hu, EqAt.bool_list b pl.isList hu⟩
    | int i => obtain ⟨t, rfl⟩ := ry; exact ⟨EqAt.list_int i t pl.isList hu, EqAt.int_list i t pl.isList hu⟩
    | str z => obtain ⟨t, rfl⟩ := ry; exact ⟨EqAt.list_str z t pl.isList hu, EqAt.str_list z t pl.isList hu⟩
    | _ => cases f
  · obtain ⟨its, _, pl, _⟩ := I.tuple h
    cases y with
    | non => cases ry; exact ⟨EqAt.tuple_none pl hu, EqAt.none_tuple pl hu⟩
    | bl b => cases ry; exact ⟨EqAt.tuple_bool b pl hu, EqAt.bool_tuple b pl hu⟩
    | int i => obtain ⟨t, rfl⟩ := ry; exact ⟨EqAt.tuple_int i t pl hu, EqAt.int_tuple i t pl hu⟩
    | str z => obtain ⟨t, rfl⟩ := ry; exact ⟨EqAt.tuple_str z t pl hu, EqAt.str_tuple z t pl hu⟩
    | _ => cases f
theorem dk_cell (I : Inv X pins σ H s) {a : Addr} {ws : List (Key × V)} (e : H a = some (.dK ws)) : ∃ dd es ep sl, s.heap.get? a = some { cls := .type "dict", dict := dd, data := .dict es ep, slots := sl } := by
  obtain ⟨_, ya, va, ra, o, es, ep, h1, h2, h3, _⟩ := (show ObjOk X.prog X.w H s.heap a (.dK ws) from I.hok a _ e)
  obtain ⟨oc, od, dt, sl⟩ := o
  have e1 : oc = .type "dict" := h2.1
  subst e1
  have e3 : dt = .dict es ep := h3
  subst e3
  exact ⟨_, _, _, _, h1⟩
theorem egB_at (I : Inv X pins σ H s) {A : Around} (hu : A.units < cLine) {x y : V} {r : Bool} {v u : Value} (h : EgB X.K H x y r) (rx : RelV x v) (ry : RelV y u) : EqAt A s v u r := by
  rcases h with ⟨f, g, rfl⟩ | ⟨a, rfl, rfl, rfl⟩ | ⟨a, rfl, q, f, rfl⟩ | ⟨a, rfl, q, f, rfl⟩ | ⟨a, ws, z, rfl, e, rfl, rfl⟩ | ⟨a, ws, z, rfl, e, rfl, rfl⟩
  · exact eqAt_V rx ry f g
  · cases rx; cases ry; exact EqAt.same _
  · cases rx; exact (sq_flat I hu q ry f).1
  · cases ry; exact (sq_flat I hu q rx f).2
  · cases rx; obtain ⟨t, rfl⟩ := ry
    obtain ⟨_, _, _, _, ho⟩ := dk_cell I e
    exact at_dict_str z t ho hu
  · cases ry; obtain ⟨t, rfl⟩ := rx
    obtain ⟨_, _, _, _, ho⟩ := dk_cell I e
    exact at_str_dict z t ho hu
theorem egS_rc (I : Inv X pins σ H s) {A : Around} (hu : A.units < cLine) {F : V → V → Bool → Prop} (ih : ∀ x y r v u, F x y r → RelV x v → RelV y u → EqAt A.in1 s v u r) {x y : V} {r : Bool} {v u : Value} (h : EgS X.K H F x y r) (rx : RelV x v) (ry : RelV y u) : RcAt A s v u r ∧ RcNeAt A s v u (!r) := by
  rcases h with ⟨a, b, xs, ys, es, rfl, rfl, h1, h2, l, rfl⟩ | ⟨a, b, xs, ys, es, rfl, rfl, h1, h2, l, rfl⟩ | ⟨a, b, xs, ys, rfl, rfl, h1, h2, rfl⟩ | ⟨a, b, xs, ys, rfl, rfl, h1, h2, rfl⟩
  · cases rx; cases ry
    obtain ⟨us, r1, p1, _⟩ := I.tuple h1
    obtain ⟨ws, r2, p2, _⟩ := I.tuple h2
    have k := l.at ih r1 r2
    have e : ((List.range (min us.toArray.size ws.toArray.size)).all (fun j => es.getD j true) && us.toArray.size == ws.toArray.size) = (es.all id && decide (xs.length = ys.length)) := by
      rw [List.size_toArray, List.size_toArray, ← r1.length, ← r2.length, all_range _ _ l.len]
      congr 1
    have hk : ∀ j (h1 : j < us.toArray.size) (h2 : j < ws.toArray.size), EqAt A.in1 s us.toArray[j] ws.toArray[j] (es.getD j true) := fun j h1 h2 => by
      have := k j (by simpa using h1) (by simpa using h2)
      simpa using this
    have a1 := RcAt.tuples (e := fun j => es.getD j true) p1 p2 hu hk
    have a2 := RcNeAt.tuples (e := fun j => es.getD j true) p1 p2 hu hk
    rw [e] at a1 a2
    exact ⟨a1, a2⟩
  · cases rx; cases ry
    obtain ⟨us, r1, p1, _⟩ := I.list h1
    obtain ⟨ws, r2, p2, _⟩ := I.list h2
    have k := l.at ih r1 r2
    have hk : ∀ j (h1 : j < us.toArray.size) (h2 : j < ws.toArray.size), EqAt A.in1 s us.toArray[j] ws.toArray[j] (es.getD j true) := fun j h1 h2 => by
      have := k j (by simpa using h1) (by simpa using h2)
      simpa using this
    by_cases z : xs.length = ys.length
    · have hsz : us.toArray.size = ws.toArray.size := by rw [List.size_toArray, List.size_toArray, ← r1.length, ← r2.length, z]
      have e : (List.range us.toArray.size).all (fun j => es.getD j true) = (es.all id && decide (xs.length = ys.length)) := by
        rw [List.size_toArray, ← r1.length, all_range _ _ (by rw [l.len, z, Nat.min_self])]
        simp [z]
      have a1 := RcAt.lists (e := fun j => es.getD j true) p1.isList p2.isList hsz hu hk
      have a2 := RcNeAt.lists (e := fun j => es.getD j true) p1.isList p2.isList hsz hu hk
      rw [e] at a1 a2
      exact ⟨a1, a2⟩
    · have hsz : (us.toArray.size != ws.toArray.size) = true := by
        rw [List.size_toArray, List.size_toArray, ← r1.length, ← r2.length]
        simpa using z
      have e : (es.all id && decide (xs.length = ys.length)) = false := by simp [z]
      rw [e]
      exact ⟨RcAt.lists_lengths p1.isList p2.isList hsz hu, RcNeAt.lists_lengths p1.isList p2.isList hsz hu⟩
  · cases rx; cases ry
    obtain ⟨us, r1, p1, _⟩ := I.list h1
    obtain ⟨ws, r2, p2, _⟩ := I.tuple h2
    exact ⟨RcAt.list_tuple p1.isList p2 hu, RcNeAt.list_tuple p1.isList p2 hu⟩
  · cases rx; cases ry
    obtain ⟨us, r1, p1, _⟩ := I.tuple h1
    obtain ⟨ws, r2, p2, _⟩ := I.list h2
    exact ⟨RcAt.tuple_list p1 p2.isList hu, RcNeAt.tuple_list p1 p2.isList hu⟩
theorem egS_refs {F : V → V → Bool → Prop} {K : PySem.W.Frag} {x y : V} {r : Bool} (h : EgS K H F x y r) : ∃ a b, x = .ref a ∧ y = .ref b := by
  rcases h with ⟨a, b, _, _, _, e1, e2, _⟩ | ⟨a, b, _, _, _, e1, e2, _⟩ | ⟨a, b, _, _, e1, e2, _⟩ | ⟨a, b, _, _, e1, e2, _⟩ <;> exact ⟨a, b, e1, e2⟩
theorem eg_at (I : Inv X pins σ H s) : ∀ (n : Nat) (A : Around), A.units + n < cLine → ∀ (x y : V) (r : Bool) (v u : Value), Eg X.K H n x y r → RelV x v → RelV y u → EqAt A s v u r
  | 0, A, hu, x, y, r, v, u, h, rx, ry => egB_at I (by omega) h rx ry
  | n + 1, A, hu, x, y, r, v, u, h, rx, ry => by
    rcases h with h | h
    · exact egB_at I (by omega) h rx ry
    · have st := (egS_rc I (A := A) (by omega) (eg_at I n A.in1 (by show A.units + 1 + n < cLine; omega)) h rx ry).1
      obtain ⟨a, b, rfl, rfl⟩ := egS_refs h
      cases rx; cases ry
      by_cases e : a = b
      · subst e
        rw [egS_self I (eg_self I n) h]
        exact EqAt.same _
      · exact EqAt.of_refs e st
/-- some item is this -/
inductive EgA (F : V → V → Bool → Prop) (x : V) : List V → List Bool → Prop
  | nil : EgA F x [] []
  | cons {y b ys es} : F y x b → EgA F x ys es → EgA F x (y :: ys) (b :: es)
noncomputable def egU (us : List Value) (es : List Bool) (u : Value) : Bool := open Classical in decide (∃ i : Nat, us[i]? = some u ∧ es[i]? = some true)
theorem EgA.at {F : V → V → Bool → Prop} {A : Around} {s : Shared} {x : V} {v : Value} (rx : RelV x v) (ih : ∀ y r u, F y x r → RelV y u → EqAt A s u v r) {ys : List V} {es : List Bool} (h : EgA F x ys es) :
    ∀ {us : List Value}, Vals ys us → us.length = es.length ∧ ∀ (i : Nat) u b, us[i]? = some u → es[i]? = some b → EqAt A s u v b := by
  induction h with
  | nil => intro us r; cases r; exact ⟨rfl, fun i u b e => by simp at e⟩
  | cons f _ k =>
    intro us r
    cases r with
    | cons a t =>
      obtain ⟨l, g⟩ := k t
      refine ⟨by simp [l], fun i u b e1 e2 => ?_⟩
      cases i with
      | zero => simp at e1 e2; subst e1 e2; exact ih _ _ _ f a
      | succ i => exact g i u b (by simpa using e1) (by simpa using e2)
open Classical in
theorem egU_at {A : Around} {s : Shared} {v : Value} {us : List Value} {es : List Bool} (l : us.length = es.length) (g : ∀ (i : Nat) u b, us[i]? = some u → es[i]? = some b → EqAt A s u v b) : ∀ u ∈ us, EqAt A s u v (egU us es u) := by
  intro u m
  obtain ⟨i, lt, e⟩ := List.getElem_of_mem m
  unfold egU
  by_cases q : ∃ i : Nat, us[i]? = some u ∧ es[i]? = some true
  · rw [decide_eq_true q]
    obtain ⟨j, e1, e2⟩ := q
    exact g j u true e1 e2
  · rw [decide_eq_false q]
    have e1 : us[i]? = some u := by rw [List.getElem?_eq_getElem lt, e]
    have e2 : es[i]? = some es[i] := List.getElem?_eq_getElem (by omega)
    cases z : es[i] with
    | true => rw [z] at e2; exact absurd ⟨i, e1, e2⟩ q
    | false => rw [z] at e2; exact g i u false e1 e2
open Classical in
theorem egU_any {us : List Value} {es : List Bool} (l : us.length = es.length) : us.any (egU us es) = es.any id := by
  rw [Bool.eq_iff_iff, List.any_eq_true, List.any_eq_true]
  constructor
  · rintro ⟨u, m, q⟩
    unfold egU at q
    obtain ⟨i, _, e⟩ := of_decide_eq_true q
    exact ⟨true, List.mem_of_getElem? e, rfl⟩
  · rintro ⟨b, m, q⟩
    cases (show b = true from q)
    obtain ⟨i, lt, e⟩ := List.getElem_of_mem m
    refine ⟨us[i], List.getElem_mem _, ?_⟩
    unfold egU
    exact decide_eq_true ⟨i, List.getElem?_eq_getElem (by omega), by rw [List.getElem?_eq_getElem lt, e]⟩
end
section
variable {X : Cx}
def rNeDS : R2 := fun x y H Q => ∃ a kvs z, x = .ref a ∧ H a = some (.dK kvs) ∧ y = .str z ∧ Q (.bl true) H
theorem op_neDS (hu : X.A.units < cLine) : OpR X (compareOp .NotEq) rNeDS := by
  intro pins s σ H x y v u Q I rx ry h
  obtain ⟨a, kvs, z, rfl, ea, rfl, q⟩ := h
  obtain rfl : v = Value.ref a := rx
  obtain ⟨t, rfl⟩ : ∃ t, u = Value.str z t := ry
  obtain ⟨_, _, _, _, h1⟩ := dk_cell I ea
  exact rc_ne_dict_str z t h1 hu ⟨.bl true, H, I, rfl, q⟩
def rEg (K : PySem.W.Frag) : R2 := fun x y H Q => ∃ n r, n ≤ 60 ∧ EgS K H (Eg K H n) x y r ∧ Q (.bl r) H
def rEgN (K : PySem.W.Frag) : R2 := fun x y H Q => ∃ n r, n ≤ 60 ∧ EgS K H (Eg K H n) x y r ∧ Q (.bl (!r)) H
theorem op_eg (hu : X.A.units + 64 < cLine) : OpR X (compareOp .Eq) (rEg X.K) := by
  intro pins s σ H x y v u Q I rx ry h
  obtain ⟨n, r, hn, h, q⟩ := h
  exact (egS_rc I (A := X.A) (by omega) (eg_at I n X.A.in1 (by show X.A.units + 1 + n < cLine; omega)) h rx ry).1 _ _ _ _ ⟨.bl r, H, I, rfl, q⟩
theorem op_egN (hu : X.A.units + 64 < cLine) : OpR X (compareOp .NotEq) (rEgN X.K) := by
  intro pins s σ H x y v u Q I rx ry h
  obtain ⟨n, r, hn, h, q⟩ := h
  exact (egS_rc I (A := X.A) (by omega) (eg_at I n X.A.in1 (by show X.A.units + 1 + n < cLine; omega)) h rx ry).2 _ _ _ _ ⟨.bl (!r), H, I, rfl, q⟩
def rEgIn (K : PySem.W.Frag) (neg : Bool) : R2 := fun x y H Q => ∃ n p ys es, n ≤ 60 ∧ y = .ref p ∧ (SqL K H p ys ∨ SqT K H p ys) ∧ EgA (Eg K H n) x ys es ∧ Q (.bl (if neg then !es.any id else es.any id)) H
theorem op_egIn (hu : X.A.units + 64 < cLine) : OpR X (compareOp .In) (rEgIn X.K false) := by
  intro pins s σ H x y v u Q I rx ry h
  obtain ⟨n, p, ys, es, hn, rfl, hq, h, q⟩ := h
  cases ry
  rcases hq with hq | hq
  · obtain ⟨its, r, pl, hz⟩ := I.list hq
    obtain ⟨l, g⟩ := h.at rx (fun y r u f ry => eg_at I n X.A.in1 (by show X.A.units + 1 + n < cLine; omega) y x r u v f ry rx) r
    refine SeqAt.in_listAt (egU its es) pl.isList (fun w hw => egU_at l g w (by simpa using hw)) ⟨.bl _, H, I, rfl, ?_⟩
    rw [show its.toArray.any (egU its es) = its.any (egU its es) by simp, egU_any l]
    exact q
  · obtain ⟨its, r, pl, hz⟩ := I.tuple hq
    obtain ⟨l, g⟩ := h.at rx (fun y r u f ry => eg_at I n X.A.in1 (by show X.A.units + 1 + n < cLine; omega) y x r u v f ry rx) r
    refine SeqAt.in_tupleAt (egU its es) pl (fun w hw => egU_at l g w (by simpa using hw)) ⟨.bl _, H, I, rfl, ?_⟩
    rw [show its.toArray.any (egU its es) = its.any (egU its es) by simp, egU_any l]
    exact q
theorem op_egNotIn (hu : X.A.units + 64 < cLine) : OpR X (compareOp .NotIn) (rEgIn X.K true) := by
  intro pins s σ H x y v u Q I rx ry h
  obtain ⟨n, p, ys, es, hn, rfl, hq, h, q⟩ := h
  cases ry
  rcases hq with hq | hq
  · obtain ⟨its, r, pl, hz⟩ := I.list hq
    obtain ⟨l, g⟩ := h.at rx (fun y r u f ry => eg_at I n X.A.in1 (by show X.A.units + 1 + n < cLine; omega) y x r u v f ry rx) r
    refine SeqAt.notIn_listAt (egU its es) pl.isList (fun w hw => egU_at l g w (by simpa using hw)) ⟨.bl _, H, I, rfl, ?_⟩
    rw [show its.toArray.any (egU its es) = its.any (egU its es) by simp, egU_any l]
    exact q
  · obtain ⟨its, r, pl, hz⟩ := I.tuple hq
    obtain ⟨l, g⟩ := h.at rx (fun y r u f ry => eg_at I n X.A.in1 (by show X.A.units + 1 + n < cLine; omega) y x r u v f ry rx) r
    refine SeqAt.notIn_tupleAt (egU its es) pl (fun w hw => egU_at l g w (by simpa using hw)) ⟨.bl _, H, I, rfl, ?_⟩
    rw [show its.toArray.any (egU its es) = its.any (egU its es) by simp, egU_any l]
    exact q
end
end VH
/-! H5: a list, a tuple of a text's signs (own work). -/
namespace VH
open PySem PySem.Spec PyProof.Rows L2
def sigV (x : Str) : List V := x.cps.toList.map fun c => V.str ⟨#[c]⟩
theorem sig_vals {x : Str} {acc : Array Value} (hi : ItemsOf (SignAt x) acc x.cps.size) : Vals (sigV x) acc.toList := by
  refine vals_of_idx _ _ (by unfold sigV; rw [List.length_map, Array.length_toList, Array.length_toList]; exact hi.1) fun j u hj => ?_
  obtain ⟨c, t, hc, rfl⟩ := hi.2 j u (by rw [← Array.getElem?_toList]; exact hj)
  refine ⟨V.str ⟨#[c]⟩, ?_, ⟨t, rfl⟩⟩
  unfold sigV
  rw [List.getElem?_map, Array.getElem?_toList, hc]
  rfl
section
variable {X : Cx}
theorem call_listS (hc : X.calm = true) : CallR X (.type "list") (fun xs H Q => ∃ x, xs = [.str x] ∧ x.cps.size ≤ sizeLine ∧ ∀ q, H q = none → Q (.ref q) (upd H q (.lst (sigV x)))) := by
  intro pins s σ H xs us Q I r h
  obtain ⟨x, rfl, hz, q⟩ := h
  obtain ⟨u, rfl, ru⟩ := vals1 r
  obtain ⟨t, rfl⟩ : ∃ t, u = Value.str x t := ru
  refine call_list_str (I.ok.hd hc) x t (fun h' tk acc c' hk e hi => ?_) hz
  have sl : (sigV x).length ≤ sizeLine := by unfold sigV; rw [List.length_map, Array.length_toList]; exact hz
  exact ⟨.ref s.heap.objs.size, upd H s.heap.objs.size (.lst (sigV x)), I.laid hk (Nat.le_refl _) ⟨sl, acc.toList, c', sig_vals hi, by rw [Array.toArray_toList]; exact e⟩, rfl, q _ (I.hok.fresh (Nat.le_refl _))⟩
theorem call_tupS (hc : X.calm = true) : CallR X (.type "tuple") (fun xs H Q => ∃ x, xs = [.str x] ∧ x.cps.size ≤ sizeLine ∧ ∀ q, H q = none → Q (.ref q) (upd H q (.tup (sigV x)))) := by
  intro pins s σ H xs us Q I r h
  obtain ⟨x, rfl, hz, q⟩ := h
  obtain ⟨u, rfl, ru⟩ := vals1 r
  obtain ⟨t, rfl⟩ : ∃ t, u = Value.str x t := ru
  refine call_tuple_str (I.ok.hd hc) x t (fun h' tk acc hk hi => ?_) hz
  have sl : (sigV x).length ≤ sizeLine := by unfold sigV; rw [List.length_map, Array.length_toList]; exact hz
  have I1 : Inv X pins σ H { s with heap := h', toks := tk } := I.kept hk
  have I2 : Inv X pins σ (upd H h'.objs.size (.tup (sigV x))) { s with heap := h'.push { cls := .type "tuple", data := .seq acc }, toks := tk } := by
    refine I1.laid (t' := tk) (fun b o e => Heap.get?_push_of_some _ e) (Nat.le_refl _) ⟨sl, acc.toList, sig_vals hi, ?_⟩
    have := IsTup.new (h := h') acc.toList.toArray
    rw [Array.toArray_toList] at this ⊢
    exact this
  exact ⟨.ref h'.objs.size, _, I2, rfl, q _ (I1.hok.fresh (Nat.le_refl _))⟩
end
end VH
/-! H7: list.count of flat items, dict.pop of a key, sorted (own work). -/
namespace VH
open PySem PySem.Spec PyProof.Rows L2
section
variable {X : Cx}
def rCntF (K : PySem.W.Frag) : V → List V → Hp → VK → Prop := fun x xs H Q => ∃ (a : Addr) (ys : List V) (y : V), x = V.ref a ∧ xs = [y] ∧ SqL K H a ys ∧ flatV y = true ∧ ys.all flatV = true ∧ Q (.int ((ys.countP fun z => eqV z y : Nat))) H
theorem count_eqU {y : V} : ∀ {ys : List V} {us : List Value}, Vals ys us → ys.all flatV = true → us.countP (eqU y) = ys.countP fun z => eqV z y
  | _, _, .nil, _ => rfl
  | z :: ys, u :: us, .cons r t, f => by
    rw [List.all_cons, Bool.and_eq_true] at f
    rw [List.countP_cons, List.countP_cons, count_eqU t f.2, eqU_of r f.1]
theorem mt_lcountF : MtR X "list.count" (rCntF X.K) := by
  intro pins s σ H x xs v us Q I rx rxs h
  obtain ⟨a, ys, y, rfl, rfl, hs, fy, fys, q⟩ := h
  cases rx
  cases rxs with
  | cons ry rt =>
    rename_i uy ut
    cases rt
    obtain ⟨its, rv, ⟨⟨cls, dd, data, sl⟩, n, ho, hc, hdn, hd⟩, hlen⟩ := I.list hs
    simp only at hc hd
    subst hc hd
    refine call_meets PySem.F.slot_list_count ⟨_, ho, rfl⟩ PySem.F.entry_list_count (PySem.F.args_list_count_2 _ _)
      (SeqAt.list_countAt a its.toArray n dd sl uy (eqU y)) ⟨ho, fun u' hu' => mem_eqAt ry fy rv fys u' (by simpa using hu'), ?_⟩
    refine ⟨.int ((ys.countP fun z => eqV z y : Nat)), H, I.tok _, ⟨s.toks, ?_⟩, q⟩
    show Value.int ((its.toArray.toList.countP (eqU y) : Nat) : Int) s.toks = _
    rw [show its.toArray.toList = its from rfl, count_eqU rv fys]
def rDpop1 : V → List V → Hp → VK → Prop := fun x xs H Q => ∃ (a : Addr) (kvs : List (Key × V)) (k : Key) (v : V), x = .ref a ∧ xs = [kV k] ∧ H a = some (.dK kvs) ∧ valV kvs k = some v ∧ Q v (upd H a (.dK (dropK kvs k)))
theorem mt_dpop1 (hu : X.A.units + 1 < cLine) : MtR X "dict.pop" rDpop1 := by
  intro pins s σ H x xs v us Q I rx rxs h
  obtain ⟨a, kvs, k, y, rfl, rfl, ha, hk, q⟩ := h
  cases rx
  obtain ⟨u, rfl, ru⟩ := vals1 rxs
  exact d_pop I ha ru hk (.inl rfl) fun w' s' I' rw' => ⟨_, _, I', rw', q⟩
def rSortA (K : PySem.W.Frag) : List V → Hp → VK → Prop := fun vs H Q => rSortedI K vs H Q ∨ ∃ d B, 1 ≤ d ∧ rSortU K d B vs H Q
theorem cr_sortedA : CallR X (.builtin "sorted") (rSortA X.K) := by
  intro pins s σ H vs us Q I r h
  rcases h with h | ⟨d, B, hd, h⟩
  · exact cr_sortedI pins s σ H vs us Q I r h
  · exact cr_sortT hd pins s σ H vs us Q I r h
end
/-! ### one sorted row -/
theorem perm_one {α : Type} {le : α → α → Prop} (anti : ∀ a b, le a b → le b a → a = b) : ∀ {l m : List α}, l.Perm m → l.Pairwise le → m.Pairwise le → l = m
  | [], m, p, _, _ => (List.perm_nil.mp p.symm).symm
  | a :: l, [], p, _, _ => by cases List.perm_nil.mp p
  | a :: l, b :: m, p, h1, h2 => by
    have a1 := List.pairwise_cons.mp h1
    have a2 := List.pairwise_cons.mp h2
    have e : a = b := by
      rcases List.mem_cons.mp (p.mem_iff.mp List.mem_cons_self) with e | e
      · exact e
      · rcases List.mem_cons.mp (p.mem_iff.mpr List.mem_cons_self) with e2 | e2
        · exact e2.symm
        · exact anti a b (a1.1 b e2) (a2.1 a e)
    subst e
    rw [perm_one anti (List.Perm.cons_inv p) a1.2 a2.2]
end VH
/-! H8: list(reversed(a list)) (own work). -/
namespace VH
open PySem PySem.Spec PyProof.Rows L2 RT
section
variable {prog : Program} {w : World} {A : Around} {E : Value → Shared → Prop} {s : Shared}
theorem extend_rev {R : Result → Shared → Prop} {it l : Addr} {items : Array Value} (hh : A.handled = none) (S : Addr) (res : Value) (c₀ : Nat) (hS : s.heap.get? S = some { cls := .type "list", data := .seq #[] c₀ })
    (hit : s.heap.IsRevIter it l ((items.size : Int) - 1)) (hl : s.heap.IsList l items) (hne : l ≠ it) (hSi : S ≠ it) (hSl : S ≠ l) (hn : items.size ≤ sizeLine)
    (hR : ∀ h' tk acc' c', (∀ b o, b ≠ S → b ≠ it → s.heap.get? b = some o → h'.get? b = some o) → h'.get? S = some { cls := .type "list", dict := none, data := .seq acc' c', slots := #[] } →
      ItemsOf (fun i v => items[items.size - 1 - i]? = some v) acc' items.size → R (.ok (.ret res)) { s with heap := h', toks := tk }) :
    wpAny (model prog w) A.in1 (Builtin.List.listExtendWith (.ref S) (.ref it) res)
      (fun fin s' => match fin with | .done f => R (.ok f) s' | .again c' => c'.quiet = true ∧ codeAny (model prog w) A c' R s') (fun e s' => R (.error e) s') s := by
  have W := (Walks.listRev (prog := prog) (w := w) (A := A.in1) hh it l hne items).toS
  have hSf : S ∉ [it, l] := by simp only [List.mem_cons, List.not_mem_nil, or_false, not_or]; exact ⟨hSi, hSl⟩
  have hT : s.TypeIs (.ref it) "list_reverseiterator" := Heap.IsRevIter.typeIs hit
  have h1 : Builtin.List.listSameRef (.ref S) (.ref it) = false := by simp [Builtin.List.listSameRef, hSi]
  unfold Builtin.List.listExtendWith
  refine wpAny_bind (wpAny_typeOf hT ?_)
  rw [if_neg (by rw [h1]; decide)]
  refine wpAny_bind (wpAny_pyIter_revIter hit ?_)
  refine wpAny_bind (wpAny_holding ?_)
  unfold Builtin.List.listLengthHint
  refine wpAny_bind (wpAny_specialOf hT nolen_lri ?_)
  show wpAny _ A.in1 (specialOf (Value.ref it) (Str.ofString "__length_hint__") >>= _) _ _ _
  refine wpAny_bind (wpAny_specialOf hT hint_lri ?_)
  generalize hid : ("list_reverseiterator.__length_hint__" : String) = id0
  wp_delta
  rw [show splitId id0 = some ("list_reverseiterator", "__length_hint__") from by subst hid; decide +kernel]
  subst hid
  refine wpAny_bind (wpAny_isInstance (b := true) hT (by rw [isSubtype_type]; kernel_rfl) ?_)
  refine wpAny_pure ?_
  rw [if_neg (by decide)]
  have e0 : ((items.size : Nat) : Int) - 1 - ((0 : Nat) : Int) = (items.size : Int) - 1 := by omega
  refine wpAny_pure ⟨plainId_quiet F.plain_extend_loop _, codeAny_extend_loopS W hn _ hSf _ items.size 0 _ _ _ rfl (Nat.zero_le _) ⟨Nat.zero_le _, by rw [e0]; exact hit, hl⟩ hS (ItemsOf.nil _) fun s' acc' c' hm hS' hacc => ?_⟩
  rw [Moved.eq_with hm]
  refine hR s'.heap s'.toks acc' c' (fun b o hb hb2 e => hm.heap b o (fun hmem => ?_) e) hS' hacc
  rcases List.mem_cons.mp hmem with e' | hmem
  · exact hb e'
  · exact hb2 (List.mem_singleton.mp hmem)
theorem call_list_rev {it l : Addr} {items : Array Value} {Q : Value → Shared → Prop} (hh : A.handled = none) (hit : s.heap.IsRevIter it l ((items.size : Int) - 1)) (hl : s.heap.IsList l items) (hne : l ≠ it) (hn : items.size ≤ sizeLine)
    (hQ : ∀ h' tk acc' c', (∀ b o, b ≠ it → s.heap.get? b = some o → h'.get? b = some o) →
      h'.get? s.heap.objs.size = some { cls := .type "list", dict := none, data := .seq acc' c', slots := #[] } → ItemsOf (fun i v => items[items.size - 1 - i]? = some v) acc' items.size → Q (.ref s.heap.objs.size) { s with heap := h', toks := tk }) :
    wpAny (model prog w) A (call (.type "list") [.ref it]) Q E s := by
  refine callType_codes (Q₁ := fun obj s₁ => obj = .ref s.heap.objs.size ∧ s₁ = { s with heap := s.heap.push { cls := .type "list", data := .seq #[] } }) F.called_list (F.typeCall_list_1 _) F.entry_list_init
    (code_list_new _ ⟨rfl, rfl⟩) fun obj s₁ h₁ => ?_
  obtain ⟨rfl, rfl⟩ := h₁
  obtain ⟨oi, hoi, _⟩ := id hit
  obtain ⟨ol, hol, _⟩ := id hl
  have hSi : s.heap.objs.size ≠ it := Nat.ne_of_gt (Heap.lt_size hoi)
  have hSl : s.heap.objs.size ≠ l := Nat.ne_of_gt (Heap.lt_size hol)
  have hS : (s.heap.push { cls := .type "list", data := .seq #[] }).get? s.heap.objs.size = some { cls := .type "list", data := .seq #[] } := Heap.get?_push_size _ rfl
  refine ⟨⟨_, hS, rfl⟩, F.args_list_init_2 _ _, ?_⟩
  show wpAny _ A.in1.in1 (do let old ← Builtin.List.listItems (.ref s.heap.objs.size); Builtin.List.listUpdate (.ref s.heap.objs.size) (fun _ => #[]); letGo old.toList.reverse; Builtin.List.listExtendWith (.ref s.heap.objs.size) (.ref it) .none) _ _ _
  refine wpAny_bind ?_
  unfold Builtin.List.listItems
  refine wpAny_bind (wpAny_seqItems hS rfl (wpAny_pure ?_))
  show wpAny _ A.in1.in1 (updateSeq s.heap.objs.size (fun _ => #[]) >>= fun _ => letGo (#[] : Array Value).toList.reverse >>= fun _ => Builtin.List.listExtendWith (.ref s.heap.objs.size) (.ref it) .none) _ _ _
  refine wpAny_bind (wpAny_updateSeq hS rfl ?_)
  have hS₂ := Heap.get?_update_self (Obj.mapSeq (fun _ => (#[] : Array Value))) hS rfl
  have oth : ∀ b o, b ≠ s.heap.objs.size → s.heap.get? b = some o → ((s.heap.push { cls := .type "list", data := .seq #[] }).update s.heap.objs.size (Obj.mapSeq (fun _ => (#[] : Array Value)))).get? b = some o :=
    fun b o hb e => (Heap.get?_update_other _ _ (Ne.symm hb)).trans (Heap.get?_push_of_some _ e)
  refine wpAny_bind (wpAny_letGo ?_)
  refine extend_rev (A := A.in1) (it := it) (l := l) (items := items) hh s.heap.objs.size .none _ hS₂ ?_ ?_ hne hSi hSl hn fun h' tk acc' c' hk hS' hacc => ?_
  · exact hit.at fun o e => oth _ _ (Ne.symm hSi) e
  · obtain ⟨o, ho, r⟩ := hl
    exact ⟨o, oth _ _ (Ne.symm hSl) ho, r⟩
  · exact ⟨rfl, hQ h' tk acc' c' (fun b o hb e => hk b o (Nat.ne_of_lt (Heap.lt_size e)) hb (oth b o (Nat.ne_of_lt (Heap.lt_size e)) e)) hS' hacc⟩
end
section
variable {X : Cx}
def tListRev (K : PySem.W.Frag) (te : TE) : TE := fun σ H Q => te σ H fun v H1 => ∃ (a : Addr) (xs : List V), v = .ref a ∧ SqL K H1 a xs ∧ ∀ q, H1 q = none → Q (.ref q) (upd H1 q (.lst xs.reverse))
theorem pe_listRev {e : Expr} {te : TE} {p p2 pos pos2 : Pos} (hc : X.calm = true) (hg : Gl X "list") (hm : X.mg "list" = none) (hg2 : Gl X "reversed") (hm2 : X.mg "reversed" = none) (hb : bootBuiltins "list" = some (.type "list")) (he : PE X e te)
    (hs : starEach [e] X.env = (false, eval e X.env) :: starEach [] X.env)
    (hs2 : starEach [.Call (.Name "reversed" p2) [e] [] pos2] X.env = (false, eval (.Call (.Name "reversed" p2) [e] [] pos2) X.env) :: starEach [] X.env := by rfl) :
    PE X (.Call (.Name "list" p) [.Call (.Name "reversed" p2) [e] [] pos2] [] pos) (tListRev X.K te) := by
  refine ⟨fun pins s σ H Q I h => ?_⟩
  refine Call_ (ld_blt I hg hm hb (PyProof.Rows.callWith_type1 (args_cons (Call_ (ld_blt I hg2 hm2 PyProof.Rows.boot_reversed (PyProof.Rows.callWith_type1 (args_cons (thn (he.run pins s σ H _ I h) fun u s1 ⟨v, H1, I1, r1, q1⟩ => args_nil ?_) hs) hs rfl))) hs2) hs2 rfl))
  obtain ⟨a, xs, ev, hq, q⟩ := q1
  subst ev
  obtain rfl : u = Value.ref a := r1
  obtain ⟨its, rv, p', hz⟩ := I1.list hq
  refine call_reversed_list p'.isList (args_nil ?_)
  have hl := p'.isList
  obtain ⟨ol, hol, _⟩ := id hl
  have hne : a ≠ s1.heap.objs.size := Nat.ne_of_lt (Heap.lt_size hol)
  have hn : its.toArray.size ≤ sizeLine := by rw [List.size_toArray, ← rv.length]; exact hz
  refine call_list_rev (s := { s1 with heap := s1.heap.push (revObj a ((its.toArray.size : Int) - 1)) }) (I1.ok.hd hc) ⟨_, Heap.get?_push_size _ rfl, rfl, rfl⟩ (hl.push _) hne hn fun h' tk acc c' hk hS hi => ?_
  have kp : ∀ b o, s1.heap.get? b = some o → h'.get? b = some o := fun b o e => hk b o (Nat.ne_of_lt (Heap.lt_size e)) (Heap.get?_push_of_some _ e)
  have sz : s1.heap.objs.size ≤ (s1.heap.push (revObj a ((its.toArray.size : Int) - 1))).objs.size := by
    show s1.heap.objs.size ≤ (s1.heap.objs.push _).size
    rw [Array.size_push]; exact Nat.le_succ _
  exact ⟨.ref _, upd H1 _ (.lst xs.reverse), I1.laid (t' := tk) kp sz (show ObjOk X.prog X.w _ h' _ (.lst xs.reverse) from ⟨by rw [List.length_reverse]; exact hz, acc.toList, c', vals_rev rv hi, by rw [Array.toArray_toList]; exact hS⟩), rfl, q _ (I1.hok.fresh sz)⟩
end
end VH
/-! H9: min, max of a tuple of whole numbers (own work). -/
namespace VH
open PySem PySem.Spec PyProof.Rows L2
section
variable {prog : Program} {w : World} {A : Around} {E : Value → Shared → Prop} {s : Shared} {l : Addr} {xs : Array (Int × Tok)}
theorem iter_intTup {Q : Value → Shared → Prop} (hl : s.heap.IsTuple l (intItems xs))
    (h : ∀ s₂ : Shared, s₂ = { s with heap := s.heap.push { cls := .type "tuple_iterator", data := .fields #[.ref l, .int 0 0] } } →
      (s₂.heap.IsTupleIter s.heap.objs.size l 0 ∧ s₂.heap.IsTuple l (intItems xs)) → (∀ b ∈ [s.heap.objs.size, l], b < s₂.heap.objs.size) → l ≠ s.heap.objs.size → Q (.ref s.heap.objs.size) s₂) :
    wpAny (model prog w) A (pyIter (.ref l)) Q E s := by
  obtain ⟨ol, hol, r⟩ := id hl
  have hlt : l < s.heap.objs.size := Heap.lt_size hol
  refine wpAny_pyIter_tuple hl (h _ rfl ⟨⟨_, Heap.get?_push_size _ rfl, rfl, rfl⟩, ⟨ol, Heap.get?_push_of_some _ hol, r⟩⟩ (fun b hb => ?_) (Nat.ne_of_lt hlt))
  show b < (s.heap.push _).objs.size
  rw [Heap.size_push]
  rcases List.mem_cons.mp hb with rfl | hb
  · exact Nat.lt_succ_self _
  · rcases List.mem_cons.mp hb with rfl | hb
    · exact Nat.lt_succ_of_lt hlt
    · cases hb
theorem old_keptT {h' : Heap} (hk : ∀ b o, b ∉ [s.heap.objs.size] → (s.heap.push { cls := .type "tuple_iterator", data := .fields #[.ref l, .int 0 0] }).get? b = some o → h'.get? b = some o) :
    ∀ b o, s.heap.get? b = some o → h'.get? b = some o := fun b o e => by
  refine hk b o (fun hm => ?_) (Heap.get?_push_of_some _ e)
  rcases List.mem_cons.mp hm with e1 | hm
  · exact absurd (e1 ▸ Heap.lt_size e) (Nat.lt_irrefl _)
  · cases hm
theorem max_intTup {Q : Value → Shared → Prop} (hh : A.handled = none) (hl : s.heap.IsTuple l (intItems xs)) (hne : 0 < xs.size)
    (h : ∀ v h' tk, (intItems xs)[argBest (fun i j => decide (numAt xs i > numAt xs j)) (xs.size - 1)]? = some v → (∀ b o, s.heap.get? b = some o → h'.get? b = some o) → Q v { s with heap := h', toks := tk }) :
    wpAny (model prog w) A (call (.builtin "max") [.ref l]) Q E s := by
  refine call_max_walk (iter_intTup hl fun s₂ e st hfp hlI => ?_)
  subst e
  refine ⟨_, _, _, _, _, _, _, rfl, Walks.tuple (A := A.in1) hh _ l hlI (intItems xs), st, hfp, by simpa [intItems] using hne, CmpOf.ints_gt (numAt xs) (fun _ _ => intItems_at), fun v h' tk hP hk => ?_⟩
  exact h v h' tk (by simpa [intItems] using hP) (old_keptT hk)
theorem min_intTup {Q : Value → Shared → Prop} (hh : A.handled = none) (hl : s.heap.IsTuple l (intItems xs)) (hne : 0 < xs.size)
    (h : ∀ v h' tk, (intItems xs)[argBest (fun i j => decide (numAt xs i < numAt xs j)) (xs.size - 1)]? = some v → (∀ b o, s.heap.get? b = some o → h'.get? b = some o) → Q v { s with heap := h', toks := tk }) :
    wpAny (model prog w) A (call (.builtin "min") [.ref l]) Q E s := by
  refine call_min_walk (iter_intTup hl fun s₂ e st hfp hlI => ?_)
  subst e
  refine ⟨_, _, _, _, _, _, _, rfl, Walks.tuple (A := A.in1) hh _ l hlI (intItems xs), st, hfp, by simpa [intItems] using hne, CmpOf.ints_lt (numAt xs) (fun _ _ => intItems_at), fun v h' tk hP hk => ?_⟩
  exact h v h' tk (by simpa [intItems] using hP) (old_keptT hk)
end
section
variable {prog : Program} {w : World} {A : Around} {E : Value → Shared → Prop} {s : Shared} {l : Addr} {its : List Value} {ns : List Int} {Q : Value → Shared → Prop}
theorem max_rawT (hh : A.handled = none) (hl : s.heap.IsTuple l its.toArray) (hi : IntsAre its ns) (hne : 0 < ns.length)
    (h : ∀ h' tk M t', (∀ b o, s.heap.get? b = some o → h'.get? b = some o) → M ∈ ns → (∀ a, a ∈ ns → a ≤ M) → Q (.int M t') { s with heap := h', toks := tk }) : wpAny (model prog w) A (call (.builtin "max") [.ref l]) Q E s := by
  obtain ⟨xs, e⟩ := hi.allInts.items
  have hn : numsOf (intItems xs).toList = ns := by rw [← e]; exact hi.numsOf
  rw [nums_intItems] at hn
  subst hn
  rw [e] at hl
  have hsz : 0 < xs.size := by simpa using hne
  refine max_intTup hh hl hsz fun v h' tk hv hk => ?_
  obtain ⟨t, rfl⟩ := intItems_at hv
  obtain ⟨h1, h2⟩ := argBest_gt (numAt xs) (xs.size - 1)
  refine h h' tk _ t hk ?_ fun a ha => ?_
  · rw [numAt_eq]; exact PySem.getD_mem (by rw [List.length_map, Array.length_toList]; omega)
  · obtain ⟨j, hj, rfl⟩ := mem_getD ha
    rw [List.length_map, Array.length_toList] at hj
    rw [← numAt_eq]; exact h2 j (by omega)
theorem min_rawT (hh : A.handled = none) (hl : s.heap.IsTuple l its.toArray) (hi : IntsAre its ns) (hne : 0 < ns.length)
    (h : ∀ h' tk M t', (∀ b o, s.heap.get? b = some o → h'.get? b = some o) → M ∈ ns → (∀ a, a ∈ ns → M ≤ a) → Q (.int M t') { s with heap := h', toks := tk }) : wpAny (model prog w) A (call (.builtin "min") [.ref l]) Q E s := by
  obtain ⟨xs, e⟩ := hi.allInts.items
  have hn : numsOf (intItems xs).toList = ns := by rw [← e]; exact hi.numsOf
  rw [nums_intItems] at hn
  subst hn
  rw [e] at hl
  have hsz : 0 < xs.size := by simpa using hne
  refine min_intTup hh hl hsz fun v h' tk hv hk => ?_
  obtain ⟨t, rfl⟩ := intItems_at hv
  obtain ⟨h1, h2⟩ := argBest_lt (numAt xs) (xs.size - 1)
  refine h h' tk _ t hk ?_ fun a ha => ?_
  · rw [numAt_eq]; exact PySem.getD_mem (by rw [List.length_map, Array.length_toList]; omega)
  · obtain ⟨j, hj, rfl⟩ := mem_getD ha
    rw [List.length_map, Array.length_toList] at hj
    rw [← numAt_eq]; exact h2 j (by omega)
end
section
variable {X : Cx}
def rMaxT (K : PySem.W.Frag) : List V → Hp → VK → Prop := fun vs H Q => ∃ (a : Addr) (ns : List Int), vs = [V.ref a] ∧ SqT K H a (ns.map V.int) ∧ 0 < ns.length ∧ ∀ m, m ∈ ns → (∀ y, y ∈ ns → y ≤ m) → Q (.int m) H
def rMinT (K : PySem.W.Frag) : List V → Hp → VK → Prop := fun vs H Q => ∃ (a : Addr) (ns : List Int), vs = [V.ref a] ∧ SqT K H a (ns.map V.int) ∧ 0 < ns.length ∧ ∀ m, m ∈ ns → (∀ y, y ∈ ns → m ≤ y) → Q (.int m) H
theorem cr_maxT (hc : X.calm = true) : CallR X (.builtin "max") (rMaxT X.K) := by
  intro pins s σ H vs us Q I r h
  obtain ⟨a, ns, rfl, hs, hne, q⟩ := h
  obtain ⟨its, rv, hl, _⟩ := I.tuple hs
  rw [Vals.ref1 r]
  exact max_rawT (I.ok.hd hc) hl rv.ints hne fun h' tk m t' hk h1 h2 => ⟨.int _, H, I.kept hk, ⟨_, rfl⟩, q m h1 h2⟩
theorem cr_minT (hc : X.calm = true) : CallR X (.builtin "min") (rMinT X.K) := by
  intro pins s σ H vs us Q I r h
  obtain ⟨a, ns, rfl, hs, hne, q⟩ := h
  obtain ⟨its, rv, hl, _⟩ := I.tuple hs
  rw [Vals.ref1 r]
  exact min_rawT (I.ok.hd hc) hl rv.ints hne fun h' tk m t' hk h1 h2 => ⟨.int _, H, I.kept hk, ⟨_, rfl⟩, q m h1 h2⟩
end
end VH
/-! H10: a text times a whole number (own work). -/
namespace VI
open PySem PySem.Spec PyProof.Rows L2
theorem mulT_sOf (a : List Char) (j : Int) : Txt.mul (sOf a) j = sOf (List.replicate j.toNat a).flatten := by
  have ln : (sOf a).length = a.length := by
    show ((a.map Char.toNat).toArray).size = a.length
    rw [List.size_toArray, List.length_map]
  have f0 : ∀ m : Nat, List.foldl (fun x1 x2 => x1 ++ x2) #[] (List.replicate m (a.map Char.toNat).toArray) = (((List.replicate m a).flatten).map Char.toNat).toArray := fun m => by
    have go : ∀ (m : Nat) (acc : List Nat), List.foldl (fun x1 x2 => x1 ++ x2) acc.toArray (List.replicate m (a.map Char.toNat).toArray) = (acc ++ ((List.replicate m a).flatten).map Char.toNat).toArray := fun m => by
      induction m with
      | zero => intro acc; simp
      | succ m ih =>
        intro acc
        rw [List.replicate_succ, List.foldl_cons, List.append_toArray, ih, List.replicate_succ, List.flatten_cons, List.map_append, List.append_assoc]
    have := go m []
    rw [List.nil_append] at this
    exact this
  unfold Txt.mul
  split
  · rw [show j.toNat = 0 by omega]; rfl
  · split
    · rename_i h1 h2
      rw [Bool.or_eq_true, beq_iff_eq, beq_iff_eq, ln] at h2
      rcases h2 with h2 | h2
      · subst h2; simp
      · rw [List.length_eq_zero_iff.mp h2]
        have : ∀ n, (List.replicate n ([] : List Char)).flatten = [] := fun n => by simp
        rw [this]
    · show (⟨List.foldl (fun x1 x2 => x1 ++ x2) #[] (List.replicate j.toNat (a.map Char.toNat).toArray)⟩ : Str) = _
      rw [f0]; rfl
theorem op_repS {X : Cx} : OpR X (binaryOp .Mult) (fun x y H Q => ∃ a j, x = .str (sOf a) ∧ y = .int j ∧ -(2 ^ 63) ≤ j ∧ j < 2 ^ 63 ∧ a.length * j.toNat ≤ SZ ∧ Q (.str (sOf (List.replicate j.toNat a).flatten)) H) := by
  intro pins s σ H x y v u Q I rx ry h
  obtain ⟨a, j, rfl, rfl, h1, h2, hz, q⟩ := h
  obtain ⟨t, rfl⟩ := rx
  obtain ⟨t', rfl⟩ := ry
  have ln : (sOf a).length = a.length := by
    show ((a.map Char.toNat).toArray).size = a.length
    rw [List.size_toArray, List.length_map]
  refine SB.mul ⟨?_, fun h3 _ => ?_, fun _ _ => ?_⟩ (fun t'' k => ?_)
  · rw [decide_eq_false (by omega), decide_eq_false (by omega)]; rfl
  · rw [ln]
    obtain ⟨k, rfl⟩ := Int.eq_ofNat_of_zero_le (by omega : 0 ≤ j)
    rw [Int.toNat_natCast] at hz
    have hz' : (a.length * k : Nat) ≤ 2 ^ 63 - 1 := by
      have : SZ ≤ 2 ^ 63 - 1 := by decide
      omega
    have : (a.length : Int) ≤ (2 ^ 63 - 1) / (k : Int) := by
      rw [Int.le_ediv_iff_mul_le (by omega)]
      have e : ((a.length * k : Nat) : Int) = (a.length : Int) * (k : Int) := by push_cast; rfl
      rw [← e]; omega
    omega
  · rw [ln]
    show decide (_ > sizeLine) = false
    rw [decide_eq_false]
    rw [show sizeLine = SZ from sizeLine_eq]; omega
  · rw [mulT_sOf]
    exact ⟨.str _, H, I.tok _, ⟨_, rfl⟩, q⟩
/-! ### x.split(c) -/
def splitN (c : Nat) : List Nat → List (List Nat)
  | [] => [[]]
  | x :: r => if x = c then [] :: splitN c r else match splitN c r with
    | [] => [[x]]
    | w :: ws => (x :: w) :: ws
theorem splitN_app (c : Nat) (r : List Nat) : ∀ w : List Nat, c ∉ w → splitN c (w ++ c :: r) = w :: splitN c r
  | [], _ => by rw [List.nil_append, splitN, if_pos rfl]
  | x :: w, h => by
    rw [List.mem_cons] at h
    rw [List.cons_append, splitN, if_neg (fun e => h (.inl e.symm)), splitN_app c r w fun m => h (.inr m)]
theorem splitN_free (c : Nat) : ∀ w : List Nat, c ∉ w → splitN c w = [w]
  | [], _ => rfl
  | x :: w, h => by
    rw [List.mem_cons] at h
    rw [splitN, if_neg (fun e => h (.inl e.symm)), splitN_free c w fun m => h (.inr m)]
theorem splitN_join (c : Nat) : ∀ ws : List Str, ws ≠ [] → (∀ p ∈ ws, c ∉ p.cps.toList) → splitN c (Str.join ⟨#[c]⟩ ws).cps.toList = ws.map (·.cps.toList)
  | [], h, _ => absurd rfl h
  | [w], _, h => splitN_free c w.cps.toList (h w (by simp))
  | w :: v :: r, _, h => by
    have ih := splitN_join c (v :: r) (by simp) fun p m => h p (by simp [m])
    have e : (Str.join ⟨#[c]⟩ (w :: v :: r)).cps.toList = w.cps.toList ++ c :: (Str.join ⟨#[c]⟩ (v :: r)).cps.toList := by
      show ((w.cps ++ #[c]) ++ (Str.join ⟨#[c]⟩ (v :: r)).cps).toList = _
      simp
    rw [e, splitN_app c _ _ (h w (by simp)), ih]; rfl
theorem splitN_S (c : Char) : ∀ x : List Char, splitN c.toNat (x.map Char.toNat) = (splitS c x).map (·.map Char.toNat)
  | [] => rfl
  | x :: r => by
    rw [List.map_cons, splitN, splitS, splitN_S c r]
    by_cases e : x = c
    · rw [if_pos e, if_pos (by rw [e])]; rfl
    · rw [if_neg e, if_neg (show ¬ x.toNat = c.toNat from fun q => e (Char.ext (UInt32.toNat_inj.mp q)))]
      cases splitS c r <;> rfl
theorem split_w (x : List Char) (c : Char) : Txt.split (sOf x) (sOf [c]) = (splitS c x).map sOf := by
  have e1 : Txt.split (sOf x) (sOf [c]) ≠ [] := fun e => by
    have := PyProof.Rows.split_pos (sOf x) (sOf [c])
    rw [e] at this; simp at this
  have e2 := splitN_join c.toNat _ e1 (StrLaws.split_free (sOf x) c.toNat)
  have e3 := StrLaws.join_split (sOf x) (sOf [c])
  rw [show (⟨#[c.toNat]⟩ : Str) = sOf [c] from rfl, e3] at e2
  have e4 : (sOf x).cps.toList = x.map Char.toNat := rfl
  rw [e4, splitN_S] at e2
  have e5 := congrArg (List.map fun l : List Nat => (⟨l.toArray⟩ : Str)) e2
  simp only [List.map_map] at e5
  have e6 : ((fun l : List Nat => (⟨l.toArray⟩ : Str)) ∘ fun x : Str => x.cps.toList) = id := by
    funext s; simp
  have e7 : ((fun l : List Nat => (⟨l.toArray⟩ : Str)) ∘ fun x : List Char => x.map Char.toNat) = sOf := rfl
  rw [e6, e7, List.map_id] at e5
  exact e5.symm
theorem len_sOf1 (c : Char) : ((sOf [c]).length == 0) = false := rfl
end VI
/-! H11: x.find(c, i), x.rfind(c, 0, j) of one sign (own work). -/
namespace VI
open PySem PySem.Spec PyProof.Rows L2
theorem len_sO (x : List Char) : (sOf x).length = x.length := by
  show ((x.map Char.toNat).toArray).size = x.length
  rw [List.size_toArray, List.length_map]
theorem toNat_inj {c d : Char} : c.toNat = d.toNat ↔ c = d := ⟨fun e => Char.ext (UInt32.toNat_inj.mp e), fun e => by rw [e]⟩
theorem sub_at (x : List Char) (c : Char) (i : Nat) : Builtin.Str.subAt (sOf x) (sOf [c]) i = true ↔ x[i]? = some c := by
  show ((x.map Char.toNat).toArray.extract i (i + 1) == #[c.toNat]) = true ↔ _
  rw [beq_iff_eq]
  constructor
  · intro e
    have e2 := congrArg Array.toList e
    simp at e2
    rw [← List.map_drop] at e2
    cases h : x[i]? with
    | none =>
      have : x.length ≤ i := List.getElem?_eq_none_iff.mp h
      rw [List.drop_eq_nil_of_le this] at e2
      simp at e2
    | some d =>
      have e4 := congrArg (fun l : List Nat => l[0]?) e2
      simp only [List.getElem?_take, List.getElem?_drop, List.getElem?_map, Nat.add_zero, h, List.getElem?_cons_zero] at e4
      simp at e4
      rw [toNat_inj.mp e4]
  · intro h
    obtain ⟨hl, hd⟩ := List.getElem?_eq_some_iff.mp h
    apply Array.toList_inj.mp
    simp
    rw [← List.map_drop, List.drop_eq_getElem_cons hl]
    simp [hd]
theorem rfd_spec (c : Char) : ∀ l : List Char, (rfd c l = none ∧ ∀ i : Nat, l[i]? ≠ some c) ∨ ∃ k : Nat, rfd c l = some k ∧ l[k]? = some c ∧ ∀ i : Nat, k < i → l[i]? ≠ some c
  | [] => .inl ⟨rfl, fun i => by simp⟩
  | x :: r => by
    rcases rfd_spec c r with ⟨e, h⟩ | ⟨k, e, h1, h2⟩
    · by_cases q : x = c
      · refine .inr ⟨0, by rw [rfd, e]; simp [q], by simp [q], fun i hi => ?_⟩
        obtain ⟨j, rfl⟩ : ∃ j, i = j + 1 := ⟨i - 1, by omega⟩
        simpa using h j
      · refine .inl ⟨by rw [rfd, e]; simp [q], fun i => ?_⟩
        cases i with
        | zero => simpa using q
        | succ i => simpa using h i
    · refine .inr ⟨k + 1, by rw [rfd, e], by simpa using h1, fun i hi => ?_⟩
      obtain ⟨j, rfl⟩ : ∃ j, i = j + 1 := ⟨i - 1, by omega⟩
      simpa using h2 j (by omega)
theorem last_c (x : List Char) (c : Char) (j : Nat) (hj : j ≤ x.length) : Builtin.Str.lastOccurrence (sOf x) (sOf [c]) 0 j = rfd c (x.take j) := by
  have at_ : ∀ i, StrLaws.At (sOf x) (sOf [c]) j i ↔ (x.take j)[i]? = some c := fun i => by
    have l1 : (sOf [c]).length = 1 := rfl
    unfold StrLaws.At
    rw [l1, sub_at]
    constructor
    · rintro ⟨h1, h2⟩
      rw [List.getElem?_take, if_pos (by omega)]; exact h2
    · intro h
      rw [List.getElem?_take] at h
      split at h
      · exact ⟨by omega, h⟩
      · cases h
  have lr := StrLaws.last_run (sOf x) (sOf [c]) j (List.range' 0 (j + 1 - 0)) [] none (fun i m => by cases m) (fun i m => by cases m) (by
    exact List.pairwise_lt_range' ..)
  rw [List.nil_append, ← StrLaws.last_eq] at lr
  have big : ∀ i, (x.take j)[i]? = some c → i ∈ List.range' 0 (j + 1 - 0) := fun i h => by
    have := (List.getElem?_eq_some_iff.mp h).1
    rw [List.length_take] at this
    simp; omega
  cases e : Builtin.Str.lastOccurrence (sOf x) (sOf [c]) 0 j with
  | none =>
    rw [e] at lr
    rcases rfd_spec c (x.take j) with ⟨e2, _⟩ | ⟨k, e2, h1, _⟩
    · rw [e2]
    · exact absurd ((at_ k).mpr h1) (lr k (big k h1))
  | some a =>
    rw [e] at lr
    obtain ⟨q1, q2⟩ := lr
    have q1 := (at_ a).mp q1
    rcases rfd_spec c (x.take j) with ⟨e2, h⟩ | ⟨k, e2, h1, h2⟩
    · exact absurd q1 (h a)
    · rw [e2]
      congr 1
      rcases Nat.lt_trichotomy a k with lt | eq | gt
      · exact absurd ((at_ k).mpr h1) (q2 k (big k h1) lt)
      · exact eq
      · exact absurd q1 (h2 a gt)
theorem occ_full (s sub : Str) (hi : Nat) : ∀ (l : List Nat) (st : Array Nat × Nat), 1 ≤ st.fst.size → (forIn l st (StrLaws.occBody s sub hi 1)).run.fst = st.fst
  | [], st, _ => rfl
  | a :: l, st, h => by
    rw [List.forIn_cons]
    unfold StrLaws.occBody
    rw [if_neg (by omega)]
    exact occ_full s sub hi l _ h
theorem occ_c (x : List Char) (c : Char) : ∀ (n lo free : Nat), free ≤ lo → lo + n = x.length + 1 → (forIn (List.range' lo n) ((#[] : Array Nat), free) (StrLaws.occBody (sOf x) (sOf [c]) x.length 1)).run.fst.toList = (match fnd c lo (x.drop lo) with | some k => [k] | none => [])
  | 0, lo, free, _, e => by
    rw [List.drop_eq_nil_of_le (by omega)]; rfl
  | n + 1, lo, free, hf, e => by
    rw [List.range'_succ, List.forIn_cons]
    unfold StrLaws.occBody
    have l1 : (sOf [c]).length = 1 := rfl
    by_cases hl : lo < x.length
    · rw [List.drop_eq_getElem_cons hl, fnd]
      by_cases q : x[lo] = c
      · rw [if_pos ⟨⟨⟨by simp, hf⟩, by rw [l1]; omega⟩, (sub_at x c lo).mpr (by rw [List.getElem?_eq_getElem hl, q])⟩, if_pos q]
        show (forIn (List.range' (lo + 1) n) ((#[] : Array Nat).push lo, lo + (sOf [c]).length) (StrLaws.occBody (sOf x) (sOf [c]) x.length 1)).run.fst.toList = _
        rw [occ_full _ _ _ _ _ (by simp)]; simp
      · rw [if_neg (fun z => q (by
          have := (sub_at x c lo).mp z.2
          rw [List.getElem?_eq_getElem hl] at this
          exact Option.some.inj this)), if_neg q]
        exact occ_c x c n (lo + 1) free (by omega) (by omega)
    · rw [if_neg (fun z => by have := z.1.2; rw [l1] at this; omega)]
      have : n = 0 := by omega
      subst this
      rw [List.drop_eq_nil_of_le (by omega)]; rfl
theorem find_c (x : List Char) (c : Char) (i : Nat) (hi : i ≤ x.length) : Txt.find3 (sOf x) (sOf [c]) (i : Nat) = (match fnd c i (x.drop i) with | some k => ((k : Nat) : Int) | none => -1) := by
  have fi : fromIndex (sOf x).length (i : Nat) = i := by
    unfold fromIndex
    rw [if_neg (by omega)]
    omega
  unfold Txt.find3
  rw [fi, StrLaws.occ_eq, len_sO]
  have := occ_c x c (x.length + 1 - i) i i (Nat.le_refl _) (by omega)
  rw [this]
  cases fnd c i (x.drop i) <;> rfl
theorem rfind_c (x : List Char) (c : Char) (j : Nat) (hj : j ≤ x.length) : Txt.rfindIn (sOf x) (sOf [c]) 0 (j : Nat) = (match rfd c (x.take j) with | some k => ((k : Nat) : Int) | none => -1) := by
  have f0 : fromIndex (sOf x).length 0 = 0 := by unfold fromIndex; simp
  have fj : toIndexW (sOf x).length (j : Nat) = j := by
    unfold toIndexW
    rw [if_neg (by omega), len_sO]
    omega
  unfold Txt.rfindIn
  rw [f0, fj, last_c x c j hj]
  cases rfd c (x.take j) <;> rfl
end VI
/-! H12: a slice of a list stored (own work). -/
namespace VH
open PySem PySem.Spec PyProof.Rows L2
section
variable {X : Cx} {o lo hi : Expr} {to tl th : TE} {p2 pos : Pos}
/-- o[lo:hi] = another list -/
def gSli (to tl th : TE) : TG := fun v σ H Q => to σ H fun x H1 => tl σ H1 fun y H2 => ∃ a : Int, y = .int a ∧ th σ H2 fun z H3 => ∃ c : Int, z = .int c ∧ ∃ (l b : Addr) (xs ys : List V), x = V.ref l ∧ v = V.ref b ∧ H3 l = some (.lst xs) ∧ H3 b = some (.lst ys) ∧ l ≠ b ∧ 0 ≤ a ∧ a ≤ c ∧ c ≤ (xs.length : Nat) ∧ xs.length + ys.length ≤ sizeLine ∧
  Q σ (upd H3 l (.lst (xs.take a.toNat ++ ys ++ xs.drop c.toNat)))
theorem pg_slice (ho : PE X o to) (hl : PE X lo tl) (hh : PE X hi th)
    (ha : ∀ v, assign (.Subscript o (.Slice (some lo) (some hi) none p2) pos) X.env v = (do
      let ov ← holding [v] (eval o X.env)
      let iv ← holding [v, ov] (eval (.Slice (some lo) (some hi) none p2) X.env)
      standAt pos
      holding [v, ov, iv] (setItem ov iv v)
      release [iv, v, ov] []) := by intro _; rfl) : PG X (.Subscript o (.Slice (some lo) (some hi) none p2) pos) (gSli to tl th) := by
  refine ⟨fun pins s σ H v u Q I r h => ?_⟩
  rw [ha]
  refine wpAny_bind (wpAny_holding (thn (ho.run pins s σ H _ I h) fun ov s1 ⟨x, H1, I1, r1, q1⟩ => ?_))
  refine wpAny_bind (wpAny_holding (wpAny_Slice ?_))
  rw [evalPart_some]
  refine thn (hl.run pins s1 σ H1 _ I1 q1) fun vl s2 ⟨y, H2, I2, r2, a, ey, q2⟩ => ?_
  subst ey
  rw [evalPart_some]
  refine thn (hh.run pins s2 σ H2 _ I2 q2) fun vu s3 ⟨z, H3, I3, r3, c, ez, q3⟩ => ?_
  subst ez
  rw [evalPart_none]
  refine wpAny_pure ?_
  obtain ⟨l, b, xs, ys, ex, ev, hH, hB, ne, h0, hac, hc, hz, q⟩ := q3
  subst ex ev
  cases r1
  cases r
  have I4 : Inv X pins σ H3 { s3 with heap := s3.heap.push { cls := .type "slice", data := .fields #[vl, vu, .none] } } := I3.kept (t' := s3.toks) fun b ob q => Heap.get?_push_of_some _ q
  refine wpAny_bind (wpAny_standAt (wpAny_bind (wpAny_holding (thn (set_slice (Q := fun _ s' => ∃ H', Inv X pins σ H' s' ∧ Q σ H') I4 hH hB ne (Heap.IsSliceOf.new _ vl vu .none) r2 r3 h0 hac hc hz fun s' I' => ⟨_, I', q⟩) fun _ s3 ⟨H3, I3, q3⟩ => ?_))))
  exact wpAny_release ⟨σ, H3, I3, q3⟩
end
end VH
/-! V3: the operators: what the small language's give is what the layer's rules give. -/
namespace VI
open PySem PySem.Spec PyProof.Rows L2

/-- what is wanted of a run's end -/
def OkR (C : Cst) (p : List Addr) (h : Hs) (H : AHp) (r : R) (Q : VK) (w : String → AHp → Prop) : Prop := match r with
  | .ok d h' => ∀ p' H' v, Ext C p h H p' h' H' → SR C p' h' H' → DR C p' h' H' d v → Q v H'
  | .exc c h' => ∀ p' H', Ext C p h H p' h' H' → SR C p' h' H' → w c H'
  | .bad => False
theorem SZ_eq : sizeLine = SZ := sizeLine_eq
section
variable {C : Cst} {p p1 : List Addr} {h h1 : Hs} {H H1 : AHp} {Q : VK} {w : String → AHp → Prop} {x y : D} {vx vy : V}
theorem OkR.step {r : R} (e : Ext C p h H p1 h1 H1) (q : OkR C p h H r Q w) : OkR C p1 h1 H1 r Q w := by
  cases r with
  | ok d h' => exact fun p' H' v a b c => q p' H' v (e.trans a) b c
  | exc c h' => exact fun p' H' a b => q p' H' (e.trans a) b
  | bad => exact q
theorem ok_same {d : D} {v : V} (sr : SR C p h H) (r : DR C p h H d v) (q : OkR C p h H (.ok d h) Q w) : Q v H := q p H v .refl sr r
theorem ok_mkL {hp : Bool} {xs : List D} {vs : List V} (sr : SR C p h H) (r : DRs C p h H xs vs) (q : OkR C p h H (mkL hp xs h) Q w) : ∀ a, H a = none → Q (.ref a) (upd H a (.lst vs)) := fun a na => by
  cases hp with
  | false => exact q p _ _ (ext_new sr na) (sr.new na) (.lst (at_lst sr na) (DRs.ext (ext_new sr na) r))
  | true =>
    have k : ∀ b o, H b = some o → upd H a (.lst vs) b = some o := fun b o e => by rw [upd_ne (ne_of_none e na)]; exact e
    have e := ext_cell (H' := upd H a (.lst vs)) (o := .lst xs) sr na k
    exact q (p ++ [a]) _ _ e (sr.cell na k ⟨_, upd_same⟩ ⟨vs, upd_same, DRs.ext e r⟩) (.ref (by rw [← sr.len]; exact get_app_self p a))
theorem ok_tup {xs : List D} {vs : List V} (sr : SR C p h H) (r : DRs C p h H xs vs) (q : OkR C p h H (.ok (.tup xs) h) Q w) : ∀ a, H a = none → Q (.ref a) (upd H a (.tup vs)) := fun a na =>
  q p _ _ (ext_new sr na) (sr.new na) (.tup (at_tup sr na) (DRs.ext (ext_new sr na) r))
theorem seqOf_ref {n : Nat} {xs : List D} (e : seqOf h (.ref n) = some xs) : h[n]? = some (.lst xs) := by
  have e : (match h[n]? with | some (.lst xs) => some xs | _ => none) = some xs := e
  split at e
  · rename_i q; cases e; exact q
  · cases e
/-- a list as it is read -/
theorem seq_rd (sr : SR C p h H) (r : DR C p h H x vx) {xs : List D} (e : seqOf h x = some xs) : ∃ a vs, vx = .ref a ∧ SqL C.K H a vs ∧ DRs C p h H xs vs ∧ H a = some (.lst vs) := by
  cases r with
  | lst a r =>
    rename_i b xs' vs
    have : xs' = xs := Option.some.inj e
    subst this
    exact ⟨_, _, rfl, .of a.1, r, a.1⟩
  | ref e1 =>
    obtain ⟨vs, z, r⟩ := sr.ob _ _ _ (seqOf_ref e) e1
    exact ⟨_, _, rfl, .of z, r, z⟩
  | _ => cases e
theorem any_rd (sr : SR C p h H) (r : DR C p h H x vx) {xs : List D} (e : anyOf h x = some xs) : ∃ a vs, vx = .ref a ∧ (SqL C.K H a vs ∨ SqT C.K H a vs) ∧ DRs C p h H xs vs := by
  by_cases q : ∃ ys, x = .tup ys
  · obtain ⟨ys, rfl⟩ := q
    cases e
    cases r with
    | tup a r => exact ⟨_, _, rfl, .inr a.sq, r⟩
  · have e' : seqOf h x = some xs := by
      cases x with
      | tup ys => exact absurd ⟨ys, rfl⟩ q
      | _ => exact e
    obtain ⟨a, vs, z, l, r, _⟩ := seq_rd sr r e'
    exact ⟨a, vs, z, .inl l, r⟩
/-- what the heap's cell of a reference is -/
theorem cell_rd (sr : SR C p h H) {n : Nat} (r : DR C p h H (.ref n) vx) {o : O} (e : h[n]? = some o) : ∃ a, vx = .ref a ∧ p[n]? = some a ∧ OR C p h H a o := by
  cases r with
  | ref e1 => exact ⟨_, rfl, e1, sr.ob _ _ _ e e1⟩
theorem len_sOf (a : List Char) : (sOf a).length = a.length := by
  show ((a.map Char.toNat).toArray).size = a.length
  rw [List.size_toArray, List.length_map]
theorem sOf_app (a b : List Char) : sOf a ++ sOf b = sOf (a ++ b) := by
  show (⟨(a.map Char.toNat).toArray ++ (b.map Char.toNat).toArray⟩ : Str) = _
  unfold sOf
  rw [List.map_append, List.append_toArray]
theorem cps_sOf (a : List Char) : (sOf a).cps.toList = a.map Char.toNat := rfl
theorem char_inj {c d : Char} (e : c.toNat = d.toNat) : c = d := Char.ext (UInt32.toNat_inj.mp e)
theorem mapc_inj : ∀ {a b : List Char}, a.map Char.toNat = b.map Char.toNat → a = b
  | [], [], _ => rfl
  | [], _ :: _, e => by cases e
  | _ :: _, [], e => by cases e
  | x :: a, y :: b, e => by
    rw [List.map_cons, List.map_cons] at e
    rw [char_inj (List.cons.inj e).1, mapc_inj (List.cons.inj e).2]
theorem sOf_inj {a b : List Char} (e : sOf a = sOf b) : a = b := mapc_inj (by rw [← cps_sOf, ← cps_sOf, e])

/-! ### arithmetic -/
abbrev rAdd (K : PySem.W.Frag) : R2 := fun x y H Q => (∃ i j, x = .int i ∧ y = .int j ∧ Q (.int (i + j)) H) ∨ (∃ i j, x = .str i ∧ y = .str j ∧ i.length + j.length ≤ sizeLine ∧ Q (.str (i ++ j)) H) ∨ rCatA K x y H Q ∨ rCat x y H Q
theorem op_addA {X : Cx} : OpR X (binaryOp .Add) (rAdd X.K) := op_add.or (op_add_str.or (op_catA.or op_cat))
theorem addL_w {hp : Bool} (sr : SR C p h H) (rx : DR C p h H x vx) (ry : DR C p h H y vy) {a b : List D} (e1 : seqOf h x = some a) (e2 : seqOf h y = some b) (q : OkR C p h H (if a.length + b.length ≤ SZ then mkL hp (a ++ b) h else .bad) Q w) : rAdd C.K vx vy H Q := by
  obtain ⟨l1, v1, rfl, _, d1, t1⟩ := seq_rd sr rx e1
  obtain ⟨l2, v2, rfl, _, d2, t2⟩ := seq_rd sr ry e2
  split at q
  · rename_i z
    exact .inr (.inr (.inr ⟨l1, l2, v1, v2, rfl, rfl, t1, t2, by rw [← d1.len, ← d2.len, SZ_eq]; exact z, ok_mkL sr (d1.app d2) q⟩))
  · exact q.elim
theorem addD_w {hp : Bool} (sr : SR C p h H) (rx : DR C p h H x vx) (ry : DR C p h H y vy) (q : OkR C p h H (addD hp x y h) Q w) : rAdd C.K vx vy H Q := by
  unfold addD at q
  split at q
  · cases rx; cases ry
    exact .inl ⟨_, _, rfl, rfl, ok_same sr (.int _) q⟩
  · cases rx; cases ry
    split at q
    · rename_i z
      refine .inr (.inl ⟨_, _, rfl, rfl, by rw [len_sOf, len_sOf, SZ_eq]; exact z, ?_⟩)
      rw [sOf_app]
      exact ok_same sr (.str _) q
    · exact q.elim
  · split at q
    · rename_i z
      cases rx with
      | tup ta ra =>
        cases ry with
        | tup tb rb =>
          rename_i a va b vb
          refine .inr (.inr (.inl ⟨_, _, va, vb, rfl, rfl, ta.sq, tb.sq, by rw [← ra.len, ← rb.len, SZ_eq]; exact z, fun e => ?_, fun _ e => ?_, fun _ _ => ?_⟩))
          · subst e
            have e := ra.len
            rw [List.length_nil] at e
            have e := List.length_eq_zero_iff.mp e
            subst e
            exact ok_same sr (.tup tb rb) q
          · subst e
            have e := rb.len
            rw [List.length_nil] at e
            have e := List.length_eq_zero_iff.mp e
            subst e
            rw [List.append_nil] at q
            exact ok_same sr (.tup ta ra) q
          · exact ok_tup sr (ra.app rb) q
    · exact q.elim
  · split at q
    · rename_i a b e1 e2
      exact addL_w sr rx ry e1 e2 q
    · exact q.elim
abbrev rMulA : R2 := fun x y H Q => (∃ i j, x = .int i ∧ y = .int j ∧ CMul i j ∧ Q (.int (i * j)) H) ∨ rRep x y H Q ∨ (∃ a j, x = .str (sOf a) ∧ y = .int j ∧ -(2 ^ 63) ≤ j ∧ j < 2 ^ 63 ∧ a.length * j.toNat ≤ SZ ∧ Q (.str (sOf (List.replicate j.toNat a).flatten)) H)
theorem op_mulA {X : Cx} : OpR X (binaryOp .Mult) rMulA := op_mul.or (op_rep.or op_repS)
theorem mulOk_c {i j : Int} (e : mulOk i j = true) : CMul i j := by
  unfold mulOk at e
  simp only [Bool.or_eq_true, Bool.and_eq_true, decide_eq_true_eq] at e
  exact e
theorem mulD_w {hp : Bool} (sr : SR C p h H) (rx : DR C p h H x vx) (ry : DR C p h H y vy) (q : OkR C p h H (binD .mul hp x y h) Q w) : rMulA vx vy H Q := by
  unfold binD at q
  simp only at q
  split at q
  · cases rx; cases ry
    split at q
    · rename_i z
      exact .inl ⟨_, _, rfl, rfl, mulOk_c z, ok_same sr (.int _) q⟩
    · exact q.elim
  · cases rx; cases ry
    split at q
    · rename_i z
      simp only [Bool.and_eq_true, decide_eq_true_eq] at z
      exact .inr (.inr ⟨_, _, rfl, rfl, z.1.1, z.1.2, z.2, ok_same sr (.str _) q⟩)
    · exact q.elim
  · cases ry
    split at q
    · rename_i a e
      obtain ⟨l, vs, rfl, _, d, t⟩ := seq_rd sr rx e
      split at q
      · rename_i z
        simp only [Bool.and_eq_true, decide_eq_true_eq] at z
        exact .inr (.inl ⟨l, _, vs, rfl, rfl, t, z.1.1, z.1.2, by rw [← d.len, SZ_eq]; exact z.2, ok_mkL sr (d.rep _) q⟩)
      · exact q.elim
    · exact q.elim
  · exact q.elim
/-- two ints -/
theorem int2_w {op : Bop} {hp : Bool} {g : Int → Int → Int} {c : Int → Int → Prop} (sr : SR C p h H) (rx : DR C p h H x vx) (ry : DR C p h H y vy)
    (g0 : ∀ d e, OkR C p h H (binD op hp d e h) Q w → ∃ i j, d = .int i ∧ e = .int j ∧ c i j ∧ OkR C p h H (.ok (.int (g i j)) h) Q w) (q : OkR C p h H (binD op hp x y h) Q w) : rI c (fun i j => .int (g i j)) vx vy H Q := by
  obtain ⟨i, j, rfl, rfl, z, q⟩ := g0 _ _ q
  cases rx; cases ry
  exact ⟨i, j, rfl, rfl, z, ok_same sr (.int _) q⟩
theorem sub_g {hp : Bool} : ∀ d e, OkR C p h H (binD .sub hp d e h) Q w → ∃ i j, d = .int i ∧ e = .int j ∧ True ∧ OkR C p h H (.ok (.int (i - j)) h) Q w := fun d e q => by
  unfold binD at q
  simp only at q
  split at q
  · exact ⟨_, _, rfl, rfl, trivial, q⟩
  · exact q.elim
theorem fdv_g {hp : Bool} : ∀ d e, OkR C p h H (binD .fdv hp d e h) Q w → ∃ i j, d = .int i ∧ e = .int j ∧ CDiv i j ∧ OkR C p h H (.ok (.int (i / j)) h) Q w := fun d e q => by
  unfold binD at q
  simp only at q
  split at q
  · split at q
    · rename_i z
      simp only [Bool.and_eq_true, decide_eq_true_eq] at z
      exact ⟨_, _, rfl, rfl, z, q⟩
    · exact q.elim
  · exact q.elim
theorem mod_g {hp : Bool} : ∀ d e, OkR C p h H (binD .mod hp d e h) Q w → ∃ i j, d = .int i ∧ e = .int j ∧ 0 < j ∧ OkR C p h H (.ok (.int (i % j)) h) Q w := fun d e q => by
  unfold binD at q
  simp only at q
  split at q
  · split at q
    · rename_i z
      exact ⟨_, _, rfl, rfl, z, q⟩
    · exact q.elim
  · exact q.elim
theorem pow_g {hp : Bool} : ∀ d e, OkR C p h H (binD .pow hp d e h) Q w → ∃ i j, d = .int i ∧ e = .int j ∧ CPow i j ∧ OkR C p h H (.ok (.int (i ^ j.toNat)) h) Q w := fun d e q => by
  unfold binD at q
  simp only at q
  split at q
  · split at q
    · rename_i z
      simp only [Bool.and_eq_true, decide_eq_true_eq] at z
      exact ⟨_, _, rfl, rfl, ⟨z.1.1, z.1.2, z.2⟩, q⟩
    · exact q.elim
  · exact q.elim

/-! ### pure data -/
mutual
def pyD : D → PyData
  | .non => .none
  | .bl b => .bool b
  | .int i => .int i
  | .str x => .str (sOf x)
  | .tup xs => .tuple (pyDs xs)
  | .lst xs => .list (pyDs xs)
  | .ref _ => .none
  | .exc _ => .none
  | .scr _ => .none
def pyDs : List D → List PyData
  | [] => []
  | x :: xs => pyD x :: pyDs xs
end
mutual
def pur : D → Bool
  | .tup xs => purs xs
  | .lst xs => purs xs
  | .ref _ => false
  | .exc _ => false
  | .scr _ => false
  | _ => true
def purs : List D → Bool
  | [] => true
  | x :: xs => pur x && purs xs
end
theorem beq_sOf (a b : List Char) : (sOf a == sOf b) = (a == b) := by
  rw [Bool.eq_iff_iff, beq_iff_eq, beq_iff_eq]
  exact ⟨sOf_inj, fun e => by rw [e]⟩
mutual
theorem deq_py : ∀ (a b : D), pur a = true → pur b = true → deq a b = PyData.eqv (pyD a) (pyD b)
  | .non, b, _, q => by cases b <;> first | rfl | (simp [pur] at q) | (simp [deq, pyD, PyData.eqv])
  | .bl k, b, _, q => by cases b <;> first | rfl | (simp [pur] at q) | (simp [deq, pyD, PyData.eqv])
  | .int i, b, _, q => by cases b <;> first | rfl | (simp [pur] at q) | (simp [deq, pyD, PyData.eqv])
  | .str s, b, _, q => by cases b <;> first | rfl | (simp [pur] at q; done) | (simp only [deq, pyD, PyData.eqv]; done) | (simp only [deq, pyD, PyData.eqv]; exact (beq_sOf _ _).symm)
  | .tup xs, b, p, q => by
    cases b with
    | tup ys => simp only [deq, pyD, PyData.eqv]; exact deqs_py xs ys (by simpa [pur] using p) (by simpa [pur] using q)
    | _ => first | (simp [pur] at q; done) | (simp only [deq, pyD, PyData.eqv])
  | .lst xs, b, p, q => by
    cases b with
    | lst ys => simp only [deq, pyD, PyData.eqv]; exact deqs_py xs ys (by simpa [pur] using p) (by simpa [pur] using q)
    | _ => first | (simp [pur] at q; done) | (simp only [deq, pyD, PyData.eqv])
  | .ref _, _, p, _ => by simp [pur] at p
  | .exc _, _, p, _ => by simp [pur] at p
  | .scr _, _, p, _ => by simp [pur] at p
theorem deqs_py : ∀ (a b : List D), purs a = true → purs b = true → deqs a b = PyData.eqvAll (pyDs a) (pyDs b)
  | [], [], _, _ => by simp only [deqs, pyDs, PyData.eqvAll]
  | [], _ :: _, _, _ => by simp only [deqs, pyDs, PyData.eqvAll]
  | _ :: _, [], _, _ => by simp only [deqs, pyDs, PyData.eqvAll]
  | x :: xs, y :: ys, p, q => by
    simp only [purs, Bool.and_eq_true] at p q
    simp only [deqs, pyDs, PyData.eqvAll]
    rw [deq_py x y p.1 q.1, deqs_py xs ys p.2 q.2]
end
theorem anyEq_py (x : D) (hx : pur x = true) : ∀ (ys : List D), purs ys = true → anyEq x ys = (pyDs ys).any fun z => PyData.eqv z (pyD x)
  | [], _ => rfl
  | y :: ys, q => by
    simp only [purs, Bool.and_eq_true] at q
    simp only [anyEq, pyDs, List.any_cons]
    rw [deq_py y x q.1 hx, anyEq_py x hx ys q.2]
theorem strOk_sOf (x : List Char) : PyData.strOk (sOf x) = true := by
  unfold PyData.strOk sOf
  rw [← Array.all_toList]
  simp only [List.all_map, List.all_eq_true, Function.comp, decide_eq_true_eq]
  intro c _
  have q := c.valid
  have e : c.toNat = c.val.toNat := rfl
  simp only [UInt32.isValidChar, Nat.isValidChar] at q
  omega
theorem rsls_cons {k : Nat} {x : D} {xs ys : List D} (e : rsls h k (x :: xs) = some ys) : ∃ z zs, rsl h k x = some z ∧ rsls h k xs = some zs ∧ ys = z :: zs := by
  unfold rsls at e
  split at e
  · split at e
    · cases e; exact ⟨_, _, by assumption, by assumption, rfl⟩
    · cases e
  · cases e
/-- what is laid open is pure, not deep, and is what stands there -/
theorem rsl_w (sr : SR C p h H) : ∀ k, (∀ x vx z, DR C p h H x vx → rsl h k x = some z → Dp C.K H vx (pyD z) ∧ pur z = true ∧ (pyD z).canLay0 = true ∧ (pyD z).depth ≤ k) ∧
    (∀ xs vs zs, DRs C p h H xs vs → rsls h k xs = some zs → DpAll C.K H vs (pyDs zs) ∧ purs zs = true ∧ PyData.canLayAll0 (pyDs zs) = true ∧ PyData.depthAll (pyDs zs) ≤ k)
  | 0 => ⟨fun x vx z _ e => by
      cases x <;> (unfold rsl at e; cases e), fun xs vs zs r e => by
      cases r with
      | nil => unfold rsls at e; cases e; exact ⟨.nil, rfl, by simp [pyDs, PyData.canLayAll0], by simp [pyDs, PyData.depthAll]⟩
      | cons r _ =>
        obtain ⟨_, _, z, _⟩ := rsls_cons e
        rename_i x _ _ _ _
        cases x <;> (unfold rsl at z; cases z)⟩
  | k + 1 => by
    have ih := rsl_w sr k
    have one : ∀ x vx z, DR C p h H x vx → rsl h (k + 1) x = some z → Dp C.K H vx (pyD z) ∧ pur z = true ∧ (pyD z).canLay0 = true ∧ (pyD z).depth ≤ k + 1 := fun x vx z r e => by
      cases r with
      | non => unfold rsl at e; cases e; exact ⟨.non, rfl, rfl, by simp [pyD, PyData.depth]⟩
      | bl b => unfold rsl at e; cases e; exact ⟨.bl b, rfl, rfl, by simp [pyD, PyData.depth]⟩
      | int i => unfold rsl at e; cases e; exact ⟨.int i, rfl, rfl, by simp [pyD, PyData.depth]⟩
      | str s => unfold rsl at e; cases e; exact ⟨.str _, rfl, by simp only [pyD, PyData.canLay0]; exact strOk_sOf s, by simp [pyD, PyData.depth]⟩
      | tup a r =>
        unfold rsl at e
        split at e
        · cases e
          rename_i q
          obtain ⟨h1, h2, h3, h4⟩ := ih.2 _ _ _ r q
          refine ⟨.tup a.sq h1, by simpa [pur] using h2, by simpa [pyD, PyData.canLay0] using h3, ?_⟩
          simp only [pyD, PyData.depth]; omega
        · cases e
      | lst a r =>
        unfold rsl at e
        split at e
        · cases e
          rename_i q
          obtain ⟨h1, h2, h3, h4⟩ := ih.2 _ _ _ r q
          refine ⟨.lst a.sq h1, by simpa [pur] using h2, by simpa [pyD, PyData.canLay0] using h3, ?_⟩
          simp only [pyD, PyData.depth]; omega
        · cases e
      | ref e1 =>
        unfold rsl at e
        split at e
        · split at e
          · cases e
            rename_i q1 _ _ q
            obtain ⟨vs, z, r⟩ := sr.ob _ _ _ q1 e1
            obtain ⟨h1, h2, h3, h4⟩ := ih.2 _ _ _ r q
            refine ⟨.lst (.of z) h1, by simpa [pur] using h2, by simpa [pyD, PyData.canLay0] using h3, ?_⟩
            simp only [pyD, PyData.depth]; omega
          · cases e
        · cases e
      | exc _ => unfold rsl at e; cases e
      | scr _ => unfold rsl at e; cases e
    refine ⟨one, fun xs => ?_⟩
    induction xs with
    | nil => intro vs zs r e; cases r; unfold rsls at e; cases e; exact ⟨.nil, rfl, by simp [pyDs, PyData.canLayAll0], by simp [pyDs, PyData.depthAll]⟩
    | cons x xs ihx =>
      intro vs zs r e
      cases r with
      | cons r rs =>
        obtain ⟨z, zz, e1, e2, rfl⟩ := rsls_cons e
        obtain ⟨a1, a2, a3, a4⟩ := one _ _ _ r e1
        obtain ⟨b1, b2, b3, b4⟩ := ihx _ _ rs e2
        refine ⟨.cons a1 b1, by simp [purs, a2, b2], by simp [pyDs, PyData.canLayAll0, a3, b3], ?_⟩
        simp only [pyDs, PyData.depthAll]
        omega
theorem rsl_dp (sr : SR C p h H) {z : D} (r : DR C p h H x vx) (e : rsl h DP x = some z) : Dp C.K H vx (pyD z) ∧ pur z = true ∧ SeqAt.shaped (pyD z) = true := by
  obtain ⟨h1, h2, h3, h4⟩ := (rsl_w sr DP).1 x vx z r e
  refine ⟨h1, h2, ?_⟩
  unfold SeqAt.shaped
  rw [h3, Bool.true_and, decide_eq_true_eq]
  unfold DP at h4
  omega

/-! ### comparisons -/
def copO : Cop → CmpOp
  | .eq => .Eq | .ne => .NotEq | .lt => .Lt | .le => .LtE | .gt => .Gt | .ge => .GtE | .isin => .In | .notin => .NotIn | .is => .Is | .isnot => .IsNot
abbrev rBI (g : Int → Int → Bool) : R2 := rI0 fun i j => .bl (g i j)
abbrev rBS (g : Str → Str → Bool) : R2 := fun x y H Q => ∃ i j, x = .str i ∧ y = .str j ∧ Q (.bl (g i j)) H
def rDi (b : Bool) : R2 := fun y x H Q => ∃ a o, x = .ref a ∧ DGet H a y o ∧ Q (.bl (if b then o.isSome else !o.isSome)) H
def rCmp (K : PySem.W.Frag) : Cop → R2
  | .eq => fun x y H Q => (rEqD K x y H Q ∨ VH.rEqDS x y H Q) ∨ VH.rEg K x y H Q
  | .ne => fun x y H Q => (rNeD K x y H Q ∨ VH.rNeDS x y H Q) ∨ VH.rEgN K x y H Q
  | .lt => fun x y H Q => rBI (fun i j => decide (i < j)) x y H Q ∨ rBS (fun i j => decide (i.cps.toList < j.cps.toList)) x y H Q ∨ rLtT K x y H Q
  | .le => fun x y H Q => rBI (fun i j => decide (i ≤ j)) x y H Q ∨ rBS (fun i j => !decide (j.cps.toList < i.cps.toList)) x y H Q
  | .gt => fun x y H Q => rBI (fun i j => decide (j < i)) x y H Q ∨ rBS (fun i j => decide (j.cps.toList < i.cps.toList)) x y H Q
  | .ge => fun x y H Q => rBI (fun i j => decide (j ≤ i)) x y H Q ∨ rBS (fun i j => !decide (i.cps.toList < j.cps.toList)) x y H Q
  | .isin => fun x y H Q => (∃ (c : Nat) (z : Str), x = .str ⟨#[c]⟩ ∧ y = .str z ∧ Q (.bl (decide (c ∈ z.cps.toList))) H) ∨ rIn K false x y H Q ∨ rInD K x y H Q ∨ rDi true x y H Q ∨ VH.rEgIn K false x y H Q
  | .notin => fun x y H Q => (∃ (c : Nat) (z : Str), x = .str ⟨#[c]⟩ ∧ y = .str z ∧ Q (.bl (!decide (c ∈ z.cps.toList))) H) ∨ rIn K true x y H Q ∨ rNotInD K x y H Q ∨ rDi false x y H Q ∨ VH.rEgIn K true x y H Q
  | .is => fun x y H Q => (y = .non ∧ Q (.bl (decide (x = .non))) H) ∨ rIsB x y H Q
  | .isnot => fun x y H Q => (y = .non ∧ Q (.bl (!decide (x = .non))) H) ∨ rNotB x y H Q
theorem op_di {X : Cx} (hu : X.A.units + 1 < cLine) : OpR X (compareOp .In) (rDi true) := by
  intro pins s σ H x y v u Q I rx ry q
  obtain ⟨a, o, rfl, g, q⟩ := q
  obtain rfl : u = Value.ref a := ry
  exact d_in hu I g rx fun s3 I3 => ⟨.bl o.isSome, H, I3, rfl, q⟩
theorem op_dni {X : Cx} (hu : X.A.units + 1 < cLine) : OpR X (compareOp .NotIn) (rDi false) := by
  intro pins s σ H x y v u Q I rx ry q
  obtain ⟨a, o, rfl, g, q⟩ := q
  obtain rfl : u = Value.ref a := ry
  exact d_notIn hu I g rx fun s3 I3 => ⟨.bl (!o.isSome), H, I3, rfl, q⟩
theorem op_cmpA {X : Cx} (hu : X.A.units + 65 < cLine) : ∀ op : Cop, OpR X (compareOp (copO op)) (rCmp X.K op)
  | .eq => ((op_eqD (by omega)).or (VH.op_eqDS (by omega))).or (VH.op_eg (by omega))
  | .ne => ((op_neD (by omega)).or (VH.op_neDS (by omega))).or (VH.op_egN (by omega))
  | .lt => op_lt.or (op_lt_str.or (op_ltT (by omega)))
  | .le => op_le.or op_le_str
  | .gt => op_gt.or op_gt_str
  | .ge => op_ge.or op_ge_str
  | .isin => op_in_sign.or (op_in_seq.or ((op_inD hu).or ((op_di (by omega)).or (VH.op_egIn (by omega)))))
  | .notin => op_notIn_sign.or (op_notIn_seq.or ((op_notInD hu).or ((op_dni (by omega)).or (VH.op_egNotIn (by omega)))))
  | .is => op_isN.or op_isBl
  | .isnot => op_notN.or op_notBl
theorem okB_some {o : Option Bool} (q : OkR C p h H (okB o h) Q w) : ∃ k, o = some k ∧ OkR C p h H (.ok (.bl k) h) Q w := by
  cases o with
  | none => exact q.elim
  | some k => exact ⟨k, rfl, q⟩
theorem mem_code (c : Char) (b : List Char) : decide (c.toNat ∈ b.map Char.toNat) = decide (c ∈ b) := by
  rw [Bool.eq_iff_iff, decide_eq_true_eq, decide_eq_true_eq, List.mem_map]
  exact ⟨fun ⟨d, m, e⟩ => char_inj e ▸ m, fun m => ⟨c, m, rfl⟩⟩
theorem vals_ints : ∀ {a : List D} {is : List Int} {vs : List V}, intsOf a = some is → DRs C p h H a vs → vs = is.map V.int
  | [], _, _, e, r => by cases e; cases r; rfl
  | x :: a, is, _, e, r => by
    cases r with
    | cons r t =>
      cases x with
      | int i =>
        unfold intsOf at e
        split at e
        · cases e
          rename_i q
          cases r
          rw [vals_ints q t]; rfl
        · cases e
      | _ => cases e
theorem vals_strs : ∀ {a : List D} {is : List (List Char)} {vs : List V}, strsOf a = some is → DRs C p h H a vs → vs = (is.map sOf).map V.str
  | [], _, _, e, r => by cases e; cases r; rfl
  | x :: a, is, _, e, r => by
    cases r with
    | cons r t =>
      cases x with
      | str i =>
        unfold strsOf at e
        split at e
        · cases e
          rename_i q
          cases r
          rw [vals_strs q t]; rfl
        · cases e
      | _ => cases e
theorem vals_bls : ∀ {a : List D} {is : List Bool} {vs : List V}, blsOf a = some is → DRs C p h H a vs → vs = is.map V.bl
  | [], _, _, e, r => by cases e; cases r; rfl
  | x :: a, is, _, e, r => by
    cases r with
    | cons r t =>
      cases x with
      | bl i =>
        unfold blsOf at e
        split at e
        · cases e
          rename_i q
          cases r
          rw [vals_bls q t]; rfl
        · cases e
      | _ => cases e
theorem lt_lex : ∀ a b : List Int, ltInts a b = HT.lexLt a b
  | [], [] => rfl
  | [], _ :: _ => rfl
  | _ :: _, [] => rfl
  | x :: xs, y :: ys => by unfold ltInts HT.lexLt; rw [lt_lex xs ys]
theorem flat_w (r : DR C p h H x vx) (f : flatD x = true) : flatV vx = true := by
  cases r <;> first | rfl | cases f
theorem flats_w : ∀ {ys : List D} {vs : List V}, DRs C p h H ys vs → ys.all flatD = true → vs.all flatV = true
  | _, _, .nil, _ => rfl
  | _, _, .cons r t, f => by
    rw [List.all_cons, Bool.and_eq_true] at f
    rw [List.all_cons, flat_w r f.1, flats_w t f.2]; rfl
theorem deq_flat (r : DR C p h H x vx) (s : DR C p h H y vy) (f : flatD x = true) (g : flatD y = true) : deq x y = eqV vx vy := by
  cases r <;> first | (cases f; done) | (cases s <;> first | (cases g; done) | rfl | (unfold deq eqV; rfl) | (unfold deq eqV; exact (beq_sOf _ _).symm))
theorem anyEq_flat (r : DR C p h H x vx) (f : flatD x = true) : ∀ {ys : List D} {vs : List V}, DRs C p h H ys vs → ys.all flatD = true → anyEq x ys = inV vx vs
  | _, _, .nil, _ => rfl
  | _, _, .cons s t, g => by
    rw [List.all_cons, Bool.and_eq_true] at g
    show (deq _ x || anyEq x _) = (eqV _ vx || inV vx _)
    rw [deq_flat s r g.1 f, anyEq_flat r f t g.2]
theorem eqD_some {k : Bool} (e : eqD x y h = some k) : ∃ a b, rsl h DP x = some a ∧ rsl h DP y = some b ∧ k = deq a b := by
  unfold eqD at e
  split at e
  · split at e
    · exact ⟨_, _, by assumption, by assumption, (Option.some.inj e).symm⟩
    · cases e
  · cases e
theorem inL_some {k : Bool} (e : inL x y h = some k) : ∃ a ys, rsl h DP x = some a ∧ rsl h DP y = some (.lst ys) ∧ k = anyEq a ys := by
  unfold inL at e
  split at e
  · split at e
    · exact ⟨_, _, by assumption, by assumption, (Option.some.inj e).symm⟩
    · cases e
  · cases e
theorem key_w {k : Ky} (r : DR C p h H x vx) (e : keyOf x = some k) : ∃ k', kyR k k' ∧ vx = kV k' := by
  cases r with
  | int i => cases e; exact ⟨.inl i, rfl, rfl⟩
  | str s => cases e; exact ⟨.inr (sOf s), rfl, rfl⟩
  | _ => cases e
theorem kyR_iff {k l : Ky} {k' l' : Key} (a : kyR k k') (b : kyR l l') : k = l ↔ k' = l' := by
  cases k <;> cases k' <;> cases l <;> cases l' <;> simp only [kyR] at a b <;> subst a <;> subst b <;> simp
  exact ⟨fun e => by rw [e], fun e => sOf_inj e⟩
theorem look_w {k : Ky} {k' : Key} (a : kyR k k') : ∀ {kvs : List (Ky × D)} {ws : List (Key × V)}, KR C p h H kvs ws → (∀ d, lookK k kvs = some d → ∃ v, valV ws k' = some v ∧ DR C p h H d v) ∧ (lookK k kvs = none → valV ws k' = none)
  | _, _, .nil => ⟨fun d e => (nomatch e), fun _ => rfl⟩
  | _, _, .cons (b := b) (a := a0) r t => by
    have ih := look_w a t
    by_cases q : a0.1 = k
    · have q' : b.1 = k' := (kyR_iff r.1 a).mp q
      rw [valV_pos q']
      unfold lookK
      rw [List.find?_cons_of_pos (by simpa using q)]
      refine ⟨fun d e => ?_, fun e => ?_⟩
      · cases e; exact ⟨_, rfl, r.2⟩
      · cases e
    · have q' : ¬ b.1 = k' := fun z => q ((kyR_iff r.1 a).mpr z)
      rw [valV_neg q']
      unfold lookK
      rw [List.find?_cons_of_neg (by simpa using q)]
      exact ih
theorem look_some {k : Ky} {k' : Key} {kvs : List (Ky × D)} {ws : List (Key × V)} (a : kyR k k') (r : KR C p h H kvs ws) : (lookK k kvs).isSome = (valV ws k').isSome := by
  cases e : lookK k kvs with
  | none => rw [(look_w a r).2 e]; rfl
  | some d => obtain ⟨v, q, _⟩ := (look_w a r).1 d e; rw [q]; rfl
/-! ### tuples as keys -/
theorem keys_w : ∀ {xs : List D} {vs : List V} {k : List Ky}, DRs C p h H xs vs → keysOf xs = some k → ∃ k', Paired kyR k k' ∧ vs = k'.map kV
  | [], _, _, .nil, e => by cases e; exact ⟨[], .nil, rfl⟩
  | x :: xs, _, k, .cons r t, e => by
    unfold keysOf at e
    split at e
    · rename_i k1 e1
      split at e
      · rename_i ks e2
        cases e
        obtain ⟨k', a, rfl⟩ := key_w r e1
        obtain ⟨ks', b, rfl⟩ := keys_w t e2
        exact ⟨k' :: ks', .cons a b, rfl⟩
      · cases e
    · cases e
theorem no_int : ∀ {xs : List D} {vs : List V}, DRs C p h H xs vs → (∀ v ∈ vs, ∃ z, v = V.str z) → xs.any isInt = false
  | _, _, .nil, _ => rfl
  | _, _, .cons r t, q => by
    rw [List.any_cons, no_int t fun v m => q v (List.mem_cons_of_mem _ m)]
    obtain ⟨z, e⟩ := q _ List.mem_cons_self
    cases r <;> first | rfl | cases e
theorem keyT_w {k : List Ky} (r : DR C p h H x vx) (e : keyT x = some k) : ∃ b k', Paired kyR k k' ∧ vx = .ref b ∧ H b = some (.tup (k'.map kV)) := by
  unfold keyT at e
  split at e
  · split at e
    · rename_i z
      cases r with
      | tup a r =>
        obtain ⟨k', q, rfl⟩ := keys_w r e
        rcases a with ⟨a, _⟩ | ⟨_, a⟩
        · exact ⟨_, k', q, rfl, a⟩
        · rw [no_int r a] at z; cases z
    · cases e
  · cases e
theorem kyRs_iff : ∀ {k l : List Ky} {k' l' : List Key}, Paired kyR k k' → Paired kyR l l' → (k = l ↔ k' = l')
  | _, _, _, _, .nil, .nil => by simp
  | _, _, _, _, .nil, .cons _ _ => by simp
  | _, _, _, _, .cons _ _, .nil => by simp
  | _, _, _, _, .cons a s, .cons b t => by
    rw [List.cons.injEq, List.cons.injEq, kyR_iff a b, kyRs_iff s t]
theorem lookQ_w {k : List Ky} {k' : List Key} (a : Paired kyR k k') : ∀ {kvs : List (List Ky × D)} {ws : List (List Key × V)}, QR C p h H kvs ws → (∀ d, lookQ k kvs = some d → ∃ v, valV ws k' = some v ∧ DR C p h H d v) ∧ (lookQ k kvs = none → valV ws k' = none)
  | _, _, .nil => ⟨fun d e => (nomatch e), fun _ => rfl⟩
  | _, _, .cons (b := b) (a := a0) r t => by
    have ih := lookQ_w a t
    by_cases q : a0.1 = k
    · have q' : b.1 = k' := (kyRs_iff r.1 a).mp q
      rw [valV_pos q']
      unfold lookQ
      rw [List.find?_cons_of_pos (by simpa using q)]
      refine ⟨fun d e => ?_, fun e => ?_⟩
      · cases e; exact ⟨_, rfl, r.2⟩
      · cases e
    · have q' : ¬ b.1 = k' := fun z => q ((kyRs_iff r.1 a).mpr z)
      rw [valV_neg q']
      unfold lookQ
      rw [List.find?_cons_of_neg (by simpa using q)]
      exact ih
theorem lookQ_some {k : List Ky} {k' : List Key} {kvs : List (List Ky × D)} {ws : List (List Key × V)} (a : Paired kyR k k') (r : QR C p h H kvs ws) : (lookQ k kvs).isSome = (valV ws k').isSome := by
  cases e : lookQ k kvs with
  | none => rw [(lookQ_w a r).2 e]; rfl
  | some d => obtain ⟨v, q, _⟩ := (lookQ_w a r).1 d e; rw [q]; rfl
/-! ### rows whose items may be dicts -/
theorem flatE_D : ∀ d : D, flatE d = flatD d := fun d => by cases d <;> rfl
theorem row_w (sr : SR C p h H) (r : DR C p h H x vx) {b : Bool} {xs : List D} (e : rowOf h x = some (b, xs)) : ∃ a vs, vx = .ref a ∧ DRs C p h H xs vs ∧ (if b = true then SqT C.K H a vs else SqL C.K H a vs) := by
  have l : ∀ ys, seqOf h x = some ys → rowOf h x = some (false, ys) → ∃ a vs, vx = .ref a ∧ DRs C p h H xs vs ∧ (if b = true then SqT C.K H a vs else SqL C.K H a vs) := fun ys e1 e2 => by
    rw [e] at e2
    cases e2
    obtain ⟨a, vs, rfl, s, d, _⟩ := seq_rd sr r e1
    exact ⟨a, vs, rfl, d, s⟩
  cases r with
  | tup a r => cases e; exact ⟨_, _, rfl, r, a.sq⟩
  | lst a r => exact l _ rfl rfl
  | ref e1 =>
    have e2 : (match seqOf h (.ref _) with | some xs => some (false, xs) | none => none) = some (b, xs) := e
    split at e2
    · rename_i q
      exact l _ q (by rw [e, e2])
    · cases e2
  | _ => cases e
theorem rows_w (sr : SR C p h H) (r : DR C p h H x vx) (e : (rowOf h x).isSome = true) : ∃ a, vx = .ref a ∧ VH.Sq C.K H a := by
  obtain ⟨⟨b, xs⟩, e⟩ := Option.isSome_iff_exists.mp e
  obtain ⟨a, vs, rfl, _, s⟩ := row_w sr r e
  refine ⟨a, rfl, ?_⟩
  split at s
  · exact .inr ⟨_, s⟩
  · exact .inl ⟨_, s⟩
theorem dctAt_w (sr : SR C p h H) (r : DR C p h H x vx) (e : dctAt h x = true) : ∃ a ws, vx = .ref a ∧ H a = some (.dK ws) := by
  unfold dctAt at e
  split at e
  · split at e
    · rename_i q
      obtain ⟨a, rfl, _, ws, hd, _⟩ := cell_rd sr r q
      exact ⟨a, ws, rfl, hd⟩
    · cases e
  · cases e
theorem isTx_w (r : DR C p h H x vx) (e : isTx x = true) : ∃ z, vx = .str z := by
  cases r <;> first | (cases e; done) | exact ⟨_, rfl⟩
theorem eqB_w (sr : SR C p h H) (rx : DR C p h H x vx) (ry : DR C p h H y vy) {k : Bool} (e : eqB h x y = some k) : VH.EgB C.K H vx vy k := by
  unfold eqB at e
  split at e
  · rename_i q
    cases e
    rw [flatE_D, flatE_D, Bool.and_eq_true] at q
    exact .inl ⟨flat_w rx q.1, flat_w ry q.2, deq_flat rx ry q.1 q.2⟩
  split at e
  · rename_i q
    cases e
    unfold refEq at q
    split at q
    · obtain rfl := of_decide_eq_true q
      cases rx with
      | ref e1 =>
        cases ry with
        | ref e2 =>
          rw [e1] at e2
          cases e2
          exact .inr (.inl ⟨_, rfl, rfl, rfl⟩)
    · cases q
  split at e
  · rename_i q
    cases e
    rw [Bool.and_eq_true, flatE_D] at q
    obtain ⟨a, rfl, s⟩ := rows_w sr rx q.1
    exact .inr (.inr (.inl ⟨a, rfl, s, flat_w ry q.2, rfl⟩))
  split at e
  · rename_i q
    cases e
    rw [Bool.and_eq_true, flatE_D] at q
    obtain ⟨a, rfl, s⟩ := rows_w sr ry q.1
    exact .inr (.inr (.inr (.inl ⟨a, rfl, s, flat_w rx q.2, rfl⟩)))
  split at e
  · rename_i q
    cases e
    rw [Bool.and_eq_true] at q
    obtain ⟨a, ws, rfl, hd⟩ := dctAt_w sr rx q.1
    obtain ⟨z, rfl⟩ := isTx_w ry q.2
    exact .inr (.inr (.inr (.inr (.inl ⟨a, ws, z, rfl, hd, rfl, rfl⟩))))
  split at e
  · rename_i q
    cases e
    rw [Bool.and_eq_true] at q
    obtain ⟨a, ws, rfl, hd⟩ := dctAt_w sr ry q.1
    obtain ⟨z, rfl⟩ := isTx_w rx q.2
    exact .inr (.inr (.inr (.inr (.inr ⟨a, ws, z, rfl, hd, rfl, rfl⟩))))
  · cases e
theorem zipE_w {f : D → D → Option Bool} {Fv : V → V → Bool → Prop} (ih : ∀ x y vx vy k, DR C p h H x vx → DR C p h H y vy → f x y = some k → Fv vx vy k) : ∀ {xs ys : List D} {vs ws : List V} {bs : List Bool}, DRs C p h H xs vs → DRs C p h H ys ws → zipE f xs ys = some bs → VH.EgL Fv vs ws bs
  | _, _, _, _, _, .nil, _, e => by unfold zipE at e; cases e; exact .nl
  | _, _, _, _, _, .cons _ _, .nil, e => by unfold zipE at e; cases e; exact .nr
  | _, _, _, _, _, .cons a s, .cons b t, e => by
    unfold zipE at e
    split at e
    · rename_i e1
      split at e
      · rename_i e2
        cases e
        exact .cons (ih _ _ _ _ _ a b e1) (zipE_w ih s t e2)
      · cases e
    · cases e
theorem eqR_w {f : D → D → Option Bool} {Fv : V → V → Bool → Prop} (sr : SR C p h H) (ih : ∀ x y vx vy k, DR C p h H x vx → DR C p h H y vy → f x y = some k → Fv vx vy k) (rx : DR C p h H x vx) (ry : DR C p h H y vy) {k : Bool} (e : eqR h f x y = some k) : VH.EgS C.K H Fv vx vy k := by
  unfold eqR at e
  split at e
  · rename_i b1 xs e1
    split at e
    · rename_i b2 ys e2
      obtain ⟨a, vs, rfl, d1, s1⟩ := row_w sr rx e1
      obtain ⟨b, ws, rfl, d2, s2⟩ := row_w sr ry e2
      split at e
      · rename_i q
        subst q
        split at e
        · rename_i bs e3
          cases e
          have l := zipE_w ih d1 d2 e3
          rw [d1.len, d2.len]
          cases b1 with
          | true => rw [if_pos rfl] at s1 s2; exact .inl ⟨a, b, vs, ws, bs, rfl, rfl, s1, s2, l, rfl⟩
          | false => rw [if_neg (by decide)] at s1 s2; exact .inr (.inl ⟨a, b, vs, ws, bs, rfl, rfl, s1, s2, l, rfl⟩)
        · cases e
      · rename_i q
        cases e
        cases b1 with
        | true =>
          cases b2 with
          | true => exact absurd rfl q
          | false => rw [if_pos rfl] at s1; rw [if_neg (by decide)] at s2; exact .inr (.inr (.inr ⟨a, b, vs, ws, rfl, rfl, s1, s2, rfl⟩))
        | false =>
          cases b2 with
          | false => exact absurd rfl q
          | true => rw [if_neg (by decide)] at s1; rw [if_pos rfl] at s2; exact .inr (.inr (.inl ⟨a, b, vs, ws, rfl, rfl, s1, s2, rfl⟩))
    · cases e
  · cases e
theorem eqG_w (sr : SR C p h H) : ∀ (n : Nat) (x y : D) (vx vy : V) (k : Bool), DR C p h H x vx → DR C p h H y vy → eqG h n x y = some k → VH.Eg C.K H n vx vy k
  | 0, _, _, _, _, _, rx, ry, e => eqB_w sr rx ry e
  | n + 1, x, y, vx, vy, k, rx, ry, e => by
    have e : (match eqB h x y with | some b => some b | none => eqR h (eqG h n) x y) = some k := e
    split at e
    · rename_i e1
      cases e
      exact .inl (eqB_w sr rx ry e1)
    · exact .inr (eqR_w sr (eqG_w sr n) rx ry e)
theorem eqM_w (sr : SR C p h H) (rx : DR C p h H x vx) (ry : DR C p h H y vy) {k : Bool} (e : eqM x y h = some k) : VH.EgS C.K H (VH.Eg C.K H 8) vx vy k := eqR_w sr (eqG_w sr 8) rx ry e
theorem anyE_w {f : D → Option Bool} {Fv : V → V → Bool → Prop} (ih : ∀ y vy k, DR C p h H y vy → f y = some k → Fv vy vx k) : ∀ {ys : List D} {ws : List V} {bs : List Bool}, DRs C p h H ys ws → anyE f ys = some bs → VH.EgA Fv vx ws bs
  | _, _, _, .nil, e => by unfold anyE at e; cases e; exact .nil
  | _, _, _, .cons b t, e => by
    unfold anyE at e
    split at e
    · rename_i e1
      split at e
      · rename_i e2
        cases e
        exact .cons (ih _ _ _ b e1) (anyE_w ih t e2)
      · cases e
    · cases e
theorem inM_w (sr : SR C p h H) (rx : DR C p h H x vx) (ry : DR C p h H y vy) {k : Bool} (e : inM x y h = some k) : ∃ a ws bs, vy = .ref a ∧ (SqL C.K H a ws ∨ SqT C.K H a ws) ∧ VH.EgA (VH.Eg C.K H 8) vx ws bs ∧ bs.any id = k := by
  unfold inM at e
  split at e
  · rename_i b ys e1
    split at e
    · rename_i bs e2
      cases e
      obtain ⟨a, ws, rfl, d, s⟩ := row_w sr ry e1
      refine ⟨a, ws, bs, rfl, ?_, anyE_w (fun y vy k r e => eqG_w sr 8 _ _ _ _ _ r rx e) d e2, rfl⟩
      split at s
      · exact .inr s
      · exact .inl s
    · cases e
  · cases e
theorem orS_some {a b : Option Bool} {k : Bool} (e : orS a b = some k) : a = some k ∨ b = some k := by
  cases a with
  | none => exact .inr e
  | some _ => exact .inl e
theorem inD_w (sr : SR C p h H) (rx : DR C p h H x vx) (ry : DR C p h H y vy) {k : Bool} (e : inD x y h = some k) :
    (∃ (c : Nat) (z : Str), vx = .str ⟨#[c]⟩ ∧ vy = .str z ∧ decide (c ∈ z.cps.toList) = k) ∨ (∃ p xs, vy = .ref p ∧ (SqL C.K H p xs ∨ SqT C.K H p xs) ∧ flatV vx = true ∧ xs.all flatV = true ∧ inV vx xs = k) ∨
    (∃ d ds, Dp C.K H vx d ∧ Dp C.K H vy (.list ds) ∧ SeqAt.shaped d = true ∧ SeqAt.shaped (.list ds) = true ∧ (ds.any fun z => PyData.eqv z d) = k) ∨ (∃ a o, vy = .ref a ∧ DGet H a vx o ∧ o.isSome = k) := by
  have li : inL x y h = some k → (∃ d ds, Dp C.K H vx d ∧ Dp C.K H vy (.list ds) ∧ SeqAt.shaped d = true ∧ SeqAt.shaped (.list ds) = true ∧ (ds.any fun z => PyData.eqv z d) = k) := fun e => by
    obtain ⟨a, ys, e1, e2, rfl⟩ := inL_some e
    obtain ⟨d1, p1, s1⟩ := rsl_dp sr rx e1
    obtain ⟨d2, p2, s2⟩ := rsl_dp sr ry e2
    exact ⟨_, _, d1, d2, s1, s2, (anyEq_py a p1 ys (by simpa [pur] using p2)).symm⟩
  unfold inD at e
  split at e
  · split at e
    · cases rx; cases ry
      cases e
      exact .inl ⟨_, _, rfl, rfl, mem_code _ _⟩
    · cases e
  · split at e
    · cases e
      rename_i q
      rw [Bool.and_eq_true] at q
      cases ry with
      | tup a r => exact .inr (.inl ⟨_, _, rfl, .inr a.sq, flat_w rx q.1, flats_w r q.2, (anyEq_flat rx q.1 r q.2).symm⟩)
    · cases e
  · split at e
    · split at e
      · rename_i n kvs q1 _ _ q2
        cases e
        obtain ⟨a, rfl, _, ws, hd, kr⟩ := cell_rd sr ry q1
        obtain ⟨k', a1, rfl⟩ := key_w rx q2
        exact .inr (.inr (.inr ⟨a, _, rfl, .k hd, (look_some a1 kr).symm⟩))
      · cases e
    · split at e
      · rename_i n kvs q1 _ _ q2
        cases e
        obtain ⟨a, rfl, _, ws, hd, kr⟩ := cell_rd sr ry q1
        obtain ⟨b, k', a1, rfl, hb⟩ := keyT_w rx q2
        exact .inr (.inr (.inr ⟨a, _, rfl, .t hd hb, (lookQ_some a1 kr).symm⟩))
      · cases e
    · exact .inr (.inr (.inl (li e)))
  · exact .inr (.inr (.inl (li e)))
theorem isD_w (rx : DR C p h H x vx) (ry : DR C p h H y vy) {k : Bool} (e : isD x y = some k) : (vy = .non ∧ decide (vx = .non) = k) ∨ ∃ a b, vx = .bl a ∧ vy = .bl b ∧ decide (a = b) = k := by
  cases ry with
  | non => cases rx <;> (unfold isD at e; cases e; exact .inl ⟨rfl, rfl⟩)
  | bl b =>
    cases rx with
    | bl a => unfold isD at e; cases e; exact .inr ⟨_, _, rfl, rfl, rfl⟩
    | _ => unfold isD at e; cases e
  | _ => cases rx <;> (unfold isD at e; cases e)
theorem cmpD_w {op : Cop} (sr : SR C p h H) (rx : DR C p h H x vx) (ry : DR C p h H y vy) (q : OkR C p h H (okB (cmpD op x y h) h) Q w) : rCmp C.K op vx vy H Q := by
  obtain ⟨k, e, q⟩ := okB_some q
  have qq : Q (.bl k) H := ok_same sr (.bl k) q
  clear q
  have q : Q (.bl k) H := qq
  have eqn : ∀ {k : Bool}, eqD x y h = some k → ∃ d e, Dp C.K H vx d ∧ Dp C.K H vy e ∧ SeqAt.shaped d = true ∧ SeqAt.shaped e = true ∧ k = PyData.eqv d e := fun e => by
    obtain ⟨a, b, e1, e2, rfl⟩ := eqD_some e
    obtain ⟨d1, p1, s1⟩ := rsl_dp sr rx e1
    obtain ⟨d2, p2, s2⟩ := rsl_dp sr ry e2
    exact ⟨_, _, d1, d2, s1, s2, deq_py a b p1 p2⟩
  cases op with
  | eq =>
    have e : orS (orS (eqD x y h) (eqS x y h)) (eqM x y h) = some k := e
    rcases orS_some e with e | e
    · rcases orS_some e with e | e
      · obtain ⟨d, e', h1, h2, h3, h4, rfl⟩ := eqn e
        exact .inl (.inl ⟨d, e', h1, h2, h3, h4, q⟩)
      · unfold eqS at e
        split at e
        · rename_i n z
          split at e
          · rename_i kvs e2
            cases e
            obtain ⟨ad, rfl, pa, ws, hH, r⟩ := cell_rd sr rx e2
            cases ry
            exact .inl (.inr ⟨ad, ws, _, rfl, hH, rfl, q⟩)
          · cases e
        · cases e
    · exact .inr ⟨8, k, by omega, eqM_w sr rx ry e, qq⟩
  | ne =>
    have e : (orS (orS (eqD x y h) (eqS x y h)) (eqM x y h)).map not = some k := e
    obtain ⟨k', e1, rfl⟩ := Option.map_eq_some_iff.mp e
    rcases orS_some e1 with e1 | e1
    · rcases orS_some e1 with e1 | e1
      · obtain ⟨d, e', h1, h2, h3, h4, rfl⟩ := eqn e1
        exact .inl (.inl ⟨d, e', h1, h2, h3, h4, q⟩)
      · unfold eqS at e1
        split at e1
        · rename_i n z
          split at e1
          · rename_i kvs e2
            cases e1
            obtain ⟨ad, rfl, pa, ws, hH, r⟩ := cell_rd sr rx e2
            cases ry
            exact .inl (.inr ⟨ad, ws, _, rfl, hH, rfl, qq⟩)
          · cases e1
        · cases e1
    · exact .inr ⟨8, k', by omega, eqM_w sr rx ry e1, q⟩
  | lt =>
    have e : ltD x y = some k := e
    unfold ltD at e
    split at e
    · cases rx; cases ry; cases e; exact .inl ⟨_, _, rfl, rfl, q⟩
    · cases rx; cases ry; cases e; exact .inr (.inl ⟨_, _, rfl, rfl, q⟩)
    · split at e
      · rename_i e1
        split at e
        · rename_i e2
          cases e
          cases rx with
          | tup a r =>
            cases ry with
            | tup b s =>
              have f1 := vals_ints e1 r
              have f2 := vals_ints e2 s
              subst f1 f2
              exact .inr (.inr ⟨_, _, _, _, rfl, rfl, a.sq, b.sq, by rw [← lt_lex]; exact q⟩)
        · cases e
      · cases e
    · cases e
  | le =>
    have e : leD x y = some k := e
    unfold leD at e
    split at e
    · cases rx; cases ry; cases e; exact .inl ⟨_, _, rfl, rfl, q⟩
    · cases rx; cases ry; cases e; exact .inr ⟨_, _, rfl, rfl, q⟩
    · cases e
  | gt =>
    have e : gtD x y = some k := e
    unfold gtD at e
    split at e
    · cases rx; cases ry; cases e; exact .inl ⟨_, _, rfl, rfl, q⟩
    · cases rx; cases ry; cases e; exact .inr ⟨_, _, rfl, rfl, q⟩
    · cases e
  | ge =>
    have e : geD x y = some k := e
    unfold geD at e
    split at e
    · cases rx; cases ry; cases e; exact .inl ⟨_, _, rfl, rfl, q⟩
    · cases rx; cases ry; cases e; exact .inr ⟨_, _, rfl, rfl, q⟩
    · cases e
  | isin =>
    have e : orS (inD x y h) (inM x y h) = some k := e
    rcases orS_some e with e | e
    · rcases inD_w sr rx ry e with ⟨c, z, e1, e2, rfl⟩ | ⟨p, xs, e1, e2, e3, e4, rfl⟩ | ⟨d, ds, e1, e2, e3, e4, rfl⟩ | ⟨a, o, e1, e2, rfl⟩
      · exact .inl ⟨c, z, e1, e2, q⟩
      · exact .inr (.inl ⟨p, xs, e1, e2, e3, e4, q⟩)
      · exact .inr (.inr (.inl ⟨d, ds, e1, e2, e3, e4, q⟩))
      · exact .inr (.inr (.inr (.inl ⟨a, o, e1, e2, q⟩)))
    · obtain ⟨a, ws, bs, rfl, s, g, rfl⟩ := inM_w sr rx ry e
      exact .inr (.inr (.inr (.inr ⟨8, a, ws, bs, by omega, rfl, s, g, q⟩)))
  | notin =>
    have e : (orS (inD x y h) (inM x y h)).map not = some k := e
    obtain ⟨k', e0, rfl⟩ := Option.map_eq_some_iff.mp e
    rcases orS_some e0 with e0 | e0
    · rcases inD_w sr rx ry e0 with ⟨c, z, e1, e2, rfl⟩ | ⟨p, xs, e1, e2, e3, e4, rfl⟩ | ⟨d, ds, e1, e2, e3, e4, rfl⟩ | ⟨a, o, e1, e2, rfl⟩
      · exact .inl ⟨c, z, e1, e2, q⟩
      · exact .inr (.inl ⟨p, xs, e1, e2, e3, e4, q⟩)
      · exact .inr (.inr (.inl ⟨d, ds, e1, e2, e3, e4, q⟩))
      · exact .inr (.inr (.inr (.inl ⟨a, o, e1, e2, q⟩)))
    · obtain ⟨a, ws, bs, rfl, s, g, rfl⟩ := inM_w sr rx ry e0
      exact .inr (.inr (.inr (.inr ⟨8, a, ws, bs, by omega, rfl, s, g, q⟩)))
  | is =>
    rcases isD_w rx ry e with ⟨e1, rfl⟩ | ⟨a, b, e1, e2, rfl⟩
    · exact .inl ⟨e1, q⟩
    · exact .inr ⟨a, b, e1, e2, q⟩
  | isnot =>
    obtain ⟨k', e0, rfl⟩ := Option.map_eq_some_iff.mp e
    rcases isD_w rx ry e0 with ⟨e1, rfl⟩ | ⟨a, b, e1, e2, rfl⟩
    · exact .inl ⟨e1, q⟩
    · exact .inr ⟨a, b, e1, e2, q⟩

/-! ### places and slices -/
theorem ix_eq (n : Nat) (i : Int) : ixOf n i = ixN n i := rfl
theorem getI_at {α : Type} (xs : List α) (i : Int) : getI xs i = atI xs i := by
  unfold getI atI
  rw [ix_eq]
  cases ixN xs.length i <;> rfl
theorem getI_w {xs : List D} {vs : List V} (r : DRs C p h H xs vs) {i : Int} {d : D} (e : getI xs i = some d) : ∃ v, atI vs i = some v ∧ DR C p h H d v := by
  unfold getI at e
  split at e
  · rename_i j q
    obtain ⟨v, h1, h2⟩ := r.get e
    refine ⟨v, ?_, h2⟩
    unfold atI
    rw [← ix_eq, ← r.len, q]
    exact h1
  · cases e
theorem getI_str {a : List Char} {i : Int} {c : Char} (e : getI a i = some c) : atI (sOf a).cps.toList i = some c.toNat := by
  unfold getI at e
  split at e
  · rename_i j q
    unfold atI
    rw [cps_sOf, List.length_map, ← ix_eq, q]
    show (a.map Char.toNat)[j]? = _
    rw [List.getElem?_map, e]; rfl
  · cases e
theorem getI_ints {a : List Int} {i : Int} {d : Int} (e : getI a i = some d) : atI (a.map V.int) i = some (V.int d) := by
  unfold getI at e
  split at e
  · rename_i j q
    unfold atI
    rw [List.length_map, ← ix_eq, q]
    show (a.map V.int)[j]? = _
    rw [List.getElem?_map, e]; rfl
  · cases e
def isDct (x : D) (h : Hs) : Bool := match x with
  | .ref n => match h[n]? with
    | some (.dct _) => true
    | some (.dt _) => true
    | _ => false
  | _ => false
/-- a subscript that is no dict's -/
theorem idxD_w (sr : SR C p h H) (rx : DR C p h H x vx) (ry : DR C p h H y vy) (q : OkR C p h H (idxD x y h) Q w) : (isDct x h = false ∧ rIx C.K vx vy H Q) ∨ (isDct x h = true ∧ ∃ a v, vx = .ref a ∧ DGet H a vy (some v) ∧ Q v H) := by
  unfold idxD at q
  split at q
  · split at q
    · rename_i e
      split at q
      · rename_i z
        cases rx; cases ry
        exact .inl ⟨rfl, .inr (.inr ⟨_, _, _, rfl, rfl, by rw [len_sOf, SZ_eq]; exact z, getI_str e, ok_same sr (.str [_]) q⟩)⟩
      · exact q.elim
    · exact q.elim
  · split at q
    · rename_i e
      cases ry
      cases rx with
      | tup a r =>
        obtain ⟨v, e1, e2⟩ := getI_w r e
        exact .inl ⟨rfl, .inr (.inl ⟨_, _, _, v, rfl, rfl, a.sq, e1, ok_same sr e2 q⟩)⟩
    · exact q.elim
  · split at q
    · rename_i e
      cases ry
      cases rx with
      | lst a r =>
        obtain ⟨v, e1, e2⟩ := getI_w r e
        exact .inl ⟨rfl, .inl ⟨_, _, _, v, rfl, rfl, a.sq, e1, ok_same sr e2 q⟩⟩
    · exact q.elim
  · split at q
    · rename_i e
      cases ry
      cases rx with
      | scr r => exact .inl ⟨rfl, .inl ⟨_, _, _, _, rfl, rfl, r.sq, getI_ints e, ok_same sr (.int _) q⟩⟩
    · exact q.elim
  · split at q
    · rename_i e0
      split at q
      · split at q
        · rename_i e
          cases ry
          obtain ⟨a, rfl, _, vs, ha, r⟩ := cell_rd sr rx e0
          obtain ⟨v, e1, e2⟩ := getI_w r e
          exact .inl ⟨by simp only [isDct, e0], .inl ⟨_, _, _, v, rfl, rfl, .of ha, e1, ok_same sr e2 q⟩⟩
        · exact q.elim
      · exact q.elim
    · rename_i e0
      split at q
      · rename_i e1
        split at q
        · rename_i e2
          obtain ⟨a, rfl, _, ws, ha, r⟩ := cell_rd sr rx e0
          obtain ⟨k', z, rfl⟩ := key_w ry e1
          obtain ⟨v, e3, e4⟩ := (look_w z r).1 _ e2
          refine .inr ⟨by simp only [isDct, e0], a, v, rfl, ?_, ok_same sr e4 q⟩
          rw [← e3]; exact .k ha
        · exact q.elim
      · exact q.elim
    · rename_i e0
      split at q
      · rename_i e1
        split at q
        · rename_i e2
          obtain ⟨a, rfl, _, ws, ha, r⟩ := cell_rd sr rx e0
          obtain ⟨b, k', z, rfl, hb⟩ := keyT_w ry e1
          obtain ⟨v, e3, e4⟩ := (lookQ_w z r).1 _ e2
          refine .inr ⟨by simp only [isDct, e0], a, v, rfl, ?_, ok_same sr e4 q⟩
          rw [← e3]; exact .t ha hb
        · exact q.elim
      · exact q.elim
    · exact q.elim
  · exact q.elim
theorem cut_V {xs : List D} {vs : List V} (r : DRs C p h H xs vs) (lo hi : Option Int) : DRs C p h H (cut xs lo hi) (cutV vs lo hi) := by
  have e : ∀ n d o, clip n d o = HT.sIx n d o := fun n d o => by cases o <;> rfl
  unfold cut cutV
  rw [← r.len, e, e]
  exact (r.drop _).take _
theorem cut_S (a : List Char) (lo hi : Option Int) : cutS (sOf a) lo hi = sOf (cut a lo hi) := by
  have e : ∀ n d o, clip n d o = HT.sIx n d o := fun n d o => by cases o <;> rfl
  unfold cutS cut
  rw [len_sOf, cps_sOf, ← e, ← e]
  unfold sOf
  rw [List.map_take, List.map_drop]
theorem cut_all {xs : List V} {lo hi : Option Int} (e1 : HT.sIx xs.length 0 lo = 0) (e2 : HT.sIx xs.length xs.length hi = xs.length) : cutV xs lo hi = xs := by
  unfold cutV
  rw [e1, e2, List.drop_zero, Nat.sub_zero, List.take_length]
theorem DRs.ints : ∀ (is : List Int), DRs C p h H (is.map .int) (is.map V.int)
  | [] => .nil
  | i :: r => .cons (.int i) (DRs.ints r)
abbrev rSli (K : PySem.W.Frag) : V → Option Int → Option Int → L2.Hp → VK → Prop := fun x lo hi H Q => rSlS x lo hi H Q ∨ rSlA K x lo hi H Q ∨ rSlL K x lo hi H Q
theorem sl_A {X : Cx} : SlR X (rSli X.K) := sl_str.or (sl_tupA.or sl_list)
theorem sliD_w {hp : Bool} {lo hi : Option Int} (sr : SR C p h H) (rx : DR C p h H x vx) (q : OkR C p h H (sliD hp x lo hi h) Q w) : rSli C.K vx lo hi H Q := by
  unfold sliD at q
  split at q
  · split at q
    · rename_i z
      cases rx
      refine .inl ⟨_, rfl, by rw [len_sOf, SZ_eq]; exact z, ?_⟩
      rw [cut_S]
      exact ok_same sr (.str _) q
    · exact q.elim
  · cases rx with
    | tup a r =>
      refine .inr (.inl ⟨_, _, rfl, a.sq, fun ⟨e1, e2⟩ => ?_, fun _ => ok_tup sr (cut_V r lo hi) q⟩)
      have e := cut_V r lo hi
      rw [cut_all e1 e2] at e
      exact ok_same sr (.tup a e) q
  · cases rx with
    | scr r => exact .inr (.inr ⟨_, _, rfl, r.sq, ok_mkL sr (cut_V (DRs.ints _) lo hi) q⟩)
  · split at q
    · rename_i e
      obtain ⟨l, vs, rfl, s, d, _⟩ := seq_rd sr rx e
      exact .inr (.inr ⟨_, _, rfl, s, ok_mkL sr (cut_V d lo hi) q⟩)
    · exact q.elim

/-! ### calls of built-ins -/
theorem minI_spec : ∀ (r : List Int) (m : Int), (minI m r = m ∨ minI m r ∈ r) ∧ minI m r ≤ m ∧ ∀ y ∈ r, minI m r ≤ y
  | [], m => ⟨.inl rfl, Int.le_refl _, fun _ e => nomatch e⟩
  | x :: r, m => by
    obtain ⟨h1, h2, h3⟩ := minI_spec r (if x < m then x else m)
    unfold minI
    refine ⟨?_, ?_, fun y hy => ?_⟩
    · rcases h1 with h1 | h1
      · rw [h1]; split
        · exact .inr List.mem_cons_self
        · exact .inl rfl
      · exact .inr (List.mem_cons_of_mem _ h1)
    · refine Int.le_trans h2 ?_; split <;> omega
    · rcases List.mem_cons.mp hy with z | z
      · subst z; refine Int.le_trans h2 ?_; split <;> omega
      · exact h3 y z
theorem maxI_spec : ∀ (r : List Int) (m : Int), (maxI m r = m ∨ maxI m r ∈ r) ∧ m ≤ maxI m r ∧ ∀ y ∈ r, y ≤ maxI m r
  | [], m => ⟨.inl rfl, Int.le_refl _, fun _ e => nomatch e⟩
  | x :: r, m => by
    obtain ⟨h1, h2, h3⟩ := maxI_spec r (if x > m then x else m)
    unfold maxI
    refine ⟨?_, ?_, fun y hy => ?_⟩
    · rcases h1 with h1 | h1
      · rw [h1]; split
        · exact .inr List.mem_cons_self
        · exact .inl rfl
      · exact .inr (List.mem_cons_of_mem _ h1)
    · refine Int.le_trans ?_ h2; split <;> omega
    · rcases List.mem_cons.mp hy with z | z
      · subst z; refine Int.le_trans ?_ h2; split <;> omega
      · exact h3 y z
theorem rMin_w {a : Addr} {i : Int} {r : List Int} (s : SqL C.K H a ((i :: r).map V.int)) (q : Q (.int (minI i r)) H) : rMin C.K [.ref a] H Q := by
  obtain ⟨m1, m2, m3⟩ := minI_spec r i
  refine ⟨a, _, rfl, s, Nat.zero_lt_succ _, fun m hm hall => ?_⟩
  have em : m = minI i r := by
    have a1 : minI i r ≤ m := by
      rcases List.mem_cons.mp hm with z | z
      · subst z; exact m2
      · exact m3 m z
    have a2 : m ≤ minI i r := hall _ (by
      rcases m1 with z | z
      · rw [z]; exact List.mem_cons_self
      · exact List.mem_cons_of_mem _ z)
    omega
  rw [em]; exact q
theorem rMax_w {a : Addr} {i : Int} {r : List Int} (s : SqL C.K H a ((i :: r).map V.int)) (q : Q (.int (maxI i r)) H) : rMax C.K [.ref a] H Q := by
  obtain ⟨m1, m2, m3⟩ := maxI_spec r i
  refine ⟨a, _, rfl, s, Nat.zero_lt_succ _, fun m hm hall => ?_⟩
  have em : m = maxI i r := by
    have a1 : m ≤ maxI i r := by
      rcases List.mem_cons.mp hm with z | z
      · subst z; exact m2
      · exact m3 m z
    have a2 : maxI i r ≤ m := hall _ (by
      rcases m1 with z | z
      · rw [z]; exact List.mem_cons_self
      · exact List.mem_cons_of_mem _ z)
    omega
  rw [em]; exact q
theorem rMinT_w {a : Addr} {i : Int} {r : List Int} (s : SqT C.K H a ((i :: r).map V.int)) (q : Q (.int (minI i r)) H) : VH.rMinT C.K [.ref a] H Q := by
  obtain ⟨m1, m2, m3⟩ := minI_spec r i
  refine ⟨a, _, rfl, s, Nat.zero_lt_succ _, fun m hm hall => ?_⟩
  have em : m = minI i r := by
    have a1 : minI i r ≤ m := by
      rcases List.mem_cons.mp hm with z | z
      · subst z; exact m2
      · exact m3 m z
    have a2 : m ≤ minI i r := hall _ (by
      rcases m1 with z | z
      · rw [z]; exact List.mem_cons_self
      · exact List.mem_cons_of_mem _ z)
    omega
  rw [em]; exact q
theorem rMaxT_w {a : Addr} {i : Int} {r : List Int} (s : SqT C.K H a ((i :: r).map V.int)) (q : Q (.int (maxI i r)) H) : VH.rMaxT C.K [.ref a] H Q := by
  obtain ⟨m1, m2, m3⟩ := maxI_spec r i
  refine ⟨a, _, rfl, s, Nat.zero_lt_succ _, fun m hm hall => ?_⟩
  have em : m = maxI i r := by
    have a1 : m ≤ maxI i r := by
      rcases List.mem_cons.mp hm with z | z
      · subst z; exact m2
      · exact m3 m z
    have a2 : maxI i r ≤ m := hall _ (by
      rcases m1 with z | z
      · rw [z]; exact List.mem_cons_self
      · exact List.mem_cons_of_mem _ z)
    omega
  rw [em]; exact q
abbrev RC := List V → L2.Hp → VK → Prop
def bltN : Blt → String
  | .len => "len" | .all => "all" | .int => "int" | .min => "min" | .max => "max" | .sum => "sum" | .list => "list" | .tuple => "tuple" | .sorted => "sorted" | .abs => "abs" | .str => "str" | .repr => "repr" | .dict => "dict" | .bool => "bool"
/-- is it a class -/
def bltT : Blt → Bool
  | .int => true | .list => true | .tuple => true | .str => true | .dict => true | .bool => true
  | _ => false
def bltV (b : Blt) : Value := if bltT b then .type (bltN b) else .builtin (bltN b)
def rBlt (K : PySem.W.Frag) : Blt → RC
  | .len => fun xs H Q => ∃ x n, xs = [x] ∧ LenV K x H n ∧ Q (.int n) H
  | .all => rAll K
  | .int => fun xs H Q => (∃ i, xs = [.int i] ∧ Q (.int i) H) ∨ ∃ k, xs = [.bl k] ∧ Q (.int (if k then 1 else 0)) H
  | .min => fun xs H Q => (∃ i j, xs = [.int i, .int j] ∧ Q (.int (if j < i then j else i)) H) ∨ rMin K xs H Q ∨ VH.rMinT K xs H Q
  | .max => fun xs H Q => (∃ i j, xs = [.int i, .int j] ∧ Q (.int (if j > i then j else i)) H) ∨ rMax K xs H Q ∨ VH.rMaxT K xs H Q
  | .sum => rSum K
  | .list => fun xs H Q => (∃ p ys, xs = [.ref p] ∧ (SqL K H p ys ∨ SqT K H p ys) ∧ ∀ l, H l = none → Q (.ref l) (upd H l (.lst ys))) ∨ (∃ x, xs = [.str x] ∧ x.cps.size ≤ sizeLine ∧ ∀ q, H q = none → Q (.ref q) (upd H q (.lst (VH.sigV x)))) ∨ L2.rListD xs H Q
  | .tuple => fun xs H Q => (∃ p ys, xs = [.ref p] ∧ ((SqL K H p ys ∧ ∀ l, H l = none → Q (.ref l) (upd H l (.tup ys))) ∨ (SqT K H p ys ∧ Q (.ref p) H))) ∨ ∃ x, xs = [.str x] ∧ x.cps.size ≤ sizeLine ∧ ∀ q, H q = none → Q (.ref q) (upd H q (.tup (VH.sigV x)))
  | .abs => fun xs H Q => ∃ i, xs = [.int i] ∧ Q (.int (if i < 0 then -i else i)) H
  | .sorted => VH.rSortA K
  | _ => fun _ _ _ => False
theorem cr_bltA {X : Cx} (hc : X.calm = true) : ∀ b, CallR X (bltV b) (rBlt X.K b)
  | .len => call_len
  | .all => cr_all hc
  | .int => call_int1
  | .min => (call_min2 hc).or ((cr_min hc).or (VH.cr_minT hc))
  | .max => (call_max2 hc).or ((cr_max hc).or (VH.cr_maxT hc))
  | .sum => cr_sum hc
  | .list => call_list_of.or ((VH.call_listS hc).or (call_list_dK hc))
  | .tuple => call_tuple_of.or (VH.call_tupS hc)
  | .abs => call_abs
  | .sorted => VH.cr_sortedA
  | .str => fun _ _ _ _ _ _ _ _ _ q => q.elim
  | .repr => fun _ _ _ _ _ _ _ _ _ q => q.elim
  | .dict => fun _ _ _ _ _ _ _ _ _ q => q.elim
  | .bool => fun _ _ _ _ _ _ _ _ _ q => q.elim
theorem lst_or {d : D} {xs : List D} (e : lstOf h d = some xs) : (∃ x, d = .str x ∧ x.length ≤ SZ ∧ xs = sigL x) ∨ (∃ n kvs, d = .ref n ∧ h[n]? = some (.dct kvs) ∧ xs = kvs.map fun p => kd p.1) ∨ anyOf h d = some xs := by
  cases d <;> first | exact .inr (.inr e) | skip
  · rename_i x
    have e : (if x.length ≤ SZ then some (sigL x) else none) = some xs := e
    split at e
    · exact .inl ⟨x, rfl, ‹_›, (Option.some.inj e).symm⟩
    · cases e
  · rename_i n
    unfold lstOf at e
    simp only at e
    split at e
    · rename_i e1
      cases e
      exact .inr (.inr (by simp only [anyOf, seqOf, e1]))
    · rename_i e1
      cases e
      exact .inr (.inl ⟨n, _, rfl, e1, rfl⟩)
    · cases e
theorem keys_rd : ∀ {kvs : List (Ky × D)} {ws : List (Key × V)}, KR C p h H kvs ws → DRs C p h H (kvs.map fun q => kd q.1) (ws.map fun q => kV q.1)
  | _, _, .nil => .nil
  | (k, d) :: kvs, (k', v) :: ws, .cons q r => by
    have z := q.1
    refine .cons ?_ (keys_rd r)
    cases k <;> cases k' <;> first | (cases z; done) | skip
    · have z : _ = _ := z
      subst z; exact .int _
    · have z : _ = _ := z
      rw [← z]; exact .str _
theorem dropK_w {k : Ky} {k' : Key} (a : kyR k k') : ∀ {kvs : List (Ky × D)} {ws : List (Key × V)}, KR C p h H kvs ws → KR C p h H (dropKy k kvs) (L2.dropK ws k')
  | _, _, .nil => .nil
  | q :: kvs, w :: ws, .cons r t => by
    have ih := dropK_w a t
    have i := kyR_iff a r.1
    unfold dropKy L2.dropK at ih ⊢
    rw [List.filter_cons, List.filter_cons]
    by_cases z : q.1 = k
    · have z2 : w.1 = k' := (i.mp z.symm).symm
      simp only [z, z2, decide_true, Bool.not_true, ne_eq, not_true_eq_false, decide_false, if_false, Bool.false_eq_true]
      exact ih
    · have z2 : ¬ w.1 = k' := fun e => z (i.mpr e.symm).symm
      simp only [z, z2, decide_false, Bool.not_false, ne_eq, not_false_eq_true, decide_true, if_true]
      exact .cons r ih
/-! ### sorted -/
theorem lt_tri : ∀ a b : List Int, ltInts a b = false → ltInts b a = false → a = b
  | [], [], _, _ => rfl
  | [], _ :: _, h, _ => by simp [ltInts] at h
  | _ :: _, [], _, h => by simp [ltInts] at h
  | x :: a, y :: b, h1, h2 => by
    unfold ltInts at h1 h2
    by_cases e : x = y
    · subst e
      simp only [if_true] at h1 h2
      rw [lt_tri a b h1 h2]
    · have e2 : ¬ y = x := fun z => e z.symm
      simp only [e, e2, if_false, decide_eq_false_iff_not] at h1 h2
      omega
theorem lt_asym : ∀ a b : List Int, ltInts a b = true → ltInts b a = false
  | [], [], h => by simp [ltInts] at h
  | [], _ :: _, _ => by simp [ltInts]
  | _ :: _, [], h => by simp [ltInts] at h
  | x :: a, y :: b, h => by
    unfold ltInts at h ⊢
    by_cases e : x = y
    · subst e
      simp only [if_true] at h ⊢
      exact lt_asym a b h
    · have e2 : ¬ y = x := fun z => e z.symm
      simp only [e, e2, if_false, decide_eq_true_eq, decide_eq_false_iff_not] at h ⊢
      omega
theorem le_trans3 : ∀ a b c : List Int, leI a b = true → leI b c = true → leI a c = true := by
  have key : ∀ a b c : List Int, ltInts b a = false → ltInts c b = false → ltInts c a = false := by
    intro a
    induction a with
    | nil =>
      intro b c h1 h2
      cases b with
      | nil => exact h2
      | cons y b => cases c <;> simp [ltInts] at h1 h2 ⊢
    | cons x a ih =>
      intro b c h1 h2
      cases b with
      | nil => simp [ltInts] at h1
      | cons y b =>
        cases c with
        | nil => simp [ltInts] at h2
        | cons z c =>
          unfold ltInts at h1 h2 ⊢
          by_cases e : y = x
          · subst e
            simp only [if_true] at h1
            by_cases e2 : z = y
            · subst e2
              simp only [if_true] at h2 ⊢
              exact ih b c h1 h2
            · simp only [e2, if_false] at h2 ⊢
              exact h2
          · simp only [e, if_false, decide_eq_false_iff_not] at h1
            by_cases e2 : z = y
            · subst e2
              simp only [e, if_false, decide_eq_false_iff_not]; omega
            · simp only [e2, if_false, decide_eq_false_iff_not] at h2
              have e3 : ¬ z = x := by omega
              simp only [e3, if_false, decide_eq_false_iff_not]; omega
  intro a b c h1 h2
  unfold leI at *
  simp only [Bool.not_eq_true'] at *
  exact key a b c h1 h2
theorem le_total2 (a b : List Int) : (leI a b || leI b a) = true := by
  unfold leI
  cases e : ltInts b a with
  | false => rfl
  | true => rw [lt_asym b a e]; rfl
theorem le_anti (a b : List Int) (h1 : leI a b = true) (h2 : leI b a = true) : a = b := by
  unfold leI at h1 h2
  simp only [Bool.not_eq_true'] at h1 h2
  exact lt_tri a b h2 h1
theorem rowD_of {d : D} {i : List Int} (e : rowI d = some i) : d = rowD i := by
  cases d <;> first | (cases e; done) | skip
  rename_i xs
  have e : intsOf xs = some i := e
  have : ∀ (xs : List D) (i : List Int), intsOf xs = some i → xs = i.map .int := by
    intro xs
    induction xs with
    | nil => intro i e; cases e; rfl
    | cons x xs ih =>
      intro i e
      cases x <;> first | (cases e; done) | skip
      unfold intsOf at e
      split at e
      · rename_i e1; cases e; rw [ih _ e1]; rfl
      · cases e
  rw [this xs i e]; rfl
theorem rowsD_of : ∀ {xs : List D} {is : List (List Int)}, rowsI xs = some is → xs = is.map rowD
  | [], _, e => by cases e; rfl
  | d :: xs, is, e => by
    unfold rowsI at e
    split at e
    · rename_i e1
      split at e
      · rename_i e2
        cases e
        rw [rowD_of e1, rowsD_of e2]; rfl
      · cases e
    · cases e
theorem rowI_D (i : List Int) : rowI (rowD i) = some i := by
  have : ∀ l : List Int, intsOf (l.map .int) = some l := fun l => by
    induction l with
    | nil => rfl
    | cons a l ih => rw [List.map_cons, intsOf, ih]
  exact this i
theorem rowI_w {d : D} {v : V} {i : List Int} (r : DR C p h H d v) (e : rowI d = some i) : TupI C.K H v i := by
  cases r <;> first | (cases e; done) | skip
  rename_i a r
  have f := vals_ints (show intsOf _ = some i from e) r
  subst f
  exact ⟨_, rfl, a.sq⟩
theorem bd_of : ∀ is : List (List Int), (∀ i ∈ is, ∀ k ∈ i, 0 ≤ k) → ∃ B : Int, ∀ i ∈ is, TS.Bd B i := by
  intro is h
  have one : ∀ i : List Int, ∃ B : Int, ∀ k ∈ i, k < B := fun i => by
    induction i with
    | nil => exact ⟨0, fun _ m => by cases m⟩
    | cons a i ih =>
      obtain ⟨B, hB⟩ := ih
      refine ⟨max B (a + 1), fun k m => ?_⟩
      rcases List.mem_cons.mp m with rfl | m
      · omega
      · have := hB k m; omega
  induction is with
  | nil => exact ⟨0, fun _ m => by cases m⟩
  | cons a is ih =>
    obtain ⟨B, hB⟩ := ih fun i m => h i (List.mem_cons_of_mem _ m)
    obtain ⟨B2, hB2⟩ := one a
    refine ⟨max B B2, fun i m k mk => ?_⟩
    rcases List.mem_cons.mp m with rfl | m
    · have := hB2 k mk
      have := h i List.mem_cons_self k mk
      omega
    · have := hB i m k mk
      omega
theorem code_le {B : Int} : ∀ {a b : List Int}, a.length = b.length → TS.Bd B a → TS.Bd B b → TS.code B a ≤ TS.code B b → leI a b = true := by
  have key : ∀ {a b : List Int}, a.length = b.length → TS.Bd B a → TS.Bd B b → ltInts b a = true → TS.code B b < TS.code B a := by
    intro a
    induction a with
    | nil => intro b hl _ _ h; cases b <;> simp [ltInts] at h hl
    | cons x a ih =>
      intro b hl ha hb h
      cases b with
      | nil => simp at hl
      | cons y b =>
        have hl2 : a.length = b.length := by simpa using hl
        unfold ltInts at h
        by_cases e : y = x
        · subst e
          simp only [if_true] at h
          exact (TS.code_same hl2.symm).mpr (ih hl2 ha.tail hb.tail h)
        · simp only [e, if_false, decide_eq_true_eq] at h
          exact TS.code_lt hl2.symm hb.tail ha.tail h
  intro a b hl ha hb h
  unfold leI
  cases e : ltInts b a with
  | false => rfl
  | true => have := key hl ha hb e; omega
theorem rows_perm : ∀ {vs us : List V}, vs.Perm us → ∀ {xs : List D}, DRs C p h H xs vs → ∃ ys, xs.Perm ys ∧ DRs C p h H ys us := by
  intro vs us q
  induction q with
  | nil => intro xs r; cases r; exact ⟨[], .refl _, .nil⟩
  | cons a _ ih =>
    intro xs r
    cases r with
    | cons r t =>
      obtain ⟨ys, e1, e2⟩ := ih t
      exact ⟨_, e1.cons _, .cons r e2⟩
  | swap a b l =>
    intro xs r
    cases r with
    | cons r t =>
      cases t with
      | cons r2 t => exact ⟨_, .swap _ _ _, .cons r2 (.cons r t)⟩
  | trans _ _ ih1 ih2 =>
    intro xs r
    obtain ⟨ys, e1, e2⟩ := ih1 r
    obtain ⟨zs, e3, e4⟩ := ih2 e2
    exact ⟨zs, e1.trans e3, e4⟩
theorem tup_or {d : D} {xs : List D} (e : tupOf h d = some xs) : (∃ x, d = .str x ∧ x.length ≤ SZ ∧ xs = sigL x) ∨ seqOf h d = some xs := by
  cases d <;> first | exact .inr e | skip
  rename_i x
  have e : (if x.length ≤ SZ then some (sigL x) else none) = some xs := e
  split at e
  · exact .inl ⟨x, rfl, ‹_›, (Option.some.inj e).symm⟩
  · cases e
theorem sig_rd {x : List Char} : DRs C p h H (sigL x) (VH.sigV (sOf x)) := by
  have e : VH.sigV (sOf x) = x.map fun c => V.str (sOf [c]) := by
    unfold VH.sigV sOf
    simp only [List.map_map]
    rfl
  rw [e]
  induction x with
  | nil => exact .nil
  | cons c x ih => exact .cons (.str [c]) (ih (by unfold VH.sigV sOf; simp only [List.map_map]; rfl))
theorem sort_w {a : Addr} {hp : Bool} {xs ys : List D} {ws : List V} (sr : SR C p h H) (s : SqL C.K H a ws) (d : DRs C p h H xs ws) (e : sortD xs = some ys) (q : OkR C p h H (mkL hp ys h) Q w) : VH.rSortA C.K [.ref a] H Q := by
  unfold sortD at e
  split at e
  · rename_i is e1
    cases e
    have f := vals_ints e1 d
    subst f
    refine .inl ⟨a, is, rfl, s, fun ns' b pm pw hb => ?_⟩
    have e2 : ns' = is.mergeSort fun a b => decide (a ≤ b) := VH.perm_one (le := (· ≤ ·)) (fun a b h1 h2 => Int.le_antisymm h1 h2) (pm.trans (List.mergeSort_perm is _).symm) pw
      ((List.pairwise_mergeSort (le := fun a b : Int => decide (a ≤ b)) (fun a b c h1 h2 => by simp at *; omega) (fun a b => by simp; omega) is).imp fun h => by simpa using h)
    subst e2
    exact ok_mkL sr (DRs.ints _) q b hb
  · split at e
    · rename_i is e1
      split at e
      · rename_i z
        cases e
        unfold rowsOk at z
        simp only [Bool.and_eq_true, decide_eq_true_eq, List.all_eq_true] at z
        obtain ⟨z1, z2⟩ := z
        obtain ⟨B, hB⟩ := bd_of is fun i m k mk => (z2 i m).2 k mk
        have xe := rowsD_of e1
        subst xe
        by_cases ne : is = []
        · subst ne
          cases d
          refine .inl ⟨a, [], rfl, s, fun ns' b pm pw hb => ?_⟩
          have := List.perm_nil.mp pm
          subst this
          exact ok_mkL sr (xs := []) (vs := []) .nil (by simpa using q) b hb
        · obtain ⟨i0, t0, e0⟩ := List.exists_cons_of_ne_nil ne
          refine .inr ⟨(is.headD []).length, B, by rw [e0]; exact (z2 i0 (by rw [e0]; simp)).1.1, a, ws, rfl, s, by rw [← d.len, List.length_map]; exact z1, fun v mv => ?_, fun us b pm pw hb => ?_⟩
          · obtain ⟨j, hj⟩ := List.mem_iff_getElem?.mp mv
            have lj := (List.getElem?_eq_some_iff.mp hj).1
            rw [← d.len, List.length_map] at lj
            have ei : is[j]? = some is[j] := List.getElem?_eq_getElem lj
            obtain ⟨u, eu, rx⟩ := d.get (show (is.map rowD)[j]? = some (rowD is[j]) by rw [List.getElem?_map, ei]; rfl)
            rw [hj] at eu
            cases eu
            generalize is[j] = i at *
            have mi := List.mem_of_getElem? ei
            exact ⟨i, rowI_w rx (rowI_D i), (z2 i mi).1.2, hB i mi⟩
          · obtain ⟨xs', p1, d1⟩ := rows_perm pm.symm d
            obtain ⟨is', p2, rfl⟩ : ∃ is', is.Perm is' ∧ xs' = is'.map rowD := by
              have : ∀ {l m : List D}, l.Perm m → ∀ {is : List (List Int)}, l = is.map rowD → ∃ is', is.Perm is' ∧ m = is'.map rowD := by
                intro l m q
                induction q with
                | nil => intro is e; exact ⟨is, .refl _, e⟩
                | cons x _ ih =>
                  intro is e
                  cases is with
                  | nil => cases e
                  | cons i is =>
                    rw [List.map_cons] at e
                    injection e with ea eb
                    obtain ⟨is', q1, q2⟩ := ih eb
                    exact ⟨i :: is', q1.cons _, by rw [List.map_cons, ← q2, ea]⟩
                | swap x y l =>
                  intro is e
                  cases is with
                  | nil => cases e
                  | cons i is =>
                    cases is with
                    | nil => cases e
                    | cons j is =>
                      rw [List.map_cons, List.map_cons] at e
                      injection e with ea eb
                      injection eb with eb ec
                      exact ⟨j :: i :: is, .swap _ _ _, by rw [List.map_cons, List.map_cons, ea, eb, ec]⟩
                | trans _ _ h1 h2 =>
                  intro is e
                  obtain ⟨i1, q1, q2⟩ := h1 e
                  obtain ⟨i2, q3, q4⟩ := h2 q2
                  exact ⟨i2, q1.trans q3, q4⟩
              exact this p1 rfl
            have pc : ∀ {js : List (List Int)} {us : List V}, DRs C p h H (js.map rowD) us → (∀ i ∈ js, i.length = (is.headD []).length ∧ TS.Bd B i) → us.Pairwise (fun x y => ∀ n m, TupI C.K H x n → TupI C.K H y m → TS.code B n ≤ TS.code B m) → js.Pairwise fun a b => leI a b = true := by
              intro js
              induction js with
              | nil => intro _ _ _ _; exact .nil
              | cons j js ih =>
                intro us r hj pw
                cases r with
                | cons r t =>
                  rename_i v us
                  have pw2 := List.pairwise_cons.mp pw
                  refine List.pairwise_cons.mpr ⟨fun i mi => ?_, ih t (fun i m => hj i (List.mem_cons_of_mem _ m)) pw2.2⟩
                  obtain ⟨k, hk⟩ := List.mem_iff_getElem?.mp mi
                  obtain ⟨u, eu, ru⟩ := t.get (show (js.map rowD)[k]? = some (rowD i) by rw [List.getElem?_map, hk]; rfl)
                  have c := pw2.1 u (List.mem_of_getElem? eu) j i (rowI_w r (rowI_D j)) (rowI_w ru (rowI_D i))
                  have h1 := hj j List.mem_cons_self
                  have h2 := hj i (List.mem_cons_of_mem _ mi)
                  exact code_le (h1.1.trans h2.1.symm) h1.2 h2.2 c
            have mb : ∀ i ∈ is', i.length = (is.headD []).length ∧ TS.Bd B i := fun i m => ⟨(z2 i (p2.mem_iff.mpr m)).1.2, hB i (p2.mem_iff.mpr m)⟩
            have e2 : is' = is.mergeSort leI := VH.perm_one (le := fun a b => leI a b = true) le_anti (p2.symm.trans (List.mergeSort_perm is _).symm) (pc d1 mb pw)
              (List.pairwise_mergeSort (le := leI) le_trans3 le_total2 is)
            subst e2
            exact ok_mkL sr d1 q b hb
      · cases e
    · cases e
theorem bltD_w {b : Blt} {hp : Bool} {ds : List D} {vs : List V} (sr : SR C p h H) (r : DRs C p h H ds vs) (q : OkR C p h H (bltD b hp ds h) Q w) : rBlt C.K b vs H Q := by
  unfold bltD at q
  split at q
  · -- len of a text
    split at q
    · rename_i z
      cases r with
      | cons r t =>
        cases t; cases r
        refine ⟨_, _, rfl, ⟨by rw [len_sOf, SZ_eq]; exact z, rfl⟩, ?_⟩
        rw [len_sOf]
        exact ok_same sr (.int _) q
    · exact q.elim
  · cases r with
    | cons r t =>
      cases t
      cases r with
      | scr r => exact ⟨_, _, rfl, .inl ⟨_, r.sq, rfl⟩, by rw [List.length_map]; exact ok_same sr (.int _) q⟩
  · split at q
    · rename_i e
      cases r with
      | cons r t =>
        cases t
        obtain ⟨a, ws, rfl, s, d⟩ := any_rd sr r e
        refine ⟨_, _, rfl, (show LenV C.K (.ref a) H ws.length from s.imp (fun s => ⟨_, s, rfl⟩) fun s => ⟨_, s, rfl⟩), ?_⟩
        rw [← d.len]
        exact ok_same sr (.int _) q
    · exact q.elim
  · split at q
    · rename_i e
      split at q
      · rename_i e2
        cases r with
        | cons r t =>
          cases t
          obtain ⟨a, ws, rfl, s, d, _⟩ := seq_rd sr r e
          have f := vals_bls e2 d
          subst f
          exact ⟨a, _, rfl, s, ok_same sr (.bl _) q⟩
      · exact q.elim
    · exact q.elim
  · cases r with
    | cons r t => cases t; cases r; exact .inl ⟨_, rfl, ok_same sr (.int _) q⟩
  · cases r with
    | cons r t => cases t; cases r; exact .inr ⟨_, rfl, ok_same sr (.int _) q⟩
  · cases r with
    | cons r t =>
      cases t with
      | cons r2 t => cases t; cases r; cases r2; exact .inl ⟨_, _, rfl, ok_same sr (.int _) q⟩
  · cases r with
    | cons r t =>
      cases t with
      | cons r2 t => cases t; cases r; cases r2; exact .inl ⟨_, _, rfl, ok_same sr (.int _) q⟩
  · split at q
    · rename_i e
      split at q
      · rename_i e2
        cases r with
        | cons r t =>
          cases t
          obtain ⟨a, ws, rfl, s, d⟩ := any_rd sr r e
          have f := vals_ints e2 d
          subst f
          rcases s with s | s
          · exact .inr (.inl (rMin_w s (ok_same sr (.int _) q)))
          · exact .inr (.inr (rMinT_w s (ok_same sr (.int _) q)))
      · exact q.elim
    · exact q.elim
  · split at q
    · rename_i e
      split at q
      · rename_i e2
        cases r with
        | cons r t =>
          cases t
          obtain ⟨a, ws, rfl, s, d⟩ := any_rd sr r e
          have f := vals_ints e2 d
          subst f
          rcases s with s | s
          · exact .inr (.inl (rMax_w s (ok_same sr (.int _) q)))
          · exact .inr (.inr (rMaxT_w s (ok_same sr (.int _) q)))
      · exact q.elim
    · exact q.elim
  · split at q
    · rename_i e
      split at q
      · rename_i e2
        cases r with
        | cons r t =>
          cases t
          obtain ⟨a, ws, rfl, s, d, _⟩ := seq_rd sr r e
          have f := vals_ints e2 d
          subst f
          exact ⟨a, _, rfl, s, ok_same sr (.int _) q⟩
      · exact q.elim
    · exact q.elim
  · split at q
    · rename_i e
      cases r with
      | cons r t =>
        cases t
        rcases lst_or e with ⟨x, rfl, hz, rfl⟩ | ⟨nn, kvs, rfl, e0, rfl⟩ | e
        · cases r
          exact .inr (.inl ⟨_, rfl, by rw [show (sOf x).cps.size = x.length by simp [sOf], SZ_eq]; exact hz, ok_mkL sr sig_rd q⟩)
        · obtain ⟨a, rfl, pa, ws, ha, kr⟩ := cell_rd sr r e0
          exact .inr (.inr ⟨a, ws, rfl, ha, ok_mkL sr (keys_rd kr) q⟩)
        · obtain ⟨a, ws, rfl, s, d⟩ := any_rd sr r e
          exact .inl ⟨a, ws, rfl, s, ok_mkL sr d q⟩
    · exact q.elim
  · cases r with
    | cons r t =>
      cases t
      cases r with
      | tup a r => exact .inl ⟨_, _, rfl, .inr ⟨a.sq, ok_same sr (.tup a r) q⟩⟩
  · split at q
    · rename_i e
      cases r with
      | cons r t =>
        cases t
        rcases tup_or e with ⟨x, rfl, hz, rfl⟩ | e
        · cases r
          exact .inr ⟨_, rfl, by rw [show (sOf x).cps.size = x.length by simp [sOf], SZ_eq]; exact hz, ok_tup sr sig_rd q⟩
        · obtain ⟨a, ws, rfl, s, d, _⟩ := seq_rd sr r e
          exact .inl ⟨a, ws, rfl, .inl ⟨s, ok_tup sr d q⟩⟩
    · exact q.elim
  · cases r with
    | cons r t => cases t; cases r; exact ⟨_, rfl, ok_same sr (.int _) q⟩
  · split at q
    · rename_i e
      split at q
      · rename_i e2
        cases r with
        | cons r t =>
          cases t
          obtain ⟨a, ws, rfl, s, d, _⟩ := seq_rd sr r e
          exact sort_w sr s d e2 q
      · exact q.elim
    · exact q.elim
  · exact q.elim

/-! ### methods of built-ins -/
def mthT (m : Mth) : String := match mthK m with
  | 0 => "list"
  | 1 => "str"
  | _ => "dict"
def mthN : Mth → String
  | .append => "append" | .extend => "extend" | .pop => "pop" | .popat => "pop" | .insert => "insert" | .clear => "clear" | .count => "count" | .index => "index" | .join => "join" | .split => "split"
  | .find => "find" | .find2 => "find" | .replace => "replace" | .get1 => "get" | .get2 => "get" | .rfind3 => "rfind" | .scount => "count" | .dpop => "pop"
abbrev RM := V → List V → L2.Hp → VK → Prop
def rIns : RM := fun x vs H Q => ∃ (l : Addr) (xs : List V) (i : Int) (y : V), x = .ref l ∧ vs = [.int i, y] ∧ H l = some (.lst xs) ∧ xs.length < sizeLine ∧ 0 ≤ i ∧ i < 2 ^ 63 ∧
    Q .non (upd H l (.lst (xs.take i.toNat ++ [y] ++ xs.drop i.toNat)))
def rJoin (K : PySem.W.Frag) : RM := fun x xs H Q => ∃ a p, ∃ ys : List Str, x = .str a ∧ xs = [.ref p] ∧ (SqL K H p (ys.map V.str) ∨ SqT K H p (ys.map V.str)) ∧
    (ys.map (·.length)).sum + ys.length * a.length ≤ 16777216 ∧ Q (.str (Txt.join a ys)) H
def rCount : RM := fun x xs H Q => ∃ a b, x = .str a ∧ xs = [.str b] ∧ Q (.int (Txt.count a b)) H
def rGet2 : RM := fun x xs H Q => ∃ a y d o, x = .ref a ∧ xs = [y, d] ∧ DGet H a y o ∧ Q (o.getD d) H
theorem mt_get2 {X : Cx} (hu : X.A.units + 1 < cLine) : MtR X "dict.get" rGet2 := by
  intro pins s σ H x xs v us Q I rx rxs q
  obtain ⟨a, y, d, o, rfl, rfl, g, q⟩ := q
  cases rx
  obtain ⟨u1, u2, rfl, r1, r2⟩ := vals2 rxs
  exact d_get2 hu I g r1 r2 fun w' s' I' rw' => ⟨_, H, I', rw', q⟩
def rMth (K : PySem.W.Frag) : Mth → RM
  | .append => rAppend
  | .extend => rExtend
  | .pop => rPop
  | .popat => rPopAt
  | .insert => rIns
  | .clear => rClear
  | .join => rJoin K
  | .scount => rCount
  | .index => rIndex K
  | .get2 => rGet2
  | .count => VH.rCntF K
  | .dpop => VH.rDpop1
  | .find2 => fun x xs H Q => ∃ (a b : Str) (i : Int), x = .str a ∧ xs = [.str b, .int i] ∧ Q (.int (Txt.find3 a b i)) H
  | .rfind3 => fun x xs H Q => ∃ (a b : Str) (i j : Int), x = .str a ∧ xs = [.str b, .int i, .int j] ∧ Q (.int (Txt.rfindIn a b i j)) H
  | .split => fun x xs H Q => ∃ a b, x = .str a ∧ xs = [.str b] ∧ (b.length == 0) = false ∧ a.length + 2 ≤ sizeLine ∧ rNewStrs (Txt.split a b) H Q
  | _ => fun _ _ _ _ => False
theorem mt_bad {X : Cx} {id : String} : MtR X id (fun _ _ _ _ => False) := fun _ _ _ _ _ _ _ _ _ _ _ _ q => q.elim
structure MtFacts (X : Cx) (m : Mth) (T : String) (id : String) : Prop where
  pa : PlainAttrs T
  slot : Slot T (Str.ofString (mthN m)) id
  ty : typeOf (.builtin id) = pure (.type "method_descriptor")
  rule : MtR X id (rMth X.K m)
/-- the methods that are served -/
def mthS : Mth → Bool
  | .append => true | .extend => true | .pop => true | .popat => true | .insert => true | .clear => true | .join => true | .scount => true | .index => true | .get2 => true | .count => true | .dpop => true | .split => true | .find2 => true | .rfind3 => true
  | _ => false
theorem mt_A {X : Cx} (hu : X.A.units + 1 < cLine) (m : Mth) (e : mthS m = true) : ∃ id, MtFacts X m (mthT m) id := by
  cases m with
  | append => exact ⟨_, F.plainAttrs_list, F.slot_list_append, F.type_list_append, mt_append⟩
  | extend => exact ⟨_, F.plainAttrs_list, F.slot_list_extend, F.type_list_extend, mt_extend⟩
  | pop => exact ⟨_, F.plainAttrs_list, F.slot_list_pop, F.type_list_pop, mt_pop⟩
  | popat => exact ⟨_, F.plainAttrs_list, F.slot_list_pop, F.type_list_pop, mt_popAt⟩
  | insert => exact ⟨_, F.plainAttrs_list, F.slot_list_insert, F.type_list_insert, mt_insert⟩
  | clear => exact ⟨_, F.plainAttrs_list, F.slot_list_clear, F.type_list_clear, mt_clear⟩
  | join => exact ⟨_, F.plainAttrs_str, F.slot_str_join, F.type_str_join, mt_join⟩
  | scount => exact ⟨_, F.plainAttrs_str, F.slot_str_count, F.type_str_count, mt_count⟩
  | get2 => exact ⟨_, F.plainAttrs_dict, PySem.F.slot_dict_get, PySem.F.type_dict_get, mt_get2 hu⟩
  | index => exact ⟨_, F.plainAttrs_list, F.slot_list_index, F.type_list_index, mt_index⟩
  | count => exact ⟨_, F.plainAttrs_list, PySem.F.slot_list_count, PySem.F.type_list_count, VH.mt_lcountF⟩
  | dpop => exact ⟨_, F.plainAttrs_dict, PySem.F.slot_dict_pop, PySem.F.type_dict_pop, VH.mt_dpop1 hu⟩
  | find2 => exact ⟨_, F.plainAttrs_str, PySem.F.slot_str_find, PySem.F.type_str_find, mt_find3⟩
  | rfind3 => exact ⟨_, F.plainAttrs_str, PySem.F.slot_str_rfind, PySem.F.type_str_rfind, mt_rfind4⟩
  | split => exact ⟨_, F.plainAttrs_str, PySem.F.slot_str_split, PySem.F.type_str_split, mt_split⟩
  | _ => cases e
theorem ok_lst {n : Nat} {a : Addr} {xs ys : List D} {us : List V} {d : D} {v : V} (sr : SR C p h H) (e : h[n]? = some (.lst xs)) (pa : p[n]? = some a) (r : DRs C p h H ys us) (dr : DR C p h H d v)
    (q : OkR C p h H (.ok d (h.set n (.lst ys))) Q w) : Q v (upd H a (.lst us)) := by
  have x : Ext C p h H p (h.set n (.lst ys)) (upd H a (.lst us)) := ext_set sr e nofun pa
  exact q p _ _ x (sr.set e nofun pa ⟨us, upd_same, DRs.ext x r⟩) (dr.ext x)
theorem ok_put {n : Nat} {o : O} {a : Addr} {u : O} {wv : HO} {d : D} {v : V} (sr : SR C p h H) (e1 : h[n]? = some u) (al : u ≠ .dead) (e2 : p[n]? = some a) (oo : OR C p (h.set n o) (upd H a wv) a o)
    (dr : DR C p (h.set n o) (upd H a wv) d v) (q : OkR C p h H (.ok d (h.set n o)) Q w) : Q v (upd H a wv) := q p _ _ (ext_set sr e1 al e2) (sr.set e1 al e2 oo) dr
theorem join_w (y : List Char) : ∀ ws : List (List Char), Txt.join (sOf y) (ws.map sOf) = sOf (joinS y ws) := by
  have go : ∀ ws : List (List Char), Str.join (sOf y) (ws.map sOf) = sOf (joinS y ws) := fun ws => by
    induction ws with
    | nil => rfl
    | cons x r ih =>
      cases r with
      | nil => rfl
      | cons z r =>
        show sOf x ++ sOf y ++ Str.join (sOf y) ((z :: r).map sOf) = sOf (x ++ y ++ joinS y (z :: r))
        rw [ih, sOf_app, sOf_app]
  exact fun ws => (StrLaws.glued_eq_join _ _).trans (go ws)
theorem cnt_w (c : Char) : ∀ x : List Char, cnt c.toNat (x.map Char.toNat) = (x.count c : Nat)
  | [] => rfl
  | d :: x => by
    rw [List.map_cons, cnt_cons, cnt_w c x, List.count_cons]
    by_cases z : d = c
    · subst z; simp; omega
    · rw [if_neg (fun y => z (char_inj y))]
      simp [z]
theorem count_w (x : List Char) (c : Char) : Txt.count (sOf x) (sOf [c]) = (x.count c : Nat) := (count_cnt (sOf x) c.toNat).trans (cnt_w c x)
theorem fst_w (r : DR C p h H x vx) (f : flatD x = true) : ∀ {ys : List D} {vs : List V} {j : Nat}, DRs C p h H ys vs → ys.all flatD = true → fstEq x ys = some j →
    ∃ z, vs[j]? = some z ∧ eqV z vx = true ∧ ∀ (m : Nat) (z' : V), m < j → vs[m]? = some z' → eqV z' vx = false
  | _, _, j, .nil, _, e => by cases e
  | y :: ys, v :: vs, j, .cons a t, g, e => by
    rw [List.all_cons, Bool.and_eq_true] at g
    have ee := deq_flat a r g.1 f
    unfold fstEq at e
    split at e
    · rename_i z
      cases e
      exact ⟨v, rfl, by rw [← ee]; exact z, fun m z' hm _ => by omega⟩
    · rename_i z
      rw [Option.map_eq_some_iff] at e
      obtain ⟨i, e1, rfl⟩ := e
      obtain ⟨u, f1, f2, f3⟩ := fst_w r f t g.2 e1
      refine ⟨u, by simpa using f1, f2, fun m z' hm e2 => ?_⟩
      cases m with
      | zero =>
        simp at e2
        subst e2
        rw [← ee]
        cases q : deq y x with
        | true => exact absurd q z
        | false => rfl
      | succ m => exact f3 m z' (by omega) (by simpa using e2)
theorem cnt_flat (r : DR C p h H x vx) (f : flatD x = true) : ∀ {ys : List D} {vs : List V}, DRs C p h H ys vs → ys.all flatD = true → (ys.countP fun y => deq y x) = vs.countP fun v => eqV v vx
  | _, _, .nil, _ => rfl
  | y :: ys, v :: vs, .cons a t, g => by
    rw [List.all_cons, Bool.and_eq_true] at g
    rw [List.countP_cons, List.countP_cons, cnt_flat r f t g.2, deq_flat a r g.1 f]
theorem mthD_w {m : Mth} {hp : Bool} {ds : List D} {vs : List V} (sr : SR C p h H) (rx : DR C p h H x vx) (r : DRs C p h H ds vs) (hs : mthS m = true) (q : OkR C p h H (mthD m hp x ds h) Q w) : rMth C.K m vx vs H Q := by
  unfold mthD at q
  split at q
  · split at q
    · rename_i e
      split at q
      · rename_i z
        obtain ⟨a, rfl, pa, ws, ha, d⟩ := cell_rd sr rx e
        cases r with
        | cons r t =>
          cases t
          exact ⟨a, ws, _, rfl, rfl, ha, by rw [← d.len, SZ_eq]; exact z, ok_lst sr e pa (d.app (.cons r .nil)) .non q⟩
      · exact q.elim
    · exact q.elim
  · split at q
    · rename_i e
      split at q
      · rename_i e2
        split at q
        · rename_i z
          obtain ⟨a, rfl, pa, ws, ha, d⟩ := cell_rd sr rx e
          cases r with
          | cons r t =>
            cases t
            obtain ⟨b, us, rfl, _, d2, hb⟩ := seq_rd sr r e2
            exact ⟨a, b, ws, us, rfl, rfl, ha, hb, by rw [← d.len, ← d2.len, SZ_eq]; exact z, ok_lst sr e pa (d.app d2) .non q⟩
        · exact q.elim
      · exact q.elim
    · exact q.elim
  · split at q
    · rename_i e
      split at q
      · rename_i z
        obtain ⟨a, rfl, pa, ws, ha, d⟩ := cell_rd sr rx e
        cases r
        obtain ⟨v, e1, e2⟩ := d.get z
        rw [d.len] at e1
        exact ⟨a, ws, v, rfl, rfl, ha, e1, ok_lst sr e pa d.dropLast e2 q⟩
      · exact q.elim
    · exact q.elim
  · split at q
    · rename_i e
      split at q
      · rename_i e0
        split at q
        · rename_i z
          split at q
          · rename_i zl
            obtain ⟨a, rfl, pa, ws, ha, d⟩ := cell_rd sr rx e
            cases r with
            | cons r t =>
              cases t; cases r
              obtain ⟨v, e1, e2⟩ := d.get z
              obtain ⟨s1, s2, s3, s4⟩ := ixN_seq (show ixN _ _ = some _ from e0)
              rw [d.len] at s1 s3 s4 zl
              unfold SZ at zl
              exact ⟨a, ws, _, _, v, rfl, rfl, ha, by omega, by omega, s1, e1, ok_lst sr e pa (d.erase _) e2 q⟩
          · exact q.elim
        · exact q.elim
      · exact q.elim
    · exact q.elim
  · split at q
    · rename_i e
      obtain ⟨a, rfl, pa, ws, ha, d⟩ := cell_rd sr rx e
      cases r
      exact ⟨a, ws, rfl, rfl, ha, ok_lst sr e pa .nil .non q⟩
    · exact q.elim
  · split at q
    · rename_i e
      split at q
      · rename_i z
        rw [Bool.and_eq_true, decide_eq_true_eq, decide_eq_true_eq] at z
        obtain ⟨a, rfl, pa, ws, ha, d⟩ := cell_rd sr rx e
        cases r with
        | cons r t =>
          cases t with
          | cons r2 t =>
            cases t; cases r
            obtain ⟨z0, z1⟩ := z
            subst z0
            exact ⟨a, ws, 0, _, rfl, rfl, ha, by rw [← d.len, SZ_eq]; exact z1, Int.le_refl _, by decide, ok_lst sr e pa (.cons r2 d) .non q⟩
      · exact q.elim
    · exact q.elim
  · split at q
    · rename_i e
      split at q
      · rename_i e2
        split at q
        · rename_i z
          cases rx
          cases r with
          | cons r t =>
            cases t
            obtain ⟨a, ws, rfl, s, d, _⟩ := seq_rd sr r e
            have f := vals_strs e2 d
            subst f
            refine ⟨_, a, _, rfl, rfl, .inl s, ?_, ?_⟩
            · rw [List.map_map, List.length_map, len_sOf]
              have : (fun x => Str.length x) ∘ sOf = List.length := funext len_sOf
              rw [this]; exact z
            · rw [join_w]; exact ok_same sr (.str _) q
        · exact q.elim
      · exact q.elim
    · exact q.elim
  · cases rx
    cases r with
    | cons r t =>
      cases t; cases r
      refine ⟨_, _, rfl, rfl, ?_⟩
      rw [count_w]; exact ok_same sr (.int _) q
  · split at q
    · rename_i e
      split at q
      · rename_i z
        simp only [Bool.and_eq_true] at z
        split at q
        · rename_i j ej
          cases r with
          | cons r t =>
            cases t
            obtain ⟨a, ws, rfl, s, d, _⟩ := seq_rd sr rx e
            obtain ⟨u, f1, f2, f3⟩ := fst_w r z.1 d z.2 ej
            exact ⟨a, ws, _, j, u, rfl, rfl, s, flat_w r z.1, flats_w d z.2, f1, f2, f3, ok_same sr (.int _) q⟩
        · exact q.elim
      · exact q.elim
    · exact q.elim
  · split at q
    · rename_i e
      split at q
      · rename_i z
        simp only [Bool.and_eq_true] at z
        cases r with
        | cons r t =>
          cases t
          obtain ⟨a, ws, rfl, s, d, _⟩ := seq_rd sr rx e
          refine ⟨a, ws, _, rfl, rfl, s, flat_w r z.1, flats_w d z.2, ?_⟩
          rw [← cnt_flat r z.1 d z.2]; exact ok_same sr (.int _) q
      · exact q.elim
    · exact q.elim
  · split at q
    · rename_i kvs0 e
      split at q
      · rename_i q0 e1
        split at q
        · rename_i e2
          obtain ⟨a, rfl, pa, ws, ha, kr⟩ := cell_rd sr rx e
          cases r with
          | cons r t =>
            cases t
            obtain ⟨k', z, rfl⟩ := key_w r e1
            obtain ⟨v, e3, e4⟩ := (look_w z kr).1 _ e2
            have x := ext_set (o := .dct (dropKy q0 kvs0)) (w := .dK (L2.dropK ws k')) sr e nofun pa
            exact ⟨a, ws, k', v, rfl, rfl, ha, e3, ok_put (o := .dct (dropKy q0 kvs0)) sr e nofun pa ⟨_, upd_same, KR.ext x (dropK_w z kr)⟩ (e4.ext x) q⟩
        · exact q.elim
      · exact q.elim
    · exact q.elim
  · cases r with
    | cons r1 t =>
      cases t with
      | cons r2 t =>
        cases t
        split at q
        · rename_i e
          split at q
          · rename_i e1
            obtain ⟨a, rfl, _, ws, ha, kr⟩ := cell_rd sr rx e
            obtain ⟨k', z, rfl⟩ := key_w r1 e1
            refine ⟨a, _, _, _, rfl, rfl, .k ha, ?_⟩
            cases el : lookK _ _ with
            | none => rw [el] at q; rw [(look_w z kr).2 el]; exact ok_same sr r2 q
            | some d => rw [el] at q; obtain ⟨v, e3, e4⟩ := (look_w z kr).1 _ el; rw [e3]; exact ok_same sr e4 q
          · exact q.elim
        · rename_i e
          split at q
          · rename_i e1
            obtain ⟨a, rfl, _, ws, ha, kr⟩ := cell_rd sr rx e
            obtain ⟨b, k', z, rfl, hb⟩ := keyT_w r1 e1
            refine ⟨a, _, _, _, rfl, rfl, .t ha hb, ?_⟩
            cases el : lookQ _ _ with
            | none => rw [el] at q; rw [(lookQ_w z kr).2 el]; exact ok_same sr r2 q
            | some d => rw [el] at q; obtain ⟨v, e3, e4⟩ := (lookQ_w z kr).1 _ el; rw [e3]; exact ok_same sr e4 q
          · exact q.elim
        · exact q.elim
  · split at q
    · rename_i z
      cases rx
      cases r with
      | cons r t =>
        cases t; cases r
        refine ⟨_, _, rfl, rfl, len_sOf1 _, by rw [len_sOf, SZ_eq]; exact z, ?_⟩
        rw [split_w]
        refine ok_mkL sr ?_ q
        generalize splitS _ _ = ws
        clear q z
        induction ws with
        | nil => exact .nil
        | cons w ws ih => exact .cons (.str w) ih
    · exact q.elim
  · split at q
    · rename_i z
      rw [Bool.and_eq_true, decide_eq_true_eq, decide_eq_true_eq] at z
      cases rx
      cases r with
      | cons r1 t1 =>
        cases t1 with
        | cons r2 t2 =>
          cases t2; cases r1; cases r2
          rename_i x c i
          refine ⟨_, _, _, rfl, rfl, ?_⟩
          obtain ⟨k, rfl⟩ := Int.eq_ofNat_of_zero_le z.1
          rw [find_c _ _ _ (by omega)]
          exact ok_same sr (.int _) q
    · exact q.elim
  · split at q
    · rename_i z
      rw [Bool.and_eq_true, Bool.and_eq_true, decide_eq_true_eq, decide_eq_true_eq, decide_eq_true_eq] at z
      cases rx
      cases r with
      | cons r1 t1 =>
        cases t1 with
        | cons r2 t2 =>
          cases t2 with
          | cons r3 t3 =>
            cases t3; cases r1; cases r2; cases r3
            refine ⟨_, _, _, _, rfl, rfl, ?_⟩
            obtain ⟨z0, z1, z2⟩ := z
            subst z0
            obtain ⟨k, rfl⟩ := Int.eq_ofNat_of_zero_le z1
            rw [rfind_c _ _ _ (by omega)]
            exact ok_same sr (.int _) q
    · exact q.elim
  · exact q.elim

/-! ### isinstance -/
theorem kit_base {K : PySem.W.Frag} (t b : String) (ht : t ∈ ["NoneType", "bool", "int", "str", "tuple", "list", "dict"]) (hb : b ∈ ["int", "bool", "str", "list", "tuple", "dict"]) :
    PySem.W.kitOne K (.type t) (.type b) = some (t == b || (t == "bool" && b == "int")) := by
  simp only [List.mem_cons, List.not_mem_nil, or_false] at ht hb
  rcases ht with rfl | rfl | rfl | rfl | rfl | rfl | rfl <;> rcases hb with rfl | rfl | rfl | rfl | rfl | rfl <;> exact kit_ty (by decide +kernel)
theorem ty_w {t : String} (sr : SR C p h H) (rx : DR C p h H x vx) (e : tyD x h = some t) : TyX C.K H vx (.type t) ∧ t ∈ ["NoneType", "bool", "int", "str", "tuple", "list", "dict"] := by
  cases rx with
  | non => cases e; exact ⟨.base .non, by decide⟩
  | bl b => cases e; exact ⟨.base (.bl b), by decide⟩
  | int i => cases e; exact ⟨.base (.int i), by decide⟩
  | str s => cases e; exact ⟨.base (.str _), by decide⟩
  | tup a r =>
    cases e
    refine ⟨?_, by decide⟩
    rcases a with ⟨a, _⟩ | ⟨a | a, _⟩
    · exact .base (.tup a)
    · exact (rd_none a).elim
    · obtain ⟨o, its, n, h1, h2, _⟩ := a
      exact .kTuple h1 h2
  | lst a r => cases e; exact ⟨.base (.lst a.1), by decide⟩
  | ref e1 =>
    unfold tyD at e
    simp only at e
    split at e
    · rename_i q
      cases e
      obtain ⟨vs, q, _⟩ := sr.ob _ _ _ q e1
      exact ⟨.base (.lst q), by decide⟩
    · rename_i q
      cases e
      obtain ⟨vs, q, _⟩ := sr.ob _ _ _ q e1
      exact ⟨.base (.dK q), by decide⟩
    · rename_i q
      cases e
      obtain ⟨vs, q, _⟩ := sr.ob _ _ _ q e1
      exact ⟨.base (.dT q), by decide⟩
    · cases e
  | exc _ => cases e
  | scr _ => cases e
theorem instB_w {c : Cr} {b : String} {sub : String → String → Bool} (hb : crB c = some b) (sr : SR C p h H) (rx : DR C p h H x vx) (q : OkR C p h H (okB (instD sub x c h) h) Q w) : rIsi C.K [vx, .ty b] H Q := by
  obtain ⟨k, e, q⟩ := okB_some q
  unfold instD at e
  rw [hb] at e
  simp only at e
  split at e
  · rename_i t e1
    cases e
    obtain ⟨h1, h2⟩ := ty_w sr rx e1
    refine ⟨vx, .ty b, .type t, .type b, _, rfl, .ty b, h1, kit_base t b h2 ?_, ok_same sr (.bl _) q⟩
    cases c <;> (first | cases hb) <;> decide
  · cases e
end
end VI
/-! V4: the small language's text beside the program's, and the readings. -/
namespace VI
open PySem PySem.Spec PyProof.Rows L2

/-- where one stands in the program's text: slots, scope, a comprehension's own scope -/
structure Gc where
  N : List Str
  sc : Scope
  own : Option Scope
  /-- an exception is handled here -/
  hot : Bool
def Gc.heat (G : Gc) : Gc := { G with hot := true }
/-- names: defs by numbers; what else is global -/
structure Lk where
  fnm : Nat → Option Str
  glo : Str → Bool
  cls : String → Bool
  ex : String → Bool
  hot : Nat → Bool
def Gc.look (G : Gc) (x : Str) : Option NameKind := G.sc.names.lookup x
def isK (o : Option NameKind) (k : NameKind) : Bool := decide (o = some k)
/-- a slot that is read -/
def okV (G : Gc) (i : Nat) (x : Str) : Bool := decide (G.N[i]? = some x) && (isK (G.look x) .local || isK (G.look x) .cell || isK (G.look x) .free) && decide (x ≠ "__debug__") && decide (x ≠ "__classdict__")
/-- a slot that is written -/
def okW (G : Gc) (i : Nat) (x : Str) : Bool := decide (G.N[i]? = some x) && (isK (G.look x) .local || (isK (G.look x) .cell && (match G.own with | none => true | some s => isK (s.names.lookup x) .cell)))
def okG (G : Gc) (x : Str) : Bool := isK (G.look x) .globalImplicit && decide (x ≠ "__debug__") && decide (x ≠ "__name__")
/-- not a set's display -/
def noSet : PySem.Expr → Bool
  | .Set _ _ _ => false
  | _ => true
def isYes : E → Bool
  | .bl true => true
  | _ => false
/-- the keys of a display -/
def okKs : List Ky → List (Option PySem.Expr) → Bool
  | [], [] => true
  | .inl i :: ks, some (.Constant (.int j) _ _) :: es => decide (i = j) && okKs ks es
  | .inr s :: ks, some (.Constant (.str x) _ _) :: es => decide (sOf s = x) && okKs ks es
  | _, _ => false
def call1 (f : Str) (e : PySem.Expr) (k : PySem.Expr → Bool) : Bool := match e with
  | .Call (.Name g _) [x] [] _ => decide (g = f) && k x
  | _ => false
def rev1 (e : PySem.Expr) (k : PySem.Expr → Bool) : Bool := match e with
  | .Subscript x (.Slice none none (some (.UnaryOp .USub (.Constant (.int 1) _ _) _)) _) _ => k x
  | _ => false
def call2 (f : Str) (e : PySem.Expr) (k : PySem.Expr → PySem.Expr → Bool) : Bool := match e with
  | .Call (.Name g _) [x, y] [] _ => decide (g = f) && k x y
  | _ => false
def isTu : PySem.Expr → Bool
  | .Tuple _ _ _ => true
  | _ => false
theorem call1_inv {f : Str} {e : PySem.Expr} {k : PySem.Expr → Bool} (q : call1 f e k = true) : ∃ p x pos, e = .Call (.Name f p) [x] [] pos ∧ k x = true := by
  unfold call1 at q
  split at q
  · simp only [Bool.and_eq_true, decide_eq_true_eq] at q
    obtain ⟨rfl, q⟩ := q
    exact ⟨_, _, _, rfl, q⟩
  · cases q
theorem call2_inv {f : Str} {e : PySem.Expr} {k : PySem.Expr → PySem.Expr → Bool} (q : call2 f e k = true) : ∃ p x y pos, e = .Call (.Name f p) [x, y] [] pos ∧ k x y = true := by
  unfold call2 at q
  split at q
  · simp only [Bool.and_eq_true, decide_eq_true_eq] at q
    obtain ⟨rfl, q⟩ := q
    exact ⟨_, _, _, _, rfl, q⟩
  · cases q
theorem isTu_inv {e : PySem.Expr} (q : isTu e = true) : ∃ l k p, e = .Tuple l k p := by
  cases e <;> first | (cases q; done) | exact ⟨_, _, _, rfl⟩
/-- a slice's part -/
def optOk (n : Bool) (o : Option PySem.Expr) (f : PySem.Expr → Bool) : Bool := match o with
  | none => n
  | some x => f x && !n
/-- plain forms -/
def shp : PySem.Expr → Bool
  | .Starred _ _ => false
  | .Slice _ _ _ _ => false
  | .Set _ _ _ => false
  | _ => true
/-- what an attribute is asked of -/
def shA : PySem.Expr → Bool
  | .Call (.Name _ _) [] _ _ => false
  | _ => true
/-- what a test is made of -/
def shT : PySem.Expr → Bool
  | .IfExp _ _ _ _ => false
  | _ => true
def bopO : Bop → Operator
  | .add => .Add | .sub => .Sub | .mul => .Mult | .fdv => .FloorDiv | .mod => .Mod | .pow => .Pow
def bltS : Blt → Bool
  | .len => true | .all => true | .int => true | .min => true | .max => true | .sum => true | .list => true | .tuple => true | .abs => true | .sorted => true
  | _ => false
def okTg (G : Gc) : Tg → PySem.Expr → Bool
  | .nm i, .Name x _ => okW G i x
  | .tp is, .Tuple es _ _ => decide (is.length = es.length) && (is.zip es).all (fun p => match p.2 with
      | .Name x _ => okW G p.1 x
      | _ => false) && decide (is.Nodup)
  | _, _ => false
def tgs : Tg → List Nat
  | .nm i => [i]
  | .tp is => is
def isAnd : BoolOp → Bool
  | .And => true
  | .Or => false
def ownOf (G : Gc) (is : List Nat) : List (Str × Nat) := is.filterMap fun i => (G.N[i]?).map fun x => (x, i)
def blkG (G : Gc) (scope : Scope) : Gc := { N := G.N, sc := relS scope G.sc, own := some scope, hot := G.hot }

mutual
def okE (L : Lk) (G : Gc) : E → PySem.Expr → Bool
  | .non, .Constant .none _ _ => true
  | .bl b, .Constant (.bool c) _ _ => decide (b = c)
  | .int i, .Constant (.int j) _ _ => decide (i = j)
  | .str s, .Constant (.str x) _ _ => decide (sOf s = x)
  | .var i, .Name x _ => okV G i x
  | .glob n, .Name x _ => decide (Str.ofString n = x) && okG G x && L.glo x
  | .tup es, .Tuple l _ _ => okEs L G es l && decide (l.length ≤ 1000)
  | .lst _ es, .List l _ => okEs L G es l && decide (l.length ≤ 1000)
  | .dct ks vs, .Dict keys values _ => okKs ks keys && okEs L G vs values && decide (keys.length = values.length) && decide (keys.length ≤ 15)
  | .dtn, .Dict keys values _ => decide (keys.length = 0) && decide (values.length = 0)
  | .dck a b, .Dict [some x] [y] _ => okE L G a x && okE L G b y
  | .bin op _ a b, .BinOp x o y _ => decide (o = bopO op) && okE L G a x && okE L G b y
  | .neg a, .UnaryOp .USub x _ => okE L G a x
  | .not a, .UnaryOp .Not x _ => okE L G a x && shT x
  | .cmp op a b, .Compare x [o] [y] _ => decide (o = copO op) && okE L G a x && okE L G b y && shp y
  | .ch2 o1 o2 a b c, .Compare x [p1, p2] [y, z] _ => decide (p1 = copO o1) && decide (p2 = copO o2) && okE L G a x && okE L G b y && okE L G c z && shp z
  | .ch3 o1 o2 o3 a b c d, .Compare x [p1, p2, p3] [y, z, w] _ => decide (p1 = copO o1) && decide (p2 = copO o2) && decide (p3 = copO o3) && okE L G a x && okE L G b y && okE L G c z && okE L G d w && shp w
  | .and a b, .BoolOp .And [x, y] _ => okE L G a x && shT x && okE L G b y && shT y
  | .and a b, .BoolOp .And (x :: y :: z :: r) pos => okE L G a x && shT x && okE L G b (.BoolOp .And (y :: z :: r) pos)
  | .or a b, .BoolOp .Or [x, y] _ => okE L G a x && shT x && okE L G b y && shT y
  | .or a b, .BoolOp .Or (x :: y :: z :: r) pos => okE L G a x && shT x && okE L G b (.BoolOp .Or (y :: z :: r) pos)
  | .ife c a b, .IfExp t x y _ => okE L G c t && shT t && okE L G a x && okE L G b y
  | .idx a b, .Subscript x y _ => okE L G a x && okE L G b y && shp y
  | .sli _ a lo hi, .Subscript x (.Slice l u none _) _ => okE L G a x && optOk (isNop lo) l (fun y => okE L G lo y) && optOk (isNop hi) u (fun y => okE L G hi y)
  | .fld o f, .Attribute x n _ => decide (Str.ofString f = n) && okE L G o x && shA x
  | .call f _ args, .Call (.Name x _) as [] _ => okG G x && decide (L.fnm f = some x) && okEs L G args as && (!G.hot || L.hot f)
  | .meth o m _ args, .Call (.Attribute x n apos) as [] cpos => decide (Str.ofString m = n) && okE L G o x && shA x && okEs L G args as && (apos.endLine == cpos.line) && decide (as.length < 20) && !G.hot
  | .new c args, .Call (.Name x _) as [] _ => okG G x && decide (Str.ofString c = x) && L.cls c && okEs L G args as && !G.hot
  | .blt b _ args, .Call (.Name x _) as [] _ => okG G x && decide (Str.ofString (bltN b) = x) && bltS b && okEs L G args as && decide (as ≠ [] ∧ as.length < 20) && !G.hot
  | .mth m _ o args, .Call (.Attribute x n apos) as [] cpos => decide (Str.ofString (mthN m) = n) && mthS m && okE L G o x && shA x && okEs L G args as && (apos.endLine == cpos.line) && decide (as.length < 20)
  | .comp _ elt tg src cond, .ListComp ex [⟨t, it, ifs, k⟩] scope _ => decide (k = 0) && okTg (blkG G scope) tg t && okR L G src t it && okE L (blkG G scope) elt ex && blkC G.N G.sc scope (ownOf G (tgs tg)) && (match ifs with
      | [] => isYes cond
      | [i] => okE L (blkG G scope) cond i && shT i
      | _ => false)
  | .inst a c, .Call (.Name x _) [v, .Name y _] [] _ => okG G x && decide (x = "isinstance") && okE L G a v && shp v && okG G y && (match crB c with
      | some b => decide (Str.ofString b = y)
      | none => match c with
        | .ve => decide (y = "ValueError")
        | .own n => decide (Str.ofString n = y) && L.ex n
        | .cls n => decide (Str.ofString n = y) && L.cls n
        | _ => false)
  | .rvs _ a, pe => (call1 "list" pe fun y => call1 "reversed" y fun x => okG G "list" && okG G "reversed" && okE L G a x && shp x && !G.hot) || rev1 pe fun x => okE L G a x
  | .frz a, pe => okE L G a pe
  | .drop a, pe => okE L G a pe
  | _, _ => false
def okEs (L : Lk) (G : Gc) : Es → List PySem.Expr → Bool
  | .nil, [] => true
  | .cons e es, x :: xs => okE L G e x && shp x && okEs L G es xs
  | _, _ => false
def okR (L : Lk) (G : Gc) : Src → PySem.Expr → PySem.Expr → Bool
  | .rg1 a, _, it => (call1 "range" it fun x => okG G "range" && okE L G a x && shp x) && !G.hot
  | .rg2 a b, _, it => (call2 "range" it fun x y => okG G "range" && okE L G a x && okE L G b y && shp x && shp y) && !G.hot
  | .rg3 _ _ _, _, _ => false
  | .enum a, t, it => (isTu t && call1 "enumerate" it fun x => okG G "enumerate" && okE L G a x && shp x) && !G.hot
  | .zip a b, t, it => (isTu t && call2 "zip" it fun x y => okG G "zip" && okE L G a x && okE L G b y && shp x && shp y) && !G.hot
  | .rev a, _, it => (call1 "reversed" it fun x => okG G "reversed" && okE L G a x && shp x) && !G.hot
  | .seq e, _, it => okE L G e it && noSet it && !G.hot
  | .lst e, _, it => okE L G e it && noSet it
end
def okO (L : Lk) (G : Gc) (e : E) (o : Option PySem.Expr) : Bool := optOk (isNop e) o fun x => okE L G e x
end VI
/-! V5: what a checked form is; the readings. -/
namespace VI
open PySem PySem.Spec PyProof.Rows L2

section
variable {L : Lk} {G : Gc} {pe : PySem.Expr}
theorem inv_non (q : okE L G .non pe = true) : ∃ j pos, pe = .Constant .none j pos := by
  cases pe <;> try (simp only [okE] at q; cases q; done)
  rename_i c _ _; cases c <;> simp only [okE] at q <;> first | (cases q; done) | exact ⟨_, _, rfl⟩
theorem inv_bl {b : Bool} (q : okE L G (.bl b) pe = true) : ∃ j pos, pe = .Constant (.bool b) j pos := by
  cases pe <;> try (simp only [okE] at q; cases q; done)
  rename_i c _ _; cases c <;> simp only [okE] at q <;> first | (cases q; done) | skip
  exact ⟨_, _, by rw [of_decide_eq_true q]⟩
theorem inv_int {b : Int} (q : okE L G (.int b) pe = true) : ∃ j pos, pe = .Constant (.int b) j pos := by
  cases pe <;> try (simp only [okE] at q; cases q; done)
  rename_i c _ _; cases c <;> simp only [okE] at q <;> first | (cases q; done) | skip
  exact ⟨_, _, by rw [of_decide_eq_true q]⟩
theorem inv_str {b : List Char} (q : okE L G (.str b) pe = true) : ∃ j pos, pe = .Constant (.str (sOf b)) j pos := by
  cases pe <;> try (simp only [okE] at q; cases q; done)
  rename_i c _ _; cases c <;> simp only [okE] at q <;> first | (cases q; done) | skip
  exact ⟨_, _, by rw [of_decide_eq_true q]⟩
theorem inv_var {i : Nat} (q : okE L G (.var i) pe = true) : ∃ x pos, pe = .Name x pos ∧ okV G i x = true := by
  cases pe <;> simp only [okE] at q <;> first | (cases q; done) | exact ⟨_, _, rfl, q⟩
theorem inv_glob {n : String} (q : okE L G (.glob n) pe = true) : ∃ pos, pe = .Name (Str.ofString n) pos ∧ okG G (Str.ofString n) = true ∧ L.glo (Str.ofString n) = true := by
  cases pe <;> simp only [okE] at q <;> first | (cases q; done) | skip
  simp only [Bool.and_eq_true, decide_eq_true_eq] at q
  obtain ⟨⟨rfl, q1⟩, q2⟩ := q
  exact ⟨_, rfl, q1, q2⟩
theorem inv_tup {es : Es} (q : okE L G (.tup es) pe = true) : ∃ l k pos, pe = .Tuple l k pos ∧ okEs L G es l = true ∧ l.length ≤ 1000 := by
  cases pe <;> simp only [okE] at q <;> first | (cases q; done) | skip
  simp only [Bool.and_eq_true, decide_eq_true_eq] at q
  exact ⟨_, _, _, rfl, q.1, q.2⟩
theorem inv_lst {hp : Bool} {es : Es} (q : okE L G (.lst hp es) pe = true) : ∃ l pos, pe = .List l pos ∧ okEs L G es l = true ∧ l.length ≤ 1000 := by
  cases pe <;> simp only [okE] at q <;> first | (cases q; done) | skip
  simp only [Bool.and_eq_true, decide_eq_true_eq] at q
  exact ⟨_, _, rfl, q.1, q.2⟩
theorem inv_dct {ks : List Ky} {vs : Es} (q : okE L G (.dct ks vs) pe = true) : ∃ keys values pos, pe = .Dict keys values pos ∧ okKs ks keys = true ∧ okEs L G vs values = true ∧ keys.length = values.length ∧ keys.length ≤ 15 := by
  cases pe <;> simp only [okE] at q <;> first | (cases q; done) | skip
  simp only [Bool.and_eq_true, decide_eq_true_eq] at q
  exact ⟨_, _, _, rfl, q.1.1.1, q.1.1.2, q.1.2, q.2⟩
theorem inv_dtn (q : okE L G .dtn pe = true) : ∃ pos, pe = .Dict [] [] pos := by
  cases pe <;> simp only [okE] at q <;> first | (cases q; done) | skip
  rename_i keys values pos
  simp only [Bool.and_eq_true, decide_eq_true_eq, List.length_eq_zero_iff] at q
  obtain ⟨rfl, rfl⟩ := q
  exact ⟨_, rfl⟩
theorem inv_bin {op : Bop} {hp : Bool} {a b : E} (q : okE L G (.bin op hp a b) pe = true) : ∃ x y pos, pe = .BinOp x (bopO op) y pos ∧ okE L G a x = true ∧ okE L G b y = true := by
  cases pe <;> simp only [okE] at q <;> first | (cases q; done) | skip
  simp only [Bool.and_eq_true, decide_eq_true_eq] at q
  obtain ⟨⟨rfl, q1⟩, q2⟩ := q
  exact ⟨_, _, _, rfl, q1, q2⟩
theorem inv_neg {a : E} (q : okE L G (.neg a) pe = true) : ∃ x pos, pe = .UnaryOp .USub x pos ∧ okE L G a x = true := by
  cases pe <;> try (simp only [okE] at q; cases q; done)
  rename_i o _ _; cases o <;> simp only [okE] at q <;> first | (cases q; done) | exact ⟨_, _, rfl, q⟩
theorem inv_not {a : E} (q : okE L G (.not a) pe = true) : ∃ x pos, pe = .UnaryOp .Not x pos ∧ okE L G a x = true ∧ shT x = true := by
  cases pe <;> try (simp only [okE] at q; cases q; done)
  rename_i o _ _; cases o <;> simp only [okE, Bool.and_eq_true] at q <;> first | (cases q; done) | exact ⟨_, _, rfl, q.1, q.2⟩
theorem inv_cmp {op : Cop} {a b : E} (q : okE L G (.cmp op a b) pe = true) : ∃ x y pos, pe = .Compare x [copO op] [y] pos ∧ okE L G a x = true ∧ okE L G b y = true ∧ shp y = true := by
  cases pe <;> try (simp only [okE] at q; cases q; done)
  rename_i x os ys _
  rcases os with _ | ⟨o, _ | ⟨o2, os⟩⟩ <;> rcases ys with _ | ⟨y, _ | ⟨y2, ys⟩⟩ <;> simp only [okE] at q <;> first | (cases q; done) | skip
  simp only [Bool.and_eq_true, decide_eq_true_eq] at q
  obtain ⟨⟨⟨rfl, q1⟩, q2⟩, q3⟩ := q
  exact ⟨_, _, _, rfl, q1, q2, q3⟩
theorem inv_ch2 {o1 o2 : Cop} {a b c : E} (q : okE L G (.ch2 o1 o2 a b c) pe = true) : ∃ x y z pos, pe = .Compare x [copO o1, copO o2] [y, z] pos ∧ okE L G a x = true ∧ okE L G b y = true ∧ okE L G c z = true ∧ shp z = true := by
  cases pe <;> try (simp only [okE] at q; cases q; done)
  rename_i x os ys _
  rcases os with _ | ⟨o, _ | ⟨o2, _ | ⟨o3, os⟩⟩⟩ <;> rcases ys with _ | ⟨y, _ | ⟨y2, _ | ⟨y3, ys⟩⟩⟩ <;> simp only [okE] at q <;> first | (cases q; done) | skip
  simp only [Bool.and_eq_true, decide_eq_true_eq] at q
  obtain ⟨⟨⟨⟨⟨rfl, rfl⟩, q1⟩, q2⟩, q3⟩, q4⟩ := q
  exact ⟨_, _, _, _, rfl, q1, q2, q3, q4⟩
theorem inv_ch3 {o1 o2 o3 : Cop} {a b c d : E} (q : okE L G (.ch3 o1 o2 o3 a b c d) pe = true) : ∃ x y z w pos, pe = .Compare x [copO o1, copO o2, copO o3] [y, z, w] pos ∧ okE L G a x = true ∧ okE L G b y = true ∧ okE L G c z = true ∧ okE L G d w = true ∧ shp w = true := by
  cases pe <;> try (simp only [okE] at q; cases q; done)
  rename_i x os ys _
  rcases os with _ | ⟨o, _ | ⟨o2, _ | ⟨o3, _ | ⟨o4, os⟩⟩⟩⟩ <;> rcases ys with _ | ⟨y, _ | ⟨y2, _ | ⟨y3, _ | ⟨y4, ys⟩⟩⟩⟩ <;> simp only [okE] at q <;> first | (cases q; done) | skip
  simp only [Bool.and_eq_true, decide_eq_true_eq] at q
  obtain ⟨⟨⟨⟨⟨⟨⟨rfl, rfl⟩, rfl⟩, q1⟩, q2⟩, q3⟩, q4⟩, q5⟩ := q
  exact ⟨_, _, _, _, _, rfl, q1, q2, q3, q4, q5⟩
theorem inv_and {a b : E} (q : okE L G (.and a b) pe = true) : (∃ x y pos, pe = .BoolOp .And [x, y] pos ∧ okE L G a x = true ∧ shT x = true ∧ okE L G b y = true ∧ shT y = true) ∨
    ∃ x y z r pos, pe = .BoolOp .And (x :: y :: z :: r) pos ∧ okE L G a x = true ∧ shT x = true ∧ okE L G b (.BoolOp .And (y :: z :: r) pos) = true := by
  cases pe <;> try (simp only [okE] at q; cases q; done)
  rename_i o vs _
  cases o <;> rcases vs with _ | ⟨x, _ | ⟨y, _ | ⟨z, r⟩⟩⟩ <;> simp only [okE] at q <;> first | (cases q; done) | skip
  · simp only [Bool.and_eq_true] at q
    exact .inl ⟨_, _, _, rfl, q.1.1.1, q.1.1.2, q.1.2, q.2⟩
  · simp only [Bool.and_eq_true] at q
    exact .inr ⟨_, _, _, _, _, rfl, q.1.1, q.1.2, q.2⟩
theorem inv_or {a b : E} (q : okE L G (.or a b) pe = true) : (∃ x y pos, pe = .BoolOp .Or [x, y] pos ∧ okE L G a x = true ∧ shT x = true ∧ okE L G b y = true ∧ shT y = true) ∨
    ∃ x y z r pos, pe = .BoolOp .Or (x :: y :: z :: r) pos ∧ okE L G a x = true ∧ shT x = true ∧ okE L G b (.BoolOp .Or (y :: z :: r) pos) = true := by
  cases pe <;> try (simp only [okE] at q; cases q; done)
  rename_i o vs _
  cases o <;> rcases vs with _ | ⟨x, _ | ⟨y, _ | ⟨z, r⟩⟩⟩ <;> simp only [okE] at q <;> first | (cases q; done) | skip
  · simp only [Bool.and_eq_true] at q
    exact .inl ⟨_, _, _, rfl, q.1.1.1, q.1.1.2, q.1.2, q.2⟩
  · simp only [Bool.and_eq_true] at q
    exact .inr ⟨_, _, _, _, _, rfl, q.1.1, q.1.2, q.2⟩
theorem inv_ife {c a b : E} (q : okE L G (.ife c a b) pe = true) : ∃ t x y pos, pe = .IfExp t x y pos ∧ okE L G c t = true ∧ shT t = true ∧ okE L G a x = true ∧ okE L G b y = true := by
  cases pe <;> simp only [okE] at q <;> first | (cases q; done) | skip
  simp only [Bool.and_eq_true] at q
  exact ⟨_, _, _, _, rfl, q.1.1.1, q.1.1.2, q.1.2, q.2⟩
theorem inv_idx {a b : E} (q : okE L G (.idx a b) pe = true) : ∃ x y pos, pe = .Subscript x y pos ∧ okE L G a x = true ∧ okE L G b y = true ∧ shp y = true := by
  cases pe <;> simp only [okE] at q <;> first | (cases q; done) | skip
  simp only [Bool.and_eq_true] at q
  exact ⟨_, _, _, rfl, q.1.1, q.1.2, q.2⟩
theorem inv_sli {hp : Bool} {a lo hi : E} (q : okE L G (.sli hp a lo hi) pe = true) : ∃ x l u p2 pos, pe = .Subscript x (.Slice l u none p2) pos ∧ okE L G a x = true ∧ okO L G lo l = true ∧ okO L G hi u = true := by
  cases pe <;> try (simp only [okE] at q; cases q; done)
  rename_i x sl _
  cases sl <;> try (simp only [okE] at q; cases q; done)
  rename_i l u st _
  cases st <;> simp only [okE] at q <;> first | (cases q; done) | skip
  simp only [Bool.and_eq_true] at q
  exact ⟨_, _, _, _, _, rfl, q.1.1, q.1.2, q.2⟩
theorem inv_fld {o : E} {f : String} (q : okE L G (.fld o f) pe = true) : ∃ x pos, pe = .Attribute x (Str.ofString f) pos ∧ okE L G o x = true ∧ shA x = true := by
  cases pe <;> simp only [okE] at q <;> first | (cases q; done) | skip
  simp only [Bool.and_eq_true, decide_eq_true_eq] at q
  obtain ⟨⟨rfl, q1⟩, q2⟩ := q
  exact ⟨_, _, rfl, q1, q2⟩
theorem inv_call {f : Nat} {dr : Bool} {args : Es} (q : okE L G (.call f dr args) pe = true) : ∃ x p as pos, pe = .Call (.Name x p) as [] pos ∧ okG G x = true ∧ L.fnm f = some x ∧ okEs L G args as = true ∧ (G.hot = true → L.hot f = true) := by
  cases pe <;> try (simp only [okE] at q; cases q; done)
  rename_i fn as ks _
  cases fn <;> cases ks <;> simp only [okE] at q <;> first | (cases q; done) | skip
  simp only [Bool.and_eq_true, decide_eq_true_eq] at q
  refine ⟨_, _, _, _, rfl, q.1.1.1, q.1.1.2, q.1.2, fun h => ?_⟩
  have z := q.2
  rw [h] at z
  exact z
theorem inv_meth {o : E} {m : String} {dr : Bool} {args : Es} (q : okE L G (.meth o m dr args) pe = true) : ∃ x p as pos, pe = .Call (.Attribute x (Str.ofString m) p) as [] pos ∧ okE L G o x = true ∧ shA x = true ∧ okEs L G args as = true ∧ (p.endLine == pos.line) = true ∧ as.length < 20 ∧ G.hot = false := by
  cases pe <;> try (simp only [okE] at q; cases q; done)
  rename_i fn as ks _
  cases fn <;> cases ks <;> simp only [okE] at q <;> first | (cases q; done) | skip
  simp only [Bool.and_eq_true, decide_eq_true_eq, Bool.not_eq_true'] at q
  obtain ⟨⟨⟨⟨⟨⟨rfl, q1⟩, q2⟩, q3⟩, q4⟩, q5⟩, q6⟩ := q
  exact ⟨_, _, _, _, rfl, q1, q2, q3, q4, q5, q6⟩
theorem inv_new {c : String} {args : Es} (q : okE L G (.new c args) pe = true) : ∃ p as pos, pe = .Call (.Name (Str.ofString c) p) as [] pos ∧ okG G (Str.ofString c) = true ∧ L.cls c = true ∧ okEs L G args as = true ∧ G.hot = false := by
  cases pe <;> try (simp only [okE] at q; cases q; done)
  rename_i fn as ks _
  cases fn <;> cases ks <;> simp only [okE] at q <;> first | (cases q; done) | skip
  simp only [Bool.and_eq_true, decide_eq_true_eq, Bool.not_eq_true'] at q
  obtain ⟨⟨⟨⟨q0, rfl⟩, q1⟩, q2⟩, q3⟩ := q
  exact ⟨_, _, _, rfl, q0, q1, q2, q3⟩
theorem rev1_inv {e : PySem.Expr} {k : PySem.Expr → Bool} (q : rev1 e k = true) : ∃ x j p1 p2 p3 pos, e = .Subscript x (.Slice none none (some (.UnaryOp .USub (.Constant (.int 1) j p1) p2)) p3) pos ∧ k x = true := by
  unfold rev1 at q
  split at q
  · exact ⟨_, _, _, _, _, _, rfl, q⟩
  · cases q
theorem inv_rvs {hp : Bool} {a : E} (q : okE L G (.rvs hp a) pe = true) : (∃ p0 p1 v pos2 pos, pe = .Call (.Name "list" p0) [.Call (.Name "reversed" p1) [v] [] pos2] [] pos ∧ okG G "list" = true ∧ okG G "reversed" = true ∧ okE L G a v = true ∧ shp v = true ∧ G.hot = false) ∨ ∃ x j p1 p2 p3 pos, pe = .Subscript x (.Slice none none (some (.UnaryOp .USub (.Constant (.int 1) j p1) p2)) p3) pos ∧ okE L G a x = true := by
  rw [okE] at q
  rw [Bool.or_eq_true] at q
  rcases q with q | q
  · obtain ⟨p0, y, pos, e1, r⟩ := call1_inv q
    obtain ⟨p1, x, pos2, e2, t⟩ := call1_inv r
    subst e2
    simp only [Bool.and_eq_true, Bool.not_eq_true'] at t
    exact .inl ⟨_, _, _, _, _, e1, t.1.1.1.1, t.1.1.1.2, t.1.1.2, t.1.2, t.2⟩
  · exact .inr (rev1_inv q)
theorem inv_dck {a b : E} (q : okE L G (.dck a b) pe = true) : ∃ x y pos, pe = .Dict [some x] [y] pos ∧ okE L G a x = true ∧ okE L G b y = true := by
  cases pe <;> try (simp only [okE] at q; cases q; done)
  rename_i keys values pos
  match keys, values, q with
  | [some x], [y], q =>
    simp only [okE, Bool.and_eq_true] at q
    exact ⟨x, y, pos, rfl, q.1, q.2⟩
  | [], _, q => simp [okE] at q
  | [none], _, q => simp [okE] at q
  | [some _], [], q => simp [okE] at q
  | [some _], _ :: _ :: _, q => simp [okE] at q
  | _ :: _ :: _, _, q => simp [okE] at q
theorem inv_blt {b : Blt} {hp : Bool} {args : Es} (q : okE L G (.blt b hp args) pe = true) : ∃ p as pos, pe = .Call (.Name (Str.ofString (bltN b)) p) as [] pos ∧ okG G (Str.ofString (bltN b)) = true ∧ bltS b = true ∧ okEs L G args as = true ∧ as ≠ [] ∧ as.length < 20 ∧ G.hot = false := by
  cases pe <;> try (simp only [okE] at q; cases q; done)
  rename_i fn as ks _
  cases fn <;> cases ks <;> simp only [okE] at q <;> first | (cases q; done) | skip
  simp only [Bool.and_eq_true, decide_eq_true_eq, Bool.not_eq_true'] at q
  obtain ⟨⟨⟨⟨⟨q0, rfl⟩, q1⟩, q2⟩, q3, q4⟩, q5⟩ := q
  exact ⟨_, _, _, rfl, q0, q1, q2, q3, q4, q5⟩
theorem inv_mth {m : Mth} {hp : Bool} {o : E} {args : Es} (q : okE L G (.mth m hp o args) pe = true) : ∃ x p as pos, pe = .Call (.Attribute x (Str.ofString (mthN m)) p) as [] pos ∧ mthS m = true ∧ okE L G o x = true ∧ shA x = true ∧ okEs L G args as = true ∧ (p.endLine == pos.line) = true ∧ as.length < 20 := by
  cases pe <;> try (simp only [okE] at q; cases q; done)
  rename_i fn as ks _
  cases fn <;> cases ks <;> simp only [okE] at q <;> first | (cases q; done) | skip
  simp only [Bool.and_eq_true, decide_eq_true_eq] at q
  obtain ⟨⟨⟨⟨⟨⟨rfl, q0⟩, q1⟩, q2⟩, q3⟩, q4⟩, q5⟩ := q
  exact ⟨_, _, _, _, rfl, q0, q1, q2, q3, q4, q5⟩
/-- a comprehension's tests -/
def okC (L : Lk) (G : Gc) (c : E) (ifs : List PySem.Expr) : Prop := (c = .bl true ∧ ifs = []) ∨ ∃ i, ifs = [i] ∧ okE L G c i = true ∧ shT i = true
theorem inv_comp {hp : Bool} {elt : E} {tg : Tg} {src : Src} {cond : E} (q : okE L G (.comp hp elt tg src cond) pe = true) : ∃ ex t it ifs scope pos, pe = .ListComp ex [⟨t, it, ifs, 0⟩] scope pos ∧ okTg (blkG G scope) tg t = true ∧ okR L G src t it = true ∧
    okE L (blkG G scope) elt ex = true ∧ blkC G.N G.sc scope (ownOf G (tgs tg)) = true ∧ okC L (blkG G scope) cond ifs := by
  cases pe <;> try (simp only [okE] at q; cases q; done)
  rename_i ex cs scope pos
  rcases cs with _ | ⟨⟨t, it, ifs, k⟩, _ | ⟨c2, cs⟩⟩ <;> try (simp only [okE] at q; cases q; done)
  rcases ifs with _ | ⟨i, _ | ⟨i2, is⟩⟩ <;> simp only [okE, Bool.and_eq_true, decide_eq_true_eq] at q
  · obtain ⟨⟨⟨⟨⟨rfl, q0⟩, q1⟩, q2⟩, q3⟩, q4⟩ := q
    refine ⟨_, _, _, _, _, _, rfl, q0, q1, q2, q3, .inl ⟨?_, rfl⟩⟩
    cases cond <;> first | (cases q4; done) | skip
    rename_i b
    cases b <;> first | (cases q4; done) | rfl
  · obtain ⟨⟨⟨⟨⟨rfl, q0⟩, q1⟩, q2⟩, q3⟩, q4⟩ := q
    exact ⟨_, _, _, _, _, _, rfl, q0, q1, q2, q3, .inr ⟨_, rfl, q4.1, q4.2⟩⟩
  · simp only [Bool.false_eq_true, and_false] at q
theorem inv_inst {a : E} {c : Cr} (q : okE L G (.inst a c) pe = true) : ∃ p v y py pos, pe = .Call (.Name "isinstance" p) [v, .Name y py] [] pos ∧ okG G "isinstance" = true ∧ okE L G a v = true ∧ shp v = true ∧ okG G y = true ∧
    ((∃ b, crB c = some b ∧ Str.ofString b = y) ∨ (c = .ve ∧ y = "ValueError") ∨ (∃ n, c = .own n ∧ Str.ofString n = y ∧ L.ex n = true) ∨ ∃ n, c = .cls n ∧ Str.ofString n = y ∧ L.cls n = true) := by
  cases pe <;> try (simp only [okE] at q; cases q; done)
  rename_i fn as ks _
  cases fn <;> cases ks <;> try (simp only [okE] at q; cases q; done)
  rcases as with _ | ⟨v, _ | ⟨y, _ | ⟨z, r⟩⟩⟩ <;> try (simp only [okE] at q; cases q; done)
  cases y <;> try (simp only [okE] at q; cases q; done)
  rename_i fn py y py2
  simp only [okE, Bool.and_eq_true, decide_eq_true_eq] at q
  obtain ⟨⟨⟨⟨⟨q0, rfl⟩, q1⟩, q2⟩, q3⟩, q4⟩ := q
  refine ⟨_, _, _, _, _, rfl, q0, q1, q2, q3, ?_⟩
  cases e : crB c with
  | some b => rw [e] at q4; exact .inl ⟨b, rfl, of_decide_eq_true q4⟩
  | none =>
    rw [e] at q4
    cases c <;> first | (cases e; done) | skip
    · exact .inr (.inl ⟨rfl, of_decide_eq_true q4⟩)
    · rename_i n
      simp only [Bool.and_eq_true, decide_eq_true_eq] at q4
      exact .inr (.inr (.inl ⟨n, rfl, q4.1, q4.2⟩))
    · rename_i n
      simp only [Bool.and_eq_true, decide_eq_true_eq] at q4
      exact .inr (.inr (.inr ⟨n, rfl, q4.1, q4.2⟩))
theorem okE_drop {a : E} : okE L G (.drop a) pe = okE L G a pe := by rw [okE]
theorem okE_frz {a : E} : okE L G (.frz a) pe = okE L G a pe := by rw [okE]
theorem okE_mk (q : shp pe = true) (op : CmpOp) : behindInMarks op pe = false := by
  cases pe <;> first | rfl | (cases q; done)
variable {t : PySem.Expr}
theorem inv_rg1 {a : E} (q : okR L G (.rg1 a) t pe = true) : ∃ p0 x pos, pe = .Call (.Name "range" p0) [x] [] pos ∧ okG G "range" = true ∧ okE L G a x = true ∧ shp x = true := by
  simp only [okR, Bool.and_eq_true] at q
  replace q := q.1
  obtain ⟨p, x, pos, e, q⟩ := call1_inv q
  simp only [Bool.and_eq_true] at q
  exact ⟨p, x, pos, e, q.1.1, q.1.2, q.2⟩
theorem inv_rg2 {a b : E} (q : okR L G (.rg2 a b) t pe = true) : ∃ p0 x y pos, pe = .Call (.Name "range" p0) [x, y] [] pos ∧ okG G "range" = true ∧ okE L G a x = true ∧ okE L G b y = true ∧ shp x = true ∧ shp y = true := by
  simp only [okR, Bool.and_eq_true] at q
  replace q := q.1
  obtain ⟨p, x, y, pos, e, q⟩ := call2_inv q
  simp only [Bool.and_eq_true] at q
  exact ⟨p, x, y, pos, e, q.1.1.1.1, q.1.1.1.2, q.1.1.2, q.1.2, q.2⟩
theorem inv_rev {a : E} (q : okR L G (.rev a) t pe = true) : ∃ p0 x pos, pe = .Call (.Name "reversed" p0) [x] [] pos ∧ okG G "reversed" = true ∧ okE L G a x = true ∧ shp x = true := by
  simp only [okR, Bool.and_eq_true] at q
  replace q := q.1
  obtain ⟨p, x, pos, e, q⟩ := call1_inv q
  simp only [Bool.and_eq_true] at q
  exact ⟨p, x, pos, e, q.1.1, q.1.2, q.2⟩
theorem inv_enum {a : E} (q : okR L G (.enum a) t pe = true) : ∃ elts kk tp p0 x pos, t = .Tuple elts kk tp ∧ pe = .Call (.Name "enumerate" p0) [x] [] pos ∧ okG G "enumerate" = true ∧ okE L G a x = true ∧ shp x = true := by
  simp only [okR, Bool.and_eq_true] at q
  replace q := q.1
  obtain ⟨l, kk, tp, et⟩ := isTu_inv q.1
  obtain ⟨p, x, pos, e, q⟩ := call1_inv q.2
  simp only [Bool.and_eq_true] at q
  exact ⟨l, kk, tp, p, x, pos, et, e, q.1.1, q.1.2, q.2⟩
theorem inv_zip {a b : E} (q : okR L G (.zip a b) t pe = true) : ∃ elts kk tp p0 x y pos, t = .Tuple elts kk tp ∧ pe = .Call (.Name "zip" p0) [x, y] [] pos ∧ okG G "zip" = true ∧ okE L G a x = true ∧ okE L G b y = true ∧ shp x = true ∧ shp y = true := by
  simp only [okR, Bool.and_eq_true] at q
  replace q := q.1
  obtain ⟨l, kk, tp, et⟩ := isTu_inv q.1
  obtain ⟨p, x, y, pos, e, q⟩ := call2_inv q.2
  simp only [Bool.and_eq_true] at q
  exact ⟨l, kk, tp, p, x, y, pos, et, e, q.1.1.1.1, q.1.1.1.2, q.1.1.2, q.1.2, q.2⟩
end
end VI
/-! H1: lists and tuples walked, comprehensions, where an exception is handled (own work). -/
namespace VH
open PySem PySem.Spec PyProof.Rows L2 L2H HotX

section
variable {prog : Program} {w : World} {A : Around} {E : Value → Shared → Prop} {s : Shared}
/-- a list's walk is over -/
theorem list_over {itr l x1 : Addr} {k : Nat} {items} {Q : Option Value → Shared → Prop} (hot : HotAt A x1 s.heap) (hne : x1 ≠ itr) (hi : s.heap.IsListIter itr l k) (hl : s.heap.IsList l items) (over : items[k]? = none)
    (q : ∀ h', Heap.ExtBut itr s.heap h' → Q none { s with heap := h' }) : wpAny (model prog w) A (pyNext (.ref itr)) Q E s := by
  obtain ⟨oi, gi, ci, di⟩ := id hi
  obtain ⟨ol, gl, _, nl, dl⟩ := hl
  obtain ⟨hh, o1, vs1, g1, d1, c1⟩ := hot
  unfold pyNext
  refine wpAny_bind (wpAny_attempt (wpAny_callSpecial?_slot (name := Str.ofString "__next__") hi.typeIs slot_listiter_next (wpAny_call_entry slot_listiter_next hi.typeIs entry_listiter_next ?_ (args_listiter_next _))))
  show wpAny _ _ (field (.ref itr) 0 >>= _) _ _ s
  refine wpAny_bind (wpAny_field gi di (x := .ref l) rfl ?_)
  show wpAny _ _ (if (Value.ref l == Value.none) = true then _ else _) _ _ s
  rw [if_neg (show ¬ ((Value.ref l == Value.none) = true) from Bool.false_ne_true)]
  show wpAny _ _ (field (.ref itr) 1 >>= _) _ _ s
  refine wpAny_bind (wpAny_field gi di (x := .int k 0) rfl ?_)
  show wpAny _ _ (seqItems? (.ref l) >>= _) _ _ s
  refine wpAny_bind (wpAny_seqItems gl dl ?_)
  simp only [Int.toNat_natCast, over]
  refine wpAny_bind (wpAny_rule (wpAny_bind (wpAny_setField gi di (by simp) ?_)))
  show wpAny _ _ (newExc (.type "StopIteration") [] >>= _) _ _ _
  refine wpAny_bind ?_
  simp only [newExc, newTuple]
  refine wpAny_bind (wpAny_newObj_type ?_ (by size_fits))
  refine wpAny_bind (m := firstArgMember _ _) (wpAny_of_eq (a := Value.none) (by first | rfl | (simp only [firstArgMember]; rfl)) ?_)
  refine wpAny_newObj_type ?_ (by size_fits)
  have g2 : (s.heap.update itr (Obj.mapFields fun f => f.setIfInBounds 0 Value.none)).get? x1 = some o1 := (Heap.get?_update_other _ _ (Ne.symm hne)).trans g1
  refine raiseNew_hot ⟨hh, o1, vs1, Heap.get?_push_of_some _ (Heap.get?_push_of_some _ g2), d1, c1⟩ (Nat.ne_of_lt (Heap.lt_size (Heap.get?_push_of_some _ g2))) (Heap.get?_push_size _ rfl) rfl (by first | (simp; done) | (simp; omega) | (simp only [Array.size_append]; simp; omega)) ?_
  refine wpAny_bind (wpAny_isInstance (T := "StopIteration") (b := true) ⟨_, Heap.get?_update_self _ (Heap.get?_push_size _ rfl) rfl, rfl⟩ isSubtype_stop ?_)
  refine wpAny_pure (q _ fun b o hb e => ?_)
  have e2 : (s.heap.update itr (Obj.mapFields fun f => f.setIfInBounds 0 Value.none)).get? b = some o := (Heap.get?_update_other _ _ (Ne.symm hb)).trans e
  rw [Heap.get?_update_other _ _ (Nat.ne_of_gt (Heap.lt_size (Heap.get?_push_of_some _ e2)))]
  exact Heap.get?_push_of_some _ (Heap.get?_push_of_some _ e2)
/-- a tuple's walk is over -/
theorem tup_over {itr t x1 : Addr} {k : Nat} {items : Array Value} {Q : Option Value → Shared → Prop} (hot : HotAt A x1 s.heap) (hne : x1 ≠ itr) (hi : IsTupIter s.heap itr t k) (hl : IsTup s.heap t items) (over : items[k]? = none)
    (q : ∀ h', Heap.ExtBut itr s.heap h' → Q none { s with heap := h' }) : wpAny (model prog w) A (pyNext (.ref itr)) Q E s := by
  obtain ⟨oi, gi, ci, di⟩ := id hi
  obtain ⟨ol, gl, _, nl, dl⟩ := hl
  obtain ⟨hh, o1, vs1, g1, d1, c1⟩ := hot
  unfold pyNext
  refine wpAny_bind (wpAny_attempt (wpAny_callSpecial?_slot (name := Str.ofString "__next__") hi.typeIs slot_tupleiter_next (wpAny_call_entry slot_tupleiter_next hi.typeIs entry_tupleiter_next ?_ (args_tupleiter_next _))))
  show wpAny _ _ (field (.ref itr) 0 >>= _) _ _ s
  refine wpAny_bind (wpAny_field gi di (x := .ref t) rfl ?_)
  show wpAny _ _ (if (Value.ref t == Value.none) = true then _ else _) _ _ s
  rw [if_neg (show ¬ ((Value.ref t == Value.none) = true) from Bool.false_ne_true)]
  show wpAny _ _ (field (.ref itr) 1 >>= _) _ _ s
  refine wpAny_bind (wpAny_field gi di (x := .int k 0) rfl ?_)
  show wpAny _ _ (seqItems? (.ref t) >>= _) _ _ s
  refine wpAny_bind (wpAny_seqItems gl dl ?_)
  simp only [Int.toNat_natCast, over]
  refine wpAny_bind (wpAny_rule (wpAny_bind (wpAny_setField gi di (by simp) ?_)))
  show wpAny _ _ (newExc (.type "StopIteration") [] >>= _) _ _ _
  refine wpAny_bind ?_
  simp only [newExc, newTuple]
  refine wpAny_bind (wpAny_newObj_type ?_ (by size_fits))
  refine wpAny_bind (m := firstArgMember _ _) (wpAny_of_eq (a := Value.none) (by first | rfl | (simp only [firstArgMember]; rfl)) ?_)
  refine wpAny_newObj_type ?_ (by size_fits)
  have g2 : (s.heap.update itr (Obj.mapFields fun f => f.setIfInBounds 0 Value.none)).get? x1 = some o1 := (Heap.get?_update_other _ _ (Ne.symm hne)).trans g1
  refine raiseNew_hot ⟨hh, o1, vs1, Heap.get?_push_of_some _ (Heap.get?_push_of_some _ g2), d1, c1⟩ (Nat.ne_of_lt (Heap.lt_size (Heap.get?_push_of_some _ g2))) (Heap.get?_push_size _ rfl) rfl (by first | (simp; done) | (simp; omega) | (simp only [Array.size_append]; simp; omega)) ?_
  refine wpAny_bind (wpAny_isInstance (T := "StopIteration") (b := true) ⟨_, Heap.get?_update_self _ (Heap.get?_push_size _ rfl) rfl, rfl⟩ isSubtype_stop ?_)
  refine wpAny_pure (q _ fun b o hb e => ?_)
  have e2 : (s.heap.update itr (Obj.mapFields fun f => f.setIfInBounds 0 Value.none)).get? b = some o := (Heap.get?_update_other _ _ (Ne.symm hb)).trans e
  rw [Heap.get?_update_other _ _ (Nat.ne_of_gt (Heap.lt_size (Heap.get?_push_of_some _ e2)))]
  exact Heap.get?_push_of_some _ (Heap.get?_push_of_some _ e2)
/-- a tuple told apart -/
theorem tup_apart {env : PySem.Env} {elts : List PySem.Expr} {kk} {pos : Pos} {t x1 : Addr} {items : Array Value} {Q : Unit → Shared → Prop} (hot : HotAt A x1 s.heap) (ht : IsTup s.heap t items)
    (hn : (assignEach elts env).length = items.size) (hst : (assignEach elts env).findIdx? (·.1) = none)
    (q : ∀ h', Heap.ExtBut s.heap.objs.size s.heap h' → wpAny (model prog w) A (assignInOrder ((assignEach elts env).map (·.2)) items.toList) Q E { s with heap := h' }) :
    wpAny (model prog w) A (assign (.Tuple elts kk pos) env (.ref t)) Q E s := by
  rw [PyProof.Rows.assign_Tuple]
  refine wpAny_bind (wpAny_standAt ?_)
  unfold unpack
  rw [hn, hst]
  have lt : t ≠ s.heap.objs.size := by obtain ⟨o, ho, _⟩ := ht; exact Nat.ne_of_lt (Heap.lt_size ho)
  have lx : x1 ≠ s.heap.objs.size := by obtain ⟨_, o, _, ho, _⟩ := hot; exact Nat.ne_of_lt (Heap.lt_size ho)
  refine wpAny_bind (wpAny_holding ?_)
  unfold unpackItems notIterableAtAll
  refine wpAny_bind ?_
  refine wpAny_bind (wpAny_specialOf ht.typeIs slot_tuple_iter.lookup (wpAny_pure ?_))
  simp only [Bool.false_eq_true, if_false]
  refine wpAny_bind (wpAny_holding (iter_tuple ht ?_))
  refine wpAny_bind (wpAny_holding (draw_tuple lt items.size 0 _ _ ⟨_, Heap.get?_push_size _ rfl, rfl, rfl⟩ (ht.push _) (by omega) fun h1 i1 sb => ?_))
  rw [show List.take items.size (List.drop 0 items.toList) = items.toList by rw [List.drop_zero]; exact List.take_of_length_le (by simp), if_neg (by simp)]
  have hot1 : HotAt A x1 h1 := by
    obtain ⟨hh, o, vs, ho, d1, c1⟩ := hot
    exact ⟨hh, o, vs, sb.extBut x1 o lx (Heap.get?_push_of_some _ ho), d1, c1⟩
  refine wpAny_bind (wpAny_holding (tup_over hot1 lx i1 ((ht.push _).extBut sb.extBut lt) (by simp) fun h2 e2 => ?_))
  simp only [Option.isSome_none, Bool.false_eq_true, if_false]
  exact wpAny_pure (q h2 fun b o hb e => e2 b o hb (sb.extBut b o hb (Heap.get?_push_of_some _ e)))
/-- a list told apart -/
theorem lst_apart {env : PySem.Env} {elts : List PySem.Expr} {kk} {pos : Pos} {t x1 : Addr} {items : Array Value} {Q : Unit → Shared → Prop} (hot : HotAt A x1 s.heap) (ht : s.heap.IsList t items)
    (hn : (assignEach elts env).length = items.size) (hst : (assignEach elts env).findIdx? (·.1) = none)
    (q : ∀ h', Heap.ExtBut s.heap.objs.size s.heap h' → wpAny (model prog w) A (assignInOrder ((assignEach elts env).map (·.2)) items.toList) Q E { s with heap := h' }) :
    wpAny (model prog w) A (assign (.Tuple elts kk pos) env (.ref t)) Q E s := by
  rw [PyProof.Rows.assign_Tuple]
  refine wpAny_bind (wpAny_standAt ?_)
  unfold unpack
  rw [hn, hst]
  have lt : t ≠ s.heap.objs.size := by obtain ⟨o, ho, _⟩ := ht; exact Nat.ne_of_lt (Heap.lt_size ho)
  have lx : x1 ≠ s.heap.objs.size := by obtain ⟨_, o, _, ho, _⟩ := hot; exact Nat.ne_of_lt (Heap.lt_size ho)
  refine wpAny_bind (wpAny_holding ?_)
  unfold unpackItems notIterableAtAll
  refine wpAny_bind ?_
  refine wpAny_bind (wpAny_specialOf ht.typeIs slot_list_iter.lookup (wpAny_pure ?_))
  simp only [Bool.false_eq_true, if_false]
  refine wpAny_bind (wpAny_holding (wpAny_pyIter_list ht ?_))
  refine wpAny_bind (wpAny_holding (PySem.W.kun_draw lt items.size 0 _ _ ⟨_, Heap.get?_push_size _ rfl, rfl, rfl⟩ (ht.push _) (by omega) fun h1 i1 sb => ?_))
  rw [show List.take items.size (List.drop 0 items.toList) = items.toList by rw [List.drop_zero]; exact List.take_of_length_le (by simp), if_neg (by simp)]
  have hot1 : HotAt A x1 h1 := by
    obtain ⟨hh, o, vs, ho, d1, c1⟩ := hot
    exact ⟨hh, o, vs, sb.extBut x1 o lx (Heap.get?_push_of_some _ ho), d1, c1⟩
  refine wpAny_bind (wpAny_holding (list_over hot1 lx i1 ((ht.push _).extBut sb.extBut lt) (by simp) fun h2 e2 => ?_))
  simp only [Option.isSome_none, Bool.false_eq_true, if_false]
  exact wpAny_pure (q h2 fun b o hb e => e2 b o hb (sb.extBut b o hb (Heap.get?_push_of_some _ e)))
end
section
variable {X : Cx} {pos : Pos}
theorem pg_lstH {es : List PySem.Expr} {k : Nat} {t : TGs} {n : Nat} (hc : HotC X) (h : PGs X es t) (hn : (assignEach es X.env).length = n := by rfl) (hst : (assignEach es X.env).findIdx? (·.1) = none := by rfl) :
    PG X (.Tuple es k pos) (gLst X.K n t) := by
  refine ⟨fun pins s σ H v u Q I r hw => ?_⟩
  obtain ⟨a, xs, rfl, sq, ln, hw⟩ := hw
  cases r
  obtain ⟨its, rv, tp, _⟩ := I.list sq
  obtain ⟨x1, hot⟩ := hc.at I
  refine lst_apart hot tp.isList (by simp [hn, ← ln, rv.length]) hst fun h' x => ?_
  exact h.run pins _ σ H xs _ Q (I.kept (t' := s.toks) fun b o e => x b o (Nat.ne_of_lt (Heap.lt_size e)) e) (by simpa using rv) hw
theorem pg_tupH {es : List PySem.Expr} {k : Nat} {t : TGs} {n : Nat} (hc : HotC X) (h : PGs X es t) (hn : (assignEach es X.env).length = n := by rfl) (hst : (assignEach es X.env).findIdx? (·.1) = none := by rfl) :
    PG X (.Tuple es k pos) (gTup X.K n t) := by
  refine ⟨fun pins s σ H v u Q I r hw => ?_⟩
  obtain ⟨a, xs, rfl, sq, ln, hw⟩ := hw
  cases r
  obtain ⟨its, rv, tp, _⟩ := I.tuple sq
  obtain ⟨x1, hot⟩ := hc.at I
  refine tup_apart hot tp (by simp [hn, ← ln, rv.length]) hst fun h' x => ?_
  exact h.run pins _ σ H xs _ Q (I.kept (t' := s.toks) fun b o e => x b o (Nat.ne_of_lt (Heap.lt_size e)) e) (by simpa using rv) hw
/-- a comprehension's block, with the handled exception in sight -/
abbrev blkH (X : Cx) (s : Shared) (H : Hp) (scope : Scope) (cenv : PySem.Env) (fp : List Addr) (p : Addr × Obj) : Cx := { X.blk s H scope cenv fp with pn := [p] }
theorem to_blkH {s0 s : Shared} {H0 H : Hp} {σ : L2.St} {scope : Scope} {cenv : PySem.Env} {fp : List Addr} {p : Addr × Obj} {pins : List (Addr × Obj)} (I : Inv (X.blk s0 H0 scope cenv fp) (p :: pins) σ H s) : Inv (blkH X s0 H0 scope cenv fp p) pins σ H s :=
  ⟨⟨I.ok.mod, I.ok.kind, I.ok.glob, I.ok.blt, I.ok.above, I.ok.inj, I.ok.has, I.ok.cab, I.ok.hd, I.ok.frames, I.ok.stk, I.ok.exf, I.ok.bs, I.ok.bsz, I.ok.noex, I.ok.exfs, I.ok.funs, I.ok.frf⟩, I.os, I.bare, I.base, I.loc, I.cell, I.free, I.freeC, fun q m => I.pin q m, I.hok, I.len⟩
end
end VH
/-! H2: a comprehension over a list where an exception is handled (own work). -/
namespace VH
open PySem PySem.Spec PyProof.Rows L2 L2H HotX
section
variable {X : Cx} {p : Addr × Obj}
theorem hot_blk {s : Shared} {H : Hp} {scope : Scope} {cenv : PySem.Env} {fp : List Addr} (h : Hot1 X.A p) : HotC (blkH X s H scope cenv fp p) := ⟨p, h, List.mem_cons_self⟩
/-- a pin more -/
theorem Inv.more {pins : List (Addr × Obj)} {σ : L2.St} {H : Hp} {s : Shared} {q : Addr × Obj} (I : Inv X pins σ H s) (h : s.heap.get? q.1 = some q.2 ∧ H q.1 = none ∧ q.1 ≠ X.env.locals ∧ q.1 ∉ X.fs ∧ ∀ v, q.2.data ≠ .cell v) : Inv X (q :: pins) σ H s :=
  ⟨I.ok, I.os, I.bare, I.base, I.loc, I.cell, I.free, I.freeC, fun r m => by
    rcases List.mem_append.mp m with m | m
    · exact I.pin r (List.mem_append_left _ m)
    · rcases List.mem_cons.mp m with rfl | m
      · exact h
      · exact I.pin r (List.mem_append_right _ m), I.hok, I.len⟩
theorem lcH {pins : List (Addr × Obj)} {s : Shared} {σ : L2.St} {H : Hp} {Q : VK} {elt tg iter : PySem.Expr} {ifs : List PySem.Expr} {scope : Scope} {own : List (Str × Nat)} {pos pos' : Pos} {tl : TE} {g : TG} {tt : TT} {te : TE} {use : Option (Value → Sem Unit)} {Qf : Value → Shared → Prop}
    (hot : Hot1 X.A p) (hp : p ∈ X.pn) (nd : X.N.Nodup) (I : Inv X pins σ H s) (hi : PE X iter tl) (ok : BlkOk X.N X.env.scope scope own)
    (hg : ∀ (s : Shared) (H : Hp) (C : Addr) (cl : List (Str × Addr)) (fp : List Addr), PG (blkH X s H scope (compEnvC scope cl C X.env) fp p) tg g)
    (ht : ∀ (s : Shared) (H : Hp) (C : Addr) (cl : List (Str × Addr)) (fp : List Addr), PTs (blkH X s H scope (compEnvC scope cl C X.env) fp p) ifs tt)
    (he : ∀ (s : Shared) (H : Hp) (C : Addr) (cl : List (Str × Addr)) (fp : List Addr), PE (blkH X s H scope (compEnvC scope cl C X.env) fp p) elt te)
    (hs : ∀ x, foldedSetIterable iter X.env x = pure x) (q : tLc (iList X.K tl) g tt te (own.map (·.2)) σ H Q)
    (fin : ∀ D C s' m H', Inv X pins σ H' s' → Q (.ref D) H' → s'.heap.Ns C m → FpOk X pins H' C → compPost (model X.prog X.w) X.A X.xe use Qf (.ref D) C (.ok .next) s') :
    wpAny (model X.prog X.w) X.A (comprehension (.ListComp elt [⟨tg, iter, ifs, 0⟩] scope pos) scope X.env pos' (newList []) false (eval iter X.env) use) Qf X.xe s := by
  have fr : ∀ y ∈ scope.names, y.2 = .free → ∃ c, X.env.cells.lookup y.1 = some c := fun y hy e => by
    rcases ok.free y hy e with k | k
    · exact I.ok.has _ (.inl k)
    · exact I.ok.has _ (.inr k)
  refine wpAny_comprehension_free (use := use) rfl hs (closure_ok fr) ok.kind (fun y hy e => by rw [ok.uniq y hy, e]) (thn (hi.run pins s σ H _ I q) fun xv s1 ⟨x, H1, I1, r1, q1⟩ => ?_)
  obtain ⟨a, rfl, ⟨xs0, hq0⟩, q1⟩ := q1
  cases r1
  obtain ⟨its0, rv0, pl0, _⟩ := I1.list hq0
  refine wpAny_pyIter_list pl0.isList ?_
  -- the walk's own object
  have sit : ({ s1 with heap := s1.heap.push { cls := .type "list_iterator", data := .fields #[.ref a, .int 0 0] } } : Shared).heap.IsListIter s1.heap.objs.size a 0 := ⟨_, Heap.get?_push_size _ rfl, rfl, rfl⟩
  have I2 : Inv X pins σ H1 ({ s1 with heap := s1.heap.push { cls := .type "list_iterator", data := .fields #[.ref a, .int 0 0] } } : Shared) := I1.kept (t' := s1.toks) fun b o e => Heap.get?_push_of_some _ e
  have fpk : FpOk X pins H1 s1.heap.objs.size := I1.fpOk (Nat.le_refl _) (I1.hok.fresh (Nat.le_refl _))
  have pit : p.1 ≠ s1.heap.objs.size := Nat.ne_of_lt (Heap.lt_size (I1.pin p (List.mem_append_left _ hp)).1)
  generalize hT : s1.heap.objs.size = T at *
  generalize hs2 : ({ s1 with heap := s1.heap.push { cls := .type "list_iterator", data := .fields #[.ref a, .int 0 0] } } : Shared) = s2 at *
  -- the new list
  refine wpAny_newObj_type (newEnv_comp ?_) (by show 0 ≤ sizeLine; decide)
  generalize hD : s2.heap.objs.size = D
  have nD : H1 D = none := I2.hok.fresh (Nat.le_of_eq hD)
  have tD : T < s2.heap.objs.size := by obtain ⟨o, e, _⟩ := sit; exact Heap.lt_size e
  obtain ⟨W, ⟨m0, w0⟩, turn⟩ := q1 D nD
  have I3 : Inv X pins σ (upd H1 D (.lst [])) ({ s2 with heap := s2.heap.push { cls := .type "list", data := .seq ([] : List Value).toArray } } : Shared) :=
    I2.laid (t' := s2.toks) (fun b o e => Heap.get?_push_of_some _ e) (Nat.le_of_eq hD) ⟨Nat.zero_le _, [], 0, .nil, by rw [← hD]; exact Heap.get?_push_size _ rfl⟩
  have st3 : ({ s2 with heap := s2.heap.push { cls := .type "list", data := .seq ([] : List Value).toArray } } : Shared).heap.IsListIter T a 0 := sit.at fun o e => Heap.get?_push_of_some _ e
  have f3 : FpOk X pins (upd H1 D (.lst [])) T ∧ T < ({ s2 with heap := s2.heap.push { cls := .type "list", data := .seq ([] : List Value).toArray } } : Shared).heap.objs.size :=
    ⟨⟨by rw [upd_ne (by rw [← hD]; exact Nat.ne_of_lt tD)]; exact fpk.1, fpk.2⟩, by show T < (s2.heap.push _).objs.size; rw [Heap.size_push]; exact Nat.lt_succ_of_lt tD⟩
  generalize hs3 : ({ s2 with heap := s2.heap.push { cls := .type "list", data := .seq ([] : List Value).toArray } } : Shared) = s3 at *
  have h3 : s3.heap = s2.heap.push { cls := .type "list", data := .seq ([] : List Value).toArray } := by rw [← hs3]
  have I4 := block_start I3 ok nd (fp := [T]) fun b hb => by rw [List.mem_singleton.mp hb]; exact f3
  have pg := hg s3 (upd H1 D (.lst [])) s3.heap.objs.size (cellsFrom (s3.heap.objs.size + 1) scope.names (cloFrom X.env.cells scope.names [])) [T]
  have pt := ht s3 (upd H1 D (.lst [])) s3.heap.objs.size (cellsFrom (s3.heap.objs.size + 1) scope.names (cloFrom X.env.cells scope.names [])) [T]
  have pe := he s3 (upd H1 D (.lst [])) s3.heap.objs.size (cellsFrom (s3.heap.objs.size + 1) scope.names (cloFrom X.env.cells scope.names [])) [T]
  show codeAny _ _ (.compStart (.ListComp elt [⟨tg, iter, ifs, 0⟩] scope pos) 0 (.ref T) (.ref D) (compEnvC scope (cellsFrom (s3.heap.objs.size + 1) scope.names (cloFrom X.env.cells scope.names [])) s3.heap.objs.size X.env)) (compPost (model X.prog X.w) X.A X.xe use Qf (.ref D) s3.heap.objs.size) { s3 with heap := pushCells (s3.heap.push { cls := .type "dict", data := .dict #[] }) scope.names }
  have clo : (compEnvC scope (cellsFrom (s3.heap.objs.size + 1) scope.names (cloFrom X.env.cells scope.names [])) s3.heap.objs.size X.env).locals = s3.heap.objs.size := rfl
  generalize compEnvC scope (cellsFrom (s3.heap.objs.size + 1) scope.names (cloFrom X.env.cells scope.names [])) s3.heap.objs.size X.env = ce at *
  have P3 := I3.pin p (List.mem_append_left _ hp)
  generalize upd H1 D (.lst []) = H3 at *
  have kp4 : ∀ b o, s3.heap.get? b = some o → (pushCells (s3.heap.push { cls := .type "dict", data := .dict #[] }) scope.names).get? b = some o := fun b o e => pushCells_keeps _ _ _ _ (Heap.get?_push_of_some _ e)
  have I4' : Inv (blkH X s3 H3 scope ce [T] p) [] (wipe σ (own.map (·.2))) H3 { s3 with heap := pushCells (s3.heap.push { cls := .type "dict", data := .dict #[] }) scope.names } :=
    to_blkH (Inv.more I4 ⟨kp4 _ _ P3.1, P3.2.1, by show p.1 ≠ ce.locals; rw [clo]; exact Nat.ne_of_lt (Heap.lt_size P3.1), fun m => (List.mem_cons.mp (I3.stkSub p.1 m)).elim P3.2.2.1 P3.2.2.2.1, P3.2.2.2.2⟩)
  have st4 : ({ s3 with heap := pushCells (s3.heap.push { cls := .type "dict", data := .dict #[] }) scope.names } : Shared).heap.IsListIter T a 0 := st3.at fun o e => kp4 _ o e
  generalize ({ s3 with heap := pushCells (s3.heap.push { cls := .type "dict", data := .dict #[] }) scope.names } : Shared) = s4 at *
  have mine : ∀ {σ' : L2.St} {H' : L2.Hp} {s' : Shared}, Inv (blkH X s3 H3 scope ce [T] p) [] σ' H' s' → H' T = none → FpOk (blkH X s3 H3 scope ce [T] p) [] H' T := fun {σ' H' s'} J n =>
    ⟨n, (J.ok.exf T (List.mem_singleton.mpr rfl)).1, J.ok.exfs T (List.mem_singleton.mpr rfl), .inl (List.mem_singleton.mpr rfl), fun x c e => (J.ok.exf T (List.mem_singleton.mpr rfl)).2 x c e, fun q m => by
      have m : q ∈ [p] ++ [] := m
      rw [List.append_nil, List.mem_singleton] at m
      rw [m]; exact pit⟩
  have lp : codeAny (model X.prog X.w) X.A (.compLoop (.ListComp elt [⟨tg, iter, ifs, 0⟩] scope pos) 0 (.ref T) (.ref D) ce) (compPost (model X.prog X.w) X.A X.xe use Qf (.ref D) s3.heap.objs.size) s4 := by
    refine compLoop_any (fun n s' => ∃ i H', Inv (blkH X s3 H3 scope ce [T] p) [] (wipe σ (own.map (·.2))) H' s' ∧ s'.heap.IsListIter T a i ∧ H' T = none ∧ W i n H') ?_ m0 ⟨0, H3, I4', st4, f3.1.1, w0⟩
    rintro n s5 ⟨i, H5, I5, st5, n5, w5⟩
    obtain ⟨f0, f1, f2, f3', f4, f5⟩ := mine I5 n5
    have hx := (hot_blk (X := X) (s := s3) (H := H3) (scope := scope) (cenv := ce) (fp := [T]) hot)
    rcases turn i n H5 w5 with ⟨⟨xs, sq, le⟩, qq⟩ | ⟨⟨xs, x, sq, ex⟩, Nx, hNx, step⟩
    · -- over
      obtain ⟨its, rv, pl, _⟩ := I5.list sq
      have hl := rv.length
      have P5 := I5.pin p (by simp)
      have h5 : HotAt X.A p.1 s5.heap := by
        obtain ⟨hh, vs, d, c⟩ := hot
        exact ⟨hh, p.2, vs, P5.1, d, c⟩
      refine thnF (list_over (Q := fun r s' => r = none ∧ Inv (blkH X s3 H3 scope ce [T] p) [] (wipe σ (own.map (·.2))) H5 s') h5 pit st5 pl.isList (by simp; omega) fun h' eb => ⟨rfl, I5.turned (t' := s5.toks) (fun b o hb e => eb b o hb e) f0 f1 f3' f4 f5⟩) fun r s6 hr => ?_
      obtain ⟨rfl, I6⟩ := hr
      have I7 : Inv X pins σ H5 s6 := I3.call' (ch := [T]) I6.os I6.base I6.hok I6.bare fun b hb => by
        rw [List.mem_singleton.mp hb]
        exact ⟨f3.1.2.2.2.1, f3.1.2.1, f3.1.2.2.2.2.1, f3.1.2.2.2.2.2⟩
      have nC : H5 s3.heap.objs.size = none := by
        have z : H5 ce.locals = none := I6.free
        rwa [clo] at z
      obtain ⟨m, hn, _⟩ := I6.loc
      have hn : s6.heap.Ns ce.locals m := hn
      rw [clo] at hn
      exact fin D s3.heap.objs.size s6 m H5 I7 qq hn (I3.fpOk (Nat.le_refl _) nC)
    · -- one more
      obtain ⟨its, rv, pl, _⟩ := I5.list sq
      obtain ⟨u, hu, ru⟩ := rv.get ex
      refine thnF (wpAny_pyNext_list_item (Q := fun r s' => r = some u ∧ Inv (blkH X s3 H3 scope ce [T] p) [] (wipe σ (own.map (·.2))) H5 s' ∧ s'.heap.IsListIter T a (i + 1)) st5 pl.isList (x := u) (by simpa using hu) fun h' st' sb => ⟨rfl, I5.turned (t' := s5.toks) (fun b o hb e => (sb.2 b hb).trans e) f0 f1 f3' f4 f5, st'⟩) fun r s6 hr => ?_
      obtain ⟨rfl, I6, st6⟩ := hr
      obtain ⟨oi, gi, ci, di⟩ := id st6
      refine thnF (go_of (Q := fun _ s' => s' = s6) gi ci di (by decide) rfl) fun _ s7 e7 => ?_
      subst e7
      have I7 := I6.pinned (fun b hb => by rw [List.mem_singleton.mp hb]; exact mine I6 n5) (fp := [T]) fun b hb => by
        rw [List.mem_singleton.mp hb]
        exact ⟨oi, gi, fun v z => by rw [di] at z; cases z⟩
      refine thnF (pg.run _ _ _ H5 x u _ I7 ru (step x H5 ⟨rfl, fun ys hy => by rw [I5.list_inj hy sq]; exact ex⟩)) fun _ s8 ⟨σ8, H8, I8, hw8, q8⟩ => ?_
      refine thnF (pt.run _ s8 σ8 H8 _ I8 q8) fun b s9 ⟨H9, I9, q9⟩ => ?_
      have stp : ∀ {s' : Shared} {H' : L2.Hp}, Inv (blkH X s3 H3 scope ce [T] p) ([] ++ pinsAt [T] s7.heap) σ8 H' s' → Nx H' → ∃ m, m < n ∧ ∃ i H', Inv (blkH X s3 H3 scope ce [T] p) [] (wipe σ (own.map (·.2))) H' s' ∧ s'.heap.IsListIter T a i ∧ H' T = none ∧ W i m H' := fun {s' H'} J nx => by
        obtain ⟨m', hm, w'⟩ := hNx H' nx
        have pn := J.pin (T, oi) (List.mem_append_right _ (List.mem_append_right _ (mem_pinsAt (List.mem_singleton.mpr rfl) gi)))
        have hl : (wipe σ (own.map (·.2))).length = σ8.length := by rw [← hw8, wipe_length]
        refine ⟨m', hm, i + 1, H', (J.unpinned (pins := [])).weak hl fun j v e => ?_, st6.at fun o e => ?_, pn.2.1, w'⟩
        · rw [← hw8] at e
          exact (wipe_some e).1
        · rw [gi] at e
          cases e
          exact pn.1
      cases b with
      | false =>
        simp only [Bool.false_eq_true, if_false] at q9 ⊢
        exact stp I9 q9
      | true =>
        simp only [if_true] at q9 ⊢
        refine thnF (pe.run _ s9 σ8 H9 _ I9 q9) fun z s10 ⟨yv, H10, I10, r10, acc, hD10, hz10, nx⟩ => ?_
        exact app_ok (X := blkH X s3 H3 scope ce [T] p) I10 hD10 hz10 r10 fun s11 I11 => stp I11 nx
  exact codeAny_compStart_list lp (wpAny_pyIter_listiter st4 lp)
section
variable {elt tg iter : PySem.Expr} {ifs : List PySem.Expr} {scope : Scope} {own : List (Str × Nat)} {pos : Pos} {tl : TE} {g : TG} {tt : TT} {te : TE}
theorem pe_lcH (hot : Hot1 X.A p) (hp : p ∈ X.pn) (nd : X.N.Nodup) (hi : PE X iter tl) (ok : BlkOk X.N X.env.scope scope own)
    (hg : ∀ (s : Shared) (H : Hp) (C : Addr) (cl : List (Str × Addr)) (fp : List Addr), PG (blkH X s H scope (compEnvC scope cl C X.env) fp p) tg g)
    (ht : ∀ (s : Shared) (H : Hp) (C : Addr) (cl : List (Str × Addr)) (fp : List Addr), PTs (blkH X s H scope (compEnvC scope cl C X.env) fp p) ifs tt)
    (he : ∀ (s : Shared) (H : Hp) (C : Addr) (cl : List (Str × Addr)) (fp : List Addr), PE (blkH X s H scope (compEnvC scope cl C X.env) fp p) elt te)
    (hs : ∀ x, foldedSetIterable iter X.env x = pure x) : PE X (.ListComp elt [⟨tg, iter, ifs, 0⟩] scope pos) (tLc (iList X.K tl) g tt te (own.map (·.2))) := by
  refine ⟨fun pins s σ H Q I q => ?_⟩
  rw [eval_ListComp]
  refine lcH hot hp nd I hi ok hg ht he hs q fun D C s' m H' J qd hn f => ⟨m, hn, fun h'' sb => ?_⟩
  exact ⟨.ref D, H', J.turned (t' := s'.toks) (fun b o hb e => (sb.2 b hb).trans e) f.1 f.2.1 f.2.2.2.1 f.2.2.2.2.1 f.2.2.2.2.2, rfl, qd⟩
theorem ps_setLcH {i : Nat} {y : Str} {py spos : Pos} (hot : Hot1 X.A p) (hp : p ∈ X.pn) (nd : X.N.Nodup) (hy : X.N[i]? = some y) (hyl : X.env.scope.names.lookup y = some .local)
    (hsw : swapsWith (.ListComp elt [⟨tg, iter, ifs, 0⟩] scope pos) (some (.Name y py)) spos.line X.env = pure true) (hi : PE X iter tl) (ok : BlkOk X.N X.env.scope scope own)
    (hg : ∀ (s : Shared) (H : Hp) (C : Addr) (cl : List (Str × Addr)) (fp : List Addr), PG (blkH X s H scope (compEnvC scope cl C X.env) fp p) tg g)
    (ht : ∀ (s : Shared) (H : Hp) (C : Addr) (cl : List (Str × Addr)) (fp : List Addr), PTs (blkH X s H scope (compEnvC scope cl C X.env) fp p) ifs tt)
    (he : ∀ (s : Shared) (H : Hp) (C : Addr) (cl : List (Str × Addr)) (fp : List Addr), PE (blkH X s H scope (compEnvC scope cl C X.env) fp p) elt te)
    (hs : ∀ x, foldedSetIterable iter X.env x = pure x) : PS X (.Assign [.Name y py] (.ListComp elt [⟨tg, iter, ifs, 0⟩] scope pos) spos) (tAsg (tLc (iList X.K tl) g tt te (own.map (·.2))) (gName i)) := by
  refine ⟨fun pins s σ H En I q => ?_⟩
  rw [exec_Assign_Name_used _ _ _ _ hsw]
  refine wpAny_bind (wpAny_standAt (wpAny_bind ?_))
  show wpAny _ X.A (do let _ ← comprehension (.ListComp elt [⟨tg, iter, ifs, 0⟩] scope pos) scope X.env (firstIterPos [⟨tg, iter, ifs, 0⟩] pos) (newList []) false (eval iter X.env) (some (assign (.Name y py) X.env))) _ _ s
  have q : tLc (iList X.K tl) g tt te (own.map (·.2)) σ H (fun x H1 => gName i x σ H1 En.nx) := q
  refine wpAny_bind (thn (lcH (Qf := fun _ s' => SP X pins En .next s') hot hp nd I hi ok hg ht he hs q fun L C s' m H' J qd hn f => ?_) fun _ s' hq => wpAny_pure (wpAny_pure hq))
  show wpAny _ _ (assign (.Name y py) X.env (.ref L)) _ _ _
  refine wpAny_assign_Name (store_ok2 (v := V.ref L) J nd hy (.inl hyl) rfl (fun s2 I2 ⟨a, sb, ha⟩ => ?_) (.inr hyl))
  have na : C ≠ a := by
    rcases ha with z | z
    · rw [z]; exact f.2.1
    · exact fun e => f.2.2.2.2.1 y a z e.symm
  exact ⟨m, hn.sameBut sb na, fun h3 sb3 => ⟨_, H', I2.turned (t' := s2.toks) (fun b o hb e => (sb3.2 b hb).trans e) f.1 f.2.1 f.2.2.2.1 f.2.2.2.2.1 f.2.2.2.2.2, qd⟩⟩
end
end
end VH
/-! H3: defs that are called where one exception, known by its place and its object, is handled (own work). -/
namespace VH
open PySem PySem.Spec PyProof.Rows L2 L2H HotX

/-- what such a def promises while p's object is handled -/
structure FnP (P : Program) (w : World) (K : PySem.W.Frag) (mg : Str → Option Value) (base : Heap) (CX : CXT) (k : Nat) (f : Addr) (fd : FuncData) (ps : List Str) (p : Addr × Obj) (sp : Sp) : Prop where
  len : ∀ vs H Q E, sp vs H Q E → vs.length = ps.length
  run : ∀ (A : Around) (outer : List Env) (s : Shared) (H : Hp) (args : Args) (us : List Value) (vs : List V) (Q : VK) (E : XK), RoomH k A → Hot1 A p → PinOk outer H s p → Env0 P w K mg base A outer s H → BindsTo s fd args (ps.zip us) → Vals vs us → sp vs H Q E →
    codeAny (model P w) A (.call (.ref f) args) (CR CX outer P w H s Q E) s
section
variable {CX : CXT} {P : Program} {w : World} {K : PySem.W.Frag} {mg : Str → Option Value} {base : Heap} {x qual : Str} {params : Arguments} {body : List Stmt} {scope : Scope} {dvs : List V} {kws : List (Str × V)} {f : Addr} {fd : FuncData} {N ps : List Str} {k : Nat} {sp : Sp} {p : Addr × Obj}
theorem okP (F : FunD K x qual params body scope dvs kws f fd) (S : FnScope N ps scope) (len : ∀ vs H Q E, sp vs H Q E → vs.length = ps.length)
    (hbody : ∀ (cdv : Value) (A : Around) (outer : List Env) (s : Shared) (H : Hp) (vs : List V) (Q : VK) (E : XK), Hot1 A p → RoomH k (A.deeper (envOfC qual scope s.heap.objs.size f cdv)) → sp vs H Q E →
      ∃ t, PSs (cxH CX P w K mg base N qual scope f cdv A outer s H E p) body t ∧ t { nx := fun _ H' => Q .non H', rt := Q } (L2.start N vs) H) : FnP P w K mg base CX (k + 1) f fd ps p sp := by
  obtain ⟨oc, od, dV, kV, doc, pm, an, cdv, ct, osl, rfl, lk, hcd, _, _⟩ := F.ex
  refine ⟨len, fun A outer s H args us vs Q E hr hot hpin e0 hb r hsp => ?_⟩
  have KX : K.In s.heap := e0.mod.kin.keeps fun b o e => (e0.bs b o e).1
  have lim : s.heap.NoLimit := e0.mod.nolimit.keeps fun b o e => (e0.bs b o e).1
  have hkind : ∀ y ∈ ps.zip us, scope.names.lookup y.1 = some .local ∨ (scope.names.lookup y.1 = some .cell ∧ ((cellsFrom (s.heap.objs.size + 1) scope.names []).lookup y.1).isSome = true) := fun ⟨n, v⟩ hy => by
    rcases S.par n (List.of_mem_zip hy).1 with q | q
    · exact .inl q
    · exact .inr ⟨q, PySem.W.cellsFrom_some _ _ _ (.inl q)⟩
  refine codeAny_call_function hr.depth (KX _ _ lk) rfl S.co S.gen rfl (PySem.W.codeRec_of KX hcd) (hb _ _ _ _ ?_)
  refine wpAny_newFunctionEnv_cells S.kind hkind fun env he s1 y => ?_
  subst he
  refine ⟨lim.keeps y.toInCall.keep, codeAny_func ?_⟩
  obtain ⟨t, ht, hq⟩ := hbody cdv A outer s H vs Q E hot (hr.deeper _) hsp
  have I := inv_startH (CX := CX) (P := P) (w := w) (K := K) (mg := mg) (base := base) (cd := cdv) (qual := qual) (f := f) (E := E) S hpin e0 (len _ _ _ _ hsp) r y
  refine wpAny_mono (ht.run [] s1 (L2.start N vs) H _ I hq) (fun fl s' hs => ?_) fun e s' hs => hs
  cases fl with
  | ret u =>
    obtain ⟨v, σ', H', J, rv, q⟩ := hs
    exact ⟨v, H', J.os, J.bare, J.base, J.hok, rv, q⟩
  | next =>
    obtain ⟨σ', H', J, q⟩ := hs
    exact ⟨V.non, H', J.os, J.bare, J.base, J.hok, rfl, q⟩
  | brk =>
    obtain ⟨_, _, _, q⟩ := hs
    exact False.elim q
  | cont =>
    obtain ⟨_, _, _, q⟩ := hs
    exact False.elim q
end
section
variable {X : Cx} {CX : CXT} {k : Nat} {f : Addr} {fd : FuncData} {ps : List Str} {sp : Sp} {E : XK} {p : Addr × Obj}
theorem run_fnP {pins : List (Addr × Obj)} {σ : L2.St} {H : Hp} {s : Shared} {Q : VK} {us : List Value} {vs : List V} (F : FnP X.prog X.w X.K X.mg X.base CX k f fd ps p sp) (hr : RoomH k X.A) (hot : Hot1 X.A p) (hp : p ∈ X.pn) (hb : L2.Binds X.K fd ps [])
    (tk : ∀ s e s', Inv X pins σ H s → CX X.stack H s E e s' → X.xe e s') (I : Inv X pins σ H s) (r : Vals vs us) (h : sp vs H Q E) : wpAny (model X.prog X.w) X.A (call (.ref f) us) (EP X pins σ Q) X.xe s := by
  have hl : us.length = ps.length := by rw [← r.length]; exact F.len _ _ _ _ h
  have b := hb s us I.kIn (by rw [List.append_nil]; exact hl)
  rw [List.append_nil] at b
  have P1 := I.pin p (List.mem_append_left _ hp)
  have hpin : PinOk X.stack H s p := ⟨P1.1, P1.2.1, fun hm => (List.mem_cons.mp (I.stkSub p.1 hm)).elim P1.2.2.1 P1.2.2.2.1, P1.2.2.2.2⟩
  refine wpAny_call (codeAny_mono (F.run X.A X.stack s H ⟨us, []⟩ us vs Q E hr hot hpin I.env0 b r h) fun r s' hq => ?_)
  match r, hq with
  | .error e, z => exact tk s e s' I z
  | .ok (.ret u), z => exact I.after z
/-- isinstance of the handled exception -/
theorem call_isP {a D : Addr} {oe : Obj} (C : ExcC X.K D) (hz : oe.cls = .ref D ∧ oe.dict = none) (hf : ∃ vs, oe.data = .fields vs) (hp : (a, oe) ∈ X.pn) : CallR X (.builtin "isinstance") (rIsE X.K D a) := by
  intro pins s σ H xs us Q I r h
  obtain ⟨c, cv, b, rfl, hcv, e, q⟩ := h
  obtain ⟨u1, u2, rfl, r1, r2⟩ := vals2 r
  obtain rfl : u1 = Value.ref a := r1
  have ec := hcv _ r2
  subst ec
  obtain ⟨hget, _⟩ := I.pin (a, oe) (List.mem_append_left _ hp)
  obtain ⟨vs, hv⟩ := hf
  have J : PySem.W.InstAt s.heap a oe D none := by
    obtain ⟨oc, od, oda, osl⟩ := oe
    obtain ⟨h1, h2⟩ := hz
    dsimp only at h1 h2 hv
    subst h1 h2 hv
    exact ⟨hget, rfl, rfl, trivial⟩
  exact PySem.W.kia_one (PySem.W.handS_kitx_exc C.hg C.hk C.hs C.hd C.ha C.hn C.ht C.hm) I.kIn J e (fun z => nomatch z) fun tk => ⟨.bl b, H, I.kept (t' := tk) fun _ _ z => z, rfl, q⟩
end
end VH
/-! V6: the readings; plain expressions keep them. -/
namespace VI
open PySem PySem.Spec PyProof.Rows L2

abbrev wx (C : Cst) (W : L2.WX) (σ : L2.St) : String → AHp → Prop := fun c H => W (C.cv c) none σ H
/-- the small state beside the model's -/
structure Now (C : Cst) (p : List Addr) (h : Hs) (s : Env) (σ : L2.St) (H : AHp) : Prop where
  sr : SR C p h H
  er : ER C p h H s σ
/-- the reading of a run -/
def tR (C : Cst) (W : L2.WX) (f : Env → Hs → R) : TE := fun σ H Q => ∃ l p h s, Now (C.hid l) p h s σ H ∧ OkR (C.hid l) p h H (f s h) Q (wx C W σ)
def tRs (C : Cst) (W : L2.WX) (f : Env → Hs → Rs) : TA := fun σ H Q => ∃ l p h s, Now (C.hid l) p h s σ H ∧ (match f s h with
  | .ok d h' => ∀ p' H' v, Ext (C.hid l) p h H p' h' H' → SR (C.hid l) p' h' H' → DRs (C.hid l) p' h' H' d v → Q v H'
  | .exc c h' => ∀ p' H', Ext (C.hid l) p h H p' h' H' → SR (C.hid l) p' h' H' → wx C W σ c H'
  | .bad => False)
def OkRs (C : Cst) (p : List Addr) (h : Hs) (H : AHp) (r : Rs) (Q : List V → AHp → Prop) (w : String → AHp → Prop) : Prop := match r with
  | .ok d h' => ∀ p' H' v, Ext C p h H p' h' H' → SR C p' h' H' → DRs C p' h' H' d v → Q v H'
  | .exc c h' => ∀ p' H', Ext C p h H p' h' H' → SR C p' h' H' → w c H'
  | .bad => False
abbrev tE (P : Pr) (F : Nat → List D → Hs → R) (C : Cst) (W : L2.WX) (e : E) : TE := tR C W (ev P F e)
abbrev tEs (P : Pr) (F : Nat → List D → Hs → R) (C : Cst) (W : L2.WX) (es : Es) : TA := fun σ H Q => ∃ l p h s, Now (C.hid l) p h s σ H ∧ OkRs (C.hid l) p h H (evs P F es s h) Q (wx C W σ)
/-- what a def promises: its run -/
def spF (C : Cst) (r : List D → Hs → R) : Sp := fun vs H Q E => ∃ l p h ds, SR (C.hid l) p h H ∧ DRs (C.hid l) p h H ds vs ∧ OkR (C.hid l) p h H (r ds h) Q (fun c H' => E (C.cv c) none H')

section
variable {C : Cst} {p p1 : List Addr} {h h1 : Hs} {s : Env} {σ : L2.St} {H H1 : AHp} {Q Q' : VK} {w : String → AHp → Prop}
theorem OkR.mono {r : R} (q : OkR C p h H r Q w) (k : ∀ v H', Q v H' → Q' v H') : OkR C p h H r Q' w := by
  cases r with
  | ok d h' => exact fun p' H' v a b c => k _ _ (q p' H' v a b c)
  | exc c h' => exact q
  | bad => exact q
theorem OkR.wmono {r : R} {w' : String → AHp → Prop} (q : OkR C p h H r Q w) (k : ∀ c H', w c H' → w' c H') : OkR C p h H r Q w' := by
  cases r with
  | ok d h' => exact q
  | exc c h' => exact fun p' H' a b => k _ _ (q p' H' a b)
  | bad => exact q
theorem Now.ext (n : Now C p h s σ H) (e : Ext C p h H p1 h1 H1) (sr : SR C p1 h1 H1) : Now C p1 h1 s σ H1 := ⟨sr, n.er.ext e⟩
theorem OkR.bnd {r : R} {k : D → Hs → R} (q : OkR C p h H (r.bnd k) Q w) : OkR C p h H r (fun v H1 => ∃ p1 h1 x, r = .ok x h1 ∧ Ext C p h H p1 h1 H1 ∧ SR C p1 h1 H1 ∧ DR C p1 h1 H1 x v ∧ OkR C p1 h1 H1 (k x h1) Q w) w := by
  cases r with
  | ok d h' => exact fun p' H' v a b c => ⟨p', h', d, rfl, a, b, c, OkR.step (r := k d h') a q⟩
  | exc c h' => exact q
  | bad => exact q
theorem OkR.tst {r : R} {a b : Hs → R} (q : OkR C p h H (r.tst a b) Q w) : OkR C p h H r (fun v H1 => ∃ p1 h1 k, Ext C p h H p1 h1 H1 ∧ SR C p1 h1 H1 ∧ v = .bl k ∧ OkR C p1 h1 H1 (if k = true then a h1 else b h1) Q w) w := by
  cases r with
  | ok d h' =>
    cases d with
    | bl k =>
      intro p' H' v x y z
      cases z
      refine ⟨p', h', k, x, y, rfl, ?_⟩
      cases k
      · exact OkR.step (r := b h') x q
      · exact OkR.step (r := a h') x q
    | _ => exact q.elim
  | exc c h' => exact q
  | bad => exact q
theorem OkR.bns {r : R} {k : D → Hs → Rs} {Q : List V → AHp → Prop} (q : OkRs C p h H (r.bns k) Q w) : OkR C p h H r (fun v H1 => ∃ p1 h1 x, Ext C p h H p1 h1 H1 ∧ SR C p1 h1 H1 ∧ DR C p1 h1 H1 x v ∧ OkRs C p1 h1 H1 (k x h1) Q w) w := by
  cases r with
  | ok d h' =>
    refine fun p' H' v a b c => ⟨p', h', d, a, b, c, ?_⟩
    replace q : OkRs C p h H (k d h') Q w := q
    cases e : k d h' with
    | ok d2 h2 => rw [e] at q; exact fun p2 H2 v2 x y z => q p2 H2 v2 (a.trans x) y z
    | exc c2 h2 => rw [e] at q; exact fun p2 H2 x y => q p2 H2 (a.trans x) y
    | bad => rw [e] at q; exact q.elim
  | exc c h' => exact q
  | bad => exact q
theorem OkRs.bnd {r : Rs} {k : List D → Hs → R} (q : OkR C p h H (r.bnd k) Q w) : OkRs C p h H r (fun v H1 => ∃ p1 h1 x, Ext C p h H p1 h1 H1 ∧ SR C p1 h1 H1 ∧ DRs C p1 h1 H1 x v ∧ OkR C p1 h1 H1 (k x h1) Q w) w := by
  cases r with
  | ok d h' => exact fun p' H' v a b c => ⟨p', h', d, a, b, c, OkR.step (r := k d h') a q⟩
  | exc c h' => exact q
  | bad => exact q
theorem OkRs.bns {r : Rs} {k : List D → Hs → Rs} {Q : List V → AHp → Prop} (q : OkRs C p h H (r.bns k) Q w) : OkRs C p h H r (fun v H1 => ∃ p1 h1 x, Ext C p h H p1 h1 H1 ∧ SR C p1 h1 H1 ∧ DRs C p1 h1 H1 x v ∧ OkRs C p1 h1 H1 (k x h1) Q w) w := by
  cases r with
  | ok d h' =>
    refine fun p' H' v a b c => ⟨p', h', d, a, b, c, ?_⟩
    replace q : OkRs C p h H (k d h') Q w := q
    cases e : k d h' with
    | ok d2 h2 => rw [e] at q; exact fun p2 H2 v2 x y z => q p2 H2 v2 (a.trans x) y z
    | exc c2 h2 => rw [e] at q; exact fun p2 H2 x y => q p2 H2 (a.trans x) y
    | bad => rw [e] at q; exact q.elim
  | exc c h' => exact q
  | bad => exact q
theorem OkRs.mono {r : Rs} {Q Q' : List V → AHp → Prop} (q : OkRs C p h H r Q w) (k : ∀ v H', Q v H' → Q' v H') : OkRs C p h H r Q' w := by
  cases r with
  | ok d h' => exact fun p' H' v a b c => k _ _ (q p' H' v a b c)
  | exc c h' => exact q
  | bad => exact q
end
section
variable {C : Cst} {W : L2.WX} {l : List Addr} {p p1 : List Addr} {h h1 : Hs} {s : Env} {σ : L2.St} {H H1 : AHp} {Q Q' : VK}
theorem tR.mono {f : Env → Hs → R} (q : tR C W f σ H Q) (k : ∀ v H', Q v H' → Q' v H') : tR C W f σ H Q' := let ⟨l, p, h, s, n, q⟩ := q; ⟨l, p, h, s, n, q.mono k⟩
theorem one_w {f : Env → Hs → R} {k : D → Hs → R} (n : Now (C.hid l) p h s σ H) (q : OkR (C.hid l) p h H ((f s h).bnd k) Q (wx C W σ)) :
    tR C W f σ H fun v H1 => ∃ p1 h1 x, f s h = .ok x h1 ∧ Ext (C.hid l) p h H p1 h1 H1 ∧ Now (C.hid l) p1 h1 s σ H1 ∧ DR (C.hid l) p1 h1 H1 x v ∧ OkR (C.hid l) p1 h1 H1 (k x h1) Q (wx C W σ) :=
  ⟨l, p, h, s, n, q.bnd.mono fun v H1 ⟨p1, h1, x, e, ex, sr, d, q1⟩ => ⟨p1, h1, x, e, ex, n.ext ex sr, d, q1⟩⟩
theorem two_w {f g : Env → Hs → R} {k : D → D → Hs → R} (n : Now (C.hid l) p h s σ H) (q : OkR (C.hid l) p h H ((f s h).bnd fun x h1 => (g s h1).bnd fun y h2 => k x y h2) Q (wx C W σ)) :
    tR C W f σ H fun v H1 => tR C W g σ H1 fun u H2 => ∃ p2 h1 h2 x y, f s h = .ok x h1 ∧ g s h1 = .ok y h2 ∧ Now (C.hid l) p2 h2 s σ H2 ∧ DR (C.hid l) p2 h2 H2 x v ∧ DR (C.hid l) p2 h2 H2 y u ∧ OkR (C.hid l) p2 h2 H2 (k x y h2) Q (wx C W σ) :=
  ⟨l, p, h, s, n, q.bnd.mono fun v H1 ⟨p1, h1, x, e, ex, sr, d, q1⟩ => ⟨l, p1, h1, s, n.ext ex sr, q1.bnd.mono fun u H2 ⟨p2, h2, y, e2, ex2, sr2, d2, q2⟩ =>
    ⟨p2, h1, h2, x, y, e, e2, (n.ext ex sr).ext ex2 sr2, d.ext ex2, d2, q2⟩⟩⟩
theorem args_w {P : Pr} {F : Nat → List D → Hs → R} {es : Es} {k : List D → Hs → R} (n : Now (C.hid l) p h s σ H) (q : OkR (C.hid l) p h H ((evs P F es s h).bnd k) Q (wx C W σ)) :
    tEs P F C W es σ H fun vs H1 => ∃ p1 h1 ds, Ext (C.hid l) p h H p1 h1 H1 ∧ Now (C.hid l) p1 h1 s σ H1 ∧ DRs (C.hid l) p1 h1 H1 ds vs ∧ OkR (C.hid l) p1 h1 H1 (k ds h1) Q (wx C W σ) :=
  ⟨l, p, h, s, n, (OkRs.bnd q).mono fun v H1 ⟨p1, h1, x, ex, sr, d, q1⟩ => ⟨p1, h1, x, ex, n.ext ex sr, d, q1⟩⟩
end
section
variable {X : Cx} {e : PySem.Expr} {Q : VK}
theorem pe_weak {t t' : TE} (k : PE X e t) (w : ∀ σ H Q, t' σ H Q → t σ H Q) : PE X e t' := ⟨fun pins s σ H Q I q => k.run pins s σ H Q I (w _ _ _ q)⟩
theorem pt_weak {t t' : TT} (k : PT X e t) (w : ∀ σ H Q, t' σ H Q → t σ H Q) : PT X e t' := ⟨fun pins s σ H Q I q => k.run pins s σ H Q I (w _ _ _ q)⟩
theorem pw_weak {t t' : TT} (k : PW X e t) (w : ∀ σ H Q, t' σ H Q → t σ H Q) : PW X e t' := ⟨fun whole pins s σ H Q I q => k.run whole pins s σ H Q I (w _ _ _ q)⟩
theorem pa_weak {es : List PySem.Expr} {t t' : TA} (k : PA X es t) (w : ∀ σ H Q, t' σ H Q → t σ H Q) : PA X es t' := ⟨fun pos pins s σ H Q I q => k.run pos pins s σ H Q I (w _ _ _ q)⟩
theorem pe_or2 {t t' u : TE} (k : PE X e t) (k' : PE X e t') (w : ∀ σ H Q, u σ H Q → t σ H Q ∨ t' σ H Q) : PE X e u := ⟨fun pins s σ H Q I q => by
  rcases w _ _ _ q with q | q
  · exact k.run pins s σ H Q I q
  · exact k'.run pins s σ H Q I q⟩
end

/-! ### two operands -/
def rBin (K : PySem.W.Frag) : Bop → R2
  | .add => rAdd K
  | .sub => rI (fun _ _ => True) fun i j => .int (i - j)
  | .mul => rMulA
  | .fdv => rI CDiv fun i j => .int (i / j)
  | .mod => rI (fun _ j => 0 < j) fun i j => .int (i % j)
  | .pow => rI CPow fun i j => .int (i ^ j.toNat)
theorem op_binA {X : Cx} : ∀ op : Bop, OpR X (binaryOp (bopO op)) (rBin X.K op)
  | .add => op_addA
  | .sub => fun pins s σ H x y v u Q I rx ry q => op_sub pins s σ H x y v u Q I rx ry (let ⟨i, j, e1, e2, _, q⟩ := q; ⟨i, j, e1, e2, q⟩)
  | .mul => op_mulA
  | .fdv => op_fdiv
  | .mod => op_mod
  | .pow => op_pow
section
variable {C : Cst} {p : List Addr} {h : Hs} {H : AHp} {Q : VK} {w : String → AHp → Prop} {x y : D} {vx vy : V}
theorem binD_w {op : Bop} {hp : Bool} (sr : SR C p h H) (rx : DR C p h H x vx) (ry : DR C p h H y vy) (q : OkR C p h H (binD op hp x y h) Q w) : rBin C.K op vx vy H Q := by
  cases op with
  | add => exact addD_w sr rx ry q
  | sub => exact int2_w sr rx ry sub_g q
  | mul => exact mulD_w sr rx ry q
  | fdv => exact int2_w sr rx ry fdv_g q
  | mod => exact int2_w sr rx ry mod_g q
  | pow => exact int2_w sr rx ry pow_g q
end

/-! ### the law's facts, a place's facts -/
def bNames : List String := ["len", "all", "int", "min", "max", "sum", "list", "tuple", "abs", "sorted", "str", "repr", "dict", "bool", "range", "enumerate", "zip", "reversed", "isinstance", "ValueError"]
/-- p's object is an exception of a class that is known, at a -/
def ExL (L : Lk) (C : Cst) (p : Addr × Obj) (a : Addr) (c : String) : Prop := a = p.1 ∧ p.2.cls = C.cv c ∧ p.2.dict = none ∧ (∃ vs, p.2.data = .fields vs) ∧ L.ex c = true
structure Fx (L : Lk) (P : Pr) (F : Nat → List D → Hs → R) (C : Cst) (k : Nat) (CX : CXT) (pg : Program) (w : World) (K : PySem.W.Frag) (mg : Str → Option Value) (base : Heap) : Prop where
  hK : K = C.K
  blt : ∀ x ∈ bNames, mg (Str.ofString x) = none
  con : ∀ n d, L.glo (Str.ofString n) = true → P.con n = some d → ∃ v u, mg (Str.ofString n) = some u ∧ RelV v u ∧ ∀ l p h H, DR (C.hid l) p h H d v
  fn : ∀ f x, L.fnm f = some x → ∃ a fd ps, mg x = some (.ref a) ∧ PySem.W.keepIn K (.ref a) = true ∧ L2.Binds K fd ps [] ∧ FnOk pg w K mg base CX k a fd ps (spF C (F f))
  fok : ∀ c f, P.fok c f = true → Cls K (C.ca c) ∧ NoAttr K (C.ca c) (Str.ofString f)
  mth : ∀ c m f, P.mid c m = some f → ∃ a fd ps, Cls K (C.ca c) ∧ Meth K (C.ca c) (Str.ofString m) a ∧ L2.Binds K fd ps [] ∧ FnOk pg w K mg base CX k a fd ps (spF C (F f))
  ini : ∀ c, L.cls c = true → ∃ f a fd ps, P.ini c = some f ∧ mg (Str.ofString c) = some (.ref (C.ca c)) ∧ Mk K (C.ca c) a ∧ L2.Binds K fd ps [] ∧ FnOk pg w K mg base CX k a fd ps (spF C (F f))
  none_ : ∀ st H s e s', ¬ CX st H s (fun _ _ _ => False) e s'
  exs : ∀ c, P.exs c = true → L.ex c = true
  cv : ∀ c, L.ex c = true → C.cv c = .ref (C.ca c) ∧ mg (Str.ofString c) = some (.ref (C.ca c)) ∧ L2.ExcC K (C.ca c)
  mkE : ∀ c, L.ex c = true → PySem.W.excIn K (C.ca c) He.veBase "ValueError.__new__" = true ∧ PySem.W.keepIn K (.ref (C.ca c)) = true ∧ PySem.W.subIn K (.ref (C.ca c)) (.type "BaseException") = some true ∧ PySem.W.typeIn K (.ref (C.ca c)) = some (.type "type")
  kit : ∀ c c', L.ex c = true → L.ex c' = true → PySem.W.kitOne K (.ref (C.ca c)) (.ref (C.ca c')) = some (P.sub c c') ∧ PySem.W.exmOne K (.ref (C.ca c)) (.ref (C.ca c')) = some (P.sub c c')
  insC : ∀ c, L.cls c = true → Cls K (C.ca c) ∧ PySem.W.findIn K (.ref (C.ca c)) "__class__" = some (some (.builtin "object.__class__")) ∧ PySem.W.specialIn K (.builtin "object.__class__") "__get__" = some (some (.builtin "getset_descriptor.__get__")) ∧ PySem.W.takesIn K (.builtin "object.__class__") = some true ∧ PySem.W.mroIn K (C.ca c) (.type "object") = some true
  kitv : ∀ c, L.ex c = true → PySem.W.kitOne K (.ref (C.ca c)) (.type "ValueError") = some (P.sub c "ValueError")
  fnh : ∀ f x, L.hot f = true → L.fnm f = some x → ∃ a fd ps, mg x = some (.ref a) ∧ PySem.W.keepIn K (.ref a) = true ∧ L2.Binds K fd ps [] ∧ ∀ (g : Addr → String → Prop) (p : Addr × Obj), (∀ b c, g b c → ExL L C p b c) → VH.FnP pg w K mg base CX k a fd ps p (spF (C.xw g) (F f))
structure Okc (L : Lk) (P : Pr) (F : Nat → List D → Hs → R) (C : Cst) (k : Nat) (CX : CXT) (G : Gc) (X : Cx) (W : L2.WX) : Prop where
  sc : X.env.scope = G.sc
  N : X.N = G.N
  nd : X.N.Nodup
  own : X.fn = (match G.own with | none => fun _ => true | some s => fun x => s.names.lookup x == some .cell)
  calm : G.hot = false → X.calm = true
  cold : G.hot = false → C.cold = C
  room : G.hot = false → Room (k + 1) X.A
  roomH : L2H.RoomH (k + 1) X.A
  hotp : G.hot = true → ∃ p : Addr × Obj, L2H.Hot1 X.A p ∧ p ∈ X.pn ∧ ∀ a c, C.xc a c → ExL L C p a c
  pass : ∀ σ pins H s e s', Inv X pins σ H s → CX X.stack H s (fun cls d H' => W cls d σ H') e s' → X.xe e s'
  fx : Fx L P F C.cold k CX X.prog X.w X.K X.mg X.base

section
variable {L : Lk} {P : Pr} {F : Nat → List D → Hs → R} {C : Cst} {k : Nat} {CX : CXT} {G : Gc} {X : Cx} {W : L2.WX}
theorem Okc.gl (o : Okc L P F C k CX G X W) {x : Str} (q : okG G x = true) : Gl X x ∧ (x == ("__debug__" : Str)) = false ∧ x ≠ "__name__" := by
  unfold okG isK Gc.look at q
  simp only [Bool.and_eq_true, decide_eq_true_eq] at q
  refine ⟨?_, by rw [beq_eq_false_iff_ne]; exact q.1.2, q.2⟩
  unfold Gl Env.kindOf
  rw [o.sc]; exact q.1.1
/-- where nothing is handled -/
theorem Okc.fxC (o : Okc L P F C k CX G X W) (q : G.hot = false) : Fx L P F C k CX X.prog X.w X.K X.mg X.base := (o.cold q) ▸ o.fx
theorem Okc.hotC (o : Okc L P F C k CX G X W) (q : G.hot = true) : L2H.HotC X := let ⟨p, h, m, _⟩ := o.hotp q; ⟨p, h, m⟩
theorem Okc.xl (o : Okc L P F C k CX G X W) {a : Addr} {c : String} (q : C.xc a c) : ∃ oe, (a, oe) ∈ X.pn ∧ oe.cls = C.cv c ∧ oe.dict = none ∧ (∃ vs, oe.data = .fields vs) ∧ L.ex c = true := by
  cases e : G.hot with
  | false =>
    have z : C.cold.xc a c := by rw [o.cold e]; exact q
    exact z.elim
  | true =>
    obtain ⟨⟨b, oe⟩, _, m, l⟩ := o.hotp e
    obtain ⟨rfl, z⟩ := l a c q
    exact ⟨oe, m, z⟩
theorem Okc.vis (o : Okc L P F C k CX G X W) {i : Nat} {x : Str} (q : okV G i x = true) : X.N[i]? = some x ∧ Vis X.env.scope x ∧ (x == ("__debug__" : Str)) = false ∧ (x == ("__classdict__" : Str)) = false := by
  unfold okV isK Gc.look at q
  simp only [Bool.and_eq_true, Bool.or_eq_true, decide_eq_true_eq] at q
  obtain ⟨⟨⟨q1, q2⟩, q3⟩, q4⟩ := q
  refine ⟨by rw [o.N]; exact q1, ?_, by rw [beq_eq_false_iff_ne]; exact q3, by rw [beq_eq_false_iff_ne]; exact q4⟩
  unfold Vis
  rw [o.sc]
  rcases q2 with (q | q) | q
  · exact .inl q
  · exact .inr (.inl q)
  · exact .inr (.inr q)
theorem Okc.loc (o : Okc L P F C k CX G X W) {i : Nat} {x : Str} (q : okW G i x = true) : X.N[i]? = some x ∧ Loc X.env.scope x ∧ (X.fn x = true ∨ X.env.scope.names.lookup x = some .local) := by
  unfold okW isK Gc.look at q
  simp only [Bool.and_eq_true, Bool.or_eq_true, decide_eq_true_eq] at q
  obtain ⟨q1, q2⟩ := q
  unfold L2.Loc
  rw [o.N, o.sc, o.own]
  refine ⟨q1, ?_⟩
  rcases q2 with q | ⟨q, z⟩
  · exact ⟨.inl q, .inr q⟩
  · refine ⟨.inr q, .inl ?_⟩
    cases e : G.own with
    | none => rfl
    | some sc =>
      rw [e] at z
      simp only [decide_eq_true_eq] at z
      show (_ == _) = true
      rw [z]; rfl
theorem Okc.hu (o : Okc L P F C k CX G X W) : X.A.units + 65 < cLine := by
  have := o.roomH.un
  omega
theorem star_cons {x : PySem.Expr} {xs : List PySem.Expr} {env : PySem.Env} (q : shp x = true) : starEach (x :: xs) env = (false, eval x env) :: starEach xs env := by
  cases x <;> first | (cases q; done) | rfl
theorem plain_args {L : Lk} {G : Gc} : ∀ {es : Es} {as : List PySem.Expr}, okEs L G es as = true → ∀ x ∈ as, shp x = true
  | .nil, [], _, _, m => by cases m
  | .nil, _ :: _, q, _, _ => by simp [okEs] at q
  | .cons _ _, [], q, _, _ => by simp [okEs] at q
  | .cons e es, x :: xs, q, y, m => by
    simp only [okEs, Bool.and_eq_true] at q
    rcases List.mem_cons.mp m with z | z
    · subst z; exact q.1.2
    · exact plain_args q.2 y z
theorem plain_any {env : PySem.Env} {pos : Pos} : ∀ {as : List PySem.Expr}, (∀ x ∈ as, shp x = true) → (backTo pos (starEach as env)).any (·.1) = false
  | [], _ => rfl
  | x :: xs, q => by
    rw [star_cons (q x List.mem_cons_self)]
    exact plain_any (as := xs) fun y m => q y (List.mem_cons_of_mem _ m)
/-- an attribute's base -/
theorem base_ok {o : PySem.Expr} {f : Str} {env : PySem.Env} (q : shA o = true) : attributeBase o f env (eval o env) = eval o env := by
  unfold attributeBase
  split
  · cases q
  · rfl
theorem plain_ix {y : PySem.Expr} (q : shp y = true) : PlainIx y := by
  intro o i
  unfold subscripted
  split
  · cases q
  · rename_i z; cases z
  · rfl
/-- no test of its own -/
def shP : PySem.Expr → Bool
  | .UnaryOp .Not _ _ => false
  | .BoolOp _ _ _ => false
  | .IfExp _ _ _ _ => false
  | .Compare _ _ _ _ => false
  | _ => true
theorem pt_plain {pe : PySem.Expr} {t : TE} (q : PE X pe t) (z : shP pe = true) : PT X pe (tTest t) := by
  refine pt_val q fun whole => ?_
  unfold PySem.isTrue
  split
  · cases z
  · cases z
  · cases z
  · cases z
  · rfl
end
end VI
/-! V7: each form of expression keeps its reading (calls of defs, comprehensions: V8). -/
namespace VI
open PySem PySem.Spec PyProof.Rows L2

theorem ofS (x : String) : Str.ofString x = sOf x.toList := Str.ofString_eq_toList x
theorem ofS_inj {x y : String} (e : Str.ofString x = Str.ofString y) : x = y := by
  rw [ofS, ofS] at e
  exact String.toList_inj.mp (sOf_inj e)
section
variable {C : Cst} {p : List Addr} {h : Hs} {H : AHp}
theorem FR.look {f : String} : ∀ {fs : List (String × D)} {gs : List (Str × V)}, FR C p h H fs gs → (∀ d, fs.lookup f = some d → ∃ v, gs.lookup (Str.ofString f) = some v ∧ DR C p h H d v) ∧ (fs.lookup f = none → gs.lookup (Str.ofString f) = none)
  | _, _, .nil => ⟨fun _ e => (by cases e), fun _ => rfl⟩
  | (a, d) :: fs, (b, v) :: gs, .cons ⟨e, r⟩ t => by
    have e : Str.ofString a = b := e
    have ih := FR.look (f := f) t
    by_cases z : f = a
    · subst z
      subst e
      simp only [List.lookup, beq_self_eq_true]
      exact ⟨fun d' q => by cases q; exact ⟨_, rfl, r⟩, fun q => by cases q⟩
    · have z1 : (f == a) = false := beq_eq_false_iff_ne.mpr z
      have z2 : (Str.ofString f == b) = false := beq_eq_false_iff_ne.mpr fun q => z (ofS_inj (q.trans e.symm))
      simp only [List.lookup, z1, z2]
      exact ih
end
section
variable {L : Lk} {P : Pr} {F : Nat → List D → Hs → R} {C : Cst} {k : Nat} {CX : CXT} {G : Gc} {X : Cx} {W : L2.WX} {pos : Pos} {x y z : PySem.Expr} {a b c : E}
theorem s_non {j : Nat} : PE X (.Constant .none j pos) (tE P F C W .non) := pe_weak pe_non fun σ H Q ⟨l, p, h, s, n, q⟩ => ok_same n.sr .non q
theorem s_bl {j : Nat} {v : Bool} : PE X (.Constant (.bool v) j pos) (tE P F C W (.bl v)) := pe_weak pe_bl fun σ H Q ⟨l, p, h, s, n, q⟩ => ok_same n.sr (.bl v) q
theorem s_int {j : Nat} {v : Int} : PE X (.Constant (.int v) j pos) (tE P F C W (.int v)) := pe_weak pe_int fun σ H Q ⟨l, p, h, s, n, q⟩ => ok_same n.sr (.int v) q
theorem s_str {j : Nat} {v : List Char} : PE X (.Constant (.str (sOf v)) j pos) (tE P F C W (.str v)) := pe_weak pe_str fun σ H Q ⟨l, p, h, s, n, q⟩ => ok_same n.sr (.str v) q
theorem s_var (o : Okc L P F C k CX G X W) {i : Nat} {nm : Str} (q : okV G i nm = true) : PE X (.Name nm pos) (tE P F C W (.var i)) := by
  obtain ⟨h1, h2, h3, h4⟩ := o.vis q
  refine pe_weak (pe_var h1 h2 h3 h4) fun σ H Q ⟨l, p, h, s, n, q⟩ => ?_
  simp only [ev] at q
  split at q
  · rename_i d e
    obtain ⟨v, e1, e2⟩ := n.er.at_ _ _ e
    exact ⟨v, e1, ok_same n.sr e2 q⟩
  · exact q.elim
theorem s_glob (o : Okc L P F C k CX G X W) {g : String} (q : okG G (Str.ofString g) = true) (q2 : L.glo (Str.ofString g) = true) : PE X (.Name (Str.ofString g) pos) (tE P F C W (.glob g)) := by
  obtain ⟨h1, h2, h3⟩ := o.gl q
  cases e : P.con g with
  | none => exact ⟨fun pins s σ H Q I ⟨l, p, h, s', n, q⟩ => by simp only [ev, e] at q; exact q.elim⟩
  | some d =>
    obtain ⟨v, u, m, r, dr⟩ := o.fx.con g d q2 e
    refine pe_weak (pe_glob h1 m r h2) fun σ H Q ⟨l, p, h, s, n, q⟩ => ?_
    simp only [ev, e] at q
    exact ok_same n.sr (DR.xm (C := C.hid l) (f := fun _ _ => False) (g := C.xc) (fun _ _ z => z.elim) (dr l p h H)) q
theorem s_tup {es : Es} {xs : List PySem.Expr} {j : Nat} (ha : PA X xs (tEs P F C W es)) (hl : xs.length ≤ 1000) (hn : ∀ s h ds h', evs P F es s h = .ok ds h' → ds.length = xs.length) : PE X (.Tuple xs j pos) (tE P F C W (.tup es)) := by
  refine pe_weak (pe_tup ha) fun σ H Q ⟨l, p, h, s, n, q⟩ => ?_
  simp only [ev] at q
  refine ⟨l, p, h, s, n, ?_⟩
  cases e : evs P F es s h with
  | ok ds h' =>
    rw [e] at q
    refine fun p' H' v ex sr d => ⟨?_, ok_tup sr d (OkR.step (r := .ok (.tup ds) h') ex q)⟩
    rw [← d.len, hn _ _ _ _ e]
    exact Nat.le_trans hl (by rw [SZ_eq]; decide)
  | exc c h' => rw [e] at q; exact q
  | bad => rw [e] at q; exact q.elim
theorem s_lst {es : Es} {hp : Bool} {xs : List PySem.Expr} (ha : PA X xs (tEs P F C W es)) (hl : xs.length ≤ 1000) (hn : ∀ s h ds h', evs P F es s h = .ok ds h' → ds.length = xs.length) : PE X (.List xs pos) (tE P F C W (.lst hp es)) := by
  refine pe_weak (pe_lst ha) fun σ H Q ⟨l, p, h, s, n, q⟩ => ?_
  simp only [ev] at q
  refine ⟨l, p, h, s, n, ?_⟩
  cases e : evs P F es s h with
  | ok ds h' =>
    rw [e] at q
    refine fun p' H' v ex sr d => ⟨?_, ok_mkL sr d (OkR.step (r := mkL hp ds h') ex q)⟩
    rw [← d.len, hn _ _ _ _ e]
    exact Nat.le_trans hl (by rw [SZ_eq]; decide)
  | exc c h' => rw [e] at q; exact q
  | bad => rw [e] at q; exact q.elim
theorem s_bin (o : Okc L P F C k CX G X W) {op : Bop} {hp : Bool} (ha : PE X x (tE P F C W a)) (hb : PE X y (tE P F C W b)) : PE X (.BinOp x (bopO op) y pos) (tE P F C W (.bin op hp a b)) := by
  refine pe_weak (pe_op (op_binA op) ha hb) fun σ H Q ⟨l, p, h, s, n, q⟩ => ?_
  simp only [ev] at q
  refine (two_w n q).mono fun v H1 q1 => tR.mono q1 fun u H2 ⟨p2, h1, h2, d, e, _, _, n2, rd, re, q2⟩ => ?_
  rw [o.fx.hK]; exact binD_w (C := C.hid l) n2.sr rd re q2
theorem s_neg (ha : PE X x (tE P F C W a)) : PE X (.UnaryOp .USub x pos) (tE P F C W (.neg a)) := by
  refine pe_weak (pe_un un_neg ha) fun σ H Q ⟨l, p, h, s, n, q⟩ => ?_
  simp only [ev] at q
  refine (one_w n q).mono fun v H1 ⟨p1, h1, d, _, _, n1, rd, q1⟩ => ?_
  unfold negD at q1
  split at q1
  · cases rd; exact ⟨_, rfl, ok_same n1.sr (.int _) q1⟩
  · exact q1.elim
theorem cmp_two (o : Okc L P F C k CX G X W) {op : Cop} {σ : L2.St} {H : AHp} {Q : VK} (q : tE P F C W (.cmp op a b) σ H Q) : tOp (rCmp X.K op) (tE P F C W a) (tE P F C W b) σ H Q := by
  obtain ⟨l, p, h, s, n, q⟩ := q
  simp only [ev] at q
  refine (two_w n q).mono fun v H1 q1 => tR.mono q1 fun u H2 ⟨p2, h1, h2, d, e, _, _, n2, rd, re, q2⟩ => ?_
  rw [o.fx.hK]; exact cmpD_w (C := C.hid l) n2.sr rd re q2
theorem s_cmp (o : Okc L P F C k CX G X W) {op : Cop} (ha : PE X x (tE P F C W a)) (hb : PE X y (tE P F C W b)) (hs : shp y = true) : PE X (.Compare x [copO op] [y] pos) (tE P F C W (.cmp op a b)) :=
  pe_weak (pe_cmpR (op_cmpA o.hu op) ha hb (okE_mk hs _)) fun σ H Q q => cmp_two o q
theorem t_cmp (o : Okc L P F C k CX G X W) {op : Cop} (ha : PE X x (tE P F C W a)) (hb : PE X y (tE P F C W b)) (hs : shp y = true) : PT X (.Compare x [copO op] [y] pos) (tTest (tE P F C W (.cmp op a b))) :=
  pt_weak (pt_cmpR (op_cmpA o.hu op) ha hb (okE_mk hs _)) fun σ H Q q => cmp_two o q
theorem ch2_two (o : Okc L P F C k CX G X W) {o1 o2 : Cop} {σ : L2.St} {H : AHp} {Q : VK} (q : tE P F C W (.ch2 o1 o2 a b c) σ H Q) : tChain (rCmp X.K o1) (rCmp X.K o2) (tE P F C W a) (tE P F C W b) (tE P F C W c) σ H Q := by
  obtain ⟨l, p, h, s, n, q⟩ := q
  simp only [ev] at q
  refine (two_w n q).mono fun v H1 q1 => tR.mono q1 fun u H2 ⟨p2, h1, h2, d, e, _, _, n2, rd, re, q2⟩ => ?_
  rw [o.fx.hK]
  cases ec : cmpD o1 d e h2 with
  | none => rw [ec] at q2; exact q2.elim
  | some kk =>
    rw [ec] at q2
    refine cmpD_w (C := C.hid l) (w := wx C W σ) n2.sr rd re ?_
    rw [ec]
    intro p' H' v' ex sr z
    cases z
    cases kk with
    | false => exact ⟨false, rfl, q2 p' H' _ ex sr (.bl false)⟩
    | true =>
      refine ⟨true, rfl, (one_w (n2.ext ex sr) (OkR.step (r := (ev P F c s h2).bnd fun z h3 => okB (cmpD o2 e z h3) h3) ex q2)).mono fun w' H4 ⟨p4, h4, f, _, ex4, n4, rf, q4⟩ => ?_⟩
      exact cmpD_w (C := C.hid l) n4.sr (re.ext (ex.trans ex4)) rf q4
theorem last2 {p1 p2 : CmpOp} (hs : shp z = true) : lastMarks [p1, p2] [y, z] = false := by
  unfold lastMarks
  unfold lastMarks
  exact okE_mk hs _
theorem s_ch2 (o : Okc L P F C k CX G X W) {o1 o2 : Cop} (ha : PE X x (tE P F C W a)) (hb : PE X y (tE P F C W b)) (hc : PE X z (tE P F C W c)) (hs : shp z = true) : PE X (.Compare x [copO o1, copO o2] [y, z] pos) (tE P F C W (.ch2 o1 o2 a b c)) :=
  pe_weak (pe_chain (op_cmpA o.hu o1) (op_cmpA o.hu o2) ha hb hc (last2 hs)) fun σ H Q q => ch2_two o q
theorem t_ch2 (o : Okc L P F C k CX G X W) {o1 o2 : Cop} (ha : PE X x (tE P F C W a)) (hb : PE X y (tE P F C W b)) (hc : PE X z (tE P F C W c)) (hs : shp z = true) : PT X (.Compare x [copO o1, copO o2] [y, z] pos) (tTest (tE P F C W (.ch2 o1 o2 a b c))) :=
  pt_weak (pt_chain (op_cmpA o.hu o1) (op_cmpA o.hu o2) ha hb hc (last2 hs)) fun σ H Q q => ch2_two o q
/-- three comparisons in a row -/
def tRow3 (r1 r2 r3 : R2) (ta tb tc td : TE) : TE := fun σ H Q => ta σ H fun x H1 => tb σ H1 fun y H2 => r1 x y H2 fun z H3 => ∃ k, z = .bl k ∧
  (if k = true then tc σ H3 fun w H4 => r2 y w H4 fun z2 H5 => ∃ k2, z2 = .bl k2 ∧ (if k2 = true then td σ H5 fun u H6 => r3 w u H6 Q else Q (.bl false) H5) else Q (.bl false) H3)
section
variable {x3 y3 z3 w3 : PySem.Expr} {pos3 : Pos} {p1 p2 p3 : CmpOp} {r1 r2 r3 : R2} {ta tb tc td : TE}
theorem pe_row3 (f1 : OpR X (compareOp p1) r1) (f2 : OpR X (compareOp p2) r2) (f3 : OpR X (compareOp p3) r3) (ha : PE X x3 ta) (hb : PE X y3 tb) (hc : PE X z3 tc) (hd : PE X w3 td) (hm : lastMarks [p1, p2, p3] [y3, z3, w3] = false) :
    PE X (.Compare x3 [p1, p2, p3] [y3, z3, w3] pos3) (tRow3 r1 r2 r3 ta tb tc td) := by
  refine ⟨fun pins s0 σ H Q I h => Compare_chain (thn (ha.run pins s0 σ H _ I h) fun v1 s1 ⟨d1, H1, J1, e1, q1⟩ => chain_link (thn (hb.run pins s1 σ H1 _ J1 q1) fun v2 s2 ⟨d2, H2, J2, e2, q2⟩ => thn (f1 pins s2 σ H2 d1 d2 v1 v2 _ J2 e1 e2 q2) fun t1 s3 ⟨b1, H3, J3, e3, k1, eb, q3⟩ => ?_)) hm⟩
  subst eb; cases e3
  refine wpAny_truthy_bool ?_
  cases k1 with
  | false => exact ite_ff ⟨.bl false, H3, J3, rfl, q3⟩
  | true =>
    refine ite_tt (chain_link (thn (hc.run pins s3 σ H3 _ J3 q3) fun v4 s4 ⟨d4, H4, J4, e4, q4⟩ => thn (f2 pins s4 σ H4 d2 d4 v2 v4 _ J4 e2 e4 q4) fun t2 s5 ⟨b2, H5, J5, e5, k2, eb2, q5⟩ => ?_))
    subst eb2; cases e5
    refine wpAny_truthy_bool ?_
    cases k2 with
    | false => exact ite_ff ⟨.bl false, H5, J5, rfl, q5⟩
    | true => exact ite_tt (chain_last (thn (hd.run pins s5 σ H5 _ J5 q5) fun v6 s6 ⟨d6, H6, J6, e6, q6⟩ => f3 pins s6 σ H6 d4 d6 v4 v6 Q J6 e4 e6 q6))
theorem pt_row3 (f1 : OpR X (compareOp p1) r1) (f2 : OpR X (compareOp p2) r2) (f3 : OpR X (compareOp p3) r3) (ha : PE X x3 ta) (hb : PE X y3 tb) (hc : PE X z3 tc) (hd : PE X w3 td) (hm : lastMarks [p1, p2, p3] [y3, z3, w3] = false) :
    PT X (.Compare x3 [p1, p2, p3] [y3, z3, w3] pos3) (tTest (tRow3 r1 r2 r3 ta tb tc td)) := by
  refine ⟨fun pins s0 σ H Q I h => isTrue_chain (thn (ha.run pins s0 σ H _ I h) fun v1 s1 ⟨d1, H1, J1, e1, q1⟩ => test_link (thn (hb.run pins s1 σ H1 _ J1 q1) fun v2 s2 ⟨d2, H2, J2, e2, q2⟩ => thn (f1 pins s2 σ H2 d1 d2 v1 v2 _ J2 e1 e2 q2) fun t1 s3 ⟨b1, H3, J3, e3, k1, eb, q3⟩ => ?_)) hm⟩
  subst eb; cases e3
  refine wpAny_truthy_bool ?_
  cases k1 with
  | false =>
    obtain ⟨kk, ek, qk⟩ := q3
    cases ek
    exact ite_ff ⟨H3, J3, qk⟩
  | true =>
    refine ite_tt (test_link (thn (hc.run pins s3 σ H3 _ J3 q3) fun v4 s4 ⟨d4, H4, J4, e4, q4⟩ => thn (f2 pins s4 σ H4 d2 d4 v2 v4 _ J4 e2 e4 q4) fun t2 s5 ⟨b2, H5, J5, e5, k2, eb2, q5⟩ => ?_))
    subst eb2; cases e5
    refine wpAny_truthy_bool ?_
    cases k2 with
    | false =>
      obtain ⟨kk, ek, qk⟩ := q5
      cases ek
      exact ite_ff ⟨H5, J5, qk⟩
    | true =>
      refine ite_tt (test_last (thn (hd.run pins s5 σ H5 _ J5 q5) fun v6 s6 ⟨d6, H6, J6, e6, q6⟩ => thn (f3 pins s6 σ H6 d4 d6 v4 v6 _ J6 e4 e6 q6) fun t3 s7 ⟨b3, H7, J7, e7, k3, eb3, q7⟩ => ?_))
      subst eb3; cases e7
      exact wpAny_truthy_bool ⟨H7, J7, q7⟩
end
theorem ch3_row (o : Okc L P F C k CX G X W) {d : E} {o1 o2 o3 : Cop} {σ : L2.St} {H : AHp} {Q : VK} (q : tE P F C W (.ch3 o1 o2 o3 a b c d) σ H Q) : tRow3 (rCmp X.K o1) (rCmp X.K o2) (rCmp X.K o3) (tE P F C W a) (tE P F C W b) (tE P F C W c) (tE P F C W d) σ H Q := by
  obtain ⟨l, p, h, s, n, q⟩ := q
  simp only [ev] at q
  refine (two_w n q).mono fun v H1 q1 => tR.mono q1 fun u H2 ⟨p2, h1, h2, d1, e, _, _, n2, rd, re, q2⟩ => ?_
  rw [o.fx.hK]
  cases ec : cmpD o1 d1 e h2 with
  | none => rw [ec] at q2; exact q2.elim
  | some kk =>
    rw [ec] at q2
    refine cmpD_w (C := C.hid l) (w := wx C W σ) n2.sr rd re ?_
    rw [ec]
    intro p' H' v' ex sr z
    cases z
    cases kk with
    | false => exact ⟨false, rfl, q2 p' H' _ ex sr (.bl false)⟩
    | true =>
      refine ⟨true, rfl, (one_w (n2.ext ex sr) (OkR.step ex q2)).mono fun w' H4 ⟨p4, h4, f, _, ex4, n4, rf, q4⟩ => ?_⟩
      have re4 := re.ext (ex.trans ex4)
      cases ec2 : cmpD o2 e f h4 with
      | none => rw [ec2] at q4; exact q4.elim
      | some k2 =>
        rw [ec2] at q4
        refine cmpD_w (C := C.hid l) (w := wx C W σ) n4.sr re4 rf ?_
        rw [ec2]
        intro p5 H5 v5 ex5 sr5 z5
        cases z5
        cases k2 with
        | false => exact ⟨false, rfl, q4 p5 H5 _ ex5 sr5 (.bl false)⟩
        | true =>
          refine ⟨true, rfl, (one_w (n4.ext ex5 sr5) (OkR.step ex5 q4)).mono fun w6 H6 ⟨p6, h6, f6, _, ex6, n6, rf6, q6⟩ => ?_⟩
          exact cmpD_w (C := C.hid l) n6.sr (rf.ext (ex5.trans ex6)) rf6 q6
theorem last3 {p1 p2 p3 : CmpOp} {w : PySem.Expr} (hs : shp w = true) : lastMarks [p1, p2, p3] [y, z, w] = false := by
  unfold lastMarks
  unfold lastMarks
  unfold lastMarks
  exact okE_mk hs _
theorem s_ch3 (o : Okc L P F C k CX G X W) {d : E} {w : PySem.Expr} {o1 o2 o3 : Cop} (ha : PE X x (tE P F C W a)) (hb : PE X y (tE P F C W b)) (hc : PE X z (tE P F C W c)) (hd : PE X w (tE P F C W d)) (hs : shp w = true) : PE X (.Compare x [copO o1, copO o2, copO o3] [y, z, w] pos) (tE P F C W (.ch3 o1 o2 o3 a b c d)) :=
  pe_weak (pe_row3 (op_cmpA o.hu o1) (op_cmpA o.hu o2) (op_cmpA o.hu o3) ha hb hc hd (last3 hs)) fun σ H Q q => ch3_row o q
theorem t_ch3 (o : Okc L P F C k CX G X W) {d : E} {w : PySem.Expr} {o1 o2 o3 : Cop} (ha : PE X x (tE P F C W a)) (hb : PE X y (tE P F C W b)) (hc : PE X z (tE P F C W c)) (hd : PE X w (tE P F C W d)) (hs : shp w = true) : PT X (.Compare x [copO o1, copO o2, copO o3] [y, z, w] pos) (tTest (tE P F C W (.ch3 o1 o2 o3 a b c d))) :=
  pt_weak (pt_row3 (op_cmpA o.hu o1) (op_cmpA o.hu o2) (op_cmpA o.hu o3) ha hb hc hd (last3 hs)) fun σ H Q q => ch3_row o q
/-! ### and, or, not, if -/
theorem tst_w {f : Env → Hs → R} {g1 g2 : Hs → R} {l : List Addr} {p : List Addr} {h : Hs} {s : Env} {σ : L2.St} {H : AHp} {Q : VK} (n : Now (C.hid l) p h s σ H) (q : OkR (C.hid l) p h H ((f s h).tst g1 g2) Q (wx C W σ)) :
    tR C W f σ H fun v H1 => ∃ k, v = .bl k ∧ ∃ p1 h1, Now (C.hid l) p1 h1 s σ H1 ∧ OkR (C.hid l) p1 h1 H1 (if k = true then g1 h1 else g2 h1) Q (wx C W σ) :=
  ⟨l, p, h, s, n, q.tst.mono fun v H1 ⟨p1, h1, k, ex, sr, e, q1⟩ => ⟨k, e, p1, h1, n.ext ex sr, q1⟩⟩
theorem and_two {σ : L2.St} {H : AHp} {Q : VK} (q : tE P F C W (.and a b) σ H Q) : tE P F C W a σ H fun v H1 => ∃ k, v = .bl k ∧ if k = true then tE P F C W b σ H1 Q else Q (.bl false) H1 := by
  obtain ⟨l, p, h, s, n, q⟩ := q
  simp only [ev] at q
  refine (tst_w n q).mono fun v H1 ⟨k, e, p1, h1, n1, q1⟩ => ⟨k, e, ?_⟩
  cases k with
  | false => exact ok_same n1.sr (.bl false) q1
  | true => exact ⟨l, p1, h1, s, n1, q1⟩
theorem or_two {σ : L2.St} {H : AHp} {Q : VK} (q : tE P F C W (.or a b) σ H Q) : tE P F C W a σ H fun v H1 => ∃ k, v = .bl k ∧ if k = true then Q (.bl true) H1 else tE P F C W b σ H1 Q := by
  obtain ⟨l, p, h, s, n, q⟩ := q
  simp only [ev] at q
  refine (tst_w n q).mono fun v H1 ⟨k, e, p1, h1, n1, q1⟩ => ⟨k, e, ?_⟩
  cases k with
  | true => exact ok_same n1.sr (.bl true) q1
  | false => exact ⟨l, p1, h1, s, n1, q1⟩
theorem s_and {r : List PySem.Expr} (ha : PE X x (tE P F C W a)) (hb : PE X (.BoolOp .And (y :: r) pos) (tE P F C W b)) : PE X (.BoolOp .And (x :: y :: r) pos) (tE P F C W (.and a b)) :=
  pe_weak (pe_and ha hb) fun σ H Q q => and_two q
theorem s_or {r : List PySem.Expr} (ha : PE X x (tE P F C W a)) (hb : PE X (.BoolOp .Or (y :: r) pos) (tE P F C W b)) : PE X (.BoolOp .Or (x :: y :: r) pos) (tE P F C W (.or a b)) :=
  pe_weak (pe_or ha hb) fun σ H Q q => or_two q
theorem w_and {r : List PySem.Expr} (ha : PT X x (tTest (tE P F C W a))) (hb : PW X (.BoolOp .And (y :: r) pos) (tTest (tE P F C W b))) : PW X (.BoolOp .And (x :: y :: r) pos) (tTest (tE P F C W (.and a b))) :=
  pw_weak (pw_and ha hb) fun σ H Q q => (and_two q).mono fun v H1 ⟨k, e, q1⟩ => ⟨k, e, by
    cases k with
    | false => obtain ⟨k', e', q2⟩ := q1; cases e'; exact q2
    | true => exact q1⟩
theorem w_or {r : List PySem.Expr} (ha : PT X x (tTest (tE P F C W a))) (hb : PW X (.BoolOp .Or (y :: r) pos) (tTest (tE P F C W b))) : PW X (.BoolOp .Or (x :: y :: r) pos) (tTest (tE P F C W (.or a b))) :=
  pw_weak (pw_or ha hb) fun σ H Q q => (or_two q).mono fun v H1 ⟨k, e, q1⟩ => ⟨k, e, by
    cases k with
    | true => obtain ⟨k', e', q2⟩ := q1; cases e'; exact q2
    | false => exact q1⟩
theorem not_two {σ : L2.St} {H : AHp} {Q : VK} (q : tE P F C W (.not a) σ H Q) : tE P F C W a σ H fun v H1 => ∃ k, v = .bl k ∧ Q (.bl (!k)) H1 := by
  obtain ⟨l, p, h, s, n, q⟩ := q
  simp only [ev] at q
  refine (one_w n q).mono fun v H1 ⟨p1, h1, d, _, _, n1, rd, q1⟩ => ?_
  unfold notD at q1
  split at q1
  · cases rd; exact ⟨_, rfl, ok_same n1.sr (.bl _) q1⟩
  · exact q1.elim
theorem s_not (ha : PE X x (tE P F C W a)) : PE X (.UnaryOp .Not x pos) (tE P F C W (.not a)) :=
  pe_weak (pe_not ha) fun σ H Q q => not_two q
theorem t_not (ha : PT X x (tTest (tE P F C W a))) : PT X (.UnaryOp .Not x pos) (tTest (tE P F C W (.not a))) :=
  pt_weak (pt_not ha) fun σ H Q q => (not_two q).mono fun v H1 ⟨k, e, k', e', q1⟩ => ⟨k, e, by cases e'; exact q1⟩
theorem s_ife {t : PySem.Expr} (hc : PT X t (tTest (tE P F C W c))) (ha : PE X x (tE P F C W a)) (hb : PE X y (tE P F C W b)) : PE X (.IfExp t x y pos) (tE P F C W (.ife c a b)) := by
  refine pe_weak (pe_ifExp hc ha hb) fun σ H Q ⟨l, p, h, s, n, q⟩ => ?_
  simp only [ev] at q
  refine (tst_w n q).mono fun v H1 ⟨k, e, p1, h1, n1, q1⟩ => ⟨k, e, ?_⟩
  cases k with
  | true => exact ⟨l, p1, h1, s, n1, q1⟩
  | false => exact ⟨l, p1, h1, s, n1, q1⟩
/-! ### subscripts, fields -/
theorem s_idx (o : Okc L P F C k CX G X W) (ha : PE X x (tE P F C W a)) (hb : PE X y (tE P F C W b)) (hs : shp y = true) : PE X (.Subscript x y pos) (tE P F C W (.idx a b)) := by
  refine pe_or2 (pe_ix ix_seq ha hb (plain_ix hs)) (pe_dget (by have := o.hu; omega) ha hb (plain_ix hs)) fun σ H Q ⟨l, p, h, s, n, q⟩ => ?_
  simp only [ev] at q
  by_cases z : ∃ d h1 e h2, ev P F a s h = .ok d h1 ∧ ev P F b s h1 = .ok e h2 ∧ isDct d h2 = true
  · obtain ⟨d0, h10, e0, h20, z1, z2, z3⟩ := z
    refine .inr ((two_w n q).mono fun v H1 q1 => tR.mono q1 fun u H2 ⟨p2, h1, h2, d, e, y1, y2, n2, rd, re, q2⟩ => ?_)
    rw [z1] at y1; cases y1
    rw [z2] at y2; cases y2
    rcases idxD_w n2.sr rd re q2 with ⟨w1, _⟩ | ⟨_, w2⟩
    · rw [z3] at w1; cases w1
    · exact w2
  · refine .inl ((two_w n q).mono fun v H1 q1 => tR.mono q1 fun u H2 ⟨p2, h1, h2, d, e, y1, y2, n2, rd, re, q2⟩ => ?_)
    rcases idxD_w n2.sr rd re q2 with ⟨_, w2⟩ | ⟨w1, _⟩
    · rw [o.fx.hK]; exact w2
    · exact absurd ⟨_, _, _, _, y1, y2, w1⟩ z
/-- a slice's part -/
def tPa (P : Pr) (F : Nat → List D → Hs → R) (C : Cst) (W : L2.WX) (e : E) : L2.TO := if isNop e = true then tNoPart else tPart (tE P F C W e)
theorem part_w {e : E} {g : Option Int → Hs → R} {l : List Addr} {p : List Addr} {h : Hs} {s : Env} {σ : L2.St} {H : AHp} {Q : VK} (n : Now (C.hid l) p h s σ H)
    (q : OkR (C.hid l) p h H ((ev P F e s h).bnd fun x h1 => match optI (isNop e) x with | some o => g o h1 | none => .bad) Q (wx C W σ)) :
    tPa P F C W e σ H fun o H1 => ∃ p1 h1, Ext (C.hid l) p h H p1 h1 H1 ∧ Now (C.hid l) p1 h1 s σ H1 ∧ OkR (C.hid l) p1 h1 H1 (g o h1) Q (wx C W σ) := by
  unfold tPa
  cases z : isNop e with
  | true =>
    cases e <;> first | (cases z; done) | skip
    exact ⟨p, h, .refl, n, q⟩
  | false =>
    rw [z] at q
    refine (one_w n q).mono fun v H1 ⟨p1, h1, d, _, ex, n1, rd, q1⟩ => ?_
    cases d <;> first | (exact q1.elim) | skip
    cases rd
    exact ⟨_, rfl, p1, h1, ex, n1, q1⟩
theorem tPa_mono {e : E} {σ : L2.St} {H : AHp} {Q Q' : Option Int → AHp → Prop} (q : tPa P F C W e σ H Q) (k : ∀ o H', Q o H' → Q' o H') : tPa P F C W e σ H Q' := by
  unfold tPa at q ⊢
  cases z : isNop e with
  | true => rw [z] at q; exact k _ _ q
  | false => rw [z] at q; exact tR.mono q fun v H1 ⟨i, e1, q1⟩ => ⟨i, e1, k _ _ q1⟩
theorem s_sli (o : Okc L P F C k CX G X W) {hp : Bool} {lo hi : E} {xl xu : Option PySem.Expr} {p2 : Pos} (ha : PE X x (tE P F C W a)) (hl : PO X xl (tPa P F C W lo)) (hu : PO X xu (tPa P F C W hi)) :
    PE X (.Subscript x (.Slice xl xu none p2) pos) (tE P F C W (.sli hp a lo hi)) := by
  refine pe_weak (pe_slice sl_A ha hl hu) fun σ H Q ⟨l, p, h, s, n, q⟩ => ?_
  simp only [ev] at q
  refine (one_w n q).mono fun v H1 ⟨p1, h1, d, _, ex1, n1, rd, q1⟩ => ?_
  refine tPa_mono (part_w (g := fun l' h2 => (ev P F hi s h2).bnd fun u h3 => match optI (isNop hi) u with | some u' => sliD hp d l' u' h3 | none => .bad) n1 q1) fun l' H2 ⟨p2, h2, ex2, n2, q2⟩ => ?_
  refine tPa_mono (part_w (g := fun u' h3 => sliD hp d l' u' h3) n2 q2) fun u' H3 ⟨p3, h3, ex3, n3, q3⟩ => ?_
  rw [o.fx.hK]
  exact sliD_w (C := C.hid l) n3.sr (rd.ext (ex2.trans ex3)) q3
theorem s_part {e : E} {xe : PySem.Expr} (he : PE X xe (tE P F C W e)) (ne : isNop e = false) : PO X (some xe) (tPa P F C W e) := by
  unfold tPa
  rw [ne]
  exact po_some he
theorem s_part0 : PO X none (tPa P F C W .nop) := po_none
theorem ins_w {l : List Addr} {p : List Addr} {h : Hs} {H : AHp} {d : D} {v : V} {m : Nat} {c : String} {fs : List (String × D)} (sr : SR (C.hid l) p h H) (rd : DR (C.hid l) p h H d v) (e : insOf d h = some (m, c, fs)) :
    d = .ref m ∧ h[m]? = some (.ins c fs) ∧ ∃ a dx gs, v = .ref a ∧ p[m]? = some a ∧ H a = some (.ins (C.ca c) dx gs) ∧ FR (C.hid l) p h H fs gs := by
  unfold insOf at e
  split at e
  · split at e
    · rename_i e2
      cases e
      obtain ⟨a, rfl, pa, dx, gs, ha, r⟩ := cell_rd sr rd e2
      exact ⟨rfl, e2, a, dx, gs, rfl, pa, ha, r⟩
    · cases e
  · cases e
theorem s_fld (o : Okc L P F C k CX G X W) {f : String} (ha : PE X x (tE P F C W a)) (hs : shA x = true) : PE X (.Attribute x (Str.ofString f) pos) (tE P F C W (.fld a f)) := by
  refine pe_weak (pe_fld ha (base_ok hs)) fun σ H Q ⟨l, p, h, s, n, q⟩ => ?_
  simp only [ev] at q
  refine (one_w n q).mono fun v H1 ⟨p1, h1, d, _, ex1, n1, rd, q1⟩ => ?_
  unfold fldD at q1
  split at q1
  · rename_i e
    split at q1
    · rename_i z
      split at q1
      · rename_i e2
        obtain ⟨rfl, _, ad, dx, gs, rfl, _, hH, r⟩ := ins_w n1.sr rd e
        obtain ⟨v', e3, rv⟩ := (FR.look r).1 _ e2
        obtain ⟨z1, z2⟩ := o.fx.fok _ _ z
        exact ⟨ad, _, dx, gs, v', rfl, hH, z1, z2, e3, ok_same n1.sr rv q1⟩
      · exact q1.elim
    · exact q1.elim
  · exact q1.elim
theorem frz_one {p : List Addr} {h : Hs} {H : AHp} {n : Nat} {xs : List D} {v : V} (sr : SR C p h H) (rd : DR C p h H (.ref n) v) (e : h[n]? = some (.lst xs)) : Ext C p h H p (h.set n .dead) H ∧ SR C p (h.set n .dead) H ∧ DR C p (h.set n .dead) H (.lst xs) v := by
  obtain ⟨ad, rfl, pa, vs, hH, r⟩ := cell_rd sr rd e
  exact ⟨ext_dead, sr.dead, .lst (dead_at sr e pa hH) (DRs.ext ext_dead r)⟩
/-- a list laid by, or both of a pair -/
theorem frz_rd {p : List Addr} {h : Hs} {H : AHp} {d : D} {v : V} (sr : SR C p h H) (rd : DR C p h H d v) : frzD d h = .bad ∨ ∃ d' h', frzD d h = .ok d' h' ∧ Ext C p h H p h' H ∧ SR C p h' H ∧ DR C p h' H d' v := by
  unfold frzD
  split
  · split
    · rename_i e
      obtain ⟨x, s, r⟩ := frz_one sr rd e
      exact .inr ⟨_, _, rfl, x, s, r⟩
    · exact .inl rfl
  · split
    · rename_i e
      cases rd with
      | tup ta rs =>
        cases rs with
        | cons r1 rs =>
          cases rs with
          | cons r2 rs =>
            cases rs with
            | nil =>
              obtain ⟨x1, s1, q1⟩ := frz_one sr r1 e
              split
              · rename_i e2
                obtain ⟨x2, s2, q2⟩ := frz_one s1 (DR.ext x1 r2) e2
                exact .inr ⟨_, _, rfl, x1.trans x2, s2, .tup (TAt.ext (x1.trans x2) ta) (.cons (DR.ext x2 q1) (.cons q2 .nil))⟩
              · exact .inl rfl
    · exact .inl rfl
  · exact .inl rfl
theorem frz_imp {σ : L2.St} {H : AHp} {Q : VK} (q : tE P F C W (.frz a) σ H Q) : tE P F C W a σ H Q := by
  obtain ⟨l, p, h, s, n, q⟩ := q
  simp only [ev] at q
  refine (one_w n q).mono fun v H1 ⟨p1, h1, d, _, ex1, n1, rd, q1⟩ => ?_
  rcases frz_rd n1.sr rd with e | ⟨d', h', e, x, s', r⟩
  · rw [e] at q1; exact q1.elim
  · rw [e] at q1
    exact q1 p1 H1 _ x s' r
/-! ### calls of what is built in -/
theorem bl_fact (o : Okc L P F C k CX G X W) {b : String} (hb : b ∈ bNames) : X.mg (Str.ofString b) = none := o.fx.blt b hb
theorem boot_bltN : ∀ b : Blt, bltS b = true → bootBuiltins (Str.ofString (bltN b)) = some (bltV b)
  | .len, _ => by decide +kernel
  | .all, _ => by decide +kernel
  | .int, _ => by decide +kernel
  | .min, _ => by decide +kernel
  | .max, _ => by decide +kernel
  | .sum, _ => by decide +kernel
  | .list, _ => by decide +kernel
  | .tuple, _ => by decide +kernel
  | .abs, _ => by decide +kernel
  | .sorted, _ => by decide +kernel
  | .str, z => by cases z
  | .repr, z => by cases z
  | .dict, z => by cases z
  | .bool, z => by cases z
theorem bltN_mem (b : Blt) : bltN b ∈ bNames := by cases b <;> decide
theorem s_blt (o : Okc L P F C k CX G X W) (cold : G.hot = false) {b : Blt} {hp : Bool} {es : Es} {xs : List PySem.Expr} {p0 : Pos} (hg : okG G (Str.ofString (bltN b)) = true) (hb : bltS b = true) (ha : PA X xs (tEs P F C W es)) (hx : okEs L G es xs = true) (h0 : xs ≠ []) :
    PE X (.Call (.Name (Str.ofString (bltN b)) p0) xs [] pos) (tE P F C W (.blt b hp es)) := by
  obtain ⟨g1, g2, g3⟩ := o.gl hg
  have sh := plain_args hx
  cases xs with
  | nil => exact absurd rfl h0
  | cons x xs =>
    have hcr := cr_bltA (o.calm cold) b
    have hbt := boot_bltN b hb
    have st : starEach (x :: xs) X.env = (false, eval x X.env) :: starEach xs X.env := star_cons (sh x List.mem_cons_self)
    have pl : (backTo pos (starEach xs X.env)).any (·.1) = false := plain_any fun y m => sh y (List.mem_cons_of_mem _ m)
    have key : PE X (.Call (.Name (Str.ofString (bltN b)) p0) (x :: xs) [] pos) (tCB (rBlt X.K b) (tEs P F C W es)) := by
      unfold bltV at hcr hbt
      cases z : bltT b with
      | true =>
        rw [z] at hcr hbt
        exact pe_callTy hcr g1 (o.fx.blt _ (bltN_mem b)) hbt ha g3 g2 st pl
      | false =>
        rw [z] at hcr hbt
        exact pe_callB hcr g1 (o.fx.blt _ (bltN_mem b)) hbt ha g3 g2 st pl
    refine pe_weak key fun σ H Q ⟨l, p, h, s, n, q⟩ => ?_
    simp only [ev] at q
    obtain ⟨l', p', h', s', n', q'⟩ := args_w n q
    refine ⟨l', p', h', s', n', q'.mono fun vs H1 ⟨p1, h1, ds, ex1, n1, rd, q1⟩ => ?_⟩
    rw [o.fx.hK]
    exact bltD_w (C := C.hid l) n1.sr rd q1
theorem s_rvs (o : Okc L P F C k CX G X W) (cold : G.hot = false) {hp : Bool} {p0 p1 pos2 : Pos} (g1 : okG G "list" = true) (g2 : okG G "reversed" = true) (ha : PE X x (tE P F C W a)) (hs : shp x = true) :
    PE X (.Call (.Name "list" p0) [.Call (.Name "reversed" p1) [x] [] pos2] [] pos) (tE P F C W (.rvs hp a)) := by
  obtain ⟨k1, k2, k3⟩ := o.gl g1
  obtain ⟨l1, l2, l3⟩ := o.gl g2
  refine pe_weak (VH.pe_listRev (o.calm cold) k1 (o.fx.blt "list" (by decide)) l1 (o.fx.blt "reversed" (by decide)) (by decide +kernel) ha (star_cons hs)) fun σ H Q ⟨l, p, h, s, n, q⟩ => ?_
  simp only [ev] at q
  refine (one_w n q).mono fun v H1 ⟨p1, h1, d, _, _, n1, rd, q1⟩ => ?_
  unfold rvsD at q1
  split at q1
  · rename_i e
    obtain ⟨b, vs, rfl, s1, d1, _⟩ := seq_rd n1.sr rd e
    rw [o.fx.hK]
    exact ⟨b, vs, rfl, s1, ok_mkL n1.sr d1.rev q1⟩
  · exact q1.elim
theorem s_rev1 (o : Okc L P F C k CX G X W) {hp : Bool} {j : Nat} {p1 p2 p3 pos : Pos} (ha : PE X x (tE P F C W a)) :
    PE X (.Subscript x (.Slice none none (some (.UnaryOp .USub (.Constant (.int 1) j p1) p2)) p3) pos) (tE P F C W (.rvs hp a)) := by
  refine pe_weak (pe_revL ha) fun σ H Q ⟨l, p, h, s, n, q⟩ => ?_
  simp only [ev] at q
  refine (one_w n q).mono fun v H1 ⟨p1, h1, d, _, _, n1, rd, q1⟩ => ?_
  unfold rvsD at q1
  split at q1
  · rename_i e
    obtain ⟨b, vs, rfl, s1, d1, _⟩ := seq_rd n1.sr rd e
    rw [o.fx.hK]
    exact ⟨b, vs, rfl, s1, ok_mkL n1.sr d1.rev q1⟩
  · exact q1.elim
theorem mty_w {m : Mth} {l : List Addr} {p : List Addr} {h : Hs} {H : AHp} {d : D} {v : V} (sr : SR (C.hid l) p h H) (rd : DR (C.hid l) p h H d v) (q : mtyD m d h = true) : tyV C.K (mthT m) v H := by
  by_cases k0 : mthK m = 0
  · have t : mthT m = "list" := by unfold mthT; simp only [k0]
    have q' : (seqOf h d).isSome = true := by unfold mtyD at q; simp only [k0] at q; exact q
    rw [t]
    obtain ⟨xs, e2⟩ := Option.isSome_iff_exists.mp q'
    obtain ⟨a, vs, rfl, s1, _, _⟩ := seq_rd sr rd e2
    exact .inl ⟨rfl, vs, s1⟩
  · by_cases k1 : mthK m = 1
    · have t : mthT m = "str" := by unfold mthT; simp only [k1]
      rw [t]
      unfold mtyD at q
      simp only [k1] at q
      cases d <;> first | (cases q; done) | (cases rd; exact rfl)
    · have t : mthT m = "dict" := by cases m <;> first | rfl | exact absurd rfl k0 | exact absurd rfl k1
      rw [t]
      have q' : (match d with
        | .ref n => (match h[n]? with
          | some (.dct _) => true
          | some (.dt _) => true
          | _ => false)
        | _ => false) = true := by
        have q2 := q
        unfold mtyD at q2
        cases m <;> first | exact absurd (by rfl) k0 | exact absurd (by rfl) k1 | exact q2 | (simp only [mthK] at q2; exact q2) | (simp only [mthK] at q2; split at q2 <;> first | (cases q2; done) | (split at q2 <;> first | (cases q2; done) | (rename_i e9; simp only [e9]))) 
      cases d <;> first | (cases q'; done) | skip
      rename_i n
      simp only at q'
      cases e3 : h[n]? with
      | none => rw [e3] at q'; cases q'
      | some o =>
        rw [e3] at q'
        cases o <;> first | (cases q'; done) | skip
        · obtain ⟨a, rfl, _, ws, hH, _⟩ := cell_rd sr rd e3
          exact .inr (.inr (.inl ⟨rfl, .inl ⟨ws, hH⟩⟩))
        · obtain ⟨a, rfl, _, ws, hH, _⟩ := cell_rd sr rd e3
          exact .inr (.inr (.inl ⟨rfl, .inr ⟨ws, hH⟩⟩))
theorem plain_all {env : PySem.Env} {pos : Pos} : ∀ {as : List PySem.Expr}, (∀ x ∈ as, shp x = true) → (backTo pos (starEach as env)).all (fun x => !x.1) = true
  | [], _ => rfl
  | x :: xs, q => by
    rw [star_cons (q x List.mem_cons_self)]
    exact plain_all (as := xs) fun y m => q y (List.mem_cons_of_mem _ m)
theorem s_mth (o : Okc L P F C k CX G X W) {m : Mth} {hp : Bool} {es : Es} {xs : List PySem.Expr} {ap : Pos} (hm : mthS m = true) (he : PE X x (tE P F C W a)) (hs : shA x = true) (ha : PA X xs (tEs P F C W es)) (hx : okEs L G es xs = true)
    (hline : (ap.endLine == pos.line) = true) (hn : xs.length < 20) : PE X (.Call (.Attribute x (Str.ofString (mthN m)) ap) xs [] pos) (tE P F C W (.mth m hp a es)) := by
  obtain ⟨id, f⟩ := mt_A (X := X) (by have := o.hu; omega) m hm
  have sh := plain_args hx
  have key : PE X (.Call (.Attribute x (Str.ofString (mthN m)) ap) xs [] pos) (tBM X.K (mthT m) (rMth X.K m) (tE P F C W a) (tEs P F C W es)) := by
    cases xs with
    | nil =>
      refine pe_weak (pe_bm0 f.pa f.slot f.ty f.rule he (base_ok hs) hline) fun σ H Q q => tR.mono q fun v H1 ⟨q1, q2⟩ => ⟨q1, ?_⟩
      obtain ⟨l, p, h, s, n, q⟩ := q2
      cases es with
      | nil => exact q p H1 [] .refl n.sr .nil
      | cons _ _ => simp [okEs] at hx
    | cons x' xs =>
      refine pe_bm f.pa f.slot f.ty f.rule he ha (base_ok hs) ?_ hline (star_cons (sh x' List.mem_cons_self)) (plain_any fun y m => sh y (List.mem_cons_of_mem _ m))
      rw [plain_all sh]
      show (true && decide _) = true
      rw [Bool.true_and, decide_eq_true_eq]
      show _ + 0 + 0 < 30
      omega
  refine pe_weak key fun σ H Q ⟨l, p, h, s, n, q⟩ => ?_
  simp only [ev] at q
  refine (one_w n q).mono fun v H1 ⟨p1, h1, d, _, ex1, n1, rd, q1⟩ => ?_
  split at q1
  · rename_i z
    rw [o.fx.hK]
    refine ⟨mty_w (C := C) n1.sr rd z, ?_⟩
    obtain ⟨l', p', h', s', n', q'⟩ := args_w n1 q1
    refine ⟨l', p', h', s', n', q'.mono fun vs H2 ⟨p2, h2, ds, ex2, n2, rd2, q2⟩ => ?_⟩
    exact mthD_w (C := C.hid l) n2.sr (rd.ext ex2) rd2 hm q2
  · exact q1.elim
theorem s_inst (o : Okc L P F C k CX G X W) {cr : Cr} {b : String} {p0 py : Pos} (hg : okG G "isinstance" = true) (he : PE X x (tE P F C W a)) (hs : shp x = true) (hg2 : okG G (Str.ofString b) = true) (hb : crB cr = some b) :
    PE X (.Call (.Name "isinstance" p0) [x, .Name (Str.ofString b) py] [] pos) (tE P F C W (.inst a cr)) := by
  obtain ⟨g1, g2, g3⟩ := o.gl hg
  obtain ⟨k1, k2, k3⟩ := o.gl hg2
  have bt : bootBuiltins (Str.ofString b) = some (.type b) ∧ b ∈ bNames := by
    cases cr <;> first | (cases hb; done) | (cases hb; exact ⟨by decide +kernel, by decide⟩)
  have hy : PE X (.Name (Str.ofString b) py) (tC (.ty b)) := pe_bltn k1 (o.fx.blt _ bt.2) bt.1 rfl k3 k2
  have ha : PA X [x, .Name (Str.ofString b) py] (tCons (tE P F C W a) (tCons (tC (.ty b)) tNil)) := pa_cons he (pa_cons hy pa_nil) (star_cons hs)
  refine pe_weak (pe_callB call_isi g1 (o.fx.blt "isinstance" (by decide)) PyProof.Rows.boot_isinstance ha g3 g2 (star_cons hs) (by rfl)) fun σ H Q ⟨l, p, h, s, n, q⟩ => ?_
  simp only [ev] at q
  refine (one_w n q).mono fun v H1 ⟨p1, h1, d, _, ex1, n1, rd, q1⟩ => ?_
  rw [o.fx.hK]
  exact instB_w (C := C.hid l) hb n1.sr rd q1
theorem ty_ve {pos : Pos} (o : Okc L P F C k CX G X W) {y : Str} (hy : y = "ValueError") (hg2 : okG G y = true) : PE X (.Name y pos) (tC (.ty "ValueError")) := by
  subst hy
  obtain ⟨k1, k2, k3⟩ := o.gl hg2
  exact pe_bltn k1 (o.fx.blt "ValueError" (by decide)) (by decide +kernel) rfl k3 k2
/-- isinstance of an instance, its own class asked for -/
theorem s_instC (o : Okc L P F C k CX G X W) {c : String} {p0 py : Pos} (hg : okG G "isinstance" = true) (he : PE X x (tE P F C W a)) (hs : shp x = true) (hg2 : okG G (Str.ofString c) = true) (hc : L.cls c = true) :
    PE X (.Call (.Name "isinstance" p0) [x, .Name (Str.ofString c) py] [] pos) (tE P F C W (.inst a (.cls c))) := by
  obtain ⟨g1, g2, g3⟩ := o.gl hg
  obtain ⟨k1, k2, k3⟩ := o.gl hg2
  obtain ⟨_, _, _, _, _, y2, _⟩ := o.fx.ini c hc
  obtain ⟨i1, i2, i3, i4, i5⟩ := o.fx.insC c hc
  have hy : PE X (.Name (Str.ofString c) py) (tC (.ref (C.ca c))) := pe_glob k1 y2 rfl k2
  have ha : PA X [x, .Name (Str.ofString c) py] (tCons (tE P F C W a) (tCons (tC (.ref (C.ca c))) tNil)) := pa_cons he (pa_cons hy pa_nil) (star_cons hs)
  refine pe_weak (pe_callB call_isi g1 (o.fx.blt "isinstance" (by decide)) PyProof.Rows.boot_isinstance ha g3 g2 (star_cons hs) (by rfl)) fun σ H Q ⟨l, p, h, s, n, q⟩ => ?_
  simp only [ev] at q
  refine (one_w n q).mono fun v H1 ⟨p1, h1, d, _, ex1, n1, rd, q1⟩ => ?_
  obtain ⟨b', e, q2⟩ := okB_some q1
  have e0 : isC d c h1 = some b' := e
  unfold isC at e0
  cases d with
  | ref m =>
    simp only at e0
    cases e1 : h1[m]? with
    | none => rw [e1] at e0; cases e0
    | some w =>
      rw [e1] at e0
      cases w with
      | ins k' fs =>
        simp only at e0
        by_cases kc : k' = c
        · rw [if_pos kc] at e0
          cases e0
          subst kc
          have e2 : insOf (.ref m) h1 = some (m, k', fs) := by unfold insOf; simp only [e1]
          obtain ⟨_, _, ad, dx, gs, rfl, _, hH, _⟩ := ins_w n1.sr rd e2
          exact ⟨_, _, .ref (C.ca k'), .ref (C.ca k'), true, rfl, .own _, .base (.ins hH i1 i2 i3 i4 i5), by unfold PySem.W.kitOne; simp, ok_same n1.sr (.bl _) q2⟩
        · rw [if_neg kc] at e0; cases e0
      | _ => cases e0
  | _ => cases e0
/-- isinstance of the exception in hand -/
theorem s_instX (o : Okc L P F C k CX G X W) {cr : Cr} {y : Str} {c : V} {cv : Value} {p0 py : Pos} (hg : okG G "isinstance" = true) (he : PE X x (tE P F C W a)) (hs : shp x = true) (hy : PE X (.Name y py) (tC c)) (hc : ∀ u, RelV c u → u = cv)
    (hcr : crB cr = none) (hk : ∀ d h b, instD P.sub d cr h = some b → ∃ k, d = .exc k ∧ (L.ex k = true → PySem.W.kitOne X.K (.ref (C.ca k)) cv = some b)) :
    PE X (.Call (.Name "isinstance" p0) [x, .Name y py] [] pos) (tE P F C W (.inst a cr)) := by
  obtain ⟨g1, g2, g3⟩ := o.gl hg
  have ha : PA X [x, .Name y py] (tCons (tE P F C W a) (tCons (tC c) tNil)) := pa_cons he (pa_cons hy pa_nil) (star_cons hs)
  refine pe_weak (pe_callB (r := fun xs H Q => ∃ (b' : Bool) (v : Addr) (D : Addr), (∃ oe, (v, oe) ∈ X.pn ∧ L2.ExcC X.K D ∧ (oe.cls = .ref D ∧ oe.dict = none) ∧ ∃ vs, oe.data = .fields vs) ∧ xs = [.ref v, c] ∧ PySem.W.kitOne X.K (.ref D) cv = some b' ∧ Q (.bl b') H) ?_ g1 (o.fx.blt "isinstance" (by decide)) PyProof.Rows.boot_isinstance ha g3 g2 (star_cons hs) (by rfl)) fun σ H Q ⟨l, p, h, s, n, q⟩ => ?_
  · intro pins s σ H xs us Q I r ⟨b', v, D, ⟨oe, m, e1, e2, e3⟩, e0, e4, q⟩
    exact VH.call_isP e1 e2 e3 m pins s σ H xs us Q I r ⟨c, cv, b', e0, hc, e4, q⟩
  · simp only [ev] at q
    refine (one_w n q).mono fun v H1 ⟨p1, h1, d, _, ex1, n1, rd, q1⟩ => ?_
    obtain ⟨b', e, q2⟩ := okB_some q1
    obtain ⟨k', rfl, e2⟩ := hk _ _ _ e
    cases rd with
    | exc xc =>
      obtain ⟨oe, m, z1, z2, z3, z4⟩ := o.xl xc
      obtain ⟨y1, y2, y3⟩ := o.fx.cv _ z4
      exact ⟨b', _, C.ca k', ⟨oe, m, y3, ⟨z1.trans y1, z2⟩, z3⟩, rfl, e2 z4, ok_same n1.sr (.bl _) q2⟩
theorem s_nil : PA X [] (tEs P F C W .nil) := pa_weak pa_nil fun σ H Q ⟨l, p, h, s, n, q⟩ => q p H [] .refl n.sr .nil
theorem s_cons {e : E} {es : Es} {xs : List PySem.Expr} (he : PE X x (tE P F C W e)) (hs : shp x = true) (ha : PA X xs (tEs P F C W es)) : PA X (x :: xs) (tEs P F C W (.cons e es)) := by
  refine pa_weak (pa_cons he ha (star_cons hs)) fun σ H Q ⟨l, p, h, s, n, q⟩ => ?_
  simp only [evs] at q
  refine ⟨l, p, h, s, n, (OkR.bns q).mono fun v H1 ⟨p1, h1, d, ex1, sr1, rd, q1⟩ => ⟨l, p1, h1, s, n.ext ex1 sr1, (OkRs.bns q1).mono fun vs H2 ⟨p2, h2, ds, ex2, sr2, rd2, q2⟩ => ?_⟩⟩
  exact q2 p2 H2 _ .refl sr2 (.cons (rd.ext ex2) rd2)
theorem evs_len {P : Pr} {F : Nat → List D → Hs → R} {L : Lk} {G : Gc} : ∀ {es : Es} {xs : List PySem.Expr}, okEs L G es xs = true → ∀ s h ds h', evs P F es s h = .ok ds h' → ds.length = xs.length
  | .nil, [], _, s, h, ds, h', e => by simp only [evs] at e; cases e; rfl
  | .nil, _ :: _, q, _, _, _, _, _ => by simp [okEs] at q
  | .cons _ _, [], q, _, _, _, _, _ => by simp [okEs] at q
  | .cons e es, x :: xs, q, s, h, ds, h', z => by
    simp only [okEs, Bool.and_eq_true] at q
    simp only [evs] at z
    cases e1 : ev P F e s h with
    | ok d h1 =>
      rw [e1] at z
      replace z : (evs P F es s h1).bns (fun ds h2 => .ok (d :: ds) h2) = .ok ds h' := z
      cases e2 : evs P F es s h1 with
      | ok ds2 h2 =>
        rw [e2] at z
        cases z
        rw [List.length_cons, List.length_cons, evs_len q.2 _ _ _ _ e2]
      | exc c h2 => rw [e2] at z; cases z
      | bad => rw [e2] at z; cases z
    | exc c h1 => rw [e1] at z; cases z
    | bad => rw [e1] at z; cases z
end
end VI
/-! V8: calls of the program's own; what is walked; comprehensions; all expressions. -/
namespace VI
open PySem PySem.Spec PyProof.Rows L2

/-! ### own calls -/
section
variable {C : Cst} {p : List Addr} {h : Hs} {H : AHp} {Q : VK} {w : String → AHp → Prop}
theorem drop_w {dr : Bool} {r : R} (sr : SR C p h H) (q : OkR C p h H (drp dr h r) Q w) : OkR C p h H r Q w := by
  unfold drp at q
  split at q
  · unfold dropH at q
    cases r with
    | ok d h' =>
      simp only at q
      split at q
      · rename_i z
        intro p' H' v ex sr' rd
        have b : Bk p h p' h' := ⟨ex.pre, sr.len, z.1⟩
        exact q p H' v (ext_back b ex) (SR.back b sr sr') (DR.back b z.2 rd)
      · exact q.elim
    | exc c h' =>
      simp only at q
      split at q
      · rename_i z
        intro p' H' ex sr'
        have b : Bk p h p' h' := ⟨ex.pre, sr.len, z⟩
        exact q p H' (ext_back b ex) (SR.back b sr sr')
      · exact q.elim
    | bad => exact q.elim
  · exact q
end
section
variable {L : Lk} {P : Pr} {F : Nat → List D → Hs → R} {C : Cst} {k : Nat} {CX : CXT} {G : Gc} {X : Cx} {W : L2.WX} {pos : Pos} {x y z : PySem.Expr} {a b c : E}
theorem drop_imp {σ : L2.St} {H : AHp} {Q : VK} (q : tE P F C W (.drop a) σ H Q) : tE P F C W a σ H Q := by
  obtain ⟨l, p, h, s, n, q⟩ := q
  simp only [ev] at q
  exact ⟨l, p, h, s, n, drop_w (dr := true) n.sr q⟩
/-- a callee runs, what it may raise is taken at these slots -/
theorem own_run {A : Addr} {fd : FuncData} {ps : List Str} {sp : Sp} {pins : List (Addr × Obj)} {σ : L2.St} {H : AHp} {s : Shared} {Q : VK} {E : XK} {us : List Value} {vs : List V} (fo : FnOk X.prog X.w X.K X.mg X.base CX k A fd ps sp) (room : Room k X.A)
    (bi : L2.Binds X.K fd ps []) (tk : ∀ s e s', Inv X pins σ H s → CX X.stack H s E e s' → X.xe e s') (J : Inv X pins σ H s) (rv : Vals vs us) (q : sp vs H Q E) :
    wpAny (model X.prog X.w) X.A (call (.ref A) us) (EP X pins σ Q) X.xe s := by
  have ln : us.length = ps.length := rv.length.symm.trans (fo.len _ _ _ _ q)
  have bd := bi s us J.kIn (by rw [List.append_nil]; exact ln)
  rw [List.append_nil] at bd
  refine wpAny_call (codeAny_mono (fo.run X.A X.stack s H ⟨us, []⟩ us vs Q E room J.env0 bd rv q) ?_)
  intro r s' z
  match r, z with
  | .error e, z => exact tk s e s' J z
  | .ok (.ret u), z => exact J.after z
theorem s_callC (o : Okc L P F C k CX G X W) (cold : G.hot = false) {f : Nat} {dr : Bool} {nm : Str} {es : Es} {xs : List PySem.Expr} {p0 : Pos} (hg : okG G nm = true) (hf : L.fnm f = some nm) (ha : PA X xs (tEs P F C W es)) (hx : okEs L G es xs = true) :
    PE X (.Call (.Name nm p0) xs [] pos) (tE P F C W (.call f dr es)) := by
  obtain ⟨g1, g2, g3⟩ := o.gl hg
  obtain ⟨A, fd, ps, m, kp, bi, fo⟩ := (o.fxC cold).fn f nm hf
  have sh := plain_args hx
  have room := (o.room cold).mono (Nat.le_succ k)
  refine ⟨fun pins s σ H Q I ⟨l, p, h, s0, n, q⟩ => ?_⟩
  simp only [ev] at q
  refine wpAny_Call_Name_kw (ld_glob I g1 m ?_ g2)
  have fin : ∀ {us : List Value} {vs : List V} {s1 : Shared} {H1 : AHp}, Inv X pins σ H1 s1 → Vals vs us → (∃ p1 h1 ds, Ext (C.hid l) p h H p1 h1 H1 ∧ Now (C.hid l) p1 h1 s0 σ H1 ∧ DRs (C.hid l) p1 h1 H1 ds vs ∧ OkR (C.hid l) p1 h1 H1 (drp dr h1 (F f ds h1)) Q (wx C W σ)) →
      wpAny (model X.prog X.w) X.A (call (.ref A) us) (EP X pins σ Q) X.xe s1 := fun {us vs s1 H1} I1 rv ⟨p1, h1, ds, _, n1, rd, q1⟩ =>
    own_run (E := fun cls d H' => W cls d σ H') fo room bi (fun s e s' J z => o.pass σ pins H1 s e s' J z) I1 rv ⟨l, p1, h1, ds, n1.sr, rd, drop_w n1.sr q1⟩
  have q0 := args_w n q
  cases xs with
  | nil =>
    cases es with
    | nil =>
      obtain ⟨l', p', h', s', n', q'⟩ := q0
      exact PySem.W.callWith_K0 I.kIn kp (fin (us := []) I .nil (q' p' H [] .refl n'.sr .nil))
    | cons _ _ => simp [okEs] at hx
  | cons x xs =>
    exact PySem.W.callWith_K (h₀ := X.base) I.ok.mod.kin kp (thn (ha.run pos pins s σ H _ I q0) fun us s1 ⟨vs, H1, I1, r, q1⟩ => ⟨I1.kIn, fin I1 r q1⟩)
      (star_cons (sh x List.mem_cons_self)) (plain_any fun y m => sh y (List.mem_cons_of_mem _ m))
/-- a call where an exception is handled -/
theorem s_callH (o : Okc L P F C k CX G X W) (hot : G.hot = true) {f : Nat} {dr : Bool} {nm : Str} {es : Es} {xs : List PySem.Expr} {p0 : Pos} (hg : okG G nm = true) (hf : L.fnm f = some nm) (hh : L.hot f = true) (ha : PA X xs (tEs P F C W es)) (hx : okEs L G es xs = true) :
    PE X (.Call (.Name nm p0) xs [] pos) (tE P F C W (.call f dr es)) := by
  obtain ⟨g1, g2, g3⟩ := o.gl hg
  obtain ⟨A, fd, ps, m, kp, bi, fo⟩ := o.fx.fnh f nm hh hf
  obtain ⟨pp, hp1, hp2, hp3⟩ := o.hotp hot
  have fo := fo C.xc pp hp3
  have sh := plain_args hx
  have room := o.roomH.mono (Nat.le_succ k)
  refine ⟨fun pins s σ H Q I ⟨l, p, h, s0, n, q⟩ => ?_⟩
  simp only [ev] at q
  refine wpAny_Call_Name_kw (ld_glob I g1 m ?_ g2)
  have fin : ∀ {us : List Value} {vs : List V} {s1 : Shared} {H1 : AHp}, Inv X pins σ H1 s1 → Vals vs us → (∃ p1 h1 ds, Ext (C.hid l) p h H p1 h1 H1 ∧ Now (C.hid l) p1 h1 s0 σ H1 ∧ DRs (C.hid l) p1 h1 H1 ds vs ∧ OkR (C.hid l) p1 h1 H1 (drp dr h1 (F f ds h1)) Q (wx C W σ)) →
      wpAny (model X.prog X.w) X.A (call (.ref A) us) (EP X pins σ Q) X.xe s1 := fun {us vs s1 H1} I1 rv ⟨p1, h1, ds, _, n1, rd, q1⟩ =>
    VH.run_fnP (E := fun cls d H' => W cls d σ H') fo room hp1 hp2 bi (fun s e s' J z => o.pass σ pins H1 s e s' J z) I1 rv ⟨l, p1, h1, ds, n1.sr, rd, drop_w n1.sr q1⟩
  have q0 := args_w n q
  cases xs with
  | nil =>
    cases es with
    | nil =>
      obtain ⟨l', p', h', s', n', q'⟩ := q0
      exact PySem.W.callWith_K0 I.kIn kp (fin (us := []) I .nil (q' p' H [] .refl n'.sr .nil))
    | cons _ _ => simp [okEs] at hx
  | cons x xs =>
    exact PySem.W.callWith_K (h₀ := X.base) I.ok.mod.kin kp (thn (ha.run pos pins s σ H _ I q0) fun us s1 ⟨vs, H1, I1, r, q1⟩ => ⟨I1.kIn, fin I1 r q1⟩)
      (star_cons (sh x List.mem_cons_self)) (plain_any fun y m => sh y (List.mem_cons_of_mem _ m))
theorem s_call (o : Okc L P F C k CX G X W) {f : Nat} {dr : Bool} {nm : Str} {es : Es} {xs : List PySem.Expr} {p0 : Pos} (hg : okG G nm = true) (hf : L.fnm f = some nm) (ha : PA X xs (tEs P F C W es)) (hx : okEs L G es xs = true) (hh : G.hot = true → L.hot f = true) :
    PE X (.Call (.Name nm p0) xs [] pos) (tE P F C W (.call f dr es)) := by
  cases e : G.hot with
  | false => exact s_callC o e hg hf ha hx
  | true => exact s_callH o e hg hf (hh e) ha hx
theorem eval_meth {o : PySem.Expr} {m : Str} {ap pos : Pos} {xs : List PySem.Expr} {env : PySem.Env} (hb : attributeBase o m env (eval o env) = eval o env) (hp : (backTo pos (starEach xs env)).all (fun x => !x.1) = true) (hn : xs.length < 20) (hl : (ap.endLine == pos.line) = true) :
    ∃ pl : Sem Bool, eval (.Call (.Attribute o m ap) xs [] pos) env = (do
      let ov ← eval o env
      standAt ap.atName
      let (f, first) ← holding [ov] (getMethod ov m pl)
      callWith pos f first (backTo pos (starEach xs env)) (backToKw pos (keywordEach [] env))) := by
  have few : methodCallForm (xs.length + 0) (backTo pos (starEach xs env)) (backToKw pos (keywordEach [] env)) = true := by
    unfold methodCallForm
    rw [hp]
    show (true && true && decide _) = true
    rw [Bool.true_and, Bool.true_and, decide_eq_true_eq]
    show _ + 0 + 0 < 30
    omega
  refine ⟨(do return (← importBound o env).getD true), ?_⟩
  show (do
    let ov ← attributeBase o m env (eval o env)
    standAt ap.atName
    methodCall o m ap pos env ov (xs.length + 0) (backTo pos (starEach xs env)) (backToKw pos (keywordEach [] env))) = _
  rw [hb]
  unfold methodCall calleeOf methodCallPos
  rw [few]
  simp only [hl, Bool.not_true, Bool.false_or, if_true]
  rfl
theorem s_meth (o : Okc L P F C k CX G X W) (cold : G.hot = false) {m : String} {dr : Bool} {es : Es} {xs : List PySem.Expr} {ap : Pos} (he : PE X x (tE P F C W a)) (hs : shA x = true) (ha : PA X xs (tEs P F C W es)) (hx : okEs L G es xs = true) (hl : (ap.endLine == pos.line) = true) (hn : xs.length < 20) :
    PE X (.Call (.Attribute x (Str.ofString m) ap) xs [] pos) (tE P F C W (.meth a m dr es)) := by
  have sh := plain_args hx
  have room := (o.room cold).mono (Nat.le_succ k)
  obtain ⟨pl, ht⟩ := eval_meth (m := Str.ofString m) (ap := ap) (pos := pos) (env := X.env) (base_ok hs) (plain_all sh) hn hl
  refine ⟨fun pins s σ H Q I ⟨l, p, h, s0, n, q⟩ => ?_⟩
  simp only [ev] at q
  refine PySem.W.methodCall_KW (pl := pl) (thn (he.run pins s σ H _ I (one_w n q)) fun u s1 ⟨v, H1, I1, rx, p1, h1, d, _, ex1, n1, rd, q1⟩ => ?_) ht
  split at q1
  · rename_i nn c fs e
    split at q1
    · rename_i f e2
      split at q1
      · rename_i e3
        obtain ⟨rfl, _, ad, dx, gs, rfl, _, hH, r⟩ := ins_w n1.sr rd e
        obtain rfl : u = Value.ref ad := rx
        obtain ⟨A, fd, ps, cl, hm, bi, fo⟩ := (o.fxC cold).mth _ _ _ e2
        refine getmeth_ok I1 hH cl hm ((FR.look r).2 e3) ?_
        have fin : ∀ {us : List Value} {vs : List V} {s2 : Shared} {H2 : AHp}, Inv X pins σ H2 s2 → Vals vs us → (∃ p2 h2 ds, Ext (C.hid l) p1 h1 H1 p2 h2 H2 ∧ Now (C.hid l) p2 h2 s0 σ H2 ∧ DRs (C.hid l) p2 h2 H2 ds vs ∧ OkR (C.hid l) p2 h2 H2 (drp dr h2 (F f (.ref nn :: ds) h2)) Q (wx C W σ)) →
            wpAny (model X.prog X.w) X.A (call (.ref A) (.ref ad :: us)) (EP X pins σ Q) X.xe s2 := fun {us vs s2 H2} I2 rv ⟨p2, h2, ds, ex2, n2, rd2, q2⟩ =>
          own_run (us := .ref ad :: us) (vs := .ref ad :: vs) (E := fun cls d H' => W cls d σ H') fo room bi (fun s e s' J z => o.pass σ pins H2 s e s' J z) I2 (.cons rfl rv) ⟨l, p2, h2, .ref nn :: ds, n2.sr, .cons (rd.ext ex2) rd2, drop_w n2.sr q2⟩
        have q0 := args_w n1 q1
        cases xs with
        | nil =>
          cases es with
          | nil =>
            obtain ⟨l', p', h', s', n', q'⟩ := q0
            exact PySem.W.callWith_K0 (first := [.ref ad]) I1.kIn hm.kp (fin (us := []) I1 .nil (q' p' H1 [] .refl n'.sr .nil))
          | cons _ _ => simp [okEs] at hx
        | cons x' xs =>
          exact PySem.W.callWith_K (first := [.ref ad]) (h₀ := X.base) I.ok.mod.kin hm.kp (thn (ha.run pos pins s1 σ H1 _ I1 q0) fun us s2 ⟨vs, H2, I2, r2, q2⟩ => ⟨I2.kIn, fin I2 r2 q2⟩)
            (star_cons (sh x' List.mem_cons_self)) (plain_any fun y m => sh y (List.mem_cons_of_mem _ m))
      · exact q1.elim
    · exact q1.elim
  · exact q1.elim
theorem own_make {A Cc : Addr} {fd : FuncData} {ps : List Str} {sp : Sp} {pins : List (Addr × Obj)} {σ : L2.St} {H : AHp} {s : Shared} {Q : VK} {E : XK} {us : List Value} {vs : List V} (M : Mk X.K Cc A) (fo : FnOk X.prog X.w X.K X.mg X.base CX k A fd ps sp) (room : Room (k + 1) X.A)
    (bi : L2.Binds X.K fd ps []) (tk : ∀ H s e s', Inv X pins σ H s → CX X.stack H s E e s' → X.xe e s') (J : Inv X pins σ H s) (rv : Vals vs us)
    (q : ∀ x dx, H x = none → H dx = none → dx ≠ x → sp (.ref x :: vs) (upd (upd H dx (.own x)) x (.ins Cc dx [])) (fun v H2 => v = .non ∧ Q (.ref x) H2) E) :
    wpAny (model X.prog X.w) X.A (call (.ref Cc) us) (EP X pins σ Q) X.xe s := by
  have q1 := q (s.heap.objs.size + 1) s.heap.objs.size (J.hok.fresh (Nat.le_add_right _ 1)) (J.hok.fresh (Nat.le_refl _)) (Nat.ne_of_lt (Nat.lt_add_one _))
  have J2 := Inv.made (C := Cc) J
  have rv2 : Vals (V.ref (s.heap.objs.size + 1) :: vs) (Value.ref (s.heap.objs.size + 1) :: us) := .cons rfl rv
  have ln := rv2.length.symm.trans (fo.len _ _ _ _ q1)
  have bd := bi _ (Value.ref (s.heap.objs.size + 1) :: us) J2.kIn (by rw [List.append_nil]; exact ln)
  rw [List.append_nil] at bd
  refine wpAny_call (make_map (f := A) J.kIn M.makes M.init (beq_iff_eq.mp M.fn) (codeAny_mono (fo.run _ X.stack _ _ ⟨Value.ref (s.heap.objs.size + 1) :: us, []⟩ _ _ _ E (room.make Cc us []) (J2.env0.make Cc us []) bd rv2 q1) ?_))
  intro r s' z
  match r, z with
  | .error e, z => exact tk _ _ e s' J2 z
  | .ok (.ret u), z =>
    obtain ⟨v, H', J3, r3, e3, q3⟩ := J2.after z
    subst e3
    exact ⟨r3, V.ref (s.heap.objs.size + 1), H', J3, rfl, q3⟩
theorem s_new (o : Okc L P F C k CX G X W) (cold : G.hot = false) {c : String} {es : Es} {xs : List PySem.Expr} {p0 : Pos} (hg : okG G (Str.ofString c) = true) (hf : L.cls c = true) (ha : PA X xs (tEs P F C W es)) (hx : okEs L G es xs = true) :
    PE X (.Call (.Name (Str.ofString c) p0) xs [] pos) (tE P F C W (.new c es)) := by
  obtain ⟨g1, g2, g3⟩ := o.gl hg
  have sh := plain_args hx
  obtain ⟨f, A, fd, ps, ei, m, M, bi, fo⟩ := (o.fxC cold).ini c hf
  refine ⟨fun pins s σ H Q I ⟨l, p, h, s0, n, q⟩ => ?_⟩
  simp only [ev, ei] at q
  refine wpAny_Call_Name_kw (ld_glob I g1 m ?_ g2)
  have fin : ∀ {us : List Value} {vs : List V} {s1 : Shared} {H1 : AHp}, Inv X pins σ H1 s1 → Vals vs us → (∃ p1 h1 ds, Ext (C.hid l) p h H p1 h1 H1 ∧ Now (C.hid l) p1 h1 s0 σ H1 ∧ DRs (C.hid l) p1 h1 H1 ds vs ∧ OkR (C.hid l) p1 h1 H1 ((F f (.ref h1.length :: ds) (h1 ++ [.ins c []])).bnd (newD h1.length)) Q (wx C W σ)) →
      wpAny (model X.prog X.w) X.A (call (.ref (C.ca c)) us) (EP X pins σ Q) X.xe s1 := fun {us vs s1 H1} I1 rv ⟨p1, h1, ds, _, n1, rd, q1⟩ => by
    refine own_make (E := fun cls d H' => W cls d σ H') M fo (o.room cold) bi (fun H s e s' J z => o.pass σ pins H s e s' J z) I1 rv fun xa dx nx nd ne => ?_
    have hH : ∀ b w, H1 b = some w → upd (upd H1 dx (.own xa)) xa (.ins (C.ca c) dx []) b = some w := fun b w e => by
      rw [upd_ne (ne_of_none e nx), upd_ne (ne_of_none e nd)]; exact e
    have ex : Ext (C.hid l) p1 h1 H1 (p1 ++ [xa]) (h1 ++ [.ins c []]) (upd (upd H1 dx (.own xa)) xa (.ins (C.ca c) dx [])) := ext_cell n1.sr nx hH
    have sr : SR (C.hid l) (p1 ++ [xa]) (h1 ++ [.ins c []]) (upd (upd H1 dx (.own xa)) xa (.ins (C.ca c) dx [])) := n1.sr.cell nx hH ⟨_, upd_same⟩ ⟨dx, [], upd_same, .nil⟩
    have gx : (p1 ++ [xa])[h1.length]? = some xa := by rw [← n1.sr.len]; exact get_app_self _ _
    refine ⟨l, _, _, .ref h1.length :: ds, sr, .cons (.ref gx) (DRs.ext ex rd), ?_⟩
    refine (OkR.bnd (OkR.step (r := (F f (.ref h1.length :: ds) (h1 ++ [.ins c []])).bnd (newD h1.length)) ex q1)).mono fun v H2 ⟨p2, h2, d, _, ex2, sr2, rd2, q2⟩ => ?_
    cases d <;> first | (exact q2.elim) | skip
    cases rd2
    exact ⟨rfl, q2 p2 H2 _ .refl sr2 (.ref (get_pre ex2.pre gx))⟩
  have q0 := args_w n q
  cases xs with
  | nil =>
    cases es with
    | nil =>
      obtain ⟨l', p', h', s', n', q'⟩ := q0
      exact PySem.W.callWith_K0 I.kIn M.kp (fin (us := []) I .nil (q' p' H [] .refl n'.sr .nil))
    | cons _ _ => simp [okEs] at hx
  | cons x xs =>
    exact PySem.W.callWith_K (h₀ := X.base) I.ok.mod.kin M.kp (thn (ha.run pos pins s σ H _ I q0) fun us s1 ⟨vs, H1, I1, r, q1⟩ => ⟨I1.kIn, fin I1 r q1⟩)
      (star_cons (sh x List.mem_cons_self)) (plain_any fun y m => sh y (List.mem_cons_of_mem _ m))
end
end VI
/-! V9: what is walked. -/
namespace VI
open PySem PySem.Spec PyProof.Rows L2

/-- later, maybe with other lists in the making -/
structure Ltr (C : Cst) (p : List Addr) (h : Hs) (H : AHp) (C' : Cst) (p' : List Addr) (h' : Hs) (H' : AHp) : Prop where
  c : ∃ l, C' = C.hid l
  pre : p <+: p'
  st : ∀ a o, H a = some o → ¬ Mu C p h a → H' a = some o ∧ ¬ Mu C' p' h' a
section
variable {C C' C2 : Cst} {p p' p2 : List Addr} {h h' h2 : Hs} {H H' H2 : AHp}
theorem Ltr.refl : Ltr C p h H C p h H := ⟨⟨C.hd, rfl⟩, List.prefix_refl _, fun _ _ e n => ⟨e, n⟩⟩
theorem Ltr.trans (a : Ltr C p h H C' p' h' H') (b : Ltr C' p' h' H' C2 p2 h2 H2) : Ltr C p h H C2 p2 h2 H2 := by
  refine ⟨?_, a.pre.trans b.pre, fun x o e n => b.st x o (a.st x o e n).1 (a.st x o e n).2⟩
  obtain ⟨l, rfl⟩ := a.c
  obtain ⟨l2, rfl⟩ := b.c
  exact ⟨l2, rfl⟩
theorem Ext.ltr (x : Ext C p h H p' h' H') : Ltr C p h H C p' h' H' := ⟨⟨C.hd, rfl⟩, x.pre, x.st⟩
theorem LAt.ltr (x : Ltr C p h H C' p' h' H') {a : Addr} {vs : List V} (r : LAt C p h H a vs) : LAt C' p' h' H' a vs := x.st a _ r.1 r.2
theorem rd_ltr (x : Ltr C p h H C' p' h' H') {a : Addr} {u : HO} (r : Rd H a u) (n : ¬ Mu C p h a) : Rd H' a u ∧ ¬ Mu C' p' h' a := by
  rcases r with r | ⟨o, r⟩
  · exact ⟨.inl (x.st a _ r n).1, (x.st a _ r n).2⟩
  · exact ⟨.inr ⟨o, (x.st a _ r n).1⟩, (x.st a _ r n).2⟩
theorem TAt.ltr (x : Ltr C p h H C' p' h' H') {a : Addr} {vs : List V} (r : TAt C p h H a vs) : TAt C' p' h' H' a vs := by
  rcases r with ⟨r, n⟩ | r
  · exact .inl (x.st a _ r n)
  · obtain ⟨l, rfl⟩ := x.c
    exact .inr r
theorem ZAt.ltr (x : Ltr C p h H C' p' h' H') {a : Addr} {vs : List V} (r : ZAt C p h H a vs) : ZAt C' p' h' H' a vs := by
  rcases r with ⟨r, n⟩ | r
  · exact .inl (rd_ltr x r n)
  · obtain ⟨l, rfl⟩ := x.c
    exact .inr r
mutual
theorem DR.ltr (x : Ltr C p h H C' p' h' H') : ∀ {d : D} {v : V}, DR C p h H d v → DR C' p' h' H' d v
  | _, _, .non => .non
  | _, _, .bl b => .bl b
  | _, _, .int i => .int i
  | _, _, .str s => .str s
  | _, _, .tup a r => .tup (a.ltr x) (DRs.ltr x r)
  | _, _, .lst a r => .lst (a.ltr x) (DRs.ltr x r)
  | _, _, .ref e => .ref (get_pre x.pre e)
  | _, _, .exc e => .exc (by obtain ⟨l, rfl⟩ := x.c; exact e)
  | _, _, .scr r => .scr (r.ltr x)
theorem DRs.ltr (x : Ltr C p h H C' p' h' H') : ∀ {d : List D} {v : List V}, DRs C p h H d v → DRs C' p' h' H' d v
  | _, _, .nil => .nil
  | _, _, .cons a r => .cons (DR.ltr x a) (DRs.ltr x r)
end
/-- a walk -/
def Wk (C : Cst) (p : List Addr) (h : Hs) (H : AHp) (J : It) (xs : List D) (lk : Lks) : Prop := ∀ C' p' h' H', Ltr C p h H C' p' h' H' → SR C' p' h' H' → lkOk lk h' →
  J.stop xs.length H' ∧ ∀ i x, xs[i]? = some x → J.go i H' ∧ ∀ v H2, J.yld i H' v H2 → Ext C' p' h' H' p' h' H2 ∧ SR C' p' h' H2 ∧ DR C' p' h' H2 x v
theorem Wk.ltr (x : Ltr C p h H C' p' h' H') {J : It} {xs : List D} {lk : Lks} (w : Wk C p h H J xs lk) : Wk C' p' h' H' J xs lk := fun _ _ _ _ y => w _ _ _ _ (x.trans y)
/-- a list at each later time -/
theorem seq_at {d : D} {v : V} {xs : List D} (rd : DR C p h H d v) (e : seqOf h d = some xs) : ∃ a, v = .ref a ∧ ∀ C' p' h' H', Ltr C p h H C' p' h' H' → SR C' p' h' H' → lkOk (lkOf d xs) h' → ∃ vs, SqL C.K H' a vs ∧ DRs C' p' h' H' xs vs := by
  unfold seqOf at e
  split at e
  · cases e
    cases rd with
    | lst a r =>
      refine ⟨_, rfl, fun C' p' h' H' x _ _ => ⟨_, ?_, DRs.ltr x r⟩⟩
      exact .of (a.ltr x).1
  · split at e
    · rename_i n xs' e2
      cases e
      cases rd with
      | ref pa =>
        refine ⟨_, rfl, fun C' p' h' H' x sr lk => ?_⟩
        have e3 := lk _ (List.mem_singleton_self _)
        obtain ⟨vs, hH, r⟩ := sr.ob _ _ _ e3 (get_pre x.pre pa)
        exact ⟨vs, .of hH, r⟩
    · cases e
  · cases e
theorem wk_list {d : D} {v : V} {xs : List D} (rd : DR C p h H d v) (e : seqOf h d = some xs) : ∃ a, v = .ref a ∧ Wk C p h H (Itl C.K a) xs (lkOf d xs) := by
  obtain ⟨a, rfl, k⟩ := seq_at rd e
  refine ⟨a, rfl, fun C' p' h' H' x sr lk => ?_⟩
  obtain ⟨vs, q, r⟩ := k C' p' h' H' x sr lk
  refine ⟨⟨vs, q, by rw [r.len]; exact Nat.le_refl _⟩, fun i y ey => ?_⟩
  obtain ⟨u, e1, e2⟩ := r.get ey
  refine ⟨⟨vs, u, q, e1⟩, fun v' H2 ⟨eH, z⟩ => ?_⟩
  subst eH
  have := z vs q
  rw [e1] at this
  cases this
  exact ⟨.refl, sr, e2⟩
theorem wk_tup {v : V} {xs : List D} (rd : DR C p h H (.tup xs) v) : ∃ a vs, v = .ref a ∧ SqT C.K H a vs ∧ Wk C p h H (Itt C.K a) xs [] := by
  cases rd with
  | tup a r =>
    refine ⟨_, _, rfl, a.sq, fun C' p' h' H' x sr lk => ?_⟩
    have q := (a.ltr x).sq
    have r' := DRs.ltr x r
    obtain ⟨l, rfl⟩ := x.c
    refine ⟨⟨_, q, by rw [r.len]; exact Nat.le_refl _⟩, fun i y ey => ?_⟩
    obtain ⟨u, e1, e2⟩ := r'.get ey
    refine ⟨⟨_, u, q, e1⟩, fun v' H2 ⟨eH, z⟩ => ?_⟩
    subst eH
    have := z _ q
    rw [e1] at this
    cases this
    exact ⟨.refl, sr, e2⟩
theorem wk_str {x : List Char} : Wk C p h H (Its (sOf x)) (strL x) [] := fun C' p' h' H' _ sr _ => by
  have e : (sOf x).cps.size = x.length := by unfold sOf; simp
  refine ⟨by show (sOf x).cps.size ≤ _; rw [e]; unfold strL; rw [List.length_map]; exact Nat.le_refl _, fun i y ey => ?_⟩
  unfold strL at ey
  rw [List.getElem?_map, Option.map_eq_some_iff] at ey
  obtain ⟨c, ec, rfl⟩ := ey
  refine ⟨by show i < (sOf x).cps.size; rw [e]; exact (List.getElem?_eq_some_iff.mp ec).1, fun v H2 ⟨eH, c', e1, ev⟩ => ?_⟩
  subst eH ev
  have : (sOf x).cps[i]? = some c.toNat := by unfold sOf; simp [ec]
  rw [this] at e1
  cases e1
  exact ⟨.refl, sr, .str [c]⟩
theorem wk_rng {lo : Int} {n : Nat} : Wk C p h H (Itr lo n) (rgL lo n) [] := fun C' p' h' H' _ sr _ => by
  have e : (rgL lo n).length = n := by unfold rgL; simp
  refine ⟨by show n ≤ _; rw [e]; exact Nat.le_refl _, fun i y ey => ?_⟩
  unfold rgL at ey
  rw [List.getElem?_map, Option.map_eq_some_iff] at ey
  obtain ⟨j, ej, rfl⟩ := ey
  have l1 : j < n ∧ i = j := by
    obtain ⟨z1, z2⟩ := List.getElem?_eq_some_iff.mp ej
    rw [List.getElem_range] at z2
    rw [List.length_range] at z1
    omega
  obtain ⟨l1, rfl⟩ := l1
  refine ⟨l1, fun v H2 ⟨eH, ev⟩ => ?_⟩
  subst eH ev
  exact ⟨.refl, sr, .int _⟩
theorem enum_get : ∀ {xs : List D} {k i : Nat} {y : D}, (enumL k xs)[i]? = some y → ∃ x, xs[i]? = some x ∧ y = .tup [.int ((k + i : Nat) : Int), x]
  | [], _, _, _, e => by simp [enumL] at e
  | x :: xs, k, 0, y, e => by simp [enumL] at e; exact ⟨x, rfl, by rw [← e]; rfl⟩
  | x :: xs, k, i + 1, y, e => by
    simp only [enumL, List.getElem?_cons_succ] at e
    obtain ⟨z, e1, e2⟩ := enum_get e
    exact ⟨z, by simpa using e1, by rw [e2]; congr 4; omega⟩
theorem enum_len : ∀ (xs : List D) (k : Nat), (enumL k xs).length = xs.length
  | [], _ => rfl
  | x :: xs, k => by simp [enumL, enum_len xs]
theorem new_tup {vs : List V} {xs : List D} {T : Addr} (sr : SR C p h H) (e : H T = none) (r : DRs C p h H xs vs) : Ext C p h H p h (upd H T (.tup vs)) ∧ SR C p h (upd H T (.tup vs)) ∧ DR C p h (upd H T (.tup vs)) (.tup xs) (.ref T) :=
  ⟨ext_new sr e, sr.new e, .tup (at_tup sr e) (DRs.ext (ext_new sr e) r)⟩
theorem wk_enum {d : D} {v : V} {xs : List D} (rd : DR C p h H d v) (e : seqOf h d = some xs) : ∃ a, v = .ref a ∧ Wk C p h H (Ite C.K a) (enumL 0 xs) (lkOf d xs) := by
  obtain ⟨a, rfl, k⟩ := seq_at rd e
  refine ⟨a, rfl, fun C' p' h' H' x sr lk => ?_⟩
  obtain ⟨vs, q, r⟩ := k C' p' h' H' x sr lk
  refine ⟨⟨vs, q, by rw [enum_len, r.len]; exact Nat.le_refl _⟩, fun i y ey => ?_⟩
  obtain ⟨x0, ex, rfl⟩ := enum_get ey
  obtain ⟨u, e1, e2⟩ := r.get ex
  refine ⟨⟨vs, u, q, e1⟩, fun v' H2 ⟨T, x1, ev, eT, eH, z⟩ => ?_⟩
  subst eH ev
  have := z vs q
  rw [e1] at this
  cases this
  rw [Nat.zero_add]
  exact new_tup sr eT (.cons (.int _) (.cons e2 .nil))
theorem zip_get : ∀ {xs ys : List D} {i : Nat} {y : D}, (zipL xs ys)[i]? = some y → ∃ a b, xs[i]? = some a ∧ ys[i]? = some b ∧ y = .tup [a, b]
  | [], _, _, _, e => by simp [zipL] at e
  | _ :: _, [], _, _, e => by simp [zipL] at e
  | x :: xs, z :: zs, 0, y, e => by simp [zipL] at e; exact ⟨x, z, rfl, rfl, e.symm⟩
  | x :: xs, z :: zs, i + 1, y, e => by
    simp only [zipL, List.getElem?_cons_succ] at e
    obtain ⟨a, b, e1, e2, e3⟩ := zip_get e
    exact ⟨a, b, by simpa using e1, by simpa using e2, e3⟩
theorem zip_len : ∀ (xs ys : List D), xs.length ≤ (zipL xs ys).length ∨ ys.length ≤ (zipL xs ys).length
  | [], _ => .inl (Nat.zero_le _)
  | _ :: _, [] => .inr (Nat.zero_le _)
  | x :: xs, y :: ys => by
    rcases zip_len xs ys with q | q
    · exact .inl (by simp [zipL]; exact q)
    · exact .inr (by simp [zipL]; exact q)
theorem wk_zip {d1 d2 : D} {v1 v2 : V} {xs ys : List D} (r1 : DR C p h H d1 v1) (r2 : DR C p h H d2 v2) (e1 : seqOf h d1 = some xs) (e2 : seqOf h d2 = some ys) :
    ∃ a b, v1 = .ref a ∧ v2 = .ref b ∧ Wk C p h H (Itz C.K a b) (zipL xs ys) (lkOf d1 xs ++ lkOf d2 ys) := by
  obtain ⟨a, rfl, k1⟩ := seq_at r1 e1
  obtain ⟨b, rfl, k2⟩ := seq_at r2 e2
  refine ⟨a, b, rfl, rfl, fun C' p' h' H' x sr lk => ?_⟩
  obtain ⟨vs, q1, w1⟩ := k1 C' p' h' H' x sr fun z m => lk z (List.mem_append_left _ m)
  obtain ⟨us, q2, w2⟩ := k2 C' p' h' H' x sr fun z m => lk z (List.mem_append_right _ m)
  refine ⟨⟨vs, us, q1, q2, by rw [← w1.len, ← w2.len]; exact zip_len xs ys⟩, fun i y ey => ?_⟩
  obtain ⟨x0, y0, ex, ey2, rfl⟩ := zip_get ey
  obtain ⟨u1, f1, g1⟩ := w1.get ex
  obtain ⟨u2, f2, g2⟩ := w2.get ey2
  refine ⟨⟨vs, us, u1, u2, q1, q2, f1, f2⟩, fun v' H2 ⟨T, x1, y1, ev, eT, eH, z1, z2⟩ => ?_⟩
  subst eH ev
  have h1 := z1 vs q1
  rw [f1] at h1
  cases h1
  have h2 := z2 us q2
  rw [f2] at h2
  cases h2
  exact new_tup sr eT (.cons g1 (.cons g2 .nil))
theorem wk_rev {d : D} {v : V} {xs : List D} (rd : DR C p h H d v) (e : seqOf h d = some xs) : ∃ a, v = .ref a ∧ Wk C p h H (Itv C.K a xs.length) xs.reverse (lkOf d xs) := by
  obtain ⟨a, rfl, k⟩ := seq_at rd e
  refine ⟨a, rfl, fun C' p' h' H' x sr lk => ?_⟩
  obtain ⟨vs, q, r⟩ := k C' p' h' H' x sr lk
  refine ⟨by show xs.length ≤ _; rw [List.length_reverse]; exact Nat.le_refl _, fun i y ey => ?_⟩
  have li : i < xs.length := by
    have := (List.getElem?_eq_some_iff.mp ey).1
    rwa [List.length_reverse] at this
  rw [List.getElem?_reverse li] at ey
  obtain ⟨u, e1, e2⟩ := r.get ey
  refine ⟨⟨li, vs, u, q, e1⟩, fun v' H2 ⟨eH, z⟩ => ?_⟩
  subst eH
  have := z vs q
  rw [e1] at this
  cases this
  exact ⟨.refl, sr, e2⟩
end
/-- what is wanted of a source -/
def OkL (C : Cst) (p : List Addr) (h : Hs) (H : AHp) (r : Rl) (T : It → AHp → Prop) (w : String → AHp → Prop) : Prop := match r with
  | .ok xs lk h' => ∀ p' H' J, Ext C p h H p' h' H' → SR C p' h' H' → Wk C p' h' H' J xs lk → T J H'
  | .exc c h' => ∀ p' H', Ext C p h H p' h' H' → SR C p' h' H' → w c H'
  | .bad => False
def tI (P : Pr) (F : Nat → List D → Hs → R) (C : Cst) (W : L2.WX) (src : Src) : TI := fun σ H T => ∃ l p h s, Now (C.hid l) p h s σ H ∧ OkL (C.hid l) p h H (evr P F src s h) T (wx C W σ)
section
variable {C : Cst} {p p1 : List Addr} {h h1 : Hs} {H H1 : AHp} {T : It → AHp → Prop} {w : String → AHp → Prop}
theorem OkL.step {r : Rl} (e : Ext C p h H p1 h1 H1) (q : OkL C p h H r T w) : OkL C p1 h1 H1 r T w := by
  cases r with
  | ok d lk h' => exact fun p' H' J a b c => q p' H' J (e.trans a) b c
  | exc c h' => exact fun p' H' a b => q p' H' (e.trans a) b
  | bad => exact q
theorem OkL.bnl {r : R} {k : D → Hs → Rl} (q : OkL C p h H (r.bnl k) T w) : OkR C p h H r (fun v H1 => ∃ p1 h1 x, r = .ok x h1 ∧ Ext C p h H p1 h1 H1 ∧ SR C p1 h1 H1 ∧ DR C p1 h1 H1 x v ∧ OkL C p1 h1 H1 (k x h1) T w) w := by
  cases r with
  | ok d h' => exact fun p' H' v a b c => ⟨p', h', d, rfl, a, b, c, OkL.step (r := k d h') a q⟩
  | exc c h' => exact q
  | bad => exact q
end
section
variable {C : Cst} {W : L2.WX} {l : List Addr} {p p1 : List Addr} {h h1 : Hs} {s : Env} {σ : L2.St} {H H1 : AHp} {T : It → AHp → Prop}
theorem onel_w {f : Env → Hs → R} {k : D → Hs → Rl} (n : Now (C.hid l) p h s σ H) (q : OkL (C.hid l) p h H ((f s h).bnl k) T (wx C W σ)) :
    tR C W f σ H fun v H1 => ∃ p1 h1 x, f s h = .ok x h1 ∧ Ext (C.hid l) p h H p1 h1 H1 ∧ Now (C.hid l) p1 h1 s σ H1 ∧ DR (C.hid l) p1 h1 H1 x v ∧ OkL (C.hid l) p1 h1 H1 (k x h1) T (wx C W σ) :=
  ⟨l, p, h, s, n, (OkL.bnl q).mono fun v H1 ⟨p1, h1, x, e, ex, sr, d, q1⟩ => ⟨p1, h1, x, e, ex, n.ext ex sr, d, q1⟩⟩
end
section
variable {L : Lk} {P : Pr} {F : Nat → List D → Hs → R} {C : Cst} {k : Nat} {CX : CXT} {G : Gc} {X : Cx} {W : L2.WX} {pos : Pos} {x y tg : PySem.Expr} {a b c : E}
theorem pi_weak {it : PySem.Expr} {t t' : TI} (k : PI X tg it t) (w : ∀ σ H T, t' σ H T → t σ H T) : PI X tg it t' := ⟨fun pins s σ H T I q => k.run pins s σ H T I (w _ _ _ q)⟩
theorem pi_or2 {it : PySem.Expr} {t t' u : TI} (k : PI X tg it t) (k' : PI X tg it t') (w : ∀ σ H T, u σ H T → t σ H T ∨ t' σ H T) : PI X tg it u := ⟨fun pins s σ H T I q => by
  rcases w _ _ _ q with q | q
  · exact k.run pins s σ H T I q
  · exact k'.run pins s σ H T I q⟩
def isStr : D → Bool
  | .str _ => true
  | _ => false
def isTup : D → Bool
  | .tup _ => true
  | _ => false
theorem i_seq (o : Okc L P F C k CX G X W) (he : PE X x (tE P F C W a)) : PI X tg x (tI P F C W (.seq a)) := by
  refine pi_or2 (pi_str he) (pi_or2 (u := fun σ H T => iTup X.K (tE P F C W a) σ H T ∨ iList X.K (tE P F C W a) σ H T) (pi_tup he) (pi_list he) fun _ _ _ q => q) fun σ H T ⟨l, p, h, s, n, q⟩ => ?_
  simp only [evr] at q
  have go := onel_w n q
  by_cases z : ∃ d h1, ev P F a s h = .ok d h1 ∧ isStr d = true
  · obtain ⟨d0, h0, z1, z2⟩ := z
    refine .inl (tR.mono go fun v H1 ⟨p1, h1, d, e, ex, n1, rd, q1⟩ => ?_)
    rw [e] at z1; cases z1
    cases d0 <;> first | (cases z2; done) | skip
    cases rd
    exact ⟨_, rfl, q1 p1 H1 _ .refl n1.sr wk_str⟩
  · by_cases z' : ∃ d h1, ev P F a s h = .ok d h1 ∧ isTup d = true
    · obtain ⟨d0, h0, z1, z2⟩ := z'
      refine .inr (.inl (tR.mono go fun v H1 ⟨p1, h1, d, e, ex, n1, rd, q1⟩ => ?_))
      rw [e] at z1; cases z1
      cases d0 <;> first | (cases z2; done) | skip
      obtain ⟨A, vs, rfl, sq, wk⟩ := wk_tup rd
      rw [o.fx.hK]
      exact ⟨A, rfl, ⟨vs, sq⟩, q1 p1 H1 _ .refl n1.sr wk⟩
    · refine .inr (.inr (tR.mono go fun v H1 ⟨p1, h1, d, e, ex, n1, rd, q1⟩ => ?_))
      rw [o.fx.hK]
      have e2 : ∃ xs, seqOf h1 d = some xs ∧ OkL (C.hid l) p1 h1 H1 (.ok xs (lkOf d xs) h1) T (wx C W σ) := by
        cases d <;> first | exact absurd ⟨_, _, e, rfl⟩ z | exact absurd ⟨_, _, e, rfl⟩ z' | exact q1.elim | skip
        · exact ⟨_, rfl, q1⟩
        · unfold seqR at q1
          simp only [anyOf] at q1
          split at q1
          · rename_i e3; exact ⟨_, e3, q1⟩
          · exact q1.elim
      obtain ⟨xs, e3, q2⟩ := e2
      obtain ⟨A, rfl, wk⟩ := wk_list rd e3
      obtain ⟨A', vs, eA, sq, _⟩ := seq_rd n1.sr rd e3
      cases eA
      exact ⟨A, rfl, ⟨vs, sq⟩, q2 p1 H1 _ .refl n1.sr wk⟩
/-- a list is walked -/
theorem lst_imp (o : Okc L P F C k CX G X W) {σ : L2.St} {H : AHp} {T : It → AHp → Prop} (q : tI P F C W (.lst a) σ H T) : iList X.K (tE P F C W a) σ H T := by
  obtain ⟨l, p, h, s, n, q⟩ := q
  simp only [evr] at q
  refine tR.mono (onel_w n q) fun v H1 ⟨p1, h1, d, e, ex, n1, rd, q1⟩ => ?_
  rw [o.fx.hK]
  have e2 : ∃ xs, seqOf h1 d = some xs ∧ OkL (C.hid l) p1 h1 H1 (.ok xs (lkOf d xs) h1) T (wx C W σ) := by
    unfold lstR at q1
    split at q1
    · rename_i e3; exact ⟨_, e3, q1⟩
    · exact q1.elim
  obtain ⟨xs, e3, q2⟩ := e2
  obtain ⟨A, rfl, wk⟩ := wk_list rd e3
  obtain ⟨A', vs, eA, sq, _⟩ := seq_rd n1.sr rd e3
  cases eA
  exact ⟨A, rfl, ⟨vs, sq⟩, q2 p1 H1 _ .refl n1.sr wk⟩
theorem i_lsW (o : Okc L P F C k CX G X W) (he : PE X x (tE P F C W a)) : PI X tg x (tI P F C W (.lst a)) := pi_weak (pi_list he) fun σ H T q => lst_imp o q
theorem bnd62 {i j : Int} (z : rgOk i j = true) : -(2 ^ 62) ≤ i ∧ i < 2 ^ 62 ∧ -(2 ^ 62) ≤ j ∧ j < 2 ^ 62 := by
  unfold rgOk at z
  simp only [Bool.and_eq_true, decide_eq_true_eq] at z
  exact ⟨z.1.1.1, z.1.1.2, z.1.2, z.2⟩
theorem i_rg1 (o : Okc L P F C k CX G X W) {p0 : Pos} (hg : okG G "range" = true) (he : PE X x (tE P F C W a)) (hs : shp x = true) : PI X tg (.Call (.Name "range" p0) [x] [] pos) (tI P F C W (.rg1 a)) := by
  refine pi_weak (pi_range1 (o.gl hg).1 (o.fx.blt "range" (by decide)) (pa_cons he pa_nil (star_cons hs)) (by rw [star_cons hs]; rfl)) fun σ H T ⟨l, p, h, s, n, q⟩ => ?_
  simp only [evr] at q
  refine tR.mono (onel_w n q) fun v H1 ⟨p1, h1, d, e, ex, n1, rd, q1⟩ => ?_
  unfold rg1R at q1
  split at q1
  · split at q1
    · rename_i z
      cases rd
      obtain ⟨_, _, z3, z4⟩ := bnd62 z
      exact ⟨_, rfl, z3, z4, q1 p1 H1 _ .refl n1.sr wk_rng⟩
    · exact q1.elim
  · exact q1.elim
theorem i_rg2 (o : Okc L P F C k CX G X W) {p0 : Pos} (hg : okG G "range" = true) (he : PE X x (tE P F C W a)) (hs : shp x = true) (he2 : PE X y (tE P F C W b)) (hs2 : shp y = true) : PI X tg (.Call (.Name "range" p0) [x, y] [] pos) (tI P F C W (.rg2 a b)) := by
  refine pi_weak (pi_range2 (o.gl hg).1 (o.fx.blt "range" (by decide)) (pa_cons he (pa_cons he2 pa_nil (star_cons hs2)) (star_cons hs)) (by rw [star_cons hs, star_cons hs2]; rfl) (by rw [star_cons hs2]; rfl)) fun σ H T ⟨l, p, h, s, n, q⟩ => ?_
  simp only [evr] at q
  refine tR.mono (onel_w n q) fun v H1 ⟨p1, h1, d, e, ex, n1, rd, q1⟩ => tR.mono (onel_w n1 q1) fun u H2 ⟨p2, h2, d2, e2, ex2, n2, rd2, q2⟩ => ?_
  unfold rg2R at q2
  split at q2
  · split at q2
    · rename_i z
      cases rd; cases rd2
      exact ⟨_, _, rfl, bnd62 z, q2 p2 H2 _ .refl n2.sr wk_rng⟩
    · exact q2.elim
  · exact q2.elim
theorem i_enum (o : Okc L P F C k CX G X W) {p0 tpos : Pos} {elts : List PySem.Expr} {kk : Nat} (hg : okG G "enumerate" = true) (he : PE X x (tE P F C W a)) (hs : shp x = true) : PI X (.Tuple elts kk tpos) (.Call (.Name "enumerate" p0) [x] [] pos) (tI P F C W (.enum a)) := by
  refine pi_weak (pi_enum (o.gl hg).1 (o.fx.blt "enumerate" (by decide)) (pa_cons he pa_nil (star_cons hs)) (by rw [star_cons hs]; rfl)) fun σ H T ⟨l, p, h, s, n, q⟩ => ?_
  simp only [evr] at q
  refine tR.mono (onel_w n q) fun v H1 ⟨p1, h1, d, e, ex, n1, rd, q1⟩ => ?_
  unfold enumR at q1
  split at q1
  · rename_i xs e3
    obtain ⟨A, rfl, wk⟩ := wk_enum rd e3
    obtain ⟨A', vs, eA, sq, _⟩ := seq_rd n1.sr rd e3
    cases eA
    rw [o.fx.hK]
    exact ⟨A, vs, rfl, sq, q1 p1 H1 _ .refl n1.sr wk⟩
  · exact q1.elim
theorem i_zip (o : Okc L P F C k CX G X W) {p0 tpos : Pos} {elts : List PySem.Expr} {kk : Nat} (hg : okG G "zip" = true) (he : PE X x (tE P F C W a)) (hs : shp x = true) (he2 : PE X y (tE P F C W b)) (hs2 : shp y = true) :
    PI X (.Tuple elts kk tpos) (.Call (.Name "zip" p0) [x, y] [] pos) (tI P F C W (.zip a b)) := by
  refine pi_weak (RZ.pi_zipA (o.gl hg).1 (o.fx.blt "zip" (by decide)) (pa_cons he (pa_cons he2 pa_nil (star_cons hs2)) (star_cons hs)) (by rw [star_cons hs]) (by rw [star_cons hs2]; rfl)) fun σ H T ⟨l, p, h, s, n, q⟩ => ?_
  simp only [evr] at q
  refine tR.mono (onel_w n q) fun v H1 ⟨p1, h1, d, e, ex, n1, rd, q1⟩ => tR.mono (onel_w n1 q1) fun u H2 ⟨p2, h2, d2, e2, ex2, n2, rd2, q2⟩ => ?_
  unfold zipR at q2
  split at q2
  · rename_i xs e3
    split at q2
    · rename_i ys e4
      have rd' := rd.ext ex2
      obtain ⟨A, B, rfl, rfl, wk⟩ := wk_zip rd' rd2 e3 e4
      obtain ⟨_, vs, eA, sq, _⟩ := seq_rd n2.sr rd' e3
      cases eA
      obtain ⟨_, us, eB, sq2, _⟩ := seq_rd n2.sr rd2 e4
      cases eB
      rw [o.fx.hK]
      exact ⟨A, B, vs, us, rfl, .inl ⟨sq, sq2, q2 p2 H2 _ .refl n2.sr wk⟩⟩
    · exact q2.elim
  · exact q2.elim
theorem i_rev (o : Okc L P F C k CX G X W) {p0 : Pos} (hg : okG G "reversed" = true) (he : PE X x (tE P F C W a)) (hs : shp x = true) : PI X tg (.Call (.Name "reversed" p0) [x] [] pos) (tI P F C W (.rev a)) := by
  refine pi_weak (RT.pi_revA (o.gl hg).1 (o.fx.blt "reversed" (by decide)) he (star_cons hs)) fun σ H T ⟨l, p, h, s, n, q⟩ => ?_
  simp only [evr] at q
  refine tR.mono (onel_w n q) fun v H1 ⟨p1, h1, d, e, ex, n1, rd, q1⟩ => ?_
  unfold revR at q1
  split at q1
  · rename_i xs e3
    obtain ⟨A, rfl, wk⟩ := wk_rev rd e3
    obtain ⟨A', vs, eA, sq, r⟩ := seq_rd n1.sr rd e3
    cases eA
    rw [o.fx.hK]
    refine ⟨A, vs, rfl, .inl ⟨sq, ?_⟩⟩
    rw [← r.1.len]
    exact q1 p1 H1 _ .refl n1.sr wk
  · exact q1.elim
end
end VI
/-! V10: targets, comprehensions, all expressions. -/
namespace VI
open PySem PySem.Spec PyProof.Rows L2

/-! ### targets -/
def gNs : List Nat → TGs
  | [] => gNil
  | i :: is => gCons (gName i) (gNs is)
def gT (K : PySem.W.Frag) : Tg → TG
  | .nm i => gName i
  | .tp is => fun v σ H Q => gTup K is.length (gNs is) v σ H Q ∨ gLst K is.length (gNs is) v σ H Q
/-- the slots but some -/
def ERo (C : Cst) (p : List Addr) (h : Hs) (H : AHp) (s : Env) (σ : L2.St) (vs : List Nat) : Prop := s.length = σ.length ∧ ∀ i d, i ∉ vs → s[i]? = some (some d) → ∃ v, σ[i]? = some (some v) ∧ DR C p h H d v
section
variable {C C' : Cst} {p p' : List Addr} {h h' : Hs} {H H' : AHp} {s : Env} {σ : L2.St}
theorem ER.o (r : ER C p h H s σ) (vs : List Nat) : ERo C p h H s σ vs := ⟨r.len, fun i d _ e => r.at_ i d e⟩
theorem ERo.ltr (x : Ltr C p h H C' p' h' H') {vs : List Nat} (r : ERo C p h H s σ vs) : ERo C' p' h' H' s σ vs := ⟨r.1, fun i d m e => let ⟨v, a, b⟩ := r.2 i d m e; ⟨v, a, b.ltr x⟩⟩
theorem ERo.set {i : Nat} {vs : List Nat} {d : D} {v : V} (r : ERo C p h H s σ (i :: vs)) (rd : DR C p h H d v) : ERo C p h H (s.set i (some d)) (σ.set i (some v)) vs := by
  refine ⟨by rw [List.length_set, List.length_set]; exact r.1, fun j e m q => ?_⟩
  by_cases z : i = j
  · subst z
    have l : i < s.length := by
      have := (List.getElem?_eq_some_iff.mp q).1
      rwa [List.length_set] at this
    rw [List.getElem?_set_self l] at q
    cases q
    exact ⟨v, by rw [List.getElem?_set_self (by rw [← r.1]; exact l)], rd⟩
  · rw [List.getElem?_set_ne z] at q
    rw [List.getElem?_set_ne z]
    exact r.2 j e (by simp only [List.mem_cons, not_or]; exact ⟨fun y => z y.symm, m⟩) q
theorem ERo.er (r : ERo C p h H s σ []) : ER C p h H s σ := ⟨r.1, fun i d e => r.2 i d (by simp) e⟩
theorem gNs_w : ∀ {is : List Nat} {xs : List D} {vs : List V} {s : Env} {σ : L2.St} {Q : L2.St → AHp → Prop}, DRs C p h H xs vs → xs.length = is.length → ERo C p h H s σ is →
    (∀ σ2, ER C p h H ((is.zip xs).foldl (fun s p => s.set p.1 (some p.2)) s) σ2 → σ2.length = σ.length → (∀ i, i ∉ is → σ2[i]? = σ[i]?) → Q σ2 H) → gNs is vs σ H Q
  | [], [], _, s, σ, Q, .nil, _, r, k => ⟨rfl, k σ r.er rfl fun _ _ => rfl⟩
  | i :: is, x :: xs, _, s, σ, Q, .cons rd rs, l, r, k => by
    refine ⟨_, _, rfl, ?_⟩
    refine gNs_w rs (by simpa using l) (r.set rd) fun σ2 e1 e2 e3 => k σ2 e1 (by rw [e2, List.length_set]) fun j m => ?_
    simp only [List.mem_cons, not_or] at m
    rw [e3 j m.2, List.getElem?_set_ne fun y => m.1 y.symm]
theorem gT_w {t : Tg} {x : D} {v : V} {s1 : Env} {Q : L2.St → AHp → Prop} (sr : SR C p h H) (e : putT t x s h = some s1) (rd : DR C p h H x v) (r : ERo C p h H s σ (tgs t))
    (k : ∀ σ2, ER C p h H s1 σ2 → σ2.length = σ.length → (∀ i, i ∉ tgs t → σ2[i]? = σ[i]?) → Q σ2 H) : gT C.K t v σ H Q := by
  cases t with
  | nm i =>
    unfold putT at e
    simp only at e
    split at e
    · cases e
      exact k _ (r.set rd).er (List.length_set ..) fun j m => List.getElem?_set_ne fun y => m (by rw [← y]; exact List.mem_singleton_self _)
    · cases e
  | tp is =>
    unfold putT at e
    simp only at e
    split at e
    · split at e
      · rename_i z
        cases e
        obtain ⟨a, vs, rfl, sq, rs⟩ := any_rd sr rd ‹_›
        rcases sq with sq | sq
        · exact .inr ⟨_, _, rfl, sq, by rw [← rs.len]; exact z.1, gNs_w rs z.1 r k⟩
        · exact .inl ⟨_, _, rfl, sq, by rw [← rs.len]; exact z.1, gNs_w rs z.1 r k⟩
      · cases e
    · cases e
end
section
variable {L : Lk} {P : Pr} {F : Nat → List D → Hs → R} {C : Cst} {k : Nat} {CX : CXT} {G : Gc} {X : Cx} {W : L2.WX}
theorem g_names (o : Okc L P F C k CX G X W) : ∀ {is : List Nat} {es : List PySem.Expr}, is.length = es.length → (is.zip es).all (fun p => match p.2 with | .Name x _ => okW G p.1 x | _ => false) = true →
    PGs X es (gNs is) ∧ (assignEach es X.env).length = is.length ∧ (assignEach es X.env).findIdx? (·.1) = none
  | [], [], _, _ => ⟨pgs_nil, rfl, rfl⟩
  | [], _ :: _, l, _ => by simp at l
  | _ :: _, [], l, _ => by simp at l
  | i :: is, x :: es, l, q => by
    rw [List.zip_cons_cons, List.all_cons, Bool.and_eq_true] at q
    obtain ⟨q1, q2⟩ := q
    cases x <;> first | (cases q1; done) | skip
    rename_i nm ps
    obtain ⟨h1, h2, h3⟩ := o.loc q1
    obtain ⟨i1, i2, i3⟩ := g_names o (is := is) (es := es) (by simpa using l) q2
    refine ⟨pgs_cons (pg_name o.nd h1 h2 h3) i1, ?_, ?_⟩
    · show (assignEach es X.env).length + 1 = _
      rw [i2]; rfl
    · show List.findIdx? _ ((false, assign (.Name nm ps) X.env) :: assignEach es X.env) = none
      rw [List.findIdx?_cons, i3]; rfl
theorem g_ok (o : Okc L P F C k CX G X W) {t : Tg} {e : PySem.Expr} (q : okTg G t e = true) : PG X e (gT X.K t) := by
  cases t with
  | nm i =>
    unfold okTg at q
    cases e <;> first | (cases q; done) | skip
    obtain ⟨h1, h2, h3⟩ := o.loc q
    exact pg_name o.nd h1 h2 h3
  | tp is =>
    unfold okTg at q
    cases e <;> first | (cases q; done) | skip
    simp only [Bool.and_eq_true, decide_eq_true_eq] at q
    obtain ⟨⟨q1, q2⟩, q3⟩ := q
    obtain ⟨i1, i2, i3⟩ := g_names o q1 q2
    have g1 : PG X (.Tuple ‹List PySem.Expr› ‹Nat› ‹Pos›) (gTup X.K is.length (gNs is)) := by
      cases eh : G.hot with
      | false => exact pg_tup (o.calm eh) i1 i2 i3
      | true => exact VH.pg_tupH (o.hotC eh) i1 i2 i3
    have g2 : PG X (.Tuple ‹List PySem.Expr› ‹Nat› ‹Pos›) (gLst X.K is.length (gNs is)) := by
      cases eh : G.hot with
      | false => exact pg_lst (o.calm eh) i1 i2 i3
      | true => exact VH.pg_lstH (o.hotC eh) i1 i2 i3
    exact ⟨fun pins s σ H v u Q I r q => by
      rcases q with q | q
      · exact g1.run pins s σ H v u Q I r q
      · exact g2.run pins s σ H v u Q I r q⟩
theorem okTg_in {t : Tg} {e : PySem.Expr} (q : okTg G t e = true) : ∀ i ∈ tgs t, ∃ x, G.N[i]? = some x := by
  cases t with
  | nm i =>
    unfold okTg at q
    cases e <;> first | (cases q; done) | skip
    intro j m
    rw [List.mem_singleton.mp m]
    unfold okW at q
    simp only [Bool.and_eq_true, decide_eq_true_eq] at q
    exact ⟨_, q.1⟩
  | tp is =>
    unfold okTg at q
    cases e <;> first | (cases q; done) | skip
    rename_i es _ _
    simp only [Bool.and_eq_true, decide_eq_true_eq] at q
    obtain ⟨⟨q1, q2⟩, q3⟩ := q
    intro j m
    rw [List.all_eq_true] at q2
    obtain ⟨n, hn⟩ := List.getElem?_of_mem m
    have ln : n < es.length := by rw [← q1]; exact (List.getElem?_eq_some_iff.mp hn).1
    have z : (is.zip es)[n]? = some (j, es[n]) := by
      rw [List.getElem?_zip_eq_some]; exact ⟨hn, List.getElem?_eq_getElem ln⟩
    have q4 := q2 _ (List.mem_of_getElem? z)
    split at q4
    · unfold okW at q4
      simp only [Bool.and_eq_true, decide_eq_true_eq] at q4
      exact ⟨_, q4.1⟩
    · cases q4
theorem own_map : ∀ {is : List Nat}, (∀ i ∈ is, ∃ x, G.N[i]? = some x) → (ownOf G is).map (·.2) = is
  | [], _ => rfl
  | i :: is, q => by
    obtain ⟨x, e⟩ := q i List.mem_cons_self
    unfold ownOf
    rw [List.filterMap_cons, e]
    show i :: ((ownOf G is).map (·.2)) = _
    rw [own_map fun j m => q j (List.mem_cons_of_mem _ m)]
end
theorem wipe_in {σ : L2.St} {i : Nat} : ∀ {vs : List Nat}, i ∈ vs → i < σ.length → (wipe σ vs)[i]? = some none
  | [], m, _ => by cases m
  | v :: vs, m, l => by
    unfold wipe
    by_cases z : v = i
    · subst z
      rw [List.getElem?_set_self (by rw [wipe_length]; exact l)]
    · rw [List.getElem?_set_ne z]
      rcases List.mem_cons.mp m with y | y
      · exact absurd y.symm z
      · exact wipe_in y l
theorem wipe_eq {σ σ2 : L2.St} {vs : List Nat} (e1 : σ2.length = σ.length) (e2 : ∀ i, i ∉ vs → σ2[i]? = σ[i]?) : wipe σ2 vs = wipe σ vs := by
  apply List.ext_getElem?
  intro i
  by_cases z : i ∈ vs
  · by_cases l : i < σ.length
    · rw [wipe_in z l, wipe_in z (by rw [e1]; exact l)]
    · rw [List.getElem?_eq_none (by rw [wipe_length, e1]; omega), List.getElem?_eq_none (by rw [wipe_length]; omega)]
  · rw [wipe_out z, wipe_out z, e2 i z]
theorem wipe_wipe {σ : L2.St} {vs : List Nat} : wipe (wipe σ vs) vs = wipe σ vs := wipe_eq (wipe_length σ vs) fun _ m => wipe_out m

/-! ### a list in the making -/
section
variable {C C' : Cst} {p p' : List Addr} {h h' : Hs} {H H' : AHp}
theorem FR.ltr (x : Ltr C p h H C' p' h' H') {a : List (String × D)} {b : List (Str × V)} (r : FR C p h H a b) : FR C' p' h' H' a b := Paired.mapP r fun _ _ q => ⟨q.1, q.2.ltr x⟩
theorem KR.ltr (x : Ltr C p h H C' p' h' H') {a : List (Ky × D)} {b : List (Key × V)} (r : KR C p h H a b) : KR C' p' h' H' a b := Paired.mapP r fun _ _ q => ⟨q.1, q.2.ltr x⟩
theorem QR.ltr (x : Ltr C p h H C' p' h' H') {a : List (List Ky × D)} {b : List (List Key × V)} (r : QR C p h H a b) : QR C' p' h' H' a b := Paired.mapP r fun _ _ q => ⟨q.1, q.2.ltr x⟩
theorem OR.ltr {a : Addr} {o : O} (x : Ltr C p h H C' p' h' H') (q : OR C p h H a o) (hH : H' a = H a) : OR C' p' h' H' a o := by
  cases o with
  | lst xs => obtain ⟨vs, q, r⟩ := q; exact ⟨vs, hH.trans q, DRs.ltr x r⟩
  | ins c fs =>
    obtain ⟨dx, gs, q, r⟩ := q
    have r' := FR.ltr x r
    obtain ⟨l, rfl⟩ := x.c
    exact ⟨dx, gs, hH.trans q, r'⟩
  | dct kvs => obtain ⟨ws, q, r⟩ := q; exact ⟨ws, hH.trans q, r.ltr x⟩
  | dt kvs => obtain ⟨ws, q, r⟩ := q; exact ⟨ws, hH.trans q, r.ltr x⟩
  | dead => trivial
/-- it is begun -/
theorem hide {l : List Addr} {a : Addr} {o : HO} (sr : SR (C.hid l) p h H) (e : H a = none) : Ltr (C.hid l) p h H (C.hid (a :: l)) p h (upd H a o) ∧ SR (C.hid (a :: l)) p h (upd H a o) := by
  have x : Ltr (C.hid l) p h H (C.hid (a :: l)) p h (upd H a o) := by
    refine ⟨⟨a :: l, rfl⟩, List.prefix_refl _, fun b u q n => ?_⟩
    have ne : b ≠ a := ne_of_none q e
    refine ⟨by rw [upd_ne ne]; exact q, fun m => ?_⟩
    rcases m with m | m
    · rcases List.mem_cons.mp m with z | z
      · exact ne z
      · exact n (.inl z)
    · exact n (.inr m)
  refine ⟨x, sr.len, sr.nd, fun b hb => ?_, fun n u b h1 h2 => (sr.ob n u b h1 h2).ltr x ?_, fun b hb => ?_⟩
  · obtain ⟨u, q⟩ := sr.tr b hb
    exact ⟨u, by rw [upd_ne (ne_of_none q e)]; exact q⟩
  · obtain ⟨w, q⟩ := sr.tr b (List.mem_of_getElem? h2)
    exact upd_ne (ne_of_none q e)
  · rcases List.mem_cons.mp hb with z | z
    · subst z
      exact ⟨sr.fresh e, _, upd_same⟩
    · obtain ⟨n, u, q⟩ := sr.hid b z
      exact ⟨n, u, by rw [upd_ne (ne_of_none q e)]; exact q⟩
/-- it grows -/
theorem hid_upd {a : Addr} {o : HO} (m : a ∈ C.hd) (sr : SR C p h H) : Ltr C p h H C p h (upd H a o) ∧ SR C p h (upd H a o) := by
  have x : Ltr C p h H C p h (upd H a o) := ⟨⟨C.hd, rfl⟩, List.prefix_refl _, fun b u q n => ⟨by rw [upd_ne (fun z => n (.inl (by rw [z]; exact m)))]; exact q, n⟩⟩
  have np := (sr.hid a m).1
  refine ⟨x, sr.len, sr.nd, fun b hb => ?_, fun n u b h1 h2 => (sr.ob n u b h1 h2).ltr x (upd_ne fun z => np (by rw [← z]; exact List.mem_of_getElem? h2)), fun b hb => ?_⟩
  · obtain ⟨u, q⟩ := sr.tr b hb
    exact ⟨u, by rw [upd_ne (fun z => np (by rw [← z]; exact hb))]; exact q⟩
  · obtain ⟨n, u, q⟩ := sr.hid b hb
    refine ⟨n, ?_⟩
    by_cases z : b = a
    · subst z; exact ⟨_, upd_same⟩
    · exact ⟨u, by rw [upd_ne z]; exact q⟩
/-- it is done -/
theorem unhide {l : List Addr} {a : Addr} (sr : SR (C.hid (a :: l)) p h H) : Ltr (C.hid (a :: l)) p h H (C.hid l) p h H ∧ SR (C.hid l) p h H := by
  have x : Ltr (C.hid (a :: l)) p h H (C.hid l) p h H := ⟨⟨l, rfl⟩, List.prefix_refl _, fun b u q n => ⟨q, fun m => n (match m with | .inl m => .inl (List.mem_cons_of_mem _ m) | .inr m => .inr m)⟩⟩
  exact ⟨x, sr.len, sr.nd, sr.tr, fun n u b h1 h2 => (sr.ob n u b h1 h2).ltr x rfl, fun b hb => sr.hid b (List.mem_cons_of_mem _ hb)⟩
theorem made {l : List Addr} {a : Addr} {p1 : List Addr} {h1 : Hs} {H1 : AHp} {hp : Bool} {ds : List D} {vs : List V} {Q : VK} {w : String → AHp → Prop} (e : H1 a = none) (na : a ∉ l) (x : Ltr (C.hid l) p1 h1 H1 (C.hid (a :: l)) p h H) (sr : SR (C.hid (a :: l)) p h H)
    (hh : ∀ b ∈ l, H b = H1 b) (ea : H a = some (.lst vs)) (r : DRs (C.hid (a :: l)) p h H ds vs) (q : OkR (C.hid l) p1 h1 H1 (mkL hp ds h) Q w) : Q (.ref a) H := by
  obtain ⟨y, sr'⟩ := unhide sr
  have r' := DRs.ltr y r
  have np : a ∉ p := (sr.hid a List.mem_cons_self).1
  have nm : ¬ Mu (C.hid l) p h a := fun m => by
    rcases m with m | ⟨_, _, m, _⟩
    · exact na m
    · exact np (List.mem_of_getElem? m)
  have z := x.trans y
  cases hp with
  | false => exact q p H _ ⟨z.pre, z.st, hh⟩ sr' (.lst ⟨ea, nm⟩ r')
  | true =>
    have x3 : Ltr (C.hid (a :: l)) p h H (C.hid l) (p ++ [a]) (h ++ [.lst ds]) H := by
      refine ⟨⟨l, rfl⟩, List.prefix_append _ _, fun b u q n => ⟨q, fun m => ?_⟩⟩
      rcases mu_new sr' m with m | m
      · exact n (match m with | .inl m => .inl (List.mem_cons_of_mem _ m) | .inr m => .inr m)
      · exact n (.inl (by rw [m]; exact List.mem_cons_self))
    have z3 := x.trans x3
    have r3 := DRs.ltr x3 r
    have ga : (p ++ [a])[h.length]? = some a := by rw [← sr.len]; exact get_app_self _ _
    refine q (p ++ [a]) H _ ⟨z3.pre, z3.st, hh⟩ ⟨?_, ?_, fun b hb => ?_, fun n u b f1 f2 => ?_, fun b hb => ?_⟩ (.ref ga)
    · rw [List.length_append, List.length_append, sr.len]; rfl
    · rw [List.nodup_append]
      refine ⟨sr.nd, by simp, fun b hb c hc => ?_⟩
      rw [List.mem_singleton] at hc
      subst hc
      exact fun y => np (by rw [← y]; exact hb)
    · rcases List.mem_append.mp hb with y | y
      · exact sr.tr b y
      · rw [List.mem_singleton] at y; subst y; exact ⟨_, ea⟩
    · by_cases ll : n < p.length
      · rw [List.getElem?_append_left ll] at f2
        rw [List.getElem?_append_left (by rw [← sr.len]; exact ll)] at f1
        exact (sr.ob n u b f1 f2).ltr x3 rfl
      · have l1 := (List.getElem?_eq_some_iff.mp f2).1
        rw [List.length_append, List.length_singleton] at l1
        have en : n = p.length := by omega
        have e1 : b = a := by
          rw [en, get_app_self] at f2; exact (Option.some.inj f2).symm
        have e2 : u = .lst ds := by
          rw [en, sr.len, get_app_self] at f1; exact (Option.some.inj f1).symm
        subst e1 e2
        exact ⟨vs, ea, r3⟩
    · refine ⟨fun m => ?_, (sr'.hid b hb).2⟩
      rcases List.mem_append.mp m with m | m
      · exact (sr'.hid b hb).1 m
      · rw [List.mem_singleton] at m
        exact na (by rw [← m]; exact hb)
end
/-- an object that was in the making becomes a cell -/
theorem madeO {C : Cst} {p : List Addr} {h : Hs} {H : AHp} {l : List Addr} {a : Addr} {p1 : List Addr} {h1 : Hs} {H1 : AHp} {o : O} {u : HO} {Q : VK} {w : String → AHp → Prop} (na : a ∉ l) (x : Ltr (C.hid l) p1 h1 H1 (C.hid (a :: l)) p h H) (sr : SR (C.hid (a :: l)) p h H)
    (hh : ∀ b ∈ l, H b = H1 b) (ea : H a = some u) (r : OR (C.hid (a :: l)) p h H a o) (q : OkR (C.hid l) p1 h1 H1 (.ok (.ref h.length) (h ++ [o])) Q w) : Q (.ref a) H := by
  obtain ⟨y, sr'⟩ := unhide sr
  have np : a ∉ p := (sr.hid a List.mem_cons_self).1
  have x3 : Ltr (C.hid (a :: l)) p h H (C.hid l) (p ++ [a]) (h ++ [o]) H := by
    refine ⟨⟨l, rfl⟩, List.prefix_append _ _, fun b u q n => ⟨q, fun m => ?_⟩⟩
    rcases mu_new sr' m with m | m
    · exact n (match m with | .inl m => .inl (List.mem_cons_of_mem _ m) | .inr m => .inr m)
    · exact n (.inl (by rw [m]; exact List.mem_cons_self))
  have z3 := x.trans x3
  have ga : (p ++ [a])[h.length]? = some a := by rw [← sr.len]; exact get_app_self _ _
  refine q (p ++ [a]) H _ ⟨z3.pre, z3.st, hh⟩ ⟨?_, ?_, fun b hb => ?_, fun n u b f1 f2 => ?_, fun b hb => ?_⟩ (.ref ga)
  · rw [List.length_append, List.length_append, sr.len]; rfl
  · rw [List.nodup_append]
    refine ⟨sr.nd, by simp, fun b hb c hc => ?_⟩
    rw [List.mem_singleton] at hc
    subst hc
    exact fun y => np (by rw [← y]; exact hb)
  · rcases List.mem_append.mp hb with y | y
    · exact sr.tr b y
    · rw [List.mem_singleton] at y; subst y; exact ⟨_, ea⟩
  · by_cases ll : n < p.length
    · rw [List.getElem?_append_left ll] at f2
      rw [List.getElem?_append_left (by rw [← sr.len]; exact ll)] at f1
      exact (sr.ob n u b f1 f2).ltr x3 rfl
    · have l1 := (List.getElem?_eq_some_iff.mp f2).1
      rw [List.length_append, List.length_singleton] at l1
      have en : n = p.length := by omega
      have e1 : b = a := by
        rw [en, get_app_self] at f2; exact (Option.some.inj f2).symm
      have e2 : u = o := by
        rw [en, sr.len, get_app_self] at f1; exact (Option.some.inj f1).symm
      subst e1 e2
      exact r.ltr x3 rfl
  · refine ⟨fun m => ?_, (sr'.hid b hb).2⟩
    rcases List.mem_append.mp m with m | m
    · exact (sr'.hid b hb).1 m
    · rw [List.mem_singleton] at m
      exact na (by rw [← m]; exact hb)
section
variable {C : Cst} {p : List Addr} {h : Hs} {H : AHp}
theorem KR.any {k : Ky} {k' : Key} (a : kyR k k') : ∀ {kvs : List (Ky × D)} {ws : List (Key × V)}, KR C p h H kvs ws → (kvs.any fun q => decide (q.1 = k)) = (ws.any fun q => decide (q.1 = k'))
  | _, _, .nil => rfl
  | (l, x) :: kvs, (l', y) :: ws, .cons ⟨e, r⟩ t => by
    rw [List.any_cons, List.any_cons, KR.any a t]
    congr 1
    exact decide_eq_decide.mpr (kyR_iff e a)
theorem KR.map {k : Ky} {k' : Key} {d : D} {v : V} (a : kyR k k') (rd : DR C p h H d v) : ∀ {kvs : List (Ky × D)} {ws : List (Key × V)}, KR C p h H kvs ws → KR C p h H (kvs.map fun q => if q.1 = k then (q.1, d) else q) (ws.map fun q => if q.1 = k' then (q.1, v) else q)
  | _, _, .nil => .nil
  | (l, x) :: kvs, (l', y) :: ws, .cons ⟨e, r⟩ t => by
    rw [List.map_cons, List.map_cons]
    refine .cons ?_ (KR.map a rd t)
    have ii := kyR_iff e a
    by_cases z : l = k
    · have z2 := ii.mp z
      simp only [if_pos z, if_pos z2]
      exact ⟨e, rd⟩
    · have z2 : ¬ l' = k' := fun q => z (ii.mpr q)
      simp only [if_neg z, if_neg z2]
      exact ⟨e, r⟩
theorem pair_app {α β : Type} {f : α → β → Prop} : ∀ {l m : List α} {l' m' : List β}, Paired f l l' → Paired f m m' → Paired f (l ++ m) (l' ++ m')
  | _, _, _, _, .nil, s => s
  | _, _, _, _, .cons a r, s => .cons a (pair_app r s)
theorem KR.put {k : Ky} {k' : Key} {d : D} {v : V} (a : kyR k k') (rd : DR C p h H d v) {kvs : List (Ky × D)} {ws : List (Key × V)} (r : KR C p h H kvs ws) : KR C p h H (putK k d kvs) (L2.putK ws k' v) := by
  unfold putK L2.putK
  rw [KR.any a r]
  split
  · exact KR.map a rd r
  · exact pair_app r (.cons ⟨a, rd⟩ .nil)
theorem QR.any {k : List Ky} {k' : List Key} (a : Paired kyR k k') : ∀ {kvs : List (List Ky × D)} {ws : List (List Key × V)}, QR C p h H kvs ws → (kvs.any fun q => decide (q.1 = k)) = (ws.any fun q => decide (q.1 = k'))
  | _, _, .nil => rfl
  | (l, x) :: kvs, (l', y) :: ws, .cons ⟨e, r⟩ t => by
    rw [List.any_cons, List.any_cons, QR.any a t]
    congr 1
    exact decide_eq_decide.mpr (kyRs_iff e a)
theorem QR.map {k : List Ky} {k' : List Key} {d : D} {v : V} (a : Paired kyR k k') (rd : DR C p h H d v) : ∀ {kvs : List (List Ky × D)} {ws : List (List Key × V)}, QR C p h H kvs ws → QR C p h H (kvs.map fun q => if q.1 = k then (q.1, d) else q) (ws.map fun q => if q.1 = k' then (q.1, v) else q)
  | _, _, .nil => .nil
  | (l, x) :: kvs, (l', y) :: ws, .cons ⟨e, r⟩ t => by
    rw [List.map_cons, List.map_cons]
    refine .cons ?_ (QR.map a rd t)
    have ii := kyRs_iff e a
    by_cases z : l = k
    · have z2 := ii.mp z
      simp only [if_pos z, if_pos z2]
      exact ⟨e, rd⟩
    · have z2 : ¬ l' = k' := fun q => z (ii.mpr q)
      simp only [if_neg z, if_neg z2]
      exact ⟨e, r⟩
theorem QR.put {k : List Ky} {k' : List Key} {d : D} {v : V} (a : Paired kyR k k') (rd : DR C p h H d v) {kvs : List (List Ky × D)} {ws : List (List Key × V)} (r : QR C p h H kvs ws) : QR C p h H (putQ k d kvs) (L2.putK ws k' v) := by
  unfold putQ L2.putK
  rw [QR.any a r]
  split
  · exact QR.map a rd r
  · exact pair_app r (.cons ⟨a, rd⟩ .nil)
def keyTo : Ky → Key
  | .inl i => .inl i
  | .inr s => .inr (sOf s)
theorem keyTo_r (k : Ky) : kyR k (keyTo k) := by cases k <;> rfl
theorem KR.fold : ∀ (ks : List Ky) {ds : List D} {vals : List V} {kvs : List (Ky × D)} {ws : List (Key × V)}, DRs C p h H ds vals → KR C p h H kvs ws → KR C p h H ((ks.zip ds).foldl (fun kvs p => putK p.1 p.2 kvs) kvs) (mergeK ws ((ks.map keyTo).zip vals))
  | [], _, _, _, _, _, r => r
  | _ :: _, _, _, _, _, .nil, r => r
  | k :: ks, _, _, _, _, .cons d ds, r => KR.fold ks ds (KR.put (keyTo_r k) d r)
end
/-! ### comprehensions -/
section
variable {C : Cst} {p1 : List Addr} {h1 : Hs} {H1 : AHp}
theorem compL_ne {elt cond : Env → Hs → R} {t : Tg} {s : Env} {lk : Lks} {c : String} {h' : Hs} : ∀ (xs acc : List D) (h : Hs), compL elt cond t s lk xs acc h ≠ .exc c h'
  | [], acc, h => by
    unfold compL
    split <;> exact nofun
  | x :: xs, acc, h => by
    unfold compL
    split
    · split
      · split
        · split
          · split
            · exact compL_ne xs _ _
            · exact nofun
          · exact nofun
        · exact compL_ne xs _ _
        · exact nofun
      · exact nofun
    · exact nofun
/-- the end of a comprehension's turns -/
def CEnd (C : Cst) (l : List Addr) (a : Addr) (p1 : List Addr) (h1 : Hs) (H1 : AHp) (Q : VK) : Rs → Prop
  | .ok ds h => ∀ p H vs, Ltr (C.hid l) p1 h1 H1 (C.hid (a :: l)) p h H → SR (C.hid (a :: l)) p h H → (∀ b ∈ l, H b = H1 b) → H a = some (.lst vs) → DRs (C.hid (a :: l)) p h H ds vs → Q (.ref a) H
  | _ => False
/-- a turn's state -/
def CSt (C : Cst) (l : List Addr) (a : Addr) (p1 : List Addr) (h1 : Hs) (H1 : AHp) (Q : VK) (elt cond : Env → Hs → R) (t : Tg) (s : Env) (σ : L2.St) (lk : Lks) (xs : List D) (H : AHp) : Prop :=
  ∃ p h acc vs, Ltr (C.hid l) p1 h1 H1 (C.hid (a :: l)) p h H ∧ SR (C.hid (a :: l)) p h H ∧ (∀ b ∈ l, H b = H1 b) ∧ H a = some (.lst vs) ∧ DRs (C.hid (a :: l)) p h H acc vs ∧ ERo (C.hid (a :: l)) p h H s σ (tgs t) ∧ CEnd C l a p1 h1 H1 Q (compL elt cond t s lk xs acc h)
theorem lc_w {P : Pr} {F : Nat → List D → Hs → R} {W : L2.WX} {hp : Bool} {elt cond : E} {t : Tg} {src : Src} {σ : L2.St} {H : AHp} {Q : VK} {tt : TT}
    (ht : ∀ l p h s σ H (Q' : Bool → AHp → Prop), Now (C.hid l) p h s σ H → OkR (C.hid l) p h H (ev P F cond s h) (fun v H1 => ∃ k, v = .bl k ∧ Q' k H1) (fun _ _ => False) → tt σ H Q')
    (q : tE P F C W (.comp hp elt t src cond) σ H Q) : tLc (tI P F C W src) (gT C.K t) tt (tE P F C (fun _ _ _ _ => False) elt) (tgs t) σ H Q := by
  obtain ⟨l, p, h, s, n, q⟩ := q
  simp only [ev] at q
  refine ⟨l, p, h, s, n, ?_⟩
  cases er : evr P F src s h with
  | bad => rw [er] at q; exact q.elim
  | exc c h' => rw [er] at q; exact q
  | ok xs lk h1 =>
    rw [er] at q
    intro p1 H1 J ex sr1 wk D eD
    replace q : OkR (C.hid l) p1 h1 H1 ((compL (ev P F elt) (ev P F cond) t s lk xs [] h1).bnd (mkL hp)) Q (wx C W σ) := OkR.step (r := (compL (ev P F elt) (ev P F cond) t s lk xs [] h1).bnd (mkL hp)) ex q
    have na : D ∉ l := fun m => by
      obtain ⟨_, u, z⟩ := sr1.hid D m
      rw [eD] at z; cases z
    have hidL : ∀ b ∈ l, ∃ u, H1 b = some u := fun b m => (sr1.hid b m).2
    obtain ⟨x0, sr0⟩ := hide (o := .lst []) sr1 eD
    have e0 : ERo (C.hid (D :: l)) p1 h1 (upd H1 D (.lst [])) s (wipe σ (tgs t)) (tgs t) := by
      refine ERo.ltr x0 ⟨by rw [wipe_length]; exact (n.er.ext ex).len, fun i d m e => ?_⟩
      rw [wipe_out m]
      exact (n.er.ext ex).at_ i d e
    refine ⟨fun i m H => i ≤ xs.length ∧ m = xs.length - i ∧ CSt C l D p1 h1 H1 Q (ev P F elt) (ev P F cond) t s (wipe σ (tgs t)) lk (xs.drop i) H, ⟨xs.length, Nat.zero_le _, rfl, ?_⟩, ?_⟩
    · refine ⟨p1, h1, [], [], x0, sr0, fun b m => ?_, upd_same, .nil, e0, ?_⟩
      · exact upd_ne fun z => na (by rw [← z]; exact m)
      · rw [List.drop_zero]
        cases ec : compL (ev P F elt) (ev P F cond) t s lk xs [] h1 with
        | ok ds h2 =>
          rw [ec] at q
          exact fun p H vs x sr hh ea r => made eD na x sr hh ea r q
        | exc c h2 => exact absurd ec (compL_ne _ _ _)
        | bad => rw [ec] at q; exact q.elim
    · rintro i m H ⟨li, rfl, p, h, acc, vs, x, sr, hh, ea, r, eo, ce⟩
      have lkq : lkOk lk h := by
        cases ed : xs.drop i with
        | nil =>
          rw [ed] at ce
          unfold compL at ce
          split at ce
          · assumption
          · exact ce.elim
        | cons y ys =>
          rw [ed] at ce
          unfold compL at ce
          split at ce
          · assumption
          · exact ce.elim
      obtain ⟨stop, go⟩ := wk _ _ _ _ x sr lkq
      cases ed : xs.drop i with
      | nil =>
        have li2 : xs.length ≤ i := List.drop_eq_nil_iff.mp ed
        have ei : i = xs.length := by omega
        subst ei
        refine .inl ⟨stop, ?_⟩
        rw [ed] at ce
        unfold compL at ce
        rw [if_pos lkq] at ce
        exact ce p H vs x sr hh ea r
      | cons y ys =>
        have li2 : i < xs.length := by
          by_cases z : i < xs.length
          · exact z
          · rw [List.drop_eq_nil_iff.mpr (by omega)] at ed; cases ed
        have ey : xs[i]? = some y := by
          have := congrArg List.head? ed
          rwa [List.head?_drop, List.head?_cons] at this
        have eys : xs.drop (i + 1) = ys := by
          rw [← List.tail_drop, ed]; rfl
        obtain ⟨g1, g2⟩ := go i y ey
        rw [ed] at ce
        unfold compL at ce
        rw [if_pos lkq] at ce
        refine .inr ⟨g1, fun H' => CSt C l D p1 h1 H1 Q (ev P F elt) (ev P F cond) t s (wipe σ (tgs t)) lk ys H', fun H' z => ⟨xs.length - (i + 1), by omega, by omega, rfl, by rw [eys]; exact z⟩, fun v H2 yl => ?_⟩
        obtain ⟨ex2, sr2, rd⟩ := g2 v H2 yl
        cases ep : putT t y s h with
        | none => rw [ep] at ce; exact ce.elim
        | some s1 =>
          rw [ep] at ce
          have x2 := x.trans ex2.ltr
          have hh2 : ∀ b ∈ l, H2 b = H1 b := fun b m => (ex2.hid b (List.mem_cons_of_mem _ m)).trans (hh b m)
          have ea2 : H2 D = some (.lst vs) := (ex2.hid D List.mem_cons_self).trans ea
          have r2 := DRs.ext ex2 r
          have eo2 := eo.ltr ex2.ltr
          refine gT_w (C := C.hid (D :: l)) sr2 ep rd eo2 fun σ2 er2 ll out => ⟨(wipe_eq ll out).trans wipe_wipe, ?_⟩
          have nw : Now (C.hid (D :: l)) p h s1 σ2 H2 := ⟨sr2, er2⟩
          refine ht (D :: l) p h s1 σ2 H2 _ nw ?_
          cases e1 : ev P F cond s1 h with
          | bad => simp only [e1] at ce; exact ce.elim
          | exc c h2 => simp only [e1] at ce; exact ce.elim
          | ok d h2 =>
            cases d <;> first | (simp only [e1] at ce; exact ce.elim) | skip
            rename_i kk
            intro p3 H3 v3 ex3 sr3 rd3
            cases rd3
            have x3 := x2.trans ex3.ltr
            have hh3 : ∀ b ∈ l, H3 b = H1 b := fun b m => (ex3.hid b (List.mem_cons_of_mem _ m)).trans (hh2 b m)
            have ea3 : H3 D = some (.lst vs) := (ex3.hid D List.mem_cons_self).trans ea2
            have r3 := DRs.ext ex3 r2
            have eo3 := eo2.ltr ex3.ltr
            refine ⟨kk, rfl, ?_⟩
            cases kk with
            | false =>
              simp only [e1] at ce
              exact ⟨p3, h2, acc, vs, x3, sr3, hh3, ea3, r3, eo3, ce⟩
            | true =>
              simp only [e1] at ce
              refine ⟨D :: l, p3, h2, s1, nw.ext ex3 sr3, ?_⟩
              cases e2 : ev P F elt s1 h2 with
              | bad => rw [e2] at ce; exact ce.elim
              | exc c h3 => rw [e2] at ce; exact ce.elim
              | ok d h3 =>
                rw [e2] at ce
                replace ce : CEnd C l D p1 h1 H1 Q (if acc.length < SZ then compL (ev P F elt) (ev P F cond) t s lk ys (acc ++ [d]) h3 else .bad) := ce
                split at ce
                · rename_i lz
                  intro p4 H4 v4 ex4 sr4 rd4
                  have x4 := x3.trans ex4.ltr
                  have ea4 : H4 D = some (.lst vs) := (ex4.hid D List.mem_cons_self).trans ea3
                  have r4 := DRs.ext ex4 r3
                  obtain ⟨x5, sr5⟩ := hid_upd (C := C.hid (D :: l)) (o := .lst (vs ++ [v4])) List.mem_cons_self sr4
                  refine ⟨vs, ea4, by rw [← r.len, SZ_eq]; exact lz, p4, h3, acc ++ [d], vs ++ [v4], x4.trans x5, sr5, fun b m => ?_, upd_same, (DRs.ltr x5 r4).app (.cons (rd4.ltr x5) .nil), (eo3.ltr ex4.ltr).ltr x5, ce⟩
                  rw [upd_ne (fun z => na (by rw [← z]; exact m))]
                  exact (ex4.hid b (List.mem_cons_of_mem _ m)).trans (hh3 b m)
                · exact ce.elim
end

/-! ### all expressions -/
section
variable {L : Lk} {P : Pr} {F : Nat → List D → Hs → R} {C : Cst} {k : Nat} {CX : CXT} {G : Gc} {X : Cx} {W : L2.WX}
/-- a comprehension's block is a place of its own -/
theorem Okc.blk (o : Okc L P F C k CX G X W) (hc : G.hot = false) (s : Shared) (H : AHp) (scope : Scope) (cl : List (Str × Addr)) (A : Addr) (fp : List Addr) :
    Okc L P F C k CX (blkG G scope) (X.blk s H scope (compEnvC scope cl A X.env) fp) (fun _ _ _ _ => False) where
  sc := by show relS scope X.env.scope = _; rw [o.sc]; rfl
  N := o.N
  nd := o.nd
  own := rfl
  calm := o.calm
  cold := o.cold
  room := o.room
  roomH := o.roomH
  hotp := fun z => by rw [show (blkG G scope).hot = G.hot from rfl, hc] at z; cases z
  pass := fun σ pins H s e s' _ z => absurd z (o.fx.none_ _ _ _ _ _)
  fx := o.fx
theorem Okc.blkH (o : Okc L P F C k CX G X W) {pp : Addr × Obj} (h1 : L2H.Hot1 X.A pp) (h3 : ∀ a c, C.xc a c → ExL L C pp a c) (hh : G.hot = true) (s : Shared) (H : AHp) (scope : Scope) (cl : List (Str × Addr)) (A : Addr) (fp : List Addr) :
    Okc L P F C k CX (blkG G scope) (VH.blkH X s H scope (compEnvC scope cl A X.env) fp pp) (fun _ _ _ _ => False) where
  sc := by show relS scope X.env.scope = _; rw [o.sc]; rfl
  N := o.N
  nd := o.nd
  own := rfl
  calm := o.calm
  cold := o.cold
  room := o.room
  roomH := o.roomH
  hotp := fun _ => ⟨pp, h1, List.mem_cons_self, h3⟩
  pass := fun σ pins H s e s' _ z => absurd z (o.fx.none_ _ _ _ _ _)
  fx := o.fx
theorem l_compH (o : Okc L P F C k CX G X W) {pp : Addr × Obj} (h1 : L2H.Hot1 X.A pp) (h3 : ∀ a c, C.xc a c → ExL L C pp a c) (hh : G.hot = true) {hp : Bool} {elt cond e : E} {t : Tg} {ex te it : PySem.Expr} {ifs : List PySem.Expr} {scope : Scope} {pos : Pos} (q0 : okTg (blkG G scope) t te = true) (q3 : blkC G.N G.sc scope (ownOf G (tgs t)) = true) (q4 : okC L (blkG G scope) cond ifs)
    (hi : PE X it (tE P F C W e)) (hs : ∀ x, foldedSetIterable it X.env x = pure x)
    (he : ∀ s H A cl fp, PE (VH.blkH X s H scope (compEnvC scope cl A X.env) fp pp) ex (tE P F C (fun _ _ _ _ => False) elt))
    (hc : ∀ s H A cl fp i, ifs = [i] → PT (VH.blkH X s H scope (compEnvC scope cl A X.env) fp pp) i (tTest (tE P F C (fun _ _ _ _ => False) cond))) :
    ∃ (tl : TE) (g : TG) (tt : TT) (te' : TE) (own : List (Str × Nat)), BlkOk X.N X.env.scope scope own ∧ PE X it tl ∧ (∀ (s : Shared) (H : AHp) (A : Addr) (cl : List (Str × Addr)) (fp : List Addr), PG (VH.blkH X s H scope (compEnvC scope cl A X.env) fp pp) te g) ∧
      (∀ (s : Shared) (H : AHp) (A : Addr) (cl : List (Str × Addr)) (fp : List Addr), PTs (VH.blkH X s H scope (compEnvC scope cl A X.env) fp pp) ifs tt) ∧ (∀ (s : Shared) (H : AHp) (A : Addr) (cl : List (Str × Addr)) (fp : List Addr), PE (VH.blkH X s H scope (compEnvC scope cl A X.env) fp pp) ex te') ∧
      ∀ σ H Q, tE P F C W (.comp hp elt t (.lst e) cond) σ H Q → tLc (iList X.K tl) g tt te' (own.map (·.2)) σ H Q := by
  have om : (ownOf G (tgs t)).map (·.2) = tgs t := own_map fun i m => by
    obtain ⟨x, e⟩ := okTg_in q0 i m
    exact ⟨x, e⟩
  have hb : BlkOk X.N X.env.scope scope (ownOf G (tgs t)) := by rw [o.N, o.sc]; exact blkOk_by q3
  have hg : ∀ (s : Shared) (H : AHp) (A : Addr) (cl : List (Str × Addr)) (fp : List Addr), PG (VH.blkH X s H scope (compEnvC scope cl A X.env) fp pp) te (gT X.K t) := fun s H A cl fp => g_ok (o.blkH h1 h3 hh s H scope cl A fp) q0
  have step : ∀ {tt : TT} {σ : L2.St} {H : AHp} {Q : VK}, tLc (tI P F C W (.lst e)) (gT C.K t) tt (tE P F C (fun _ _ _ _ => False) elt) (tgs t) σ H Q → tLc (iList X.K (tE P F C W e)) (gT X.K t) tt (tE P F C (fun _ _ _ _ => False) elt) ((ownOf G (tgs t)).map (·.2)) σ H Q := fun {tt σ H Q} q => by
    have hK : X.K = C.K := o.fx.hK
    rw [om]
    have z := lst_imp o q
    rw [hK] at z ⊢
    exact z
  rcases q4 with ⟨rfl, rfl⟩ | ⟨i, rfl, z1, z2⟩
  · refine ⟨_, _, tYes, _, ownOf G (tgs t), hb, hi, hg, fun s H A cl fp => pts_nil, he, fun σ H Q q => step (lc_w (fun l p h s σ H Q' n q => ?_) q)⟩
    simp only [ev] at q
    obtain ⟨k', e, q⟩ := q p H _ .refl n.sr (.bl true)
    cases e
    exact q
  · exact ⟨_, _, tTest (tE P F C (fun _ _ _ _ => False) cond), _, ownOf G (tgs t), hb, hi, hg, fun s H A cl fp => pts_one (hc s H A cl fp i rfl), he, fun σ H Q q => step (lc_w (fun l p h s σ H Q' n q => ⟨l, p, h, s, n, q⟩) q)⟩
theorem s_compH (o : Okc L P F C k CX G X W) {pp : Addr × Obj} (h1 : L2H.Hot1 X.A pp) (h2 : pp ∈ X.pn) (h3 : ∀ a c, C.xc a c → ExL L C pp a c) (hh : G.hot = true) {hp : Bool} {elt cond e : E} {t : Tg} {ex te it : PySem.Expr} {ifs : List PySem.Expr} {scope : Scope} {pos : Pos} (q0 : okTg (blkG G scope) t te = true) (q3 : blkC G.N G.sc scope (ownOf G (tgs t)) = true) (q4 : okC L (blkG G scope) cond ifs)
    (hi : PE X it (tE P F C W e)) (hs : ∀ x, foldedSetIterable it X.env x = pure x)
    (he : ∀ s H A cl fp, PE (VH.blkH X s H scope (compEnvC scope cl A X.env) fp pp) ex (tE P F C (fun _ _ _ _ => False) elt))
    (hc : ∀ s H A cl fp i, ifs = [i] → PT (VH.blkH X s H scope (compEnvC scope cl A X.env) fp pp) i (tTest (tE P F C (fun _ _ _ _ => False) cond))) :
    PE X (.ListComp ex [⟨te, it, ifs, 0⟩] scope pos) (tE P F C W (.comp hp elt t (.lst e) cond)) := by
  obtain ⟨tl, g, tt, te', own, b, hi, hg, ht, he, w⟩ := l_compH o h1 h3 hh (pos := pos) q0 q3 q4 hi hs he hc
  exact pe_weak (VH.pe_lcH h1 h2 o.nd hi b hg ht he hs) w
theorem l_comp (o : Okc L P F C k CX G X W) (cold : G.hot = false) {hp : Bool} {elt cond : E} {t : Tg} {src : Src} {ex te it : PySem.Expr} {ifs : List PySem.Expr} {scope : Scope} {pos : Pos} (q0 : okTg (blkG G scope) t te = true) (q3 : blkC G.N G.sc scope (ownOf G (tgs t)) = true) (q4 : okC L (blkG G scope) cond ifs)
    (hi : PI X te it (tI P F C W src)) (hs : ∀ x, foldedSetIterable it X.env x = pure x)
    (he : ∀ s H A cl fp, PE (X.blk s H scope (compEnvC scope cl A X.env) fp) ex (tE P F C (fun _ _ _ _ => False) elt))
    (hc : ∀ s H A cl fp i, ifs = [i] → PT (X.blk s H scope (compEnvC scope cl A X.env) fp) i (tTest (tE P F C (fun _ _ _ _ => False) cond))) :
    ∃ (wi : TI) (g : TG) (tt : TT) (te' : TE) (own : List (Str × Nat)), BlkOk X.N X.env.scope scope own ∧ PI X te it wi ∧ (∀ (s : Shared) (H : AHp) (A : Addr) (cl : List (Str × Addr)) (fp : List Addr), PG (X.blk s H scope (compEnvC scope cl A X.env) fp) te g) ∧
      (∀ (s : Shared) (H : AHp) (A : Addr) (cl : List (Str × Addr)) (fp : List Addr), PTs (X.blk s H scope (compEnvC scope cl A X.env) fp) ifs tt) ∧ (∀ (s : Shared) (H : AHp) (A : Addr) (cl : List (Str × Addr)) (fp : List Addr), PE (X.blk s H scope (compEnvC scope cl A X.env) fp) ex te') ∧
      ∀ σ H Q, tE P F C W (.comp hp elt t src cond) σ H Q → tLc wi g tt te' (own.map (·.2)) σ H Q := by
  have om : (ownOf G (tgs t)).map (·.2) = tgs t := own_map fun i m => by
    obtain ⟨x, e⟩ := okTg_in q0 i m
    exact ⟨x, e⟩
  have hb : BlkOk X.N X.env.scope scope (ownOf G (tgs t)) := by rw [o.N, o.sc]; exact blkOk_by q3
  have hg : ∀ (s : Shared) (H : AHp) (A : Addr) (cl : List (Str × Addr)) (fp : List Addr), PG (X.blk s H scope (compEnvC scope cl A X.env) fp) te (gT X.K t) := fun s H A cl fp => g_ok (o.blk cold s H scope cl A fp) q0
  rcases q4 with ⟨rfl, rfl⟩ | ⟨i, rfl, z1, z2⟩
  · refine ⟨_, _, tYes, _, ownOf G (tgs t), hb, hi, hg, fun s H A cl fp => pts_nil, he, fun σ H Q q => ?_⟩
    rw [om, o.fx.hK]
    refine lc_w (fun l p h s σ H Q' n q => ?_) q
    simp only [ev] at q
    obtain ⟨k', e, q⟩ := q p H _ .refl n.sr (.bl true)
    cases e
    exact q
  · refine ⟨_, _, tTest (tE P F C (fun _ _ _ _ => False) cond), _, ownOf G (tgs t), hb, hi, hg, fun s H A cl fp => pts_one (hc s H A cl fp i rfl), he, fun σ H Q q => ?_⟩
    rw [om, o.fx.hK]
    exact lc_w (fun l p h s σ H Q' n q => ⟨l, p, h, s, n, q⟩) q
theorem s_comp (o : Okc L P F C k CX G X W) (cold : G.hot = false) {hp : Bool} {elt cond : E} {t : Tg} {src : Src} {ex te it : PySem.Expr} {ifs : List PySem.Expr} {scope : Scope} {pos : Pos} (q0 : okTg (blkG G scope) t te = true) (q3 : blkC G.N G.sc scope (ownOf G (tgs t)) = true) (q4 : okC L (blkG G scope) cond ifs)
    (hi : PI X te it (tI P F C W src)) (hs : ∀ x, foldedSetIterable it X.env x = pure x)
    (he : ∀ s H A cl fp, PE (X.blk s H scope (compEnvC scope cl A X.env) fp) ex (tE P F C (fun _ _ _ _ => False) elt))
    (hc : ∀ s H A cl fp i, ifs = [i] → PT (X.blk s H scope (compEnvC scope cl A X.env) fp) i (tTest (tE P F C (fun _ _ _ _ => False) cond))) :
    PE X (.ListComp ex [⟨te, it, ifs, 0⟩] scope pos) (tE P F C W (.comp hp elt t src cond)) := by
  obtain ⟨wi, g, tt, te', own, b, hi, hg, ht, he, w⟩ := l_comp o cold (pos := pos) q0 q3 q4 hi hs he hc
  exact pe_weak (pe_lc (o.calm cold) o.nd hi b hg ht he hs) w
theorem fold_ok {e : PySem.Expr} {env : PySem.Env} (q : noSet e = true) : ∀ x, foldedSetIterable e env x = pure x := by
  intro x
  unfold foldedSetIterable
  split
  · cases q
  · rfl
theorem inv_O {e : E} {x : Option PySem.Expr} (q : okO L G e x = true) : (x = none ∧ e = .nop) ∨ ∃ y, x = some y ∧ okE L G e y = true ∧ isNop e = false := by
  unfold okO optOk at q
  cases x with
  | none =>
    cases e <;> first | exact .inl ⟨rfl, rfl⟩ | (cases q; done)
  | some y =>
    simp only [Bool.and_eq_true, Bool.not_eq_true'] at q
    exact .inr ⟨y, rfl, q.1, q.2⟩
def isBl : PySem.Expr → Bool
  | .BoolOp _ _ _ => true
  | _ => false
end
/-! ### dict displays -/
section
variable {P : Pr} {F : Nat → List D → Hs → R} {C : Cst} {X : Cx} {W : L2.WX}
def trsOf (P : Pr) (F : Nat → List D → Hs → R) (C : Cst) (W : L2.WX) : List Ky → Es → List (TE × TE)
  | k :: ks, .cons e es => (tC (kV (keyTo k)), tE P F C W e) :: trsOf P F C W ks es
  | _, _ => []
def Es.len : Es → Nat
  | .nil => 0
  | .cons _ es => es.len + 1
theorem es_len {L : Lk} {G : Gc} : ∀ {es : Es} {xs : List PySem.Expr}, okEs L G es xs = true → es.len = xs.length
  | .nil, [], _ => rfl
  | .nil, _ :: _, q => by simp [okEs] at q
  | .cons _ _, [], q => by simp [okEs] at q
  | .cons e es, x :: xs, q => by
    simp only [okEs, Bool.and_eq_true] at q
    show es.len + 1 = _
    rw [es_len q.2]; rfl
def kyE (k : Ky) (j : Nat) (pos : Pos) : PySem.Expr := match k with
  | .inl i => .Constant (.int i) j pos
  | .inr s => .Constant (.str (sOf s)) j pos
theorem okKs_cons {k : Ky} {ks : List Ky} {e : Option PySem.Expr} {es : List (Option PySem.Expr)} (q : okKs (k :: ks) (e :: es) = true) : (∃ j pos, e = some (kyE k j pos)) ∧ okKs ks es = true := by
  cases e with
  | none => cases k <;> simp [okKs] at q
  | some e =>
    cases k with
    | inl i =>
      cases e <;> try (simp only [okKs] at q; cases q; done)
      rename_i c j pos
      cases c <;> try (simp only [okKs] at q; cases q; done)
      simp only [okKs, Bool.and_eq_true, decide_eq_true_eq] at q
      obtain ⟨rfl, q⟩ := q
      exact ⟨⟨_, _, rfl⟩, q⟩
    | inr i =>
      cases e <;> try (simp only [okKs] at q; cases q; done)
      rename_i c j pos
      cases c <;> try (simp only [okKs] at q; cases q; done)
      simp only [okKs, Bool.and_eq_true, decide_eq_true_eq] at q
      obtain ⟨rfl, q⟩ := q
      exact ⟨⟨_, _, rfl⟩, q⟩
theorem ks_len : ∀ {ks : List Ky} {es : List (Option PySem.Expr)}, okKs ks es = true → ks.length = es.length
  | [], [], _ => rfl
  | [], _ :: _, q => by simp [okKs] at q
  | k :: ks, [], q => by cases k <;> simp [okKs] at q
  | k :: ks, e :: es, q => by rw [List.length_cons, List.length_cons, ks_len (okKs_cons q).2]
theorem okKs_some : ∀ {ks : List Ky} {es : List (Option PySem.Expr)}, okKs ks es = true → es.all (·.isSome) = true
  | [], [], _ => rfl
  | [], _ :: _, q => by simp [okKs] at q
  | k :: ks, [], q => by cases k <;> simp [okKs] at q
  | k :: ks, e :: es, q => by
    obtain ⟨⟨j, pos, rfl⟩, q2⟩ := okKs_cons q
    rw [List.all_cons, okKs_some q2]; rfl
theorem tPairs_mono : ∀ (ks : List Ky) (vs : Es) {σ : L2.St} {H : AHp} {Q Q' : List (V × V) → AHp → Prop}, tPairs (trsOf P F C W ks vs) σ H Q → (∀ ps H', Q ps H' → Q' ps H') → tPairs (trsOf P F C W ks vs) σ H Q'
  | [], _, σ, H, Q, Q', q, k => k _ _ q
  | _ :: _, .nil, σ, H, Q, Q', q, k => k _ _ q
  | k0 :: ks, .cons e es, σ, H, Q, Q', q, k => by
    have q : tE P F C W e σ H fun y H2 => tPairs (trsOf P F C W ks es) σ H2 fun ps H3 => Q ((kV (keyTo k0), y) :: ps) H3 := q
    exact tR.mono q fun y H2 z => tPairs_mono ks es z fun ps H3 z2 => k _ _ z2
theorem pairs_w {l : List Addr} : ∀ (vs : Es) (ks : List Ky) {p : List Addr} {h : Hs} {s : Env} {σ : L2.St} {H : AHp} {Qs : List V → AHp → Prop}, ks.length = vs.len → Now (C.hid l) p h s σ H → OkRs (C.hid l) p h H (evs P F vs s h) Qs (wx C W σ) →
    tPairs (trsOf P F C W ks vs) σ H fun ps H2 => ∃ vals, ps = ((ks.map keyTo).zip vals).map (fun kv => (kV kv.1, kv.2)) ∧ Qs vals H2
  | .nil, [], p, h, s, σ, H, Qs, hl, n, q => by
    simp only [evs] at q
    exact ⟨[], rfl, q p H [] .refl n.sr .nil⟩
  | .nil, _ :: _, p, h, s, σ, H, Qs, hl, n, q => by cases hl
  | .cons e es, [], p, h, s, σ, H, Qs, hl, n, q => by cases hl
  | .cons e es, k :: ks, p, h, s, σ, H, Qs, hl, n, q => by
    simp only [evs] at q
    show tE P F C W e σ H fun y H2 => tPairs (trsOf P F C W ks es) σ H2 fun ps H3 => ∃ vals, (kV (keyTo k), y) :: ps = _ ∧ Qs vals H3
    refine ⟨l, p, h, s, n, (OkR.bns q).mono fun v H1 ⟨p1, h1, d, ex1, sr1, rd, q1⟩ => ?_⟩
    have hl' : ks.length = es.len := by
      have : ks.length + 1 = es.len + 1 := hl
      omega
    have ih := pairs_w es ks (Qs := fun vals H3 => Qs (v :: vals) H3) hl' (n.ext ex1 sr1) ((OkRs.bns q1).mono fun vs H2 ⟨p2, h2, ds, ex2, sr2, rd2, q2⟩ => q2 p2 H2 _ .refl sr2 (.cons (rd.ext ex2) rd2))
    exact tPairs_mono ks es ih fun ps H3 ⟨vals, e1, e2⟩ => ⟨v :: vals, by rw [e1]; rfl, e2⟩
theorem s_dct0 {pos : Pos} : PE X (.Dict [] [] pos) (tE P F C W (.dct [] .nil)) := by
  refine pe_weak pe_dnewK fun σ H Q ⟨l, p, h, s, n, q⟩ => ?_
  simp only [ev, evs] at q
  intro a e
  have q : OkR (C.hid l) p h H (.ok (.ref h.length) (h ++ [.dct []])) Q (wx C W σ) := q
  have hH : ∀ b w, H b = some w → upd H a (.dK []) b = some w := fun b w z => by rw [upd_ne (ne_of_none z e)]; exact z
  exact q (p ++ [a]) _ _ (ext_cell n.sr e hH) (n.sr.cell e hH ⟨_, upd_same⟩ ⟨[], upd_same, .nil⟩) (.ref (by rw [← n.sr.len]; exact get_app_self _ _))
theorem s_dtn {pos : Pos} : PE X (.Dict [] [] pos) (tE P F C W .dtn) := by
  refine pe_weak pe_dnewT fun σ H Q ⟨l, p, h, s, n, q⟩ => ?_
  simp only [ev] at q
  intro a e
  have q : OkR (C.hid l) p h H (.ok (.ref h.length) (h ++ [.dt []])) Q (wx C W σ) := q
  have hH : ∀ b w, H b = some w → upd H a (.dT []) b = some w := fun b w z => by rw [upd_ne (ne_of_none z e)]; exact z
  exact q (p ++ [a]) _ _ (ext_cell n.sr e hH) (n.sr.cell e hH ⟨_, upd_same⟩ ⟨[], upd_same, .nil⟩) (.ref (by rw [← n.sr.len]; exact get_app_self _ _))
theorem s_dct {L : Lk} {G : Gc} {ks : List Ky} {vs : Es} {keys : List (Option PySem.Expr)} {values : List PySem.Expr} {pos : Pos} (hp : PPs X pos keys values (trsOf P F C W ks vs)) (h1 : okKs ks keys = true) (h2 : okEs L G vs values = true) (h3 : keys.length = values.length) (h4 : keys ≠ []) (h5 : keys.length ≤ 15) :
    PE X (.Dict keys values pos) (tE P F C W (.dct ks vs)) := by
  have hall : keys.all (·.isSome) = true := okKs_some h1
  refine pe_weak (pe_disp hp hall h3 h4 h5) fun σ H Q ⟨l, p, h, s, n, q⟩ => ?_
  simp only [ev] at q
  intro p0 e0
  have np : p0 ∉ l := fun m => by
    obtain ⟨_, u, z⟩ := n.sr.hid p0 m
    rw [e0] at z; cases z
  obtain ⟨x0, sr0⟩ := hide (o := .dK []) n.sr e0
  have n0 : Now (C.hid (p0 :: l)) p h s σ (upd H p0 (.dK [])) := ⟨sr0, ⟨n.er.len, fun i d e => let ⟨v, a, b⟩ := n.er.at_ i d e; ⟨v, a, b.ltr x0⟩⟩⟩
  have hh0 : ∀ b ∈ l, upd H p0 (.dK []) b = H b := fun b m => upd_ne fun z => np (by rw [← z]; exact m)
  have lk : ks.length = vs.len := by rw [ks_len h1, h3, es_len h2]
  have key : OkRs (C.hid (p0 :: l)) p h (upd H p0 (.dK [])) (evs P F vs s h) (fun vals H2 => H2 p0 = some (.dK []) ∧ Q (.ref p0) (upd H2 p0 (.dK (mergeK [] ((ks.map keyTo).zip vals))))) (wx C W σ) := by
    cases e : evs P F vs s h with
    | bad => rw [e] at q; exact q.elim
    | exc c h' =>
      rw [e] at q
      intro p' H' ex sr
      obtain ⟨y, sr'⟩ := unhide sr
      have z := (x0.trans ex.ltr).trans y
      exact q p' H' ⟨z.pre, z.st, fun b m => (ex.hid b (List.mem_cons_of_mem _ m)).trans (hh0 b m)⟩ sr'
    | ok ds h' =>
      rw [e] at q
      intro p' H' vals ex sr rd
      have ea : H' p0 = some (.dK []) := (ex.hid p0 List.mem_cons_self).trans upd_same
      refine ⟨ea, ?_⟩
      obtain ⟨x5, sr5⟩ := hid_upd (C := C.hid (p0 :: l)) (o := .dK (mergeK [] ((ks.map keyTo).zip vals))) List.mem_cons_self sr
      refine madeO (o := .dct ((ks.zip ds).foldl (fun kvs p => putK p.1 p.2 kvs) [])) np ((x0.trans ex.ltr).trans x5) sr5 (fun b m => ?_) upd_same ⟨_, upd_same, KR.fold ks (DRs.ltr x5 rd) .nil⟩ (show OkR (C.hid l) p h H (.ok (.ref h'.length) (h' ++ [.dct ((ks.zip ds).foldl (fun kvs p => putK p.1 p.2 kvs) [])])) Q (wx C W σ) from q)
      rw [upd_ne (fun z => np (by rw [← z]; exact m))]
      exact (ex.hid b (List.mem_cons_of_mem _ m)).trans (hh0 b m)
  refine tPairs_mono ks vs (pairs_w vs ks lk n0 key) fun ps H2 ⟨vals, e1, e2, e3⟩ => ⟨e2, (ks.map keyTo).zip vals, e1, ?_, e3⟩
  rw [List.length_zip, List.length_map]
  have := ks_len h1
  omega
theorem s_dck {a b : E} {x y : PySem.Expr} {pos : Pos} (ha : PE X x (tE P F C W a)) (hb : PE X y (tE P F C W b)) :
    PE X (.Dict [some x] [y] pos) (tE P F C W (.dck a b)) := by
  refine pe_weak (pe_disp (trs := [(tE P F C W a, tE P F C W b)]) (pps_cons ha hb pps_nil) rfl rfl (by simp) (by simp)) fun σ H Q ⟨l, p, h, s, n, q⟩ => ?_
  simp only [ev] at q
  intro p0 e0
  have np : p0 ∉ l := fun m => by
    obtain ⟨_, u, z⟩ := n.sr.hid p0 m
    rw [e0] at z; cases z
  obtain ⟨x0, sr0⟩ := hide (o := .dK []) n.sr e0
  have n0 : Now (C.hid (p0 :: l)) p h s σ (upd H p0 (.dK [])) := ⟨sr0, ⟨n.er.len, fun i d e => let ⟨v, a, b⟩ := n.er.at_ i d e; ⟨v, a, b.ltr x0⟩⟩⟩
  have hh0 : ∀ b ∈ l, upd H p0 (.dK []) b = H b := fun b m => upd_ne fun z => np (by rw [← z]; exact m)
  have key : OkRs (C.hid (p0 :: l)) p h (upd H p0 (.dK [])) ((ev P F a s h).bns fun d h1 => (ev P F b s h1).bns fun d2 h2 => .ok [d, d2] h2) (fun vals H2 => H2 p0 = some (.dK []) ∧ ∃ (k' : Key) (y : V), vals = [kV k', y] ∧ Q (.ref p0) (upd H2 p0 (.dK [(k', y)]))) (wx C W σ) := by
    cases e : ((ev P F a s h).bns fun d h1 => (ev P F b s h1).bns fun d2 h2 => Rs.ok [d, d2] h2) with
    | bad => rw [e] at q; exact q.elim
    | exc c h' =>
      rw [e] at q
      intro p' H' ex sr
      obtain ⟨y, sr'⟩ := unhide sr
      have z := (x0.trans ex.ltr).trans y
      exact q p' H' ⟨z.pre, z.st, fun b m => (ex.hid b (List.mem_cons_of_mem _ m)).trans (hh0 b m)⟩ sr'
    | ok ds h' =>
      rw [e] at q
      intro p' H' vals ex sr rd
      have ea : H' p0 = some (.dK []) := (ex.hid p0 List.mem_cons_self).trans upd_same
      refine ⟨ea, ?_⟩
      have q : OkR (C.hid l) p h H (dckD ds h') Q (wx C W σ) := q
      rcases ds with _ | ⟨kd, _ | ⟨vd, _ | ⟨_, _⟩⟩⟩
      · exact q.elim
      · exact q.elim
      · have q : OkR (C.hid l) p h H (match keyOf kd with | some q => .ok (.ref h'.length) (h' ++ [.dct [(q, vd)]]) | none => .bad) Q (wx C W σ) := q
        cases rd with
        | cons rk rd =>
          cases rd with
          | cons rv rd =>
            cases rd
            rename_i yv
            cases ek : keyOf kd with
            | none => rw [ek] at q; exact q.elim
            | some kq =>
              rw [ek] at q
              obtain ⟨k', kk, rfl⟩ := key_w rk ek
              refine ⟨k', _, rfl, ?_⟩
              obtain ⟨x5, sr5⟩ := hid_upd (C := C.hid (p0 :: l)) (o := .dK [(k', yv)]) List.mem_cons_self sr
              have rv5 := DR.ltr x5 rv
              refine madeO (o := .dct [(kq, vd)]) np ((x0.trans ex.ltr).trans x5) sr5 (fun b m => ?_) upd_same ⟨_, upd_same, KR.put kk rv5 .nil⟩ (show OkR (C.hid l) p h H (.ok (.ref h'.length) (h' ++ [.dct [(kq, vd)]])) Q (wx C W σ) from q)
              rw [upd_ne (fun z => np (by rw [← z]; exact m))]
              exact (ex.hid b (List.mem_cons_of_mem _ m)).trans (hh0 b m)
      · exact q.elim
  show tE P F C W a σ (upd H p0 (.dK [])) fun x H1 => tE P F C W b σ H1 fun y H2 => H2 p0 = some (.dK []) ∧ ∃ kvs : List (Key × V), [(x, y)] = kvs.map (fun kv => (kV kv.1, kv.2)) ∧ kvs.length ≤ 15 ∧ Q (.ref p0) (upd H2 p0 (.dK (mergeK [] kvs)))
  refine ⟨p0 :: l, p, h, s, n0, (OkR.bns key).mono fun v H1 ⟨p1, h1, d, ex1, sr1, rd, q1⟩ => ?_⟩
  refine ⟨p0 :: l, p1, h1, s, n0.ext ex1 sr1, (OkR.bns q1).mono fun v2 H2 ⟨p2, h2, d2, ex2, sr2, rd2, q2⟩ => ?_⟩
  obtain ⟨e1, k', y, ev, q⟩ := q2 p2 H2 [v, v2] .refl sr2 (.cons (rd.ext ex2) (.cons rd2 .nil))
  cases ev
  exact ⟨e1, [(k', v2)], rfl, by simp, q⟩
end
section
variable {L : Lk} {P : Pr} {F : Nat → List D → Hs → R} {C : Cst} {k : Nat} {CX : CXT}
/-- an expression's reading, its test's, its test's as a part of and, or -/
structure Snd (P : Pr) (F : Nat → List D → Hs → R) (C : Cst) (X : Cx) (W : L2.WX) (e : E) (pe : PySem.Expr) : Prop where
  v : PE X pe (tE P F C W e)
  t : shT pe = true → PT X pe (tTest (tE P F C W e))
  w : isBl pe = true → PW X pe (tTest (tE P F C W e))
theorem Snd.plain {X : Cx} {W : L2.WX} {e : E} {pe : PySem.Expr} (q : PE X pe (tE P F C W e)) (z : shP pe = true) : Snd P F C X W e pe := ⟨q, fun _ => pt_plain q z, fun y => by
  cases pe <;> first | (cases y; done) | (cases z; done)⟩
mutual
theorem sndE : ∀ (e : E) {G : Gc} {X : Cx} {W : L2.WX} {pe : PySem.Expr}, Okc L P F C k CX G X W → okE L G e pe = true → Snd P F C X W e pe
  | .non, G, X, W, pe, o, q => by obtain ⟨j, pos, rfl⟩ := inv_non q; exact .plain s_non rfl
  | .bl b, G, X, W, pe, o, q => by obtain ⟨j, pos, rfl⟩ := inv_bl q; exact .plain s_bl rfl
  | .int b, G, X, W, pe, o, q => by obtain ⟨j, pos, rfl⟩ := inv_int q; exact .plain s_int rfl
  | .str b, G, X, W, pe, o, q => by obtain ⟨j, pos, rfl⟩ := inv_str q; exact .plain s_str rfl
  | .var i, G, X, W, pe, o, q => by obtain ⟨x, pos, rfl, z⟩ := inv_var q; exact .plain (s_var o z) rfl
  | .glob g, G, X, W, pe, o, q => by obtain ⟨pos, rfl, z1, z2⟩ := inv_glob q; exact .plain (s_glob o z1 z2) rfl
  | .tup es, G, X, W, pe, o, q => by obtain ⟨l, j, pos, rfl, z1, z2⟩ := inv_tup q; exact .plain (s_tup (sndEs es o z1) z2 (evs_len z1)) rfl
  | .lst hp es, G, X, W, pe, o, q => by obtain ⟨l, pos, rfl, z1, z2⟩ := inv_lst q; exact .plain (s_lst (sndEs es o z1) z2 (evs_len z1)) rfl
  | .bin op hp a b, G, X, W, pe, o, q => by obtain ⟨x, y, pos, rfl, z1, z2⟩ := inv_bin q; exact .plain (s_bin o (sndE a o z1).v (sndE b o z2).v) rfl
  | .neg a, G, X, W, pe, o, q => by obtain ⟨x, pos, rfl, z1⟩ := inv_neg q; exact .plain (s_neg (sndE a o z1).v) rfl
  | .cmp op a b, G, X, W, pe, o, q => by
    obtain ⟨x, y, pos, rfl, z1, z2, z3⟩ := inv_cmp q
    exact ⟨s_cmp o (sndE a o z1).v (sndE b o z2).v z3, fun _ => t_cmp o (sndE a o z1).v (sndE b o z2).v z3, nofun⟩
  | .ch2 o1 o2 a b c, G, X, W, pe, o, q => by
    obtain ⟨x, y, z, pos, rfl, z1, z2, z3, z4⟩ := inv_ch2 q
    exact ⟨s_ch2 o (sndE a o z1).v (sndE b o z2).v (sndE c o z3).v z4, fun _ => t_ch2 o (sndE a o z1).v (sndE b o z2).v (sndE c o z3).v z4, nofun⟩
  | .ch3 o1 o2 o3 a b c d, G, X, W, pe, o, q => by
    obtain ⟨x, y, z, w, pos, rfl, z1, z2, z3, z5, z4⟩ := inv_ch3 q
    exact ⟨s_ch3 o (sndE a o z1).v (sndE b o z2).v (sndE c o z3).v (sndE d o z5).v z4, fun _ => t_ch3 o (sndE a o z1).v (sndE b o z2).v (sndE c o z3).v (sndE d o z5).v z4, nofun⟩
  | .and a b, G, X, W, pe, o, q => by
    rcases inv_and q with ⟨x, y, pos, rfl, z1, z2, z3, z4⟩ | ⟨x, y, z, r, pos, rfl, z1, z2, z3⟩
    · have w := w_and (pos := pos) ((sndE a o z1).t z2) (pw_and1 ((sndE b o z3).t z4))
      exact ⟨s_and (sndE a o z1).v (pe_one (sndE b o z3).v), fun _ => w.pt, fun _ => w⟩
    · have w := w_and ((sndE a o z1).t z2) ((sndE b o z3).w rfl)
      exact ⟨s_and (sndE a o z1).v (sndE b o z3).v, fun _ => w.pt, fun _ => w⟩
  | .or a b, G, X, W, pe, o, q => by
    rcases inv_or q with ⟨x, y, pos, rfl, z1, z2, z3, z4⟩ | ⟨x, y, z, r, pos, rfl, z1, z2, z3⟩
    · have w := w_or (pos := pos) ((sndE a o z1).t z2) (pw_or1 ((sndE b o z3).t z4))
      exact ⟨s_or (sndE a o z1).v (pe_one (sndE b o z3).v), fun _ => w.pt, fun _ => w⟩
    · have w := w_or ((sndE a o z1).t z2) ((sndE b o z3).w rfl)
      exact ⟨s_or (sndE a o z1).v (sndE b o z3).v, fun _ => w.pt, fun _ => w⟩
  | .not a, G, X, W, pe, o, q => by
    obtain ⟨x, pos, rfl, z1, z2⟩ := inv_not q
    exact ⟨s_not (sndE a o z1).v, fun _ => t_not ((sndE a o z1).t z2), nofun⟩
  | .ife c a b, G, X, W, pe, o, q => by
    obtain ⟨t, x, y, pos, rfl, z1, z2, z3, z4⟩ := inv_ife q
    exact ⟨s_ife ((sndE c o z1).t z2) (sndE a o z3).v (sndE b o z4).v, nofun, nofun⟩
  | .idx a b, G, X, W, pe, o, q => by obtain ⟨x, y, pos, rfl, z1, z2, z3⟩ := inv_idx q; exact .plain (s_idx o (sndE a o z1).v (sndE b o z2).v z3) rfl
  | .sli hp a lo hi, G, X, W, pe, o, q => by
    obtain ⟨x, l, u, p2, pos, rfl, z1, z2, z3⟩ := inv_sli q
    have hl : PO X l (tPa P F C W lo) := by
      rcases inv_O z2 with ⟨rfl, rfl⟩ | ⟨y, rfl, y1, y2⟩
      · exact s_part0
      · exact s_part (sndE lo o y1).v y2
    have hu : PO X u (tPa P F C W hi) := by
      rcases inv_O z3 with ⟨rfl, rfl⟩ | ⟨y, rfl, y1, y2⟩
      · exact s_part0
      · exact s_part (sndE hi o y1).v y2
    exact .plain (s_sli o (sndE a o z1).v hl hu) rfl
  | .fld a f, G, X, W, pe, o, q => by obtain ⟨x, pos, rfl, z1, z2⟩ := inv_fld q; exact .plain (s_fld o (sndE a o z1).v z2) rfl
  | .call f dr es, G, X, W, pe, o, q => by obtain ⟨x, p0, xs, pos, rfl, z1, z2, z3, z4⟩ := inv_call q; exact .plain (s_call o z1 z2 (sndEs es o z3) z3 z4) rfl
  | .meth a m dr es, G, X, W, pe, o, q => by obtain ⟨x, p0, xs, pos, rfl, z1, z2, z3, z4, z5, z6⟩ := inv_meth q; exact .plain (s_meth o z6 (sndE a o z1).v z2 (sndEs es o z3) z3 z4 z5) rfl
  | .new c es, G, X, W, pe, o, q => by obtain ⟨p0, xs, pos, rfl, z1, z2, z3, z4⟩ := inv_new q; exact .plain (s_new o z4 z1 z2 (sndEs es o z3) z3) rfl
  | .blt b hp es, G, X, W, pe, o, q => by obtain ⟨p0, xs, pos, rfl, z1, z2, z3, z4, z5, z6⟩ := inv_blt q; exact .plain (s_blt o z6 z1 z2 (sndEs es o z3) z3 z4) rfl
  | .mth m hp a es, G, X, W, pe, o, q => by obtain ⟨x, p0, xs, pos, rfl, z1, z2, z3, z4, z5, z6⟩ := inv_mth q; exact .plain (s_mth o z1 (sndE a o z2).v z3 (sndEs es o z4) z4 z5 z6) rfl
  | .comp hp elt t src cond, G, X, W, pe, o, q => by
    obtain ⟨ex, te, it, ifs, scope, pos, rfl, z1, z2, z3, z4, z5⟩ := inv_comp q
    cases eh : G.hot with
    | false =>
      obtain ⟨y1, y2⟩ := sndR src o eh z2
      refine .plain (s_comp o eh (pos := pos) z1 z4 z5 y1 (fold_ok y2) (fun s H A cl fp => (sndE elt (o.blk eh s H scope cl A fp) z3).v) fun s H A cl fp i e => ?_) rfl
      rcases z5 with ⟨_, rfl⟩ | ⟨i', rfl, y3, y4⟩
      · cases e
      · cases e
        exact (sndE cond (o.blk eh s H scope cl A fp) y3).t y4
    | true =>
      obtain ⟨pp, h1, h2, h3⟩ := o.hotp eh
      cases src with
      | lst e =>
        simp only [okR, Bool.and_eq_true] at z2
        refine .plain (s_compH o h1 h2 h3 eh (pos := pos) z1 z4 z5 (sndE e o z2.1).v (fold_ok z2.2) (fun s H A cl fp => (sndE elt (o.blkH h1 h3 eh s H scope cl A fp) z3).v) fun s H A cl fp i e => ?_) rfl
        rcases z5 with ⟨_, rfl⟩ | ⟨i', rfl, y3, y4⟩
        · cases e
        · cases e
          exact (sndE cond (o.blkH h1 h3 eh s H scope cl A fp) y3).t y4
      | _ => simp [okR, eh] at z2
  | .inst a c, G, X, W, pe, o, q => by
    obtain ⟨p0, v, y, py, pos, rfl, z1, z2, z3, z4, z5⟩ := inv_inst q
    have ha := (sndE a o z2).v
    rcases z5 with ⟨b, e1, rfl⟩ | ⟨rfl, e1⟩ | ⟨n, rfl, rfl, e1⟩ | ⟨n, rfl, rfl, e1⟩
    · exact .plain (s_inst o z1 ha z3 z4 e1) rfl
    · refine .plain (s_instX (cv := .type "ValueError") o z1 ha z3 (ty_ve o e1 z4) (fun u r => r) rfl fun d h b e => ?_) rfl
      unfold instD crB at e
      cases d <;> first | (cases e; done) | skip
      cases e
      exact ⟨_, rfl, fun z => o.fx.kitv _ z⟩
    · obtain ⟨y1, y2, y3⟩ := o.fx.cv _ e1
      obtain ⟨k1, k2, k3⟩ := o.gl z4
      refine .plain (s_instX (c := .ref (C.ca n)) (cv := .ref (C.ca n)) o z1 ha z3 (pe_glob k1 y2 rfl k2) (fun u r => r) rfl fun d h b e => ?_) rfl
      unfold instD crB at e
      cases d <;> first | (cases e; done) | skip
      cases e
      exact ⟨_, rfl, fun z => (o.fx.kit _ _ z e1).1⟩
    · exact .plain (s_instC o z1 ha z3 z4 e1) rfl
  | .frz a, G, X, W, pe, o, q => by
    rw [okE_frz] at q
    have h := sndE a o q
    exact ⟨pe_weak h.v fun _ _ _ z => frz_imp z, fun y => pt_weak (h.t y) fun _ _ _ z => frz_imp z, fun y => pw_weak (h.w y) fun _ _ _ z => frz_imp z⟩
  | .drop a, G, X, W, pe, o, q => by
    rw [okE_drop] at q
    have h := sndE a o q
    exact ⟨pe_weak h.v fun _ _ _ z => drop_imp z, fun y => pt_weak (h.t y) fun _ _ _ z => drop_imp z, fun y => pw_weak (h.w y) fun _ _ _ z => drop_imp z⟩
  | .nop, G, X, W, pe, o, q => by cases pe <;> simp [okE] at q
  | .dct ks vs, G, X, W, pe, o, q => by
    obtain ⟨keys, values, pos, rfl, z1, z2, z3, z5⟩ := inv_dct q
    by_cases z4 : keys = []
    · subst z4
      have e1 := ks_len z1
      have e1 : ks = [] := List.length_eq_zero_iff.mp e1
      have e2 : values = [] := List.length_eq_zero_iff.mp z3.symm
      subst e1 e2
      cases vs with
      | nil => exact .plain s_dct0 rfl
      | cons _ _ => simp [okEs] at z2
    · exact .plain (s_dct (sndPs vs o z1 z2 z3) z1 z2 z3 z4 z5) rfl
  | .dtn, G, X, W, pe, o, q => by
    obtain ⟨pos, rfl⟩ := inv_dtn q
    exact .plain s_dtn rfl
  | .rvs hp a, G, X, W, pe, o, q => by
    rcases inv_rvs q with ⟨p0, p1, v, pos2, pos, rfl, z1, z2, z3, z4, z5⟩ | ⟨x, j, p1, p2, p3, pos, rfl, z1⟩
    · exact .plain (s_rvs o z5 z1 z2 (sndE a o z3).v z4) rfl
    · exact .plain (s_rev1 o (sndE a o z1).v) rfl
  | .dck a b, G, X, W, pe, o, q => by
    obtain ⟨x, y, pos, rfl, z1, z2⟩ := inv_dck q
    exact .plain (s_dck (sndE a o z1).v (sndE b o z2).v) rfl
theorem sndEs : ∀ (es : Es) {G : Gc} {X : Cx} {W : L2.WX} {xs : List PySem.Expr}, Okc L P F C k CX G X W → okEs L G es xs = true → PA X xs (tEs P F C W es)
  | .nil, G, X, W, xs, o, q => by
    cases xs with
    | nil => exact s_nil
    | cons x xs => simp [okEs] at q
  | .cons e es, G, X, W, xs, o, q => by
    cases xs with
    | nil => simp [okEs] at q
    | cons x xs =>
      simp only [okEs, Bool.and_eq_true] at q
      exact s_cons (sndE e o q.1.1).v q.1.2 (sndEs es o q.2)
theorem sndPs : ∀ (vs : Es) {G : Gc} {X : Cx} {W : L2.WX} {ks : List Ky} {keys : List (Option PySem.Expr)} {values : List PySem.Expr} {pos : Pos}, Okc L P F C k CX G X W → okKs ks keys = true → okEs L G vs values = true → keys.length = values.length → PPs X pos keys values (trsOf P F C W ks vs)
  | .nil, G, X, W, ks, keys, values, pos, o, q1, q2, q3 => by
    cases values with
    | cons _ _ => simp [okEs] at q2
    | nil =>
      have : keys = [] := List.length_eq_zero_iff.mp q3
      subst this
      have e := ks_len q1
      have : ks = [] := List.length_eq_zero_iff.mp e
      subst this
      exact pps_nil
  | .cons e es, G, X, W, ks, keys, values, pos, o, q1, q2, q3 => by
    cases values with
    | nil => simp [okEs] at q2
    | cons x xs =>
      simp only [okEs, Bool.and_eq_true] at q2
      cases keys with
      | nil => simp at q3
      | cons ky keys =>
        cases ks with
        | nil => simp [okKs] at q1
        | cons k0 ks =>
          obtain ⟨⟨j, pp, rfl⟩, q4⟩ := okKs_cons q1
          have hk : PE X (kyE k0 j pp) (tC (kV (keyTo k0))) := by
            cases k0 with
            | inl i => exact pe_int
            | inr s => exact pe_str
          exact pps_cons hk (sndE e o q2.1.1).v (sndPs es o q4 q2.2 (by simpa using q3))
theorem sndR : ∀ (src : Src) {G : Gc} {X : Cx} {W : L2.WX} {t it : PySem.Expr}, Okc L P F C k CX G X W → G.hot = false → okR L G src t it = true → PI X t it (tI P F C W src) ∧ noSet it = true
  | .seq e, G, X, W, t, it, o, _, q => by
    simp only [okR, Bool.and_eq_true] at q
    exact ⟨i_seq o (sndE e o q.1.1).v, q.1.2⟩
  | .lst e, G, X, W, t, it, o, _, q => by
    simp only [okR, Bool.and_eq_true] at q
    exact ⟨i_lsW o (sndE e o q.1).v, q.2⟩
  | .rg1 a, G, X, W, t, it, o, _, q => by
    obtain ⟨p0, x, pos, rfl, z1, z2, z3⟩ := inv_rg1 q
    exact ⟨i_rg1 o z1 (sndE a o z2).v z3, rfl⟩
  | .rg2 a b, G, X, W, t, it, o, _, q => by
    obtain ⟨p0, x, y, pos, rfl, z1, z2, z3, z4, z5⟩ := inv_rg2 q
    exact ⟨i_rg2 o z1 (sndE a o z2).v z4 (sndE b o z3).v z5, rfl⟩
  | .rg3 _ _ _, G, X, W, t, it, o, _, q => by simp [okR] at q
  | .enum a, G, X, W, t, it, o, _, q => by
    obtain ⟨elts, kk, tp, p0, x, pos, rfl, rfl, z1, z2, z3⟩ := inv_enum q
    exact ⟨i_enum o z1 (sndE a o z2).v z3, rfl⟩
  | .zip a b, G, X, W, t, it, o, _, q => by
    obtain ⟨elts, kk, tp, p0, x, y, pos, rfl, rfl, z1, z2, z3, z4, z5⟩ := inv_zip q
    exact ⟨i_zip o z1 (sndE a o z2).v z4 (sndE b o z3).v z5, rfl⟩
  | .rev a, G, X, W, t, it, o, _, q => by
    obtain ⟨p0, x, pos, rfl, z1, z2, z3⟩ := inv_rev q
    exact ⟨i_rev o z1 (sndE a o z2).v z3, rfl⟩
end
end
end VI
/-! V11: statements. -/
namespace VI
open PySem PySem.Spec PyProof.Rows L2

/-! ### the text of statements -/
def asgOk : PySem.Expr → PySem.Expr → Bool
  | _, .SetComp _ _ _ _ => false
  | _, .DictComp _ _ _ _ _ => false
  | .Tuple _ _ _, .Tuple _ _ _ => false
  | _, _ => true
def noComp : PySem.Expr → Bool
  | .ListComp _ _ _ _ => false
  | .SetComp _ _ _ _ => false
  | .DictComp _ _ _ _ _ => false
  | _ => true
/-- a name that a comprehension's list goes to at once -/
def swB (G : Gc) (scope : Scope) (y : Str) (py vp : Pos) : Bool := decide (G.sc.names.lookup y = some .local) && (py.line == vp.line) && !(scope.names.any fun (n, k) => n == y && (k == .local || k == .cell))
structure Lx extends Lk
def asMk : PySem.Expr → Option (Str × Str)
  | .Call (.Name x _) [.Constant (.str m) _ _] [] _ => some (x, m)
  | _ => none
def okS1 (L : Lx) (G : Gc) : S → PySem.Stmt → Bool
  | .asg t e, .Assign [tg] v _ => okTg G t tg && okE L.toLk G e v && asgOk tg v
  | .setf o f e, .Assign [.Attribute x n _] v _ => decide (Str.ofString f = n) && okE L.toLk G o x && okE L.toLk G e v && asgOk x v
  | .sets o lo hi e, .Assign [.Subscript x (.Slice (some l) (some u) none _) _] v _ => okE L.toLk G o x && okE L.toLk G lo l && okE L.toLk G hi u && okE L.toLk G e v
  | .seti o i e, .Assign [.Subscript x y _] v _ => okE L.toLk G o x && okE L.toLk G i y && okE L.toLk G e v && shp y
  | .exp e, .Expr v _ => okE L.toLk G e v && noComp v
  | .ret e, .Return (some v) _ => okE L.toLk G e v
  | .retn, .Return none _ => true
  | .rai c, .Raise (some x) none _ => (match asMk x with
      | some (n, _) => decide (Str.ofString c = n) && okG G n && L.ex c && !G.hot
      | none => false)
  | .pas, .Pass _ => true
  | _, _ => false
def asIf : PySem.Stmt → Option (PySem.Expr × List PySem.Stmt × List PySem.Stmt)
  | .If t x y _ => some (t, x, y)
  | _ => none
def asFor : PySem.Stmt → Option (PySem.Expr × PySem.Expr × List PySem.Stmt)
  | .For tg it bd [] _ => some (tg, it, bd)
  | _ => none
def asWhl : PySem.Stmt → Option (PySem.Expr × List PySem.Stmt)
  | .While t bd [] _ => some (t, bd)
  | _ => none
def asTry : PySem.Stmt → Option (List PySem.Stmt × List ExceptHandler)
  | .Try bd hds [] [] _ => some (bd, hds)
  | _ => none
/-- an except clause: its class, its name, its suite -/
def asHd : ExceptHandler → Option (Str × Option Str × PySem.Stmt × List PySem.Stmt)
  | .ExceptHandler (some (.Name x _)) n (b :: su) _ => some (x, n, b, su)
  | _ => none
theorem asTry_eq {e : PySem.Stmt} {bd : List PySem.Stmt} {hds : List ExceptHandler} (q : asTry e = some (bd, hds)) : ∃ pos, e = .Try bd hds [] [] pos := by
  unfold asTry at q
  split at q
  · cases q; exact ⟨_, rfl⟩
  · cases q
theorem asHd_eq {e : ExceptHandler} {x : Str} {n : Option Str} {b : PySem.Stmt} {su : List PySem.Stmt} (q : asHd e = some (x, n, b, su)) : ∃ p pos, e = .ExceptHandler (some (.Name x p)) n (b :: su) pos := by
  unfold asHd at q
  split at q
  · cases q; exact ⟨_, _, rfl⟩
  · cases q
def Hd.isNil : Hd → Bool
  | .nil => true
  | _ => false
/-- a clause's name: one clause alone may have one -/
def okHn (G : Gc) (alone : Bool) (o : Option Nat) (n : Option Str) : Bool := match o, n with
  | none, none => true
  | some i, some y => alone && decide (G.N[i]? = some y) && decide (G.sc.names.lookup y = some .local)
  | _, _ => false
theorem asMk_eq {e : PySem.Expr} {x m : Str} (q : asMk e = some (x, m)) : ∃ p j p2 pos, e = .Call (.Name x p) [.Constant (.str m) j p2] [] pos := by
  unfold asMk at q
  split at q
  · cases q; exact ⟨_, _, _, _, rfl⟩
  · cases q
theorem asIf_eq {e : PySem.Stmt} {t : PySem.Expr} {x y : List PySem.Stmt} (q : asIf e = some (t, x, y)) : ∃ pos, e = .If t x y pos := by
  unfold asIf at q
  split at q
  · cases q; exact ⟨_, rfl⟩
  · cases q
theorem asFor_eq {e : PySem.Stmt} {t i : PySem.Expr} {x : List PySem.Stmt} (q : asFor e = some (t, i, x)) : ∃ pos, e = .For t i x [] pos := by
  unfold asFor at q
  split at q
  · cases q; exact ⟨_, rfl⟩
  · cases q
theorem asWhl_eq {e : PySem.Stmt} {t : PySem.Expr} {x : List PySem.Stmt} (q : asWhl e = some (t, x)) : ∃ pos, e = .While t x [] pos := by
  unfold asWhl at q
  split at q
  · cases q; exact ⟨_, rfl⟩
  · cases q
mutual
def okS (L : Lx) (G : Gc) : S → PySem.Stmt → Bool
  | .ite c a b, st => match asIf st with
    | some (t, x, y) => okE L.toLk G c t && shT t && okSs L G a x && okSs L G b y
    | none => false
  | .loop t src body, st => match asFor st with
    | some (tg, it, bd) => okTg G t tg && okR L.toLk G src tg it && okSs L G body bd && !G.hot
    | none => false
  | .whl c body, st => match asWhl st with
    | some (t, bd) => okE L.toLk G c t && shT t && okSs L G body bd && !G.hot
    | none => false
  | .frz _, _ => false
  | .try body hs, st => match asTry st with
    | some (bd, hds) => okSs L G body bd && okHd L G true hs hds && !G.hot
    | none => false
  | .par _ _ _ _, _ => false
  | s, st => okS1 L G s st
def okSs (L : Lx) (G : Gc) : Ss → List PySem.Stmt → Bool
  | .nil, [] => true
  | .nil, _ :: _ => false
  | .cons s ss, sts => match s with
    | .frz _ => okSs L G ss sts
    | _ => match sts with
      | [] => false
      | st :: r => okS L G s st && okSs L G ss r
def okHd (L : Lx) (G : Gc) : Bool → Hd → List ExceptHandler → Bool
  | fst, .nil, hds => hds.isEmpty && !fst
  | fst, .one c o suite rest, hds => match hds with
    | [] => false
    | hd :: r => match asHd hd with
      | some (x, n, b, su) => okHn G (fst && rest.isNil && r.isEmpty) o n && decide (Str.ofString c = x) && okG G x && L.ex c && okSs L G.heat suite (b :: su) && (if o.isSome then true else okHd L G false rest r || (rest.isNil && r.isEmpty))
      | none => false
end

/-! ### readings -/
def OkX (C : Cst) (p : List Addr) (h : Hs) (H : AHp) (r : X) (En : Ends) (W : L2.WX) : Prop := match r with
  | .nx s' h' => ∀ p' H' σ', Ext C p h H p' h' H' → Now C p' h' s' σ' H' → En.nx σ' H'
  | .rt d h' => ∀ p' H' v, Ext C p h H p' h' H' → SR C p' h' H' → DR C p' h' H' d v → En.rt v H'
  | .ex c s' h' => ∀ p' H' σ', Ext C p h H p' h' H' → Now C p' h' s' σ' H' → W (C.cv c) none σ' H'
  | .bad => False
def tX (C : Cst) (W : L2.WX) (f : Env → Hs → X) : TS := fun En σ H => ∃ l p h s, Now (C.hid l) p h s σ H ∧ OkX (C.hid l) p h H (f s h) En W
section
variable {C : Cst} {W : L2.WX} {p p1 : List Addr} {h h1 : Hs} {s : Env} {σ : L2.St} {H H1 : AHp} {En : Ends}
theorem OkX.step {r : X} (e : Ext C p h H p1 h1 H1) (q : OkX C p h H r En W) : OkX C p1 h1 H1 r En W := by
  cases r with
  | nx s' h' => exact fun p' H' σ' a b => q p' H' σ' (e.trans a) b
  | rt d h' => exact fun p' H' v a b c => q p' H' v (e.trans a) b c
  | ex c s' h' => exact fun p' H' σ' a b => q p' H' σ' (e.trans a) b
  | bad => exact q
theorem OkX.bx {r : R} {k : D → Hs → X} (n : Now C p h s σ H) (q : OkX C p h H (r.bx s k) En W) : OkR C p h H r (fun v H1 => ∃ p1 h1 x, Ext C p h H p1 h1 H1 ∧ Now C p1 h1 s σ H1 ∧ DR C p1 h1 H1 x v ∧ OkX C p1 h1 H1 (k x h1) En W) (wx C W σ) := by
  cases r with
  | ok d h' => exact fun p' H' v a b c => ⟨p', h', d, a, n.ext a b, c, OkX.step (r := k d h') a q⟩
  | exc c h' => exact fun p' H' a b => q p' H' σ a (n.ext a b)
  | bad => exact q
theorem OkX.tsx {r : R} {a b : Hs → X} (n : Now C p h s σ H) (q : OkX C p h H (r.tsx s a b) En W) : OkR C p h H r (fun v H1 => ∃ k, v = .bl k ∧ ∃ p1 h1, Ext C p h H p1 h1 H1 ∧ Now C p1 h1 s σ H1 ∧ OkX C p1 h1 H1 (if k = true then a h1 else b h1) En W) (wx C W σ) := by
  cases r with
  | ok d h' =>
    cases d with
    | bl k =>
      intro p' H' v x y z
      cases z
      refine ⟨k, rfl, p', h', x, n.ext x y, ?_⟩
      cases k
      · exact OkX.step (r := b h') x q
      · exact OkX.step (r := a h') x q
    | _ => exact q.elim
  | exc c h' => exact fun p' H' a b => q p' H' σ a (n.ext a b)
  | bad => exact q
theorem OkX.lbx {r : Rl} {k : List D → Lks → Hs → X} (n : Now C p h s σ H) (q : OkX C p h H (r.bx s k) En W) : OkL C p h H r (fun J H1 => ∃ p1 h1 xs lk, Ext C p h H p1 h1 H1 ∧ Now C p1 h1 s σ H1 ∧ Wk C p1 h1 H1 J xs lk ∧ OkX C p1 h1 H1 (k xs lk h1) En W) (wx C W σ) := by
  cases r with
  | ok d lk h' => exact fun p' H' J a b c => ⟨p', h', d, lk, a, n.ext a b, c, OkX.step (r := k d lk h') a q⟩
  | exc c h' => exact fun p' H' a b => q p' H' σ a (n.ext a b)
  | bad => exact q
end
section
variable {C : Cst} {W : L2.WX} {l : List Addr} {p p1 : List Addr} {h h1 : Hs} {s : Env} {σ : L2.St} {H H1 : AHp} {En : Ends}
theorem onex_w {f : Env → Hs → R} {k : D → Hs → X} (n : Now (C.hid l) p h s σ H) (q : OkX (C.hid l) p h H ((f s h).bx s k) En W) :
    tR C W f σ H fun v H1 => ∃ p1 h1 x, Ext (C.hid l) p h H p1 h1 H1 ∧ Now (C.hid l) p1 h1 s σ H1 ∧ DR (C.hid l) p1 h1 H1 x v ∧ OkX (C.hid l) p1 h1 H1 (k x h1) En W := ⟨l, p, h, s, n, OkX.bx n q⟩
theorem tstx_w {f : Env → Hs → R} {a b : Hs → X} (n : Now (C.hid l) p h s σ H) (q : OkX (C.hid l) p h H ((f s h).tsx s a b) En W) :
    tR C W f σ H fun v H1 => ∃ k, v = .bl k ∧ ∃ p1 h1, Ext (C.hid l) p h H p1 h1 H1 ∧ Now (C.hid l) p1 h1 s σ H1 ∧ OkX (C.hid l) p1 h1 H1 (if k = true then a h1 else b h1) En W := ⟨l, p, h, s, n, OkX.tsx n q⟩
end
structure OkSt (L : Lx) (P : Pr) (F : Nat → List D → Hs → R) (C : Cst) (k : Nat) (CX : CXT) (G : Gc) (X : Cx) (W : L2.WX) : Prop extends Okc L.toLk P F C k CX G X W where
  kind : X.env.scope.kind = .function
  pso : PassesOwn (model X.prog X.w) X.A X.env X.xe
  tk : L2N.Takes X W
  cxe : CX = L2N.CX X.prog X.w
  hs : X.stack = X.env :: X.outer
  hf : X.env.frame = some X.env.locals
theorem OkSt.mkx {L : Lx} {P : Pr} {F : Nat → List D → Hs → R} {C : Cst} {k : Nat} {CX : CXT} {G : Gc} {X : Cx} {W : L2.WX} (o : OkSt L P F C k CX G X W) (c : String) (hc : L.ex c = true) (hg : Gl X (Str.ofString c)) (hd : (Str.ofString c == ("__debug__" : Str)) = false) (m : Str) (j : Nat) (p p2 pos : Pos) :
    L2N.PMk X (.Call (.Name (Str.ofString c) p) [.Constant (.str m) j p2] [] pos) (fun _ H Q => Q (C.cv c) none H) := by
  obtain ⟨x1, x2, x3, x4⟩ := o.fx.mkE c hc
  obtain ⟨y1, y2, _⟩ := o.fx.cv c hc
  have y1 : C.cv c = .ref (C.ca c) := y1
  rw [y1]
  exact L2N.pmk_own PySem.F.excBase_ValueError x1 y2 x2 (raises_own x3 x4) hg hd
/-- within a try's body -/
theorem OkSt.tr {L : Lx} {P : Pr} {F : Nat → List D → Hs → R} {C : Cst} {k : Nat} {CX : CXT} {G : Gc} {X : Cx} {W W' : L2.WX} (o : OkSt L P F C k CX G X W) (cold : G.hot = false) {pn : List (Addr × Obj)} {xe : Value → Shared → Prop} (tk : L2N.Takes (X.tr pn xe) W') (pso : PassesOwn (model X.prog X.w) X.A X.env xe) :
    OkSt L P F C k CX G (X.tr pn xe) W' :=
  { sc := o.sc, N := o.N, nd := o.nd, own := o.own, calm := o.calm, cold := o.cold, room := o.room, roomH := o.roomH, fx := o.fx, kind := o.kind, pso := pso, tk := tk, cxe := o.cxe, hs := o.hs, hf := o.hf
    hotp := fun z => by rw [cold] at z; cases z
    pass := fun σ pins H s e s' J z => by
      have z := z
      rw [o.cxe] at z
      exact tk e s' (L2N.XE.of_call J (fun cls d H' y => y) z) }
/-- within an except clause's suite -/
theorem OkSt.suite {L : Lx} {P : Pr} {F : Nat → List D → Hs → R} {C : Cst} {k : Nat} {CX : CXT} {G : Gc} {X : Cx} {W : L2.WX} (o : OkSt L P F C k CX G X W) (cold : G.hot = false) {a : Addr} {oe : Obj} {pn : List (Addr × Obj)} {c : String} (hc : L.ex c = true) (hz : L2N.Zn (C.cv c) none oe) (hf : ∃ vs, oe.data = .fields vs) :
    OkSt L P F (C.one a c) k CX G.heat (X.suite a ((a, oe) :: pn)) (fun _ _ _ _ => False) :=
  { sc := o.sc, N := o.N, nd := o.nd, own := o.own, fx := o.fx, kind := o.kind, cxe := o.cxe, hs := o.hs, hf := o.hf
    calm := fun z => by cases z
    cold := fun z => by cases z
    room := fun z => by cases z
    roomH := ⟨o.roomH.dp, o.roomH.un⟩
    pso := PassesOwn.never
    tk := fun u s' ⟨_, _, _, _, _, _, _, _, _, _, _, _, _, _, _, _, w⟩ => w.elim
    pass := fun σ pins H s e s' _ z => absurd z (o.fx.none_ _ _ _ _ _)
    hotp := fun _ => by
      obtain ⟨vs, e⟩ := hf
      exact ⟨(a, oe), ⟨rfl, vs, e, hz.2.2 vs e⟩, List.mem_cons_self, fun b d ⟨e1, e2⟩ => ⟨e1, by rw [e2]; exact hz.1, hz.2.1, ⟨vs, e⟩, by rw [e2]; exact hc⟩⟩ }
section
variable {X : Cx}
theorem ps_weak {st : PySem.Stmt} {t t' : TS} (k : PS X st t) (w : ∀ D σ H, t' D σ H → t D σ H) : PS X st t' := ⟨fun pins s σ H D I q => k.run pins s σ H D I (w _ _ _ q)⟩
theorem pss_weak {st : List PySem.Stmt} {t t' : TS} (k : PSs X st t) (w : ∀ D σ H, t' D σ H → t D σ H) : PSs X st t' := ⟨fun pins s σ H D I q => k.run pins s σ H D I (w _ _ _ q)⟩
end
theorem sw_no {v tg : PySem.Expr} {line : Nat} {env : PySem.Env} (h1 : noComp v = true) : swapsWith v (some tg) line env = pure false := by
  cases v <;> first | (cases h1; done) | rfl
theorem sw_no2 {v : PySem.Expr} {line : Nat} {env : PySem.Env} (h1 : noComp v = true) : swapsWith v none line env = pure false := by
  cases v <;> first | (cases h1; done) | rfl
theorem sw_at {v x : PySem.Expr} {f : Str} {pp : Pos} {line : Nat} {env : PySem.Env} : swapsWith v (some (.Attribute x f pp)) line env = pure false := by
  cases v <;> rfl
theorem sw_su {v x y : PySem.Expr} {pp : Pos} {line : Nat} {env : PySem.Env} : swapsWith v (some (.Subscript x y pp)) line env = pure false := by
  cases v <;> rfl
theorem sw_tp {v : PySem.Expr} {es : List PySem.Expr} {kk : Nat} {pp : Pos} {line : Nat} {env : PySem.Env} : swapsWith v (some (.Tuple es kk pp)) line env = pure false := by
  cases v <;> rfl
theorem sw_lc {G : Gc} {ex : PySem.Expr} {cs : List Comprehension} {scope : Scope} {vp py : Pos} {y : Str} {line : Nat} {env : PySem.Env} (e : env.scope = G.sc) (q : swB G scope y py vp = false) :
    swapsWith (.ListComp ex cs scope vp) (some (.Name y py)) line env = pure false := by
  unfold swB at q
  unfold swapsWith
  simp only [Env.kindOf, e, PySem.Expr.pos]
  have z : (decide (G.sc.names.lookup y = some .local)) = (G.sc.names.lookup y == some .local) := by
    cases hh : G.sc.names.lookup y with
    | none => rfl
    | some v => cases v <;> rfl
  rw [z] at q
  congr 1
  cases b2 : (G.sc.names.lookup y == some NameKind.local) with
  | false => simp
  | true =>
    cases b3 : (py.line == vp.line) with
    | false => simp
    | true =>
      rw [b2, b3] at q
      have q2 : (scope.names.any fun (n, k) => n == y && (k == .local || k == .cell)) = true := by simpa only [Bool.true_and, Bool.not_eq_false'] using q
      show (_ && true && (true && !(scope.names.any fun (n, k) => n == y && (k == .local || k == .cell)))) = false
      rw [q2]
      simp
end VI
/-! V12: statements keep their readings. -/
namespace VI
open PySem PySem.Spec PyProof.Rows L2

section
variable {C : Cst} {p : List Addr} {h : Hs} {H : AHp}
theorem FR.len {a : List (String × D)} {b : List (Str × V)} (r : FR C p h H a b) : a.length = b.length := Paired.length r
theorem FR.put {f : String} {d : D} {v : V} (rd : DR C p h H d v) : ∀ {fs : List (String × D)} {gs : List (Str × V)}, FR C p h H fs gs → FR C p h H (putFd f d fs) (putF (Str.ofString f) v gs)
  | _, _, .nil => .cons ⟨rfl, rd⟩ .nil
  | (a, x) :: fs, (b, y) :: gs, .cons ⟨e, r⟩ t => by
    have e : Str.ofString a = b := e
    subst e
    unfold putFd putF
    by_cases z : a = f
    · subst z
      simp only [if_true]
      exact .cons ⟨rfl, rd⟩ t
    · have z2 : ¬ Str.ofString a = Str.ofString f := fun q => z (ofS_inj q)
      simp only [if_neg z, if_neg z2]
      exact .cons ⟨rfl, r⟩ (FR.put rd t)
end
section
variable {L : Lx} {P : Pr} {F : Nat → List D → Hs → R} {C : Cst} {k : Nat} {CX : CXT} {G : Gc} {X : Cx} {W : L2.WX} {pos : Pos}
theorem p_ret {e : E} {v : PySem.Expr} (he : PE X v (tE P F C W e)) : PS X (.Return (some v) pos) (tX C W (exec P F (.ret e))) := by
  refine ps_weak (ps_ret he) fun En σ H ⟨l, p, h, s, n, q⟩ => ?_
  simp only [exec] at q
  exact (onex_w n q).mono fun x H1 ⟨p1, h1, d, _, n1, rd, q1⟩ => q1 p1 H1 x .refl n1.sr rd
theorem p_retn : PS X (.Return none pos) (tX C W (exec P F .retn)) := by
  refine ps_weak ps_retN fun En σ H ⟨l, p, h, s, n, q⟩ => ?_
  simp only [exec] at q
  exact q p H _ .refl n.sr .non
theorem p_pas : PS X (.Pass pos) (tX C W (exec P F .pas)) := by
  refine ps_weak ps_pass fun En σ H ⟨l, p, h, s, n, q⟩ => ?_
  simp only [exec] at q
  exact q p H _ .refl n
theorem p_exp {e : E} {v : PySem.Expr} (he : PE X v (tE P F C W e)) (hn : noComp v = true) : PS X (.Expr v pos) (tX C W (exec P F (.exp e))) := by
  refine ps_weak (ps_expr he (sw_no2 hn)) fun En σ H ⟨l, p, h, s, n, q⟩ => ?_
  simp only [exec] at q
  exact (onex_w n q).mono fun x H1 ⟨p1, h1, d, _, n1, rd, q1⟩ => q1 p1 H1 σ .refl n1
theorem p_rai (o : OkSt L P F C k CX G X W) {c : String} {e : PySem.Expr} {nm m : Str} (q1 : asMk e = some (nm, m)) (q2 : Str.ofString c = nm) (q3 : okG G nm = true) (q4 : L.ex c = true) (cold : G.hot = false) : PS X (.Raise (some e) none pos) (tX C W (exec P F (.rai c))) := by
  obtain ⟨p, j, p2, ps, rfl⟩ := asMk_eq q1
  subst q2
  refine ps_weak (L2N.ps_raise (o.calm cold) o.tk (o.mkx c q4 (o.gl q3).1 (o.gl q3).2.1 m j p p2 ps)) fun En σ H ⟨l, p, h, s, n, q⟩ => ?_
  simp only [exec] at q
  exact q p H σ .refl n
theorem p_ite {c : E} {a b : Ss} {t : PySem.Expr} {x y : List PySem.Stmt} (hc : PT X t (tTest (tE P F C W c))) (ha : PSs X x (tX C W (execs P F a))) (hb : PSs X y (tX C W (execs P F b))) : PS X (.If t x y pos) (tX C W (exec P F (.ite c a b))) := by
  refine ps_weak (ps_if hc ha hb) fun En σ H ⟨l, p, h, s, n, q⟩ => ?_
  simp only [exec] at q
  refine (tstx_w n q).mono fun x H1 ⟨k, e, p1, h1, _, n1, q1⟩ => ⟨k, e, ?_⟩
  cases k with
  | true => exact ⟨l, p1, h1, s, n1, q1⟩
  | false => exact ⟨l, p1, h1, s, n1, q1⟩
theorem p_setf (o : OkSt L P F C k CX G X W) {a e : E} {f : String} {x v : PySem.Expr} {pp : Pos} (ha : PE X x (tE P F C W a)) (he : PE X v (tE P F C W e)) : PS X (.Assign [.Attribute x (Str.ofString f) pp] v pos) (tX C W (exec P F (.setf a f e))) := by
  refine ps_weak (ps_fld ha he sw_at) fun En σ H ⟨l, p, h, s, n, q⟩ => ?_
  simp only [exec] at q
  refine (onex_w n q).mono fun v1 H1 ⟨p1, h1, d, _, n1, rd, q1⟩ => (onex_w n1 q1).mono fun v2 H2 ⟨p2, h2, d2, ex2, n2, rd2, q2⟩ => ?_
  unfold setfD at q2
  split at q2
  · rename_i m c fs e
    split at q2
    · rename_i z
      simp only [Bool.and_eq_true, decide_eq_true_eq] at z
      obtain ⟨rfl, eh, ad, dx, gs, rfl, pa, hH, r⟩ := ins_w n2.sr rd2 e
      obtain ⟨z1, z2⟩ := o.fx.fok _ _ z.1
      rw [o.fx.hK]
      have rdx := rd.ext ex2
      have ex := ext_set (o := .ins c (putFd f d fs)) (w := .ins (C.ca c) dx (putF (Str.ofString f) v1 gs)) n2.sr eh nofun pa
      have sr := SR.set n2.sr eh nofun pa (o := .ins c (putFd f d fs)) (w := .ins (C.ca c) dx (putF (Str.ofString f) v1 gs)) ⟨dx, _, upd_same, FR.put (rdx.ext ex) (FR.ext ex r)⟩
      exact ⟨ad, _, dx, gs, rfl, hH, o.fx.hK ▸ z1, o.fx.hK ▸ z2, by rw [← r.len]; exact z.2, q2 p2 _ σ ex (n2.ext ex sr)⟩
    · exact q2.elim
  · exact q2.elim
/-- what a subscript's store may do -/
def rSet2 : TSet := fun o i v H Q => rSetL o i v H Q ∨ rSetD o i v H Q
theorem set_2 (hu : X.A.units + 1 < cLine) : PSet X rSet2 := fun pins s σ H o i v ov iv u Q I ro ri rv q => by
  rcases q with q | q
  · exact set_list pins s σ H o i v ov iv u Q I ro ri rv q
  · exact set_dict hu pins s σ H o i v ov iv u Q I ro ri rv q
theorem seti_w {l : List Addr} {p : List Addr} {h : Hs} {s : Env} {σ : L2.St} {H : AHp} {En : Ends} {d od kd' : D} {v ov kv : V} (n : Now (C.hid l) p h s σ H) (rd : DR (C.hid l) p h H d v) (ro : DR (C.hid l) p h H od ov) (rk : DR (C.hid l) p h H kd' kv)
    (q : OkX (C.hid l) p h H (setiD d od kd' s h) En W) : rSet2 ov kv v H fun H' => En.nx σ H' := by
  unfold setiD at q
  cases od <;> first | exact q.elim | skip
  rename_i nn
  simp only at q
  cases eh : h[nn]? with
  | none => rw [eh] at q; exact q.elim
  | some ob =>
    rw [eh] at q
    cases ob with
    | dead => exact q.elim
    | ins _ _ => exact q.elim
    | lst xs =>
      cases kd' <;> first | exact q.elim | skip
      rename_i j
      simp only at q
      cases ej : ixOf xs.length j with
      | none => rw [ej] at q; exact q.elim
      | some jj =>
        rw [ej] at q
        cases rk
        obtain ⟨ad, rfl, pa, vs, hH, r⟩ := cell_rd n.sr ro eh
        have ex := ext_set (o := .lst (xs.set jj d)) (w := .lst (vs.set jj v)) n.sr eh nofun pa
        have sr := SR.set n.sr eh nofun pa (o := .lst (xs.set jj d)) (w := .lst (vs.set jj v)) ⟨_, upd_same, DRs.set (rd.ext ex) jj (DRs.ext ex r)⟩
        exact .inl ⟨ad, vs, j, jj, rfl, rfl, hH, by rw [← r.len]; exact ej, q p _ σ ex (n.ext ex sr)⟩
    | dct kvs =>
      replace q : OkX (C.hid l) p h H (match keyOf kd' with
        | some q => if kvs.length < SZ then .nx s (h.set nn (.dct (putK q d kvs))) else .bad
        | none => .bad) En W := by cases kd' <;> exact q
      cases ek : keyOf kd' with
      | none => rw [ek] at q; exact q.elim
      | some ky =>
        rw [ek] at q
        simp only at q
        split at q
        · rename_i ll
          obtain ⟨ad, rfl, pa, ws, hH, r⟩ := cell_rd n.sr ro eh
          obtain ⟨k', kk, rfl⟩ := key_w rk ek
          have ex := ext_set (o := .dct (putK ky d kvs)) (w := .dK (L2.putK ws k' v)) n.sr eh nofun pa
          have sr := SR.set n.sr eh nofun pa (o := .dct (putK ky d kvs)) (w := .dK (L2.putK ws k' v)) ⟨_, upd_same, KR.put kk (rd.ext ex) (KR.ext ex r)⟩
          exact .inr ⟨ad, _, rfl, .k hH (by rw [← Paired.length r, SZ_eq]; exact ll), q p _ σ ex (n.ext ex sr)⟩
        · exact q.elim
    | dt kvs =>
      replace q : OkX (C.hid l) p h H (match keyT kd' with
        | some q => if kvs.length < SZ then .nx s (h.set nn (.dt (putQ q d kvs))) else .bad
        | none => .bad) En W := by cases kd' <;> exact q
      cases ek : keyT kd' with
      | none => rw [ek] at q; exact q.elim
      | some ky =>
        rw [ek] at q
        simp only at q
        split at q
        · rename_i ll
          obtain ⟨ad, rfl, pa, ws, hH, r⟩ := cell_rd n.sr ro eh
          obtain ⟨b, k', kk, rfl, hb⟩ := keyT_w rk ek
          have ex := ext_set (o := .dt (putQ ky d kvs)) (w := .dT (L2.putK ws k' v)) n.sr eh nofun pa
          have sr := SR.set n.sr eh nofun pa (o := .dt (putQ ky d kvs)) (w := .dT (L2.putK ws k' v)) ⟨_, upd_same, QR.put kk (rd.ext ex) (QR.ext ex r)⟩
          exact .inr ⟨ad, _, rfl, .t hH hb (by rw [← Paired.length r, SZ_eq]; exact ll), q p _ σ ex (n.ext ex sr)⟩
        · exact q.elim
theorem p_seti (o : OkSt L P F C k CX G X W) {a i e : E} {x y v : PySem.Expr} {pp : Pos} (ha : PE X x (tE P F C W a)) (hi : PE X y (tE P F C W i)) (he : PE X v (tE P F C W e)) (hy : shp y = true) : PS X (.Assign [.Subscript x y pp] v pos) (tX C W (exec P F (.seti a i e))) := by
  have sw : swapsWith v (some (.Subscript x y pp)) pos.line X.env = pure false := sw_su
  refine ps_weak (ps_asg he (pg_sub ha hi (set_2 (by have := o.hu; omega)) fun _ => by cases y <;> first | (cases hy; done) | rfl) sw (by cases v <;> rfl)) fun En σ H ⟨l, p, h, s, n, q⟩ => ?_
  simp only [exec] at q
  exact (onex_w n q).mono fun v1 H1 ⟨p1, h1, d, _, n1, rd, q1⟩ => (onex_w n1 q1).mono fun v2 H2 ⟨p2, h2, d2, ex2, n2, rd2, q2⟩ => (onex_w n2 q2).mono fun v3 H3 ⟨p3, h3, d3, ex3, n3, rd3, q3⟩ =>
    seti_w n3 (rd.ext (ex2.trans ex3)) (rd2.ext ex3) rd3 q3
theorem sets_w {l : List Addr} {p : List Addr} {h : Hs} {s : Env} {σ : L2.St} {H : AHp} {En : Ends} {d od ad' cd' : D} {v ov av cv : V} (n : Now (C.hid l) p h s σ H) (rd : DR (C.hid l) p h H d v) (ro : DR (C.hid l) p h H od ov) (ra : DR (C.hid l) p h H ad' av) (rc : DR (C.hid l) p h H cd' cv)
    (q : OkX (C.hid l) p h H (setsD d od ad' cd' s h) En W) : ∃ a c : Int, av = .int a ∧ cv = .int c ∧ ∃ (l' b : Addr) (xs ys : List V), ov = V.ref l' ∧ v = V.ref b ∧ H l' = some (.lst xs) ∧ H b = some (.lst ys) ∧ l' ≠ b ∧ 0 ≤ a ∧ a ≤ c ∧ c ≤ (xs.length : Nat) ∧ xs.length + ys.length ≤ sizeLine ∧ En.nx σ (upd H l' (.lst (xs.take a.toNat ++ ys ++ xs.drop c.toNat))) := by
  unfold setsD at q
  cases od <;> first | exact q.elim | skip
  cases d <;> first | exact q.elim | skip
  cases ad' <;> first | exact q.elim | skip
  cases cd' <;> first | exact q.elim | skip
  rename_i nn mm i j
  simp only at q
  cases eh : h[nn]? with
  | none => rw [eh] at q; exact q.elim
  | some ob =>
    cases em : h[mm]? with
    | none => rw [eh, em] at q; cases ob <;> exact q.elim
    | some om =>
      rw [eh, em] at q
      cases ob <;> first | exact q.elim | skip
      cases om <;> first | exact q.elim | skip
      rename_i xs ys
      simp only at q
      split at q
      · rename_i z
        simp only [Bool.and_eq_true, decide_eq_true_eq] at z
        obtain ⟨⟨⟨⟨z1, z2⟩, z3⟩, z4⟩, z5⟩ := z
        cases ra
        cases rc
        obtain ⟨ad, rfl, pa, vs, hH, r⟩ := cell_rd n.sr ro eh
        obtain ⟨bd, rfl, pb, us, hB, r2⟩ := cell_rd n.sr rd em
        have ex := ext_set (o := .lst (xs.take i.toNat ++ ys ++ xs.drop j.toNat)) (w := .lst (vs.take i.toNat ++ us ++ vs.drop j.toNat)) n.sr eh nofun pa
        have sr := SR.set n.sr eh nofun pa (o := .lst (xs.take i.toNat ++ ys ++ xs.drop j.toNat)) (w := .lst (vs.take i.toNat ++ us ++ vs.drop j.toNat)) ⟨_, upd_same, DRs.app (DRs.app ((DRs.ext ex r).take _) (DRs.ext ex r2)) ((DRs.ext ex r).drop _)⟩
        refine ⟨i, j, rfl, rfl, ad, bd, vs, us, rfl, rfl, hH, hB, fun e => ?_, z2, z3, by rw [← r.len]; exact z4, by rw [← r.len, ← r2.len, SZ_eq]; exact z5, q p _ σ ex (n.ext ex sr)⟩
        subst e
        have l1 := (List.getElem?_eq_some_iff.mp pa).1
        exact z1 ((List.getElem?_inj l1 n.sr.nd).mp (by rw [pa, pb]))
      · exact q.elim
theorem p_sets (o : OkSt L P F C k CX G X W) {a lo hi e : E} {x y z v : PySem.Expr} {p2 pp : Pos} (ha : PE X x (tE P F C W a)) (hl : PE X y (tE P F C W lo)) (hh : PE X z (tE P F C W hi)) (he : PE X v (tE P F C W e)) : PS X (.Assign [.Subscript x (.Slice (some y) (some z) none p2) pp] v pos) (tX C W (exec P F (.sets a lo hi e))) := by
  have sw : swapsWith v (some (.Subscript x (.Slice (some y) (some z) none p2) pp)) pos.line X.env = pure false := sw_su
  refine ps_weak (ps_asg he (VH.pg_slice ha hl hh) sw (by cases v <;> rfl)) fun En σ H ⟨l, p, h, s, n, q⟩ => ?_
  simp only [exec] at q
  refine (onex_w n q).mono fun v1 H1 ⟨p1, h1, d, _, n1, rd, q1⟩ => (onex_w n1 q1).mono fun v2 H2 ⟨p2, h2, d2, ex2, n2, rd2, q2⟩ => (onex_w n2 q2).mono fun v3 H3 ⟨p3, h3, d3, ex3, n3, rd3, q3⟩ => ?_
  cases d3 <;> first | exact q3.elim | skip
  rename_i i
  cases rd3
  refine ⟨i, rfl, (onex_w n3 (show OkX _ _ _ _ ((ev P F hi s h3).bx s fun c h4 => setsD d d2 (.int i) c s h4) _ _ from q3)).mono fun v4 H4 ⟨p4, h4, d4, ex4, n4, rd4, q4⟩ => ?_⟩
  obtain ⟨a, c, ea, ec, l', b, xs, ys, e1, e2, e3, e4, e5, e6, e7, e8, e9, q5⟩ := sets_w n4 (rd.ext ((ex2.trans ex3).trans ex4)) (rd2.ext (ex3.trans ex4)) (.int i) rd4 q4
  cases ea
  exact ⟨c, ec, l', b, xs, ys, e1, e2, e3, e4, e5, e6, e7, e8, e9, q5⟩
theorem asg_w {t : Tg} {l : List Addr} {p : List Addr} {h : Hs} {s : Env} {σ : L2.St} {H : AHp} {En : Ends} {d : D} {v : V} (n : Now (C.hid l) p h s σ H) (rd : DR (C.hid l) p h H d v) (q : OkX (C.hid l) p h H (asgD t s d h) En W) : gT C.K t v σ H En.nx := by
  unfold asgD at q
  split at q
  · rename_i s1 e
    exact gT_w (C := C.hid l) n.sr e rd (n.er.o _) fun σ2 er _ _ => q p H σ2 .refl ⟨n.sr, er⟩
  · exact q.elim
theorem p_asg (o : OkSt L P F C k CX G X W) {t : Tg} {e : E} {tg v : PySem.Expr} (ht : okTg G t tg = true) (he : PE X v (tE P F C W e)) (h1 : swapsWith v (some tg) pos.line X.env = pure false) (h2 : asgOk tg v = true) : PS X (.Assign [tg] v pos) (tX C W (exec P F (.asg t e))) := by
  have st : swappedStores [tg] v X.env = pure none := by
    cases tg <;> first | rfl | (cases v <;> first | rfl | (cases h2; done)) | skip
    all_goals (unfold okTg at ht; cases t <;> cases ht)
  have as1 : (assignEach [tg] X.env).map (·.2) = [assign tg X.env] := by
    cases tg <;> first | rfl | (unfold okTg at ht; cases t <;> cases ht)
  refine ps_weak (ps_asg he (g_ok o.toOkc ht) h1 st as1) fun En σ H ⟨l, p, h, s, n, q⟩ => ?_
  simp only [exec] at q
  refine (onex_w n q).mono fun x H1 ⟨p1, h1, d, _, n1, rd, q1⟩ => ?_
  rw [o.fx.hK]
  exact asg_w (C := C) n1 rd q1
theorem p_for (o : OkSt L P F C k CX G X W) (cold : G.hot = false) {t : Tg} {src : Src} {body : Ss} {tg it : PySem.Expr} {bd : List PySem.Stmt} (ht : okTg G t tg = true) (hi : PI X tg it (tI P F C W src)) (hs : noSet it = true) (hb : PSs X bd (tX C W (execs P F body))) :
    PS X (.For tg it bd [] pos) (tX C W (exec P F (.loop t src body))) := by
  refine ps_weak (ps_for o.pso (o.calm cold) hi (g_ok o.toOkc ht) hb (fold_ok hs)) fun En σ H ⟨l, p, h, s, n, q⟩ => ?_
  simp only [exec] at q
  have q0 := OkX.lbx n q
  refine ⟨l, p, h, s, n, ?_⟩
  cases er : evr P F src s h with
  | bad => rw [er] at q0; exact q0.elim
  | exc c h' => rw [er] at q0; exact q0
  | ok xs0 lk0 h0 =>
    rw [er] at q0
    intro p0 H0 J ex0 sr0 wk0
    obtain ⟨p1, h1, xs, lk, ex, n1, wk, q1⟩ := q0 p0 H0 J ex0 sr0 wk0
    refine ⟨fun i m σ H => i ≤ xs.length ∧ m = xs.length - i ∧ ∃ p h s, Ext (C.hid l) p1 h1 H0 p h H ∧ Now (C.hid l) p h s σ H ∧ OkX (C.hid l) p h H (forL (execs P F body) t lk (xs.drop i) s h) En W,
      ⟨xs.length, Nat.zero_le _, rfl, p1, h1, s, .refl, n1, by rw [List.drop_zero]; exact q1⟩, ?_⟩
    rintro i m σ H ⟨li, rfl, p, h, s, x, n, ce⟩
    have lkq : lkOk lk h := by
      cases ed : xs.drop i with
      | nil =>
        rw [ed] at ce
        unfold forL at ce
        split at ce
        · assumption
        · exact ce.elim
      | cons y ys =>
        rw [ed] at ce
        unfold forL at ce
        split at ce
        · assumption
        · exact ce.elim
    obtain ⟨stop, go⟩ := wk _ _ _ _ x.ltr n.sr lkq
    cases ed : xs.drop i with
    | nil =>
      have ei : i = xs.length := by
        have := List.drop_eq_nil_iff.mp ed
        omega
      subst ei
      refine .inl ⟨stop, ?_⟩
      rw [ed] at ce
      unfold forL at ce
      rw [if_pos lkq] at ce
      exact ce p H σ .refl n
    | cons y ys =>
      have li2 : i < xs.length := by
        by_cases z : i < xs.length
        · exact z
        · rw [List.drop_eq_nil_iff.mpr (by omega)] at ed; cases ed
      have ey : xs[i]? = some y := by
        have := congrArg List.head? ed
        rwa [List.head?_drop, List.head?_cons] at this
      have eys : xs.drop (i + 1) = ys := by
        rw [← List.tail_drop, ed]; rfl
      obtain ⟨g1, g2⟩ := go i y ey
      rw [ed] at ce
      unfold forL at ce
      rw [if_pos lkq] at ce
      refine .inr ⟨g1, fun σ' H' => ∃ p h s, Ext (C.hid l) p1 h1 H0 p h H' ∧ Now (C.hid l) p h s σ' H' ∧ OkX (C.hid l) p h H' (forL (execs P F body) t lk ys s h) En W,
        fun σ' H' z => ⟨xs.length - (i + 1), by omega, by omega, rfl, by rw [eys]; exact z⟩, fun v H2 yl => ?_⟩
      obtain ⟨ex2, sr2, rd⟩ := g2 v H2 yl
      cases ep : putT t y s h with
      | none => rw [ep] at ce; exact ce.elim
      | some s1 =>
        rw [ep] at ce
        replace ce : OkX (C.hid l) p h H ((execs P F body s1 h).sq fun s2 h2 => forL (execs P F body) t lk ys s2 h2) En W := ce
        have ce2 := OkX.step (r := (execs P F body s1 h).sq fun s2 h2 => forL (execs P F body) t lk ys s2 h2) ex2 ce
        rw [o.fx.hK]
        refine gT_w (C := C.hid l) sr2 ep rd ((n.er.ext ex2).o _) fun σ2 er2 _ _ => ⟨l, p, h, s1, ⟨sr2, er2⟩, ?_⟩
        cases eb : execs P F body s1 h with
        | nx s2 h2 =>
          rw [eb] at ce2
          exact fun p3 H3 σ3 ex3 n3 => ⟨p3, h2, s2, (x.trans ex2).trans ex3, n3, OkX.step (r := forL (execs P F body) t lk ys s2 h2) ex3 ce2⟩
        | rt d h2 => rw [eb] at ce2; exact ce2
        | ex c s2 h2 => rw [eb] at ce2; exact ce2
        | bad => rw [eb] at ce2; exact ce2
theorem p_whl (o : OkSt L P F C k CX G X W) {c : E} {body : Ss} {t : PySem.Expr} {bd : List PySem.Stmt} (hc : PT X t (tTest (tE P F C W c))) (hb : PSs X bd (tX C W (execs P F body))) : PS X (.While t bd [] pos) (tX C W (exec P F (.whl c body))) := by
  refine ps_weak (ps_while o.pso hc hb) fun En σ H ⟨l, p, h, s, n, q⟩ => ?_
  simp only [exec] at q
  unfold whlL at q
  split at q
  · rename_i z
    refine ⟨fun m σ H => ∃ p h s, Now (C.hid l) p h s σ H ∧ OkX (C.hid l) p h H (whlN (ev P F c) (execs P F body) m s h) En W, ⟨_, p, h, s, n, q⟩, ?_⟩
    rintro m σ H ⟨p, h, s, n, q⟩
    cases m with
    | zero => exact q.elim
    | succ m =>
      unfold whlN at q
      refine (tstx_w n q).mono fun v H1 ⟨k, e, p1, h1, ex1, n1, q1⟩ => ⟨k, e, ?_⟩
      cases k with
      | false => exact q1 p1 H1 σ .refl n1
      | true =>
        refine ⟨fun σ' H' => ∃ p h s, Now (C.hid l) p h s σ' H' ∧ OkX (C.hid l) p h H' (whlN (ev P F c) (execs P F body) m s h) En W, fun σ' H' z => ⟨m, Nat.lt_succ_self m, z⟩, l, p1, h1, s, n1, ?_⟩
        replace q1 : OkX (C.hid l) p1 h1 H1 ((execs P F body s h1).sq fun s2 h2 => whlN (ev P F c) (execs P F body) m s2 h2) En W := q1
        cases eb : execs P F body s h1 with
        | nx s2 h2 =>
          rw [eb] at q1
          exact fun p3 H3 σ3 ex3 n3 => ⟨p3, h2, s2, n3, OkX.step (r := whlN (ev P F c) (execs P F body) m s2 h2) ex3 q1⟩
        | rt d h2 => rw [eb] at q1; exact q1
        | ex c s2 h2 => rw [eb] at q1; exact q1
        | bad => rw [eb] at q1; exact q1
  · exact q.elim
theorem p_nil : PSs X [] (tX C W (execs P F .nil)) := pss_weak pss_nil fun En σ H ⟨l, p, h, s, n, q⟩ => by
  simp only [execs] at q
  exact q p H σ .refl n
theorem p_cons {a : S} {ss : Ss} {st : PySem.Stmt} {sts : List PySem.Stmt} (h1 : PS X st (tX C W (exec P F a))) (h2 : PSs X sts (tX C W (execs P F ss))) : PSs X (st :: sts) (tX C W (execs P F (.cons a ss))) := by
  refine pss_weak (pss_cons h1 h2) fun En σ H ⟨l, p, h, s, n, q⟩ => ⟨l, p, h, s, n, ?_⟩
  simp only [execs] at q
  cases eb : exec P F a s h with
  | nx s2 h2 =>
    rw [eb] at q
    exact fun p3 H3 σ3 ex3 n3 => ⟨l, p3, h2, s2, n3, OkX.step (r := execs P F ss s2 h2) ex3 q⟩
  | rt d h2 => rw [eb] at q; exact q
  | ex c s2 h2 => rw [eb] at q; exact q
  | bad => rw [eb] at q; exact q
theorem p_frz {i : Nat} {ss : Ss} {sts : List PySem.Stmt} (h2 : PSs X sts (tX C W (execs P F ss))) : PSs X sts (tX C W (execs P F (.cons (.frz i) ss))) := by
  refine pss_weak h2 fun En σ H ⟨l, p, h, s, n, q⟩ => ?_
  simp only [execs, exec] at q
  split at q
  · rename_i d e
    obtain ⟨v, e1, rd⟩ := n.er.at_ _ _ e
    rcases frz_rd n.sr rd with e2 | ⟨d2, h2, e2, ex, sr2, r⟩
    · rw [e2] at q; exact q.elim
    · rw [e2] at q
      refine ⟨l, p, h2, s.set i (some d2), ⟨sr2, by rw [List.length_set]; exact n.er.len, fun j d' ed => ?_⟩, OkX.step (r := execs P F ss (s.set i (some d2)) h2) ex q⟩
      by_cases z : i = j
      · subst z
        rw [List.getElem?_set_self (List.getElem?_eq_some_iff.mp e).1] at ed
        cases ed
        exact ⟨_, e1, r⟩
      · rw [List.getElem?_set_ne z] at ed
        exact (n.er.ext ex).at_ j d' ed
  · exact q.elim
/-! ### try -/
/-- the exception's run in a suite -/
def tSu (P : Pr) (F : Nat → List D → Hs → R) (L : Lx) (C : Cst) (suite : Ss) (a : Addr) (cls : Value) (d : Option Addr) : TS := fun En σ H => ∃ c, C.cv c = cls ∧ d = none ∧ L.ex c = true ∧ tX (C.one a c) (fun _ _ _ _ => False) (execs P F suite) En σ H
theorem su_ok (suite : Ss) {sts : List PySem.Stmt} (k : ∀ (a : Addr) (oe : Obj) (pn : List (Addr × Obj)) (c : String), L.ex c = true → L2N.Zn (C.cv c) none oe → (∃ vs, oe.data = .fields vs) → PSs (X.suite a ((a, oe) :: pn)) sts (tX (C.one a c) (fun _ _ _ _ => False) (execs P F suite)))
    (a : Addr) (oe : Obj) (cls : Value) (d : Option Addr) (pn : List (Addr × Obj)) (hz : L2N.Zn cls d oe) (hf : ∃ vs, oe.data = .fields vs) : PSs (X.suite a ((a, oe) :: pn)) sts (tSu P F L C suite a cls d) :=
  ⟨fun pins s σ H D I ⟨c, e1, e2, e3, q⟩ => by
    subst e1 e2
    exact (k a oe pn c e3 hz hf).run pins s σ H D I q⟩
/-- a suite that ends by a value told -/
theorem su_w (cold : C.cold = C) {suite : Ss} {l p : List Addr} {h : Hs} {s : Env} {σ : L2.St} {H : AHp} {En En' : Ends} {c : String} (hc : L.ex c = true) (n : Now (C.hid l) p h s σ H) (o : Option Nat) (q : OkX (C.hid l) p h H (qs h (execs P F suite (setO o (.exc c) s) h)) En W) (a : Addr) (hrt : En'.rt = En.rt) :
    tSu P F L C suite a (C.cv c) none En' (match o with | some i => σ.set i (some (.ref a)) | none => σ) H := by
  have no : ∀ b d, ¬ (C.hid l).xc b d := fun b d z => by
    have z : C.xc b d := z
    rw [← cold] at z
    exact z
  have hx := n.sr.nox no
  have sr1 : SR ((C.one a c).hid l) p h H := SR.xb (C := C.hid l) (f := C.xc) (g := fun b k => b = a ∧ k = c) hx n.sr
  have er1 : ER ((C.one a c).hid l) p h H s σ := ER.xm (C := C.hid l) (f := C.xc) (g := fun b k => b = a ∧ k = c) (fun b d z => (no b d z).elim) n.er
  have er2 : ER ((C.one a c).hid l) p h H (setO o (.exc c) s) (match o with | some i => σ.set i (some (.ref a)) | none => σ) := by
    cases o with
    | none => exact er1
    | some i =>
      refine ⟨by show (s.set i _).length = (σ.set i _).length; rw [List.length_set, List.length_set]; exact er1.len, fun j d e => ?_⟩
      have e : (s.set i (some (.exc c)))[j]? = some (some d) := e
      show ∃ v, (σ.set i (some (.ref a)))[j]? = some (some v) ∧ _
      by_cases z : i = j
      · subst z
        have l1 : i < s.length := by
          have := (List.getElem?_eq_some_iff.mp e).1
          rwa [List.length_set] at this
        rw [List.getElem?_set_self l1] at e
        cases e
        exact ⟨.ref a, List.getElem?_set_self (by rw [← er1.len]; exact l1), .exc ⟨rfl, rfl⟩⟩
      · rw [List.getElem?_set_ne z] at e ⊢
        exact er1.at_ j d e
  refine ⟨c, rfl, rfl, hc, l, p, h, _, ⟨sr1, er2⟩, ?_⟩
  unfold qs at q
  cases e : execs P F suite (setO o (.exc c) s) h with
  | nx _ _ => rw [e] at q; exact q.elim
  | ex _ _ _ => rw [e] at q; exact q.elim
  | bad => rw [e] at q; exact q.elim
  | rt d h1 =>
    rw [e] at q
    simp only at q
    split at q
    · rename_i z
      obtain ⟨rfl, z2⟩ := z
      intro p' H' v ex sr rd
      rw [hrt]
      exact q p' H' v (Ext.xw (C := C.hid l) (g := C.xc) ex) (SR.xb (C := C.hid l) (g := C.xc) hx sr) (DR.xb (C := C.hid l) (g := C.xc) z2 rd)
    · exact q.elim
theorem try_w {σ : L2.St} {H : AHp} {En : Ends} {W' : L2.WX} {body : Ss} {hs : Hd} (q : tX C W (exec P F (.try body hs)) En σ H)
    (k : ∀ l p h s σ H c, P.exs c = true → Now (C.hid l) p h s σ H → OkX (C.hid l) p h H (hdl P F c hs s h) En W → W' (C.cv c) none σ H) : tX C W' (execs P F body) En σ H := by
  obtain ⟨l, p, h, s, n, q⟩ := q
  simp only [exec] at q
  refine ⟨l, p, h, s, n, ?_⟩
  cases e : execs P F body s h with
  | nx s1 h1 => rw [e] at q; exact q
  | rt d h1 => rw [e] at q; exact q
  | bad => rw [e] at q; exact q
  | ex c s1 h1 =>
    rw [e] at q
    simp only at q
    split at q
    · rename_i z
      intro p' H' σ' ex n'
      exact k l p' h1 s1 σ' H' c z n' (OkX.step (r := hdl P F c hs s1 h1) ex q)
    · exact q.elim
theorem p_try1 (o : OkSt L P F C k CX G X W) (cold : G.hot = false) {body suite : Ss} {kc : String} {i : Nat} {x y : Str} {bd su : List PySem.Stmt} {b : PySem.Stmt} {np pos' : Pos} (hb : ∀ (W' : L2.WX) (pn : List (Addr × Obj)) (xe : Value → Shared → Prop), L2N.Takes (X.tr pn xe) W' → PassesOwn (model X.prog X.w) X.A X.env xe → PSs (X.tr pn xe) bd (tX C W' (execs P F body)))
    (hs : ∀ (a : Addr) (oe : Obj) (pn : List (Addr × Obj)) (c : String), L.ex c = true → L2N.Zn (C.cv c) none oe → (∃ vs, oe.data = .fields vs) → PSs (X.suite a ((a, oe) :: pn)) (b :: su) (tX (C.one a c) (fun _ _ _ _ => False) (execs P F suite)))
    (h1 : Str.ofString kc = x) (h2 : okG G x = true) (h3 : L.ex kc = true) (h4 : G.N[i]? = some y) (h5 : G.sc.names.lookup y = some .local) :
    PS X (.Try bd [.ExceptHandler (some (.Name x np)) (some y) (b :: su) pos'] [] [] pos) (tX C W (exec P F (.try body (.one kc (some i) suite .nil)))) := by
  subst h1
  obtain ⟨g1, g2, _⟩ := o.gl h2
  obtain ⟨y1, y2, _⟩ := o.fx.cv kc h3
  refine ps_weak (L2N.ps_try_as (i := i) (c := .ref (C.ca kc)) (tb := fun W' => tX C W' (execs P F body)) (ts := tSu P F L C suite) (Wout := W) o.hs o.hf o.nd (by rw [o.N]; exact h4) (by unfold Env.kindOf; rw [o.sc]; exact h5) ⟨g1, g2, .inl y2⟩ o.tk hb (su_ok suite hs)) fun En σ H q => ?_
  refine try_w q fun l p h s σ H c hx n q => ?_
  have hc := o.fx.exs c hx
  obtain ⟨z1, z2, _⟩ := o.fx.cv c hc
  refine ⟨P.sub c kc, by have z1 : C.cv c = .ref (C.ca c) := z1; rw [z1]; exact (o.fx.kit c kc hc h3).2, fun e a _ => ?_, fun e => ?_⟩
  · simp only [hdl, e, if_true] at q
    exact su_w (o.cold cold) hc n (some i) q a rfl
  · simp only [hdl, e, Bool.false_eq_true, if_false] at q
    exact q p H σ .refl n
/-- clauses without names -/
inductive HdR (P : Pr) (F : Nat → List D → Hs → R) (L : Lx) (C : Cst) : Hd → List (Value × (Addr → Value → Option Addr → TS)) → Prop
  | nil : HdR P F L C .nil []
  | cons {k : String} {suite : Ss} {rest : Hd} {l : List (Value × (Addr → Value → Option Addr → TS))} : L.ex k = true → HdR P F L C rest l → HdR P F L C (.one k none suite rest) ((.ref (C.ca k), tSu P F L C suite) :: l)
theorem many_w (o : OkSt L P F C k CX G X W) (cold : G.hot = false) {hs : Hd} {ls : List (Value × (Addr → Value → Option Addr → TS))} (r : HdR P F L C hs ls) : ∀ {l : List Addr} {p : List Addr} {h : Hs} {s : Env} {σ : L2.St} {H : AHp} {c : String} {En : Ends}, P.exs c = true → Now (C.hid l) p h s σ H → OkX (C.hid l) p h H (hdl P F c hs s h) En W →
    wMany X.K W En ls (C.cv c) none σ H := by
  induction r with
  | nil =>
    intro l p h s σ H c En hx n q
    simp only [hdl] at q
    exact q p H σ .refl n
  | @cons kc suite rest ls h3 _ ih =>
    intro l p h s σ H c En hx n q
    have hc := o.fx.exs c hx
    obtain ⟨z1, z2, _⟩ := o.fx.cv c hc
    refine ⟨P.sub c kc, by have z1 : C.cv c = .ref (C.ca c) := z1; rw [z1]; exact (o.fx.kit c kc hc h3).2, fun e a _ => ?_, fun e => ?_⟩
    · simp only [hdl, e, if_true] at q
      exact su_w (o.cold cold) hc n none q a rfl
    · simp only [hdl, e, Bool.false_eq_true, if_false] at q
      exact ih hx n q
theorem p_tryM (o : OkSt L P F C k CX G X W) (cold : G.hot = false) {body : Ss} {hs : Hd} {ls : List (Value × (Addr → Value → Option Addr → TS))} {bd : List PySem.Stmt} {h0 : ExceptHandler} {hds : List ExceptHandler} (hb : ∀ (W' : L2.WX) (pn : List (Addr × Obj)) (xe : Value → Shared → Prop), L2N.Takes (X.tr pn xe) W' → PassesOwn (model X.prog X.w) X.A X.env xe → PSs (X.tr pn xe) bd (tX C W' (execs P F body)))
    (hh : L2N.HdsOk X (h0 :: hds) ls) (r : HdR P F L C hs ls) : PS X (.Try bd (h0 :: hds) [] [] pos) (tX C W (exec P F (.try body hs))) :=
  ps_weak (L2N.ps_try_many (tb := fun W' => tX C W' (execs P F body)) (Wout := W) o.hs o.hf o.tk hb hh) fun En σ H q => try_w q fun l p h s σ H c hx n q => many_w o cold r hx n q
end
end VI
/-! V13: all statements; a def's promise. -/
namespace VI
open PySem PySem.Spec PyProof.Rows L2

section
variable {L : Lx} {P : Pr} {F : Nat → List D → Hs → R} {C : Cst} {k : Nat} {CX : CXT}
/-- a comprehension, maybe frozen -/
theorem lcE {G : Gc} {X : Cx} {W : L2.WX} {ex : PySem.Expr} {cs : List Comprehension} {scope : Scope} {pos : Pos} (o : Okc L.toLk P F C k CX G X W) (cold : G.hot = false) : ∀ (e : E), okE L.toLk G e (.ListComp ex cs scope pos) = true →
    ∃ (te it : PySem.Expr) (ifs : List PySem.Expr), cs = [⟨te, it, ifs, 0⟩] ∧ (∀ x, foldedSetIterable it X.env x = pure x) ∧ ∃ (wi : TI) (g : TG) (tt : TT) (te' : TE) (own : List (Str × Nat)), BlkOk X.N X.env.scope scope own ∧ PI X te it wi ∧
      (∀ (s : Shared) (H : AHp) (A : Addr) (cl : List (Str × Addr)) (fp : List Addr), PG (X.blk s H scope (compEnvC scope cl A X.env) fp) te g) ∧
      (∀ (s : Shared) (H : AHp) (A : Addr) (cl : List (Str × Addr)) (fp : List Addr), PTs (X.blk s H scope (compEnvC scope cl A X.env) fp) ifs tt) ∧ (∀ (s : Shared) (H : AHp) (A : Addr) (cl : List (Str × Addr)) (fp : List Addr), PE (X.blk s H scope (compEnvC scope cl A X.env) fp) ex te') ∧
      ∀ σ H Q, tE P F C W e σ H Q → tLc wi g tt te' (own.map (·.2)) σ H Q
  | .frz a, q => by
    rw [okE_frz] at q
    obtain ⟨te, it, ifs, e, hs, wi, g, tt, te', own, b, hi, hg, ht, he, w⟩ := lcE o cold a q
    exact ⟨te, it, ifs, e, hs, wi, g, tt, te', own, b, hi, hg, ht, he, fun σ H Q z => w σ H Q (frz_imp z)⟩
  | .drop a, q => by
    rw [okE_drop] at q
    obtain ⟨te, it, ifs, e, hs, wi, g, tt, te', own, b, hi, hg, ht, he, w⟩ := lcE o cold a q
    exact ⟨te, it, ifs, e, hs, wi, g, tt, te', own, b, hi, hg, ht, he, fun σ H Q z => w σ H Q (drop_imp z)⟩
  | .comp hp elt t src cond, q => by
    obtain ⟨ex', te, it, ifs, scope', pos', e, z1, z2, z3, z4, z5⟩ := inv_comp q
    cases e
    obtain ⟨y1, y2⟩ := sndR src o cold z2
    refine ⟨te, it, ifs, rfl, fold_ok y2, l_comp (hp := hp) o cold (pos := pos) z1 z4 z5 y1 (fold_ok y2) (fun s H A cl fp => (sndE elt (o.blk cold s H scope cl A fp) z3).v) fun s H A cl fp i e => ?_⟩
    rcases z5 with ⟨_, rfl⟩ | ⟨i', rfl, y3, y4⟩
    · cases e
    · cases e
      exact (sndE cond (o.blk cold s H scope cl A fp) y3).t y4
  | .non, q => by simp [okE] at q
  | .nop, q => by simp [okE] at q
  | .bl _, q => by simp [okE] at q
  | .int _, q => by simp [okE] at q
  | .str _, q => by simp [okE] at q
  | .var _, q => by simp [okE] at q
  | .glob _, q => by simp [okE] at q
  | .tup _, q => by simp [okE] at q
  | .lst _ _, q => by simp [okE] at q
  | .dct _ _, q => by simp [okE] at q
  | .dtn, q => by simp [okE] at q
  | .dck _ _, q => by simp [okE] at q
  | .bin _ _ _ _, q => by simp [okE] at q
  | .neg _, q => by simp [okE] at q
  | .cmp _ _ _, q => by simp [okE] at q
  | .ch2 _ _ _ _ _, q => by simp [okE] at q
  | .ch3 _ _ _ _ _ _ _, q => by simp [okE] at q
  | .and _ _, q => by simp [okE] at q
  | .or _ _, q => by simp [okE] at q
  | .not _, q => by simp [okE] at q
  | .ife _ _ _, q => by simp [okE] at q
  | .idx _ _, q => by simp [okE] at q
  | .sli _ _ _ _, q => by simp [okE] at q
  | .rvs _ _, q => by
    rcases inv_rvs q with ⟨_, _, _, _, _, e, _⟩ | ⟨_, _, _, _, _, _, e, _⟩ <;> cases e
  | .fld _ _, q => by simp [okE] at q
  | .call _ _ _, q => by simp [okE] at q
  | .meth _ _ _ _, q => by simp [okE] at q
  | .new _ _, q => by simp [okE] at q
  | .blt _ _ _, q => by simp [okE] at q
  | .mth _ _ _ _, q => by simp [okE] at q
  | .inst _ _, q => by simp [okE] at q
theorem lcEH {G : Gc} {X : Cx} {W : L2.WX} {ex : PySem.Expr} {cs : List Comprehension} {scope : Scope} {pos : Pos} {pp : Addr × Obj} (o : Okc L.toLk P F C k CX G X W) (h1 : L2H.Hot1 X.A pp) (h3 : ∀ a c, C.xc a c → ExL L.toLk C pp a c) (hh : G.hot = true) : ∀ (e : E), okE L.toLk G e (.ListComp ex cs scope pos) = true →
    ∃ (te it : PySem.Expr) (ifs : List PySem.Expr), cs = [⟨te, it, ifs, 0⟩] ∧ (∀ x, foldedSetIterable it X.env x = pure x) ∧ ∃ (tl : TE) (g : TG) (tt : TT) (te' : TE) (own : List (Str × Nat)), BlkOk X.N X.env.scope scope own ∧ PE X it tl ∧
      (∀ (s : Shared) (H : AHp) (A : Addr) (cl : List (Str × Addr)) (fp : List Addr), PG (VH.blkH X s H scope (compEnvC scope cl A X.env) fp pp) te g) ∧
      (∀ (s : Shared) (H : AHp) (A : Addr) (cl : List (Str × Addr)) (fp : List Addr), PTs (VH.blkH X s H scope (compEnvC scope cl A X.env) fp pp) ifs tt) ∧ (∀ (s : Shared) (H : AHp) (A : Addr) (cl : List (Str × Addr)) (fp : List Addr), PE (VH.blkH X s H scope (compEnvC scope cl A X.env) fp pp) ex te') ∧
      ∀ σ H Q, tE P F C W e σ H Q → tLc (iList X.K tl) g tt te' (own.map (·.2)) σ H Q
  | .frz a, q => by
    rw [okE_frz] at q
    obtain ⟨te, it, ifs, e, hs, wi, g, tt, te', own, b, hi, hg, ht, he, w⟩ := lcEH o h1 h3 hh a q
    exact ⟨te, it, ifs, e, hs, wi, g, tt, te', own, b, hi, hg, ht, he, fun σ H Q z => w σ H Q (frz_imp z)⟩
  | .drop a, q => by
    rw [okE_drop] at q
    obtain ⟨te, it, ifs, e, hs, wi, g, tt, te', own, b, hi, hg, ht, he, w⟩ := lcEH o h1 h3 hh a q
    exact ⟨te, it, ifs, e, hs, wi, g, tt, te', own, b, hi, hg, ht, he, fun σ H Q z => w σ H Q (drop_imp z)⟩
  | .comp hp elt t src cond, q => by
    obtain ⟨ex', te, it, ifs, scope', pos', e, z1, z2, z3, z4, z5⟩ := inv_comp q
    cases e
    cases src with
    | lst e =>
      simp only [okR, Bool.and_eq_true] at z2
      refine ⟨te, it, ifs, rfl, fold_ok z2.2, l_compH (hp := hp) o h1 h3 hh (pos := pos) z1 z4 z5 (sndE e o z2.1).v (fold_ok z2.2) (fun s H A cl fp => (sndE elt (o.blkH h1 h3 hh s H scope cl A fp) z3).v) fun s H A cl fp i e => ?_⟩
      rcases z5 with ⟨_, rfl⟩ | ⟨i', rfl, y3, y4⟩
      · cases e
      · cases e
        exact (sndE cond (o.blkH h1 h3 hh s H scope cl A fp) y3).t y4
    | _ => simp [okR, hh] at z2
  | .non, q => by simp [okE] at q
  | .nop, q => by simp [okE] at q
  | .bl _, q => by simp [okE] at q
  | .int _, q => by simp [okE] at q
  | .str _, q => by simp [okE] at q
  | .var _, q => by simp [okE] at q
  | .glob _, q => by simp [okE] at q
  | .tup _, q => by simp [okE] at q
  | .lst _ _, q => by simp [okE] at q
  | .dct _ _, q => by simp [okE] at q
  | .dtn, q => by simp [okE] at q
  | .dck _ _, q => by simp [okE] at q
  | .bin _ _ _ _, q => by simp [okE] at q
  | .neg _, q => by simp [okE] at q
  | .cmp _ _ _, q => by simp [okE] at q
  | .ch2 _ _ _ _ _, q => by simp [okE] at q
  | .ch3 _ _ _ _ _ _ _, q => by simp [okE] at q
  | .and _ _, q => by simp [okE] at q
  | .or _ _, q => by simp [okE] at q
  | .not _, q => by simp [okE] at q
  | .ife _ _ _, q => by simp [okE] at q
  | .idx _ _, q => by simp [okE] at q
  | .sli _ _ _ _, q => by simp [okE] at q
  | .rvs _ _, q => by
    rcases inv_rvs q with ⟨_, _, _, _, _, e, _⟩ | ⟨_, _, _, _, _, _, e, _⟩ <;> cases e
  | .fld _ _, q => by simp [okE] at q
  | .call _ _ _, q => by simp [okE] at q
  | .meth _ _ _ _, q => by simp [okE] at q
  | .new _ _, q => by simp [okE] at q
  | .blt _ _ _, q => by simp [okE] at q
  | .mth _ _ _ _, q => by simp [okE] at q
  | .inst _ _, q => by simp [okE] at q
theorem sndAsg {G : Gc} {X : Cx} {W : L2.WX} {t : Tg} {e : E} {tg v : PySem.Expr} {pos : Pos} (o : OkSt L P F C k CX G X W) (q1 : okTg G t tg = true) (q2 : okE L.toLk G e v = true) (q3 : asgOk tg v = true) : PS X (.Assign [tg] v pos) (tX C W (exec P F (.asg t e))) := by
  have he := (sndE e o.toOkc q2).v
  cases hv : noComp v with
  | true => exact p_asg o q1 he (sw_no hv) q3
  | false =>
    cases v <;> first | (cases hv; done) | (cases tg <;> (cases q3; done)) | skip
    rename_i ex cs scope vp
    cases tg <;> first | (unfold okTg at q1; cases t <;> (cases q1; done)) | exact p_asg o q1 he sw_tp q3 | skip
    rename_i y py
    cases sb : swB G scope y py vp with
    | false => exact p_asg o q1 he (sw_lc o.sc sb) q3
    | true =>
      unfold swB at sb
      simp only [Bool.and_eq_true, decide_eq_true_eq, Bool.not_eq_true'] at sb
      obtain ⟨⟨s1, s2⟩, s3⟩ := sb
      cases t with
      | tp is => unfold okTg at q1; cases q1
      | nm i =>
        have q1' : okW G i y = true := by unfold okTg at q1; exact q1
        obtain ⟨h1, h2, h3⟩ := o.toOkc.loc q1'
        have hyl : X.env.scope.names.lookup y = some .local := by rw [o.sc]; exact s1
        have fin : ∀ {σ : L2.St} {H : AHp} {En : Ends} {Q : VK}, tX C W (exec P F (.asg (.nm i) e)) En σ H → (∀ v H1, gT C.K (.nm i) v σ H1 En.nx → Q v H1) → tE P F C W e σ H Q := fun {σ H En Q} ⟨l, p, h, s, n, q⟩ kq => by
          simp only [exec] at q
          exact (onex_w n q).mono fun x H1 ⟨p1, h1, d, _, n1, rd, q1⟩ => kq _ _ (asg_w (C := C) n1 rd q1)
        cases eh : G.hot with
        | false =>
          obtain ⟨te, it, ifs, rfl, hs, wi, g, tt, te', own, b, hi, hg, ht, hee, w⟩ := lcE o.toOkc eh e q2
          exact ps_weak (ps_setLc (o.calm eh) o.nd h1 hyl (sw_true o.kind hyl s2 s3) hi b hg ht hee hs) fun En σ H q => w σ H _ (fin q fun v H1 z => z)
        | true =>
          obtain ⟨pp, p1, p2, p3⟩ := o.hotp eh
          obtain ⟨te, it, ifs, rfl, hs, tl, g, tt, te', own, b, hi, hg, ht, hee, w⟩ := lcEH o.toOkc p1 p3 eh e q2
          exact ps_weak (VH.ps_setLcH p1 p2 o.nd h1 hyl (sw_true o.kind hyl s2 s3) hi b hg ht hee hs) fun En σ H q => w σ H _ (fin q fun v H1 z => z)
mutual
theorem sndS : ∀ (s : S) {C : Cst} {G : Gc} {X : Cx} {W : L2.WX} {st : PySem.Stmt}, OkSt L P F C k CX G X W → okS L G s st = true → PS X st (tX C W (exec P F s))
  | .asg t e, C, G, X, W, st, o, q => by
    simp only [okS] at q
    cases st <;> try (simp only [okS1] at q; cases q; done)
    rename_i tgs v pos
    rcases tgs with _ | ⟨tg, _ | ⟨t2, ts⟩⟩ <;> simp only [okS1] at q <;> first | (cases q; done) | skip
    simp only [Bool.and_eq_true] at q
    exact sndAsg o q.1.1 q.1.2 q.2
  | .setf a f e, C, G, X, W, st, o, q => by
    simp only [okS] at q
    cases st <;> try (simp only [okS1] at q; cases q; done)
    rename_i tgs v pos
    rcases tgs with _ | ⟨tg, _ | ⟨t2, ts⟩⟩ <;> try (simp only [okS1] at q; cases q; done)
    cases tg <;> simp only [okS1] at q <;> first | (cases q; done) | skip
    simp only [Bool.and_eq_true, decide_eq_true_eq] at q
    obtain ⟨⟨⟨rfl, q1⟩, q2⟩, _⟩ := q
    exact p_setf o (sndE a o.toOkc q1).v (sndE e o.toOkc q2).v
  | .sets a lo hi e, C, G, X, W, st, o, q => by
    simp only [okS] at q
    cases st <;> try (simp only [okS1] at q; cases q; done)
    rename_i tgs v pos
    rcases tgs with _ | ⟨tg, _ | ⟨t2, ts⟩⟩ <;> try (simp only [okS1] at q; cases q; done)
    cases tg <;> try (simp only [okS1] at q; cases q; done)
    rename_i x sl pp
    cases sl <;> try (simp only [okS1] at q; cases q; done)
    rename_i lo' hi' st' p2
    match lo', hi', st', q with
    | some l, some u, none, q =>
      simp only [okS1, Bool.and_eq_true] at q
      exact p_sets o (sndE a o.toOkc q.1.1.1).v (sndE lo o.toOkc q.1.1.2).v (sndE hi o.toOkc q.1.2).v (sndE e o.toOkc q.2).v
    | none, _, _, q => simp [okS1] at q
    | some _, none, _, q => simp [okS1] at q
    | some _, some _, some _, q => simp [okS1] at q
  | .seti a i e, C, G, X, W, st, o, q => by
    simp only [okS] at q
    cases st <;> try (simp only [okS1] at q; cases q; done)
    rename_i tgs v pos
    rcases tgs with _ | ⟨tg, _ | ⟨t2, ts⟩⟩ <;> try (simp only [okS1] at q; cases q; done)
    cases tg <;> simp only [okS1] at q <;> first | (cases q; done) | skip
    simp only [Bool.and_eq_true, decide_eq_true_eq] at q
    obtain ⟨⟨⟨q1, q2⟩, q3⟩, q4⟩ := q
    exact p_seti o (sndE a o.toOkc q1).v (sndE i o.toOkc q2).v (sndE e o.toOkc q3).v q4
  | .par _ _ _ _, C, G, X, W, st, o, q => by simp [okS] at q
  | .exp e, C, G, X, W, st, o, q => by
    simp only [okS] at q
    cases st <;> simp only [okS1] at q <;> first | (cases q; done) | skip
    simp only [Bool.and_eq_true] at q
    exact p_exp (sndE e o.toOkc q.1).v q.2
  | .ite c a b, C, G, X, W, st, o, q => by
    simp only [okS] at q
    split at q
    · rename_i e
      obtain ⟨pos, rfl⟩ := asIf_eq e
      simp only [Bool.and_eq_true] at q
      exact p_ite ((sndE c o.toOkc q.1.1.1).t q.1.1.2) (sndSs a o q.1.2) (sndSs b o q.2)
    · cases q
  | .loop t src body, C, G, X, W, st, o, q => by
    simp only [okS] at q
    split at q
    · rename_i e
      obtain ⟨pos, rfl⟩ := asFor_eq e
      simp only [Bool.and_eq_true] at q
      have cold : G.hot = false := by simpa using q.2
      obtain ⟨y1, y2⟩ := sndR src o.toOkc cold q.1.1.2
      exact p_for o cold q.1.1.1 y1 y2 (sndSs body o q.1.2)
    · cases q
  | .whl c body, C, G, X, W, st, o, q => by
    simp only [okS] at q
    split at q
    · rename_i e
      obtain ⟨pos, rfl⟩ := asWhl_eq e
      simp only [Bool.and_eq_true] at q
      exact p_whl o ((sndE c o.toOkc q.1.1.1).t q.1.1.2) (sndSs body o q.1.2)
    · cases q
  | .ret e, C, G, X, W, st, o, q => by
    simp only [okS] at q
    cases st <;> try (simp only [okS1] at q; cases q; done)
    rename_i v pos
    cases v <;> simp only [okS1] at q <;> first | (cases q; done) | skip
    exact p_ret (sndE e o.toOkc q).v
  | .retn, C, G, X, W, st, o, q => by
    simp only [okS] at q
    cases st <;> try (simp only [okS1] at q; cases q; done)
    rename_i v pos
    cases v <;> simp only [okS1] at q <;> first | (cases q; done) | skip
    exact p_retn
  | .rai c, C, G, X, W, st, o, q => by
    simp only [okS] at q
    cases st <;> try (simp only [okS1] at q; cases q; done)
    rename_i v u pos
    cases v <;> cases u <;> try (simp only [okS1] at q; cases q; done)
    rename_i e
    cases em : asMk e with
    | none => simp only [okS1, em] at q; cases q
    | some z =>
      obtain ⟨nm, m⟩ := z
      simp only [okS1, em, Bool.and_eq_true, decide_eq_true_eq, Bool.not_eq_true'] at q
      exact p_rai o em q.1.1.1 q.1.1.2 q.1.2 q.2
  | .try body hs, C, G, X, W, st, o, q => by
    simp only [okS] at q
    split at q
    · rename_i bd hds e
      obtain ⟨pos, rfl⟩ := asTry_eq e
      simp only [Bool.and_eq_true, Bool.not_eq_true'] at q
      obtain ⟨⟨q1, q2⟩, cold⟩ := q
      have hb : ∀ (W' : L2.WX) (pn : List (Addr × Obj)) (xe : Value → Shared → Prop), L2N.Takes (X.tr pn xe) W' → PassesOwn (model X.prog X.w) X.A X.env xe → PSs (X.tr pn xe) bd (tX C W' (execs P F body)) := fun W' pn xe tk pso => sndSs body (o.tr cold tk pso) q1
      rcases sndHd hs true o cold q2 with ⟨kc, i, suite, x, y, b, su, np, pos', rfl, rfl, h1, h2, h3, h4, h5, h6⟩ | ⟨h0, hr, ls, rfl, z1, z2⟩ | ⟨z, _⟩
      · exact p_try1 o cold hb h6 h1 h2 h3 h4 h5
      · exact p_tryM o cold hb z1 z2
      · cases z
    · cases q
  | .pas, C, G, X, W, st, o, q => by
    simp only [okS] at q
    cases st <;> simp only [okS1] at q <;> first | (cases q; done) | skip
    exact p_pas
  | .frz _, C, G, X, W, st, o, q => by simp [okS] at q
theorem sndSs : ∀ (ss : Ss) {C : Cst} {G : Gc} {X : Cx} {W : L2.WX} {sts : List PySem.Stmt}, OkSt L P F C k CX G X W → okSs L G ss sts = true → PSs X sts (tX C W (execs P F ss))
  | .nil, C, G, X, W, sts, o, q => by
    cases sts with
    | nil => exact p_nil
    | cons x xs => simp [okSs] at q
  | .cons a ss, C, G, X, W, sts, o, q => by
    by_cases z : ∃ i, a = .frz i
    · obtain ⟨i, rfl⟩ := z
      simp only [okSs] at q
      exact p_frz (sndSs ss o q)
    · cases sts with
      | nil => cases a <;> first | (simp [okSs] at q; done) | exact absurd ⟨_, rfl⟩ z
      | cons st r =>
        have q' : okS L G a st = true ∧ okSs L G ss r = true := by
          cases a <;> first | (simp only [okSs, Bool.and_eq_true] at q; exact q) | exact absurd ⟨_, rfl⟩ z
        exact p_cons (sndS a o q'.1) (sndSs ss o q'.2)
theorem sndHd : ∀ (hs : Hd) (fst : Bool) {C : Cst} {G : Gc} {X : Cx} {W : L2.WX} {hds : List ExceptHandler}, OkSt L P F C k CX G X W → G.hot = false → okHd L G fst hs hds = true →
    (∃ (kc : String) (i : Nat) (suite : Ss) (x y : Str) (b : PySem.Stmt) (su : List PySem.Stmt) (np pos' : Pos), hs = .one kc (some i) suite .nil ∧ hds = [.ExceptHandler (some (.Name x np)) (some y) (b :: su) pos'] ∧ Str.ofString kc = x ∧ okG G x = true ∧ L.ex kc = true ∧ G.N[i]? = some y ∧ G.sc.names.lookup y = some .local ∧
      ∀ (a : Addr) (oe : Obj) (pn : List (Addr × Obj)) (c : String), L.ex c = true → L2N.Zn (C.cv c) none oe → (∃ vs, oe.data = .fields vs) → PSs (X.suite a ((a, oe) :: pn)) (b :: su) (tX (C.one a c) (fun _ _ _ _ => False) (execs P F suite))) ∨
    (∃ (h0 : ExceptHandler) (hr : List ExceptHandler) (ls : List (Value × (Addr → Value → Option Addr → TS))), hds = h0 :: hr ∧ L2N.HdsOk X (h0 :: hr) ls ∧ HdR P F L C hs ls) ∨ (fst = false ∧ hs = .nil ∧ hds = [])
  | .nil, fst, C, G, X, W, hds, o, cold, q => by
    simp only [okHd, Bool.and_eq_true, List.isEmpty_iff, Bool.not_eq_true'] at q
    exact .inr (.inr ⟨q.2, rfl, q.1⟩)
  | .one c sl suite rest, fst, C, G, X, W, hds, o, cold, q => by
    simp only [okHd] at q
    cases hds with
    | nil => cases q
    | cons hd r =>
      simp only at q
      split at q
      · rename_i x n b su e
        obtain ⟨np, pos', rfl⟩ := asHd_eq e
        simp only [Bool.and_eq_true, decide_eq_true_eq] at q
        obtain ⟨⟨⟨⟨⟨q1, q2⟩, q3⟩, q4⟩, q5⟩, q6⟩ := q
        have hsu : ∀ (a : Addr) (oe : Obj) (pn : List (Addr × Obj)) (c : String), L.ex c = true → L2N.Zn (C.cv c) none oe → (∃ vs, oe.data = .fields vs) → PSs (X.suite a ((a, oe) :: pn)) (b :: su) (tX (C.one a c) (fun _ _ _ _ => False) (execs P F suite)) :=
          fun a oe pn c hc hz hf => sndSs suite (o.suite cold hc hz hf) q5
        subst q2
        cases sl with
        | some i =>
          cases n with
          | none => simp [okHn] at q1
          | some y =>
            simp only [okHn, Bool.and_eq_true, decide_eq_true_eq, List.isEmpty_iff] at q1
            obtain ⟨⟨⟨⟨y1, y2⟩, y3⟩, y4⟩, y5⟩ := q1
            subst y3
            have er : rest = .nil := by cases rest <;> first | rfl | (cases y2; done)
            subst er
            exact .inl ⟨c, i, suite, _, y, b, su, np, pos', rfl, rfl, rfl, q3, q4, y4, y5, hsu⟩
        | none =>
          cases n with
          | some y => simp [okHn] at q1
          | none =>
            obtain ⟨g1, g2, _⟩ := o.toOkc.gl q3
            obtain ⟨y1, y2, _⟩ := o.fx.cv c q4
            have one : ∀ {ls : List (Value × (Addr → Value → Option Addr → TS))}, L2N.HdsOk X r ls → HdR P F L C rest ls → ∃ (h0 : ExceptHandler) (hr : List ExceptHandler) (ls : List (Value × (Addr → Value → Option Addr → TS))), (ExceptHandler.ExceptHandler (some (.Name (Str.ofString c) np)) none (b :: su) pos' :: r) = h0 :: hr ∧ L2N.HdsOk X (h0 :: hr) ls ∧ HdR P F L C (.one c none suite rest) ls :=
              fun {ls} k1 k2 => ⟨_, _, (.ref (C.ca c), tSu P F L C suite) :: ls, rfl, .cons ⟨g1, g2, .inl y2⟩ (su_ok suite hsu) k1, .cons q4 k2⟩
            rw [if_neg (by simp)] at q6
            have q7 : okHd L G false rest r = true := by
              rcases Bool.or_eq_true_iff.mp q6 with z | z
              · exact z
              · simp only [Bool.and_eq_true, List.isEmpty_iff] at z
                obtain ⟨z1, rfl⟩ := z
                have er : rest = .nil := by cases rest <;> first | rfl | (cases z1; done)
                subst er
                rfl
            rcases sndHd rest false o cold q7 with ⟨kc, i, su', x', y', b', su2, np', p2, rfl, rfl, _⟩ | ⟨h0, hr, ls, rfl, k1, k2⟩ | ⟨_, rfl, rfl⟩
            · simp [okHd, asHd, okHn] at q7
            · exact .inr (.inl (one k1 k2))
            · exact .inr (.inl (one .nil .nil))
      · cases q
end
end
end VI
/-! V14: a law's defs, classes, constants; what each def promises. -/
namespace VI
open PySem PySem.Spec PyProof.Rows L2

structure Dfn where
  d : He.DefD
  N : List Str
  ps : List Str
  fn : Fn
structure Lw where
  defs : List Dfn
  mds : List (String × String × Nat)
  ins : List (String × Nat)
  cls : List (String × List String)
  exc : List String
  con : List (String × D)
  /-- the classes over each exception's -/
  up : List (String × List String)
  /-- defs that are called where an exception is handled -/
  hot : List Nat
def Lw.pr (w : Lw) : Pr where
  tab f := (w.defs[f]?).map (·.fn)
  mid c m := (w.mds.find? fun q => decide (q.1 = c) && decide (q.2.1 = m)).map (·.2.2)
  ini c := w.ins.lookup c
  fok c f := w.cls.any fun q => decide (q.1 = c) && q.2.any fun g => decide (g = f)
  con x := w.con.lookup x
  sub c k := decide (c = k) || ((w.up.lookup c).getD []).any fun q => decide (q = k)
  exs c := w.exc.any fun q => decide (q = c)
def Lw.lx (w : Lw) : Lx where
  fnm f := match w.defs[f]? with
    | some x => (match x.d.at_.2 with
      | none => some x.d.at_.1
      | some _ => none)
    | none => none
  glo x := w.con.any fun q => decide (Str.ofString q.1 = x)
  cls c := (w.ins.lookup c).isSome
  ex c := w.exc.any fun q => decide (q = c)
  hot f := w.hot.any fun q => decide (q = f)
def scB (N ps : List Str) (sc : Scope) : Bool := (match sc.kind with | .function => true | _ => false) && !sc.isCoroutine && !sc.isGenerator && decide N.Nodup && decide (N.take ps.length = ps) &&
  (ps.all fun x => decide (sc.names.lookup x = some .local) || decide (sc.names.lookup x = some .cell)) && sc.names.all fun y => !decide (y.2 = .free)
theorem scB_ok {N ps : List Str} {sc : Scope} (q : scB N ps sc = true) : FnScope N ps sc := by
  unfold scB at q
  simp only [Bool.and_eq_true, Bool.not_eq_true', decide_eq_true_eq, List.all_eq_true, Bool.or_eq_true, decide_eq_false_iff_not] at q
  obtain ⟨⟨⟨⟨⟨⟨q1, q2⟩, q3⟩, q4⟩, q5⟩, q6⟩, q7⟩ := q
  refine ⟨?_, q2, q3, q4, q5, q6, q7⟩
  split at q1
  · assumption
  · cases q1
def Dfn.chk (L : Lx) (x : Dfn) : Bool := x.d.dfl.isEmpty && x.d.kwd.isEmpty && scB x.N x.ps x.d.scope && decide (x.fn.np = x.ps.length) && decide (x.fn.ns = x.N.length) && okSs L ⟨x.N, x.d.scope, none, false⟩ x.fn.body x.d.body
def Dfn.hck (L : Lx) (x : Dfn) : Bool := okSs L ⟨x.N, x.d.scope, none, true⟩ x.fn.body x.d.body
def BindOk (x : Dfn) : Prop := ∀ (kV doc pm : Value) (an : Option Addr) (cdv ct : Value) (us : List Value), us.length = x.ps.length →
  bindArgs (PySem.W.fnOf x.d.name x.d.qual x.d.params x.d.body x.d.scope .none kV doc pm an cdv ct) ⟨us, []⟩ = pure (x.ps.zip us)
def Lw.mdB (w : Lw) : Bool := (w.mds.all fun q => decide (((w.defs[q.2.2]?).map fun x => x.d.at_) = some (Str.ofString q.1, some (Str.ofString q.2.1)))) &&
  w.ins.all fun q => decide (((w.defs[q.2]?).map fun x => x.d.at_) = some (Str.ofString q.1, some ("__init__" : Str)))
structure Lw.Good (w : Lw) : Prop where
  chk : w.defs.all (Dfn.chk w.lx) = true
  hck : (w.hot.all fun f => match w.defs[f]? with | some x => x.hck w.lx | none => true) = true
  md : w.mdB = true
  bind : ∀ x ∈ w.defs, BindOk x

/-! ### constants -/
mutual
def datB (K : PySem.W.Frag) : D → Value → Bool
  | .non, .none => true
  | .bl a, .bool b => a == b
  | .int i, .int j _ => decide (i = j)
  | .str x, .str y _ => decide (sOf x = y)
  | .tup xs, .ref a => (match K.lookup a with
    | some ⟨.type c, _, .seq its _, _⟩ => decide (c = "tuple") && (decide (its.size ≤ sizeLine) && (datsB K xs its.toList && xs.all isTx))
    | _ => false)
  | _, _ => false
def datsB (K : PySem.W.Frag) : List D → List Value → Bool
  | [], [] => true
  | x :: xs, u :: us => datB K x u && datsB K xs us
  | _, _ => false
end
theorem strs_w {C : Cst} {p : List Addr} {h : Hs} {H : AHp} : ∀ {xs : List D} {vs : List V}, DRs C p h H xs vs → xs.all isTx = true → ∀ v ∈ vs, ∃ z, v = V.str z
  | _, _, .nil, _ => fun _ m => by cases m
  | _, _, .cons r t, q => fun v m => by
    rw [List.all_cons, Bool.and_eq_true] at q
    rcases List.mem_cons.mp m with rfl | m
    · exact isTx_w r q.1
    · exact strs_w t q.2 v m
mutual
theorem datB_ok {C : Cst} : ∀ {d : D} {u : Value}, datB C.K d u = true → ∃ v, RelV v u ∧ ∀ l p h H, DR (C.hid l) p h H d v
  | .non, u, q => by
    cases u <;> simp only [datB] at q <;> first | (cases q; done) | exact ⟨.non, rfl, fun _ _ _ _ => .non⟩
  | .bl a, u, q => by
    cases u <;> simp only [datB] at q <;> first | (cases q; done) | skip
    rename_i b
    obtain rfl : a = b := eq_of_beq q
    exact ⟨.bl a, rfl, fun _ _ _ _ => .bl a⟩
  | .int i, u, q => by
    cases u <;> simp only [datB] at q <;> first | (cases q; done) | skip
    obtain rfl := of_decide_eq_true q
    exact ⟨.int i, ⟨_, rfl⟩, fun _ _ _ _ => .int i⟩
  | .str x, u, q => by
    cases u <;> simp only [datB] at q <;> first | (cases q; done) | skip
    obtain rfl := of_decide_eq_true q
    exact ⟨.str (sOf x), ⟨_, rfl⟩, fun _ _ _ _ => .str x⟩
  | .tup xs, u, q => by
    cases u <;> simp only [datB] at q <;> first | (cases q; done) | skip
    rename_i a
    cases e : C.K.lookup a with
    | none => rw [e] at q; cases q
    | some o =>
      obtain ⟨oc, od, dt, osl⟩ := o
      rw [e] at q
      cases oc <;> first | (cases q; done) | skip
      cases dt <;> first | (cases q; done) | skip
      simp only [Bool.and_eq_true, decide_eq_true_eq] at q
      obtain ⟨q1, q2, q3, q4⟩ := q
      obtain ⟨vs, r1, r2⟩ := datsB_ok q3
      refine ⟨.ref a, rfl, fun l p h H => .tup (.inr ⟨.inr ⟨_, _, _, e, ?_, rfl, q2, r1⟩, strs_w (r2 l p h H) q4⟩) (r2 l p h H)⟩
      rw [q1]
  | .lst _, u, q => by simp [datB] at q
  | .ref _, u, q => by simp [datB] at q
  | .exc _, u, q => by simp [datB] at q
  | .scr _, u, q => by simp [datB] at q
theorem datsB_ok {C : Cst} : ∀ {d : List D} {u : List Value}, datsB C.K d u = true → ∃ v, Vals v u ∧ ∀ l p h H, DRs (C.hid l) p h H d v
  | [], [], _ => ⟨[], .nil, fun _ _ _ _ => .nil⟩
  | [], _ :: _, q => by simp [datsB] at q
  | _ :: _, [], q => by simp [datsB] at q
  | x :: xs, u :: us, q => by
    simp only [datsB, Bool.and_eq_true] at q
    obtain ⟨v, r1, r2⟩ := datB_ok q.1
    obtain ⟨vs, s1, s2⟩ := datsB_ok q.2
    exact ⟨v :: vs, .cons r1 s1, fun l p h H => .cons (r2 l p h H) (s2 l p h H)⟩
end
def excB (K : PySem.W.Frag) (D : Addr) : Bool := He.eqO (PySem.W.findIn K (.ref D) "__getattribute__") (some (some (.builtin "BaseException.__getattribute__"))) && He.eqO (PySem.W.findIn K (.ref D) "__getattr__") (some none) && PySem.W.hasDictIn K D &&
  He.eqO (PySem.W.findIn K (.ref D) "__class__") (some (some (.builtin "object.__class__"))) && decide (PySem.W.specialIn K (.builtin "object.__class__") "__get__" = some (some (.builtin "getset_descriptor.__get__"))) && decide (PySem.W.takesIn K (.builtin "object.__class__") = some true) &&
  decide (PySem.W.mroIn K D (.type "object") = some true)
theorem excB_ok {K : PySem.W.Frag} {D : Addr} (q : excB K D = true) (hs : PySem.W.subIn K (.ref D) (.type "BaseException") = some true) : L2.ExcC K D := by
  unfold excB at q
  simp only [Bool.and_eq_true, decide_eq_true_eq] at q
  obtain ⟨⟨⟨⟨⟨⟨q1, q2⟩, q3⟩, q4⟩, q5⟩, q6⟩, q7⟩ := q
  exact ⟨He.eqO_ok q1, He.eqO_ok q2, hs, q3, He.eqO_ok q4, q5, q6, q7⟩
def insB (K : PySem.W.Frag) (D : Addr) : Bool := He.eqO (PySem.W.findIn K (.ref D) "__class__") (some (some (.builtin "object.__class__"))) && (decide (PySem.W.specialIn K (.builtin "object.__class__") "__get__" = some (some (.builtin "getset_descriptor.__get__"))) && (decide (PySem.W.takesIn K (.builtin "object.__class__") = some true) &&
  decide (PySem.W.mroIn K D (.type "object") = some true)))
/-- what the top's end must be, by names -/
def Lw.facts (w : Lw) (K : PySem.W.Frag) : Bool :=
  (w.defs.all fun x => match x.d.at_.2 with | none => (He.Fa.glo x.d.at_.1).ok K | some _ => true) && (bNames.all fun b => (He.Fa.free (Str.ofString b)).ok K) &&
  (w.cls.all fun q => (He.Fa.cls (Str.ofString q.1)).ok K && q.2.all fun f => (He.Fa.noat (Str.ofString q.1) (Str.ofString f)).ok K) &&
  (w.mds.all fun q => (He.Fa.cls (Str.ofString q.1)).ok K && (He.Fa.meth (Str.ofString q.1) (Str.ofString q.2.1)).ok K) &&
  (w.ins.all fun q => (He.Fa.glo (Str.ofString q.1)).ok K && ((He.Fa.mkr (Str.ofString q.1)).ok K && ((He.Fa.cls (Str.ofString q.1)).ok K && insB K (He.ga K (Str.ofString q.1))))) &&
  (w.exc.all fun c => (He.Fa.glo (Str.ofString c)).ok K && ((He.Fa.exc (Str.ofString c)).ok K && (excB K (He.ga K (Str.ofString c)) && (decide (PySem.W.kitOne K (.ref (He.ga K (Str.ofString c))) (.type "ValueError") = some (w.pr.sub c "ValueError")) &&
    w.exc.all fun c' => decide (PySem.W.kitOne K (.ref (He.ga K (Str.ofString c))) (.ref (He.ga K (Str.ofString c'))) = some (w.pr.sub c c')) && decide (PySem.W.exmOne K (.ref (He.ga K (Str.ofString c))) (.ref (He.ga K (Str.ofString c'))) = some (w.pr.sub c c')))))) &&
  (w.con.all fun q => match PySem.W.nsIn K mainGlobals (Str.ofString q.1) with | some (some u) => datB K q.2 u | _ => false)
/-- the constants of the relations -/
def cst (K : PySem.W.Frag) : Cst := ⟨K, fun _ _ => False, fun c => He.ga K (Str.ofString c), fun c => .ref (He.ga K (Str.ofString c)), []⟩
theorem lookup_any {α : Type} {x : String} {d : α} : ∀ {l : List (String × α)}, l.lookup x = some d → (x, d) ∈ l
  | [], q => by cases q
  | (y, e) :: r, q => by
    unfold List.lookup at q
    split at q
    · rename_i z
      cases q
      rw [eq_of_beq z]
      exact List.mem_cons_self
    · exact List.mem_cons_of_mem _ (lookup_any q)
theorem findm {c m : String} {f : Nat} {l : List (String × String × Nat)} (q : (l.find? fun q => decide (q.1 = c) && decide (q.2.1 = m)).map (·.2.2) = some f) : (c, m, f) ∈ l := by
  rw [Option.map_eq_some_iff] at q
  obtain ⟨⟨c', m', f'⟩, e, rfl⟩ := q
  have z := List.find?_some e
  simp only [Bool.and_eq_true, decide_eq_true_eq] at z
  obtain ⟨rfl, rfl⟩ := z
  exact List.mem_of_find?_eq_some e
section
variable {lw : Lw} {pg : Program} {w : World} {K : PySem.W.Frag} {h : Heap} {mg : Str → Option Value} {base : Heap}
theorem SR.nil {C : Cst} {H : AHp} (e : C.hd = []) : SR C [] [] H := by
  refine ⟨rfl, List.nodup_nil, fun a m => (by cases m), fun n o a q _ => (by simp at q), fun a m => ?_⟩
  rw [e] at m; cases m
/-- every def's promise at a level of fuel -/
def AllC (lw : Lw) (pg : Program) (w : World) (K : PySem.W.Frag) (mg : Str → Option Value) (base : Heap) (n : Nat) : Prop := ∀ f y fd, lw.defs[f]? = some y → FunD K y.d.name y.d.qual y.d.params y.d.body y.d.scope (y.d.dvs K) (y.d.kws K) (He.fAd K y.d.at_) fd →
  FnOk pg w K mg base (L2N.CX pg w) (2 * n) (He.fAd K y.d.at_) fd y.ps (spF (cst K) (run lw.pr n f))
/-- and where an exception is handled -/
def AllH (lw : Lw) (pg : Program) (w : World) (K : PySem.W.Frag) (mg : Str → Option Value) (base : Heap) (n : Nat) : Prop := ∀ f y fd, lw.lx.hot f = true → lw.defs[f]? = some y → FunD K y.d.name y.d.qual y.d.params y.d.body y.d.scope (y.d.dvs K) (y.d.kws K) (He.fAd K y.d.at_) fd →
  ∀ (g : Addr → String → Prop) (p : Addr × Obj), (∀ b c, g b c → ExL lw.lx.toLk (cst K) p b c) → VH.FnP pg w K mg base (L2N.CX pg w) (2 * n) (He.fAd K y.d.at_) fd y.ps p (spF ((cst K).xw g) (run lw.pr n f))
def AllOk (lw : Lw) (pg : Program) (w : World) (K : PySem.W.Frag) (mg : Str → Option Value) (base : Heap) (n : Nat) : Prop := AllC lw pg w K mg base n ∧ AllH lw pg w K mg base n
theorem fx_of (good : lw.Good) (X : K.In h) (G : h.Ns mainGlobals mg) (fa : lw.facts K = true) (says : He.SaysD [] (lw.defs.map (·.d)) K) {n : Nat} (all : AllOk lw pg w K mg base n) :
    Fx lw.lx.toLk lw.pr (run lw.pr n) (cst K) (2 * n) (L2N.CX pg w) pg w K mg base := by
  unfold Lw.facts at fa
  simp only [Bool.and_eq_true, List.all_eq_true] at fa
  obtain ⟨⟨⟨⟨⟨⟨f1, f2⟩, f3⟩, f4⟩, f5⟩, f6⟩, f7⟩ := fa
  have hdef : ∀ {f : Nat} {y : Dfn}, lw.defs[f]? = some y → ∃ fd, FunD K y.d.name y.d.qual y.d.params y.d.body y.d.scope (y.d.dvs K) (y.d.kws K) (He.fAd K y.d.at_) fd ∧ L2.Binds K fd y.ps [] ∧ FnOk pg w K mg base (L2N.CX pg w) (2 * n) (He.fAd K y.d.at_) fd y.ps (spF (cst K) (run lw.pr n f)) := by
    intro f y e
    have m := List.mem_of_getElem? e
    obtain ⟨fd, F⟩ := says.defs (List.mem_map_of_mem (f := (·.d)) m)
    refine ⟨fd, F, ?_, all.1 f y fd e F⟩
    have ck := List.all_eq_true.mp good.chk y m
    unfold Dfn.chk at ck
    simp only [Bool.and_eq_true, List.isEmpty_iff] at ck
    obtain ⟨⟨⟨⟨⟨c1, c2⟩, _⟩, _⟩, _⟩, _⟩ := ck
    have e1 : y.d.dvs K = [] := by unfold He.DefD.dvs; rw [c1]; rfl
    rw [e1] at F
    exact F.bindsN (good.bind y m)
  have md := good.md
  unfold Lw.mdB at md
  simp only [Bool.and_eq_true, List.all_eq_true, decide_eq_true_eq] at md
  obtain ⟨md1, md2⟩ := md
  have exm : ∀ {c : String}, lw.lx.ex c = true → c ∈ lw.exc := fun {c} hc => by
    have z : (lw.exc.any fun q => decide (q = c)) = true := hc
    rw [List.any_eq_true] at z
    obtain ⟨c', m', e⟩ := z
    rw [← of_decide_eq_true e]; exact m'
  refine ⟨rfl, fun x m => He.free_ok X G (f2 x m), ?_, ?_, ?_, ?_, ?_, ?_, fun c q => q, ?_, ?_, ?_, ?_, ?_, ?_⟩
  · intro n d _ e
    have z := f7 (n, d) (lookup_any e)
    cases e2 : PySem.W.nsIn K mainGlobals (Str.ofString n) with
    | none => rw [e2] at z; cases z
    | some o =>
      rw [e2] at z
      cases o with
      | none => cases z
      | some u =>
        obtain ⟨v, r1, r2⟩ := datB_ok (C := cst K) (d := d) (u := u) z
        exact ⟨v, u, PySem.W.mg_of X G e2, r1, r2⟩
  · intro f x e
    have e' : (match lw.defs[f]? with
      | some x => (match x.d.at_.2 with
        | none => some x.d.at_.1
        | some _ => none)
      | none => none) = some x := e
    cases ey : lw.defs[f]? with
    | none => rw [ey] at e'; cases e'
    | some y =>
      rw [ey] at e'
      obtain ⟨fd, F, B, O⟩ := hdef ey
      cases ea : y.d.at_.2 with
      | some _ => simp only [ea] at e'; cases e'
      | none =>
        simp only [ea] at e'
        obtain rfl := Option.some.inj e'
        have g := f1 y (List.mem_of_getElem? ey)
        rw [ea] at g
        have ad : He.fAd K y.d.at_ = He.ga K y.d.at_.1 := by unfold He.fAd; rw [ea]
        rw [ad] at F O
        exact ⟨_, fd, y.ps, He.glo_ok X G g, F.kp, B, O⟩
  · intro c f e
    have e' : (lw.cls.any fun q => decide (q.1 = c) && q.2.any fun g => decide (g = f)) = true := e
    rw [List.any_eq_true] at e'
    obtain ⟨⟨c', fs⟩, m, z⟩ := e'
    simp only [Bool.and_eq_true, decide_eq_true_eq, List.any_eq_true] at z
    obtain ⟨rfl, g, mg', rfl⟩ := z
    obtain ⟨z1, z2⟩ := f3 _ m
    exact ⟨He.cls_ok z1, He.noat_ok (z2 g mg')⟩
  · intro c m f e
    have mm := findm (l := lw.mds) e
    obtain ⟨z1, z2⟩ := f4 _ mm
    have ea := md1 _ mm
    cases ey : lw.defs[f]? with
    | none => simp only [ey] at ea; cases ea
    | some y =>
      simp only [ey, Option.map_some, Option.some.injEq] at ea
      obtain ⟨fd, F, B, O⟩ := hdef ey
      have ad : He.fAd K y.d.at_ = He.ma K (He.ga K (Str.ofString c)) (Str.ofString m) := by rw [ea]; rfl
      rw [ad] at O
      exact ⟨_, fd, y.ps, He.cls_ok z1, He.meth_ok z2, B, O⟩
  · intro c e
    obtain ⟨f, e2⟩ := Option.isSome_iff_exists.mp (show (lw.ins.lookup c).isSome = true from e)
    have mm := lookup_any e2
    obtain ⟨z1, z2, _, _⟩ := f5 _ mm
    have ea := md2 _ mm
    cases ey : lw.defs[f]? with
    | none => simp only [ey] at ea; cases ea
    | some y =>
      simp only [ey, Option.map_some, Option.some.injEq] at ea
      obtain ⟨fd, F, B, O⟩ := hdef ey
      have ad : He.fAd K y.d.at_ = He.ma K (He.ga K (Str.ofString c)) ("__init__" : Str) := by rw [ea]; rfl
      rw [ad] at O
      exact ⟨f, _, fd, y.ps, e2, He.glo_ok X G z1, He.mkr_ok z2, B, O⟩
  · intro st H s e s' z
    obtain ⟨_, _, _, _, _, _, _, _, _, _, _, _, z⟩ := z
    exact z
  · intro c hc
    obtain ⟨z1, z2, z3, _⟩ := f6 c (exm hc)
    exact ⟨rfl, He.glo_ok X G z1, excB_ok z3 (He.exc_ok z2).2.2.1⟩
  · intro c hc
    obtain ⟨z1, z2, z3, _⟩ := f6 c (exm hc)
    exact He.exc_ok z2
  · intro c c' hc hc'
    obtain ⟨z1, z2, z3, z4, z5⟩ := f6 c (exm hc)
    exact ⟨of_decide_eq_true (z5 c' (exm hc')).1, of_decide_eq_true (z5 c' (exm hc')).2⟩
  · intro c e
    obtain ⟨f, e2⟩ := Option.isSome_iff_exists.mp (show (lw.ins.lookup c).isSome = true from e)
    obtain ⟨_, _, z3, z4⟩ := f5 _ (lookup_any e2)
    unfold insB at z4
    simp only [Bool.and_eq_true, decide_eq_true_eq] at z4
    obtain ⟨w1, w2, w3, w4⟩ := z4
    exact ⟨He.cls_ok z3, He.eqO_ok w1, w2, w3, w4⟩
  · intro c hc
    obtain ⟨z1, z2, z3, z4, z5⟩ := f6 c (exm hc)
    exact of_decide_eq_true z4
  · intro f x hh e
    have e' : (match lw.defs[f]? with
      | some x => (match x.d.at_.2 with
        | none => some x.d.at_.1
        | some _ => none)
      | none => none) = some x := e
    cases ey : lw.defs[f]? with
    | none => rw [ey] at e'; cases e'
    | some y =>
      rw [ey] at e'
      obtain ⟨fd, F, B, O⟩ := hdef ey
      cases ea : y.d.at_.2 with
      | some _ => simp only [ea] at e'; cases e'
      | none =>
        simp only [ea] at e'
        obtain rfl := Option.some.inj e'
        have g := f1 y (List.mem_of_getElem? ey)
        rw [ea] at g
        have ad : He.fAd K y.d.at_ = He.ga K y.d.at_.1 := by unfold He.fAd; rw [ea]
        have H := all.2 f y fd hh ey F
        rw [ad] at F H
        exact ⟨_, fd, y.ps, He.glo_ok X G g, F.kp, B, H⟩
theorem okR_fin {C : Cst} {p : List Addr} {h : Hs} {H : AHp} {r : VI.X} {Q : VK} {E : XK} (q : OkR C p h H r.fin Q (fun c H' => E (C.cv c) none H')) : OkX C p h H r { nx := fun _ H' => Q .non H', rt := Q } (fun cls d _ H' => E cls d H') := by
  cases r with
  | nx s h' => exact fun p' H' σ' a b => q p' H' .non a b.sr .non
  | rt d h' => exact q
  | ex c s h' => exact fun p' H' σ' a b => q p' H' a b.sr
  | bad => exact q
theorem start_er {C : Cst} {p : List Addr} {h : Hs} {H : AHp} {ds : List D} {vs : List V} {N : List Str} {m : Nat} (r : DRs C p h H ds vs) (l : ds.length ≤ N.length) (e : m = N.length) : ER C p h H (ds.map some ++ List.replicate (m - ds.length) none) (start N vs) := by
  subst e
  unfold L2.start
  have lr := r.len
  refine ⟨by simp [lr], fun i d q => ?_⟩
  by_cases z : i < ds.length
  · rw [List.getElem?_append_left (by simpa using z), List.getElem?_map, Option.map_eq_some_iff] at q
    obtain ⟨d', e1, e2⟩ := q
    cases e2
    obtain ⟨v, e3, e4⟩ := r.get e1
    exact ⟨v, by rw [List.getElem?_append_left (by rw [List.length_map, ← lr]; exact z), List.getElem?_map, e3]; rfl, e4⟩
  · rw [List.getElem?_append_right (by simpa using z), List.getElem?_replicate] at q
    split at q
    · cases q
    · cases q
theorem all_C (good : lw.Good) (X : K.In h) (G : h.Ns mainGlobals mg) (fa : lw.facts K = true) (says : He.SaysD [] (lw.defs.map (·.d)) K) (n : Nat) (all : n = 0 ∨ ∃ m, n = m + 1 ∧ AllOk lw pg w K mg base m) : AllC lw pg w K mg base n := by
  rcases all with rfl | ⟨n, rfl, all⟩
  · refine fun f y fd _ _ => ?_
    have no : ∀ vs H Q E, ¬ spF (cst K) (run lw.pr 0 f) vs H Q E := fun vs H Q E ⟨l, p, h, ds, _, _, z⟩ => by
      unfold run at z; exact z
    exact ⟨fun vs H Q E z => absurd z (no vs H Q E), fun A outer s H args us vs Q E _ _ _ _ z => absurd z (no vs H Q E)⟩
  · refine fun f y fd ey F => ?_
    have fx := fx_of good X G fa says all
    have m := List.mem_of_getElem? ey
    have ck := List.all_eq_true.mp good.chk y m
    unfold Dfn.chk at ck
    simp only [Bool.and_eq_true, List.isEmpty_iff, decide_eq_true_eq] at ck
    obtain ⟨⟨⟨⟨⟨c1, c2⟩, c3⟩, c4⟩, c5⟩, c6⟩ := ck
    have S := scB_ok c3
    have red : ∀ ds h, run lw.pr (n + 1) f ds h = apply lw.pr (run lw.pr n) y.fn ds h := fun ds h => by
      show (match lw.pr.tab f with | some d => apply lw.pr (run lw.pr n) d ds h | none => .bad) = _
      have : lw.pr.tab f = some y.fn := by show (lw.defs[f]?).map (·.fn) = _; rw [ey]; rfl
      rw [this]
    have lenOf : ∀ {l : List Addr} {p : List Addr} {h : Hs} {H : AHp} {ds : List D} {Q : VK} {w' : String → AHp → Prop}, OkR ((cst K).hid l) p h H (run lw.pr (n + 1) f ds h) Q w' → ds.length = y.ps.length ∧ OkR ((cst K).hid l) p h H (execs lw.pr (run lw.pr n) y.fn.body (ds.map some ++ List.replicate (y.fn.ns - ds.length) none) h).fin Q w' := by
      intro l p h H ds Q w' q
      rw [red] at q
      unfold VI.apply at q
      split at q
      · rename_i z
        exact ⟨z.trans c4, q⟩
      · exact q.elim
    show FnOk pg w K mg base (L2N.CX pg w) (2 * n + 1 + 1) (He.fAd K y.d.at_) fd y.ps (spF (cst K) (run lw.pr (n + 1) f))
    refine F.ok S (fun vs H Q E ⟨l, p, h, ds, sr, rd, q⟩ => by rw [← rd.len]; exact (lenOf q).1) fun cdv A outer s H vs Q E hr ⟨l, p, h, ds, sr, rd, q⟩ => ?_
    obtain ⟨q1, q2⟩ := lenOf q
    have lN : ds.length ≤ y.N.length := by
      have := congrArg List.length S.pre
      rw [List.length_take] at this
      omega
    have tk : L2N.Takes (cxOf (L2N.CX pg w) pg w K mg base y.N y.d.qual y.d.scope (He.fAd K y.d.at_) cdv A outer s H E) (fun cls d _ H' => E cls d H') := L2N.takes_of rfl rfl rfl rfl
    have o : OkSt lw.lx lw.pr (run lw.pr n) (cst K) (2 * n) (L2N.CX pg w) ⟨y.N, y.d.scope, none, false⟩ (cxOf (L2N.CX pg w) pg w K mg base y.N y.d.qual y.d.scope (He.fAd K y.d.at_) cdv A outer s H E) (fun cls d _ H' => E cls d H') :=
      { sc := rfl, N := rfl, nd := S.nd, own := rfl, calm := fun _ => rfl, cold := fun _ => rfl, room := fun _ => hr, roomH := L2H.roomH_of hr, hotp := nofun, fx := fx, kind := S.kind, tk := tk, pso := passes_of rfl, cxe := rfl, hs := rfl, hf := rfl
        pass := fun σ pins H s e s' J z => tk e s' (L2N.XE.of_call J (fun cls d H' y => y) z) }
    refine ⟨tX (cst K) (fun cls d _ H' => E cls d H') (execs lw.pr (run lw.pr n) y.fn.body), sndSs y.fn.body o c6, l, p, h, ds.map some ++ List.replicate (y.fn.ns - ds.length) none, ⟨sr, start_er rd lN c5⟩, okR_fin q2⟩
theorem all_H (good : lw.Good) (X : K.In h) (G : h.Ns mainGlobals mg) (fa : lw.facts K = true) (says : He.SaysD [] (lw.defs.map (·.d)) K) (n : Nat) (all : n = 0 ∨ ∃ m, n = m + 1 ∧ AllOk lw pg w K mg base m) : AllH lw pg w K mg base n := by
  rcases all with rfl | ⟨n, rfl, all⟩
  · refine fun f y fd _ _ _ g p _ => ?_
    have no : ∀ vs H Q E, ¬ spF ((cst K).xw g) (run lw.pr 0 f) vs H Q E := fun vs H Q E ⟨l, p, h, ds, _, _, z⟩ => by
      unfold run at z; exact z
    exact ⟨fun vs H Q E z => absurd z (no vs H Q E), fun A outer s H args us vs Q E _ _ _ _ _ _ z => absurd z (no vs H Q E)⟩
  · refine fun f y fd hh ey F g p hp => ?_
    have fx := fx_of good X G fa says all
    have m := List.mem_of_getElem? ey
    have ck := List.all_eq_true.mp good.chk y m
    unfold Dfn.chk at ck
    simp only [Bool.and_eq_true, List.isEmpty_iff, decide_eq_true_eq] at ck
    obtain ⟨⟨⟨⟨⟨c1, c2⟩, c3⟩, c4⟩, c5⟩, _⟩ := ck
    have c6 : y.hck lw.lx = true := by
      have z : (lw.hot.any fun q => decide (q = f)) = true := hh
      rw [List.any_eq_true] at z
      obtain ⟨f', m', e⟩ := z
      obtain rfl := of_decide_eq_true e
      have z := List.all_eq_true.mp good.hck _ m'
      rw [ey] at z
      exact z
    unfold Dfn.hck at c6
    have S := scB_ok c3
    have red : ∀ ds h, run lw.pr (n + 1) f ds h = apply lw.pr (run lw.pr n) y.fn ds h := fun ds h => by
      show (match lw.pr.tab f with | some d => apply lw.pr (run lw.pr n) d ds h | none => .bad) = _
      have : lw.pr.tab f = some y.fn := by show (lw.defs[f]?).map (·.fn) = _; rw [ey]; rfl
      rw [this]
    have lenOf : ∀ {l : List Addr} {p : List Addr} {h : Hs} {H : AHp} {ds : List D} {Q : VK} {w' : String → AHp → Prop}, OkR (((cst K).xw g).hid l) p h H (run lw.pr (n + 1) f ds h) Q w' → ds.length = y.ps.length ∧ OkR (((cst K).xw g).hid l) p h H (execs lw.pr (run lw.pr n) y.fn.body (ds.map some ++ List.replicate (y.fn.ns - ds.length) none) h).fin Q w' := by
      intro l p h H ds Q w' q
      rw [red] at q
      unfold VI.apply at q
      split at q
      · rename_i z
        exact ⟨z.trans c4, q⟩
      · exact q.elim
    show VH.FnP pg w K mg base (L2N.CX pg w) (2 * n + 1 + 1) (He.fAd K y.d.at_) fd y.ps p (spF ((cst K).xw g) (run lw.pr (n + 1) f))
    refine VH.okP F S (fun vs H Q E ⟨l, p, h, ds, sr, rd, q⟩ => by rw [← rd.len]; exact (lenOf q).1) fun cdv A outer s H vs Q E hot hr ⟨l, p', h, ds, sr, rd, q⟩ => ?_
    obtain ⟨q1, q2⟩ := lenOf q
    have lN : ds.length ≤ y.N.length := by
      have := congrArg List.length S.pre
      rw [List.length_take] at this
      omega
    have tk : L2N.Takes (L2H.cxH (L2N.CX pg w) pg w K mg base y.N y.d.qual y.d.scope (He.fAd K y.d.at_) cdv A outer s H E p) (fun cls d _ H' => E cls d H') := L2N.takes_of rfl rfl rfl rfl
    have o : OkSt lw.lx lw.pr (run lw.pr n) ((cst K).xw g) (2 * n) (L2N.CX pg w) ⟨y.N, y.d.scope, none, true⟩ (L2H.cxH (L2N.CX pg w) pg w K mg base y.N y.d.qual y.d.scope (He.fAd K y.d.at_) cdv A outer s H E p) (fun cls d _ H' => E cls d H') :=
      { sc := rfl, N := rfl, nd := S.nd, own := rfl, calm := nofun, cold := nofun, room := nofun, roomH := hr, hotp := fun _ => ⟨p, hot, List.mem_cons_self, hp⟩, fx := fx, kind := S.kind, tk := tk, pso := passes_of rfl, cxe := rfl, hs := rfl, hf := rfl
        pass := fun σ pins H s e s' J z => tk e s' (L2N.XE.of_call J (fun cls d H' y => y) z) }
    refine ⟨tX ((cst K).xw g) (fun cls d _ H' => E cls d H') (execs lw.pr (run lw.pr n) y.fn.body), sndSs y.fn.body o c6, l, p', h, ds.map some ++ List.replicate (y.fn.ns - ds.length) none, ⟨sr, start_er rd lN c5⟩, okR_fin q2⟩
theorem all_ok (good : lw.Good) (X : K.In h) (G : h.Ns mainGlobals mg) (fa : lw.facts K = true) (says : He.SaysD [] (lw.defs.map (·.d)) K) : ∀ n, AllOk lw pg w K mg base n
  | 0 => ⟨all_C good X G fa says 0 (.inl rfl), all_H good X G fa says 0 (.inl rfl)⟩
  | n + 1 => ⟨all_C good X G fa says (n + 1) (.inr ⟨n, rfl, all_ok good X G fa says n⟩), all_H good X G fa says (n + 1) (.inr ⟨n, rfl, all_ok good X G fa says n⟩)⟩
end
end VI
/-! V15: a law's end. -/
namespace VI
open PySem PySem.Spec PyProof.Rows L2

theorem fn_quiet {P : Program} {w : World} {K : PySem.W.Frag} {mg : Str → Option Value} {base : Heap} {k : Nat} {f : Addr} {fd : FuncData} {ps : List Str} {sp : Sp} (F : FnOk P w K mg base (L2N.CX P w) k f fd ps sp) :
    FnOk P w K mg base CX0 k f fd ps (fun vs H Q _ => sp vs H Q fun _ _ _ => False) := by
  refine ⟨fun vs H Q E z => F.len vs H Q _ z, fun A outer s H args us vs Q E hr he hb hv z => codeAny_mono (F.run A outer s H args us vs Q _ hr he hb hv z) fun r s' q => ?_⟩
  match r, q with
  | .error e, q =>
    obtain ⟨_, _, _, _, _, _, _, _, _, _, _, _, q⟩ := q
    exact q.elim
  | .ok (.ret u), q => exact q
/-- the hook of a law's top -/
abbrev hkOf (n : Nat) (lw : Lw) : PySem.W.Hook := He.hookX n [] (lw.defs.map (·.d)) [] [] lw.facts
theorem law_end {l : PySem.W.OpenLaw} {q : Program} {loose : List Str} {XP : (Str → Option Value) → Heap → Prop} {d : DefRec} {lw : Lw} {m n i hn : Nat} {x : Str} {y : Dfn} (good : lw.Good) (h1 : l.most = some m) (h2 : m ≤ sizeLine) (h3 : d.params.defaults = []) (hr : Room (2 * n) callerA)
    (hy : lw.defs[i]? = some y) (hp : y.ps = [x]) (ha : y.d.at_ = (d.name, none)) (law : ∀ ns : List Int, ns.length ≤ m → ∃ h', run lw.pr n i [.scr ns] [] = .ok (.bl true) h') :
    PySem.W.WalkO q loose XP (hkOf hn lw).says l.row.toRowW d [] (fun f vs => PySem.call f vs) := by
  refine L2.walk_ofE (l := l) (n := m) (k := 2 * n) (x := x) (CX := L2.CX0) h1 h2 h3 hr ?_ (fun _ _ _ _ z => z)
  intro w mg fa h Y G hmg
  obtain ⟨K, KX, c⟩ := Y
  have says : He.SaysD [] (lw.defs.map (·.d)) K := c.t.d
  obtain ⟨fd, F⟩ := says.defs (List.mem_map_of_mem (f := (·.d)) (List.mem_of_getElem? hy))
  have fx := fx_of (pg := l.prog) (w := w) (base := h) good KX G c.more says (all_ok good KX G c.more says n)
  have ad : He.fAd K y.d.at_ = He.ga K d.name := by rw [ha]; rfl
  have fa2 := c.more
  unfold Lw.facts at fa2
  simp only [Bool.and_eq_true, List.all_eq_true] at fa2
  have g := fa2.1.1.1.1.1.1 y (List.mem_of_getElem? hy)
  rw [ha] at g
  have e0 := hmg.symm.trans (He.glo_ok KX G g)
  have ef : fa = He.ga K d.name := by cases e0; rfl
  have ck := List.all_eq_true.mp good.chk y (List.mem_of_getElem? hy)
  unfold Dfn.chk at ck
  simp only [Bool.and_eq_true, List.isEmpty_iff] at ck
  obtain ⟨⟨⟨⟨⟨c1, c2⟩, _⟩, _⟩, _⟩, _⟩ := ck
  have e1 : y.d.dvs K = [] := by unfold He.DefD.dvs; rw [c1]; rfl
  have bb : ∀ (s : Shared) (us : List Value), us.length = y.ps.length → BindsTo s fd ⟨us, []⟩ (y.ps.zip us) := by
    have F' := F
    rw [e1] at F'
    exact F'.bindsA (good.bind y (List.mem_of_getElem? hy))
  rw [hp] at bb
  refine ⟨K, fd, fun vs H Q _ => spF (cst K) (run lw.pr n i) vs H Q fun _ _ _ => False, KX, fun s u => bb s [u] rfl, fun H a ns hl _ hS => ?_, fun base kb gb => ?_⟩
  · obtain ⟨h', e⟩ := law ns hl
    have srn : SR ((cst K).hid []) [] [] H := SR.nil rfl
    have za : ZAt ((cst K).hid []) [] [] H a (ns.map V.int) := by
      rcases hS with z | z
      · refine .inl ⟨z, fun mm => ?_⟩
        rcases mm with mm | ⟨_, _, mm, _⟩
        · cases mm
        · simp at mm
      · exact .inr (.inr z)
    refine ⟨[], [], [], [.scr ns], srn, .cons (.scr za) .nil, ?_⟩
    rw [e]
    intro p' H' v _ _ r
    cases r
    rfl
  · have O := (all_ok (pg := l.prog) (w := w) (base := base) good KX G c.more says n).1 i y fd hy F
    rw [ad, hp] at O
    rw [ef]
    exact fn_quiet O
end VI
/-! V16: plain tools for runs: loops, comprehensions, calls. -/
namespace VI

theorem run_eq {P : Pr} {n f : Nat} {d : Fn} {ds : List D} {h : Hs} (e : P.tab f = some d) (l : ds.length = d.np) : run P (n + 1) f ds h = (execs P (run P n) d.body (ds.map some ++ List.replicate (d.ns - ds.length) none) h).fin := by
  show (match P.tab f with | some d => apply P (run P n) d ds h | none => .bad) = _
  rw [e]
  show apply P (run P n) d ds h = _
  unfold apply
  rw [if_pos l]
mutual
/-- no reference at all -/
def D.pu : D → Bool
  | .ref _ => false
  | .tup xs => D.pus xs
  | .lst xs => D.pus xs
  | _ => true
def D.pus : List D → Bool
  | [] => true
  | x :: xs => x.pu && D.pus xs
end
mutual
theorem D.pu_blw {n : Nat} : ∀ {d : D}, d.pu = true → d.blw n = true
  | .non, _ => rfl
  | .bl _, _ => rfl
  | .int _, _ => rfl
  | .str _, _ => rfl
  | .exc _, _ => rfl
  | .scr _, _ => rfl
  | .ref _, q => by cases q
  | .tup xs, q => by
    have q' : D.pus xs = true := q
    show D.blws n xs = true
    exact D.pus_blws q'
  | .lst xs, q => by
    have q' : D.pus xs = true := q
    show D.blws n xs = true
    exact D.pus_blws q'
theorem D.pus_blws {n : Nat} : ∀ {ds : List D}, D.pus ds = true → D.blws n ds = true
  | [], _ => rfl
  | x :: xs, q => by
    have q' : (x.pu && D.pus xs) = true := q
    rw [Bool.and_eq_true] at q'
    show (x.blw n && D.blws n xs) = true
    rw [D.pu_blw q'.1, D.pus_blws q'.2]; rfl
end
theorem D.pus_of : ∀ {ds : List D}, (∀ d ∈ ds, d.pu = true) → D.pus ds = true
  | [], _ => rfl
  | x :: xs, q => by
    show (x.pu && D.pus xs) = true
    rw [q x List.mem_cons_self, D.pus_of fun d m => q d (List.mem_cons_of_mem _ m)]; rfl
theorem D.pus_map {α : Type} {g : α → D} {l : List α} (q : ∀ a, (g a).pu = true) : D.pus (l.map g) = true := D.pus_of fun d m => by
  obtain ⟨a, _, rfl⟩ := List.mem_map.mp m
  exact q a
theorem drop_ok {d : D} {h g : Hs} (q : d.pu = true) : dropH h (.ok d (h ++ g)) = .ok d h := by
  unfold dropH
  simp only
  rw [if_pos ⟨by simp, D.pu_blw q⟩]
theorem drop_same {d : D} {h : Hs} (q : d.pu = true) : dropH h (.ok d h) = .ok d h := by
  unfold dropH
  simp only
  rw [if_pos ⟨by simp, D.pu_blw q⟩]
theorem drop_blw {d : D} {h g : Hs} (q : d.blw h.length = true) : dropH h (.ok d (h ++ g)) = .ok d h := by
  unfold dropH
  simp only
  rw [if_pos ⟨by simp, q⟩]
theorem drop_exc {c : String} {h g : Hs} : dropH h (.exc c (h ++ g)) = .exc c h := by
  unfold dropH
  simp only
  rw [if_pos (by simp)]
theorem drop_ecs {c : String} {h : Hs} : dropH h (.exc c h) = .exc c h := by
  unfold dropH
  simp only
  rw [if_pos (by simp)]
theorem lk_nil {h : Hs} : lkOk [] h := fun p m => by cases m
theorem lk_of {d : D} {xs : List D} {h g : Hs} (e : seqOf h d = some xs) : lkOk (lkOf d xs) (h ++ g) := by
  unfold seqOf at e
  split at e
  · exact lk_nil
  · split at e
    · rename_i n xs' e2
      cases e
      intro p m
      rw [List.mem_singleton.mp m]
      rw [List.getElem?_append_left (List.getElem?_eq_some_iff.mp e2).1]
      exact e2
    · cases e
  · cases e
theorem seq_app {d : D} {xs : List D} {h : Hs} (g : Hs) (e : seqOf h d = some xs) : seqOf (h ++ g) d = some xs := by
  unfold seqOf at e ⊢
  split at e
  · exact e
  · split at e
    · rename_i n xs' e2
      rw [List.getElem?_append_left (List.getElem?_eq_some_iff.mp e2).1, e2]
      exact e
    · cases e
  · cases e
theorem any_seq {d : D} {xs : List D} {h : Hs} (e : seqOf h d = some xs) : anyOf h d = some xs := by
  unfold anyOf
  split
  · cases e
  · exact e
theorem seqR_list {d : D} {xs : List D} {h : Hs} (e : seqOf h d = some xs) : seqR d h = .ok xs (lkOf d xs) h := by
  unfold seqR
  split
  · cases e
  · rw [any_seq e]
theorem seqR_tup {xs : List D} {h : Hs} : seqR (.tup xs) h = .ok xs [] h := rfl
theorem seqR_str {x : List Char} {h : Hs} : seqR (.str x) h = .ok (strL x) [] h := rfl
theorem seqR_lst {xs : List D} {h : Hs} : seqR (.lst xs) h = .ok xs [] h := rfl
/-- a loop by its prefixes -/
theorem for_pre {α : Type} {enc : α → D} {body : Env → Hs → X} {t : Tg} {l : Lks} {xs : List α} {S : List α → Env → Hs → Prop} {T : X → Prop} (nt : ∀ s h, ¬ T (.nx s h))
    (lk : ∀ pre s h, S pre s h → lkOk l h) (go : ∀ pre a post s h, xs = pre ++ a :: post → S pre s h → ∃ s1, putT t (enc a) s h = some s1 ∧ ((∃ s2 h2, body s1 h = .nx s2 h2 ∧ S (pre ++ [a]) s2 h2) ∨ T (body s1 h))) :
    ∀ (post pre : List α) (s : Env) (h : Hs), xs = pre ++ post → S pre s h → (∃ s' h', forL body t l (post.map enc) s h = .nx s' h' ∧ S xs s' h') ∨ T (forL body t l (post.map enc) s h)
  | [], pre, s, h, e, q => by
    rw [List.append_nil] at e
    subst e
    refine .inl ⟨s, h, ?_, q⟩
    rw [List.map_nil]
    unfold forL
    rw [if_pos (lk _ _ _ q)]
  | a :: post, pre, s, h, e, q => by
    rw [List.map_cons]
    unfold forL
    rw [if_pos (lk _ _ _ q)]
    obtain ⟨s1, e1, z⟩ := go pre a post s h e q
    rw [e1]
    simp only
    rcases z with ⟨s2, h2, e2, q2⟩ | z
    · rw [e2]
      exact for_pre nt lk go post (pre ++ [a]) s2 h2 (by rw [e]; simp) q2
    · right
      cases eb : body s1 h with
      | nx s2 h2 => rw [eb] at z; exact absurd z (nt _ _)
      | rt d h2 => rw [eb] at z; exact z
      | ex c s2 h2 => rw [eb] at z; exact z
      | bad => rw [eb] at z; exact z
theorem for_all {α : Type} {enc : α → D} {body : Env → Hs → X} {t : Tg} {l : Lks} {xs : List α} {S : List α → Env → Hs → Prop} {s : Env} {h : Hs}
    (lk : ∀ pre s h, S pre s h → lkOk l h) (go : ∀ pre a post s h, xs = pre ++ a :: post → S pre s h → ∃ s1 s2 h2, putT t (enc a) s h = some s1 ∧ body s1 h = .nx s2 h2 ∧ S (pre ++ [a]) s2 h2) (q : S [] s h) :
    ∃ s' h', forL body t l (xs.map enc) s h = .nx s' h' ∧ S xs s' h' := by
  rcases for_pre (T := fun _ => False) (S := S) (xs := xs) (enc := enc) (body := body) (t := t) (l := l) (fun _ _ z => z) lk (fun pre a post s h e q => by
    obtain ⟨s1, s2, h2, z⟩ := go pre a post s h e q
    exact ⟨s1, z.1, .inl ⟨s2, h2, z.2⟩⟩) xs [] s h rfl q with z | z
  · exact z
  · exact z.elim
theorem comp_all {α : Type} {enc : α → D} {elt cond : Env → Hs → R} {t : Tg} {l : Lks} {s : Env} {h : Hs} {p : α → Bool} {g : α → D} (lk : lkOk l h) :
    ∀ (xs : List α) (acc : List D), (∀ a ∈ xs, ∃ s1, putT t (enc a) s h = some s1 ∧ cond s1 h = .ok (.bl (p a)) h ∧ (p a = true → elt s1 h = .ok (g a) h)) → acc.length + xs.length ≤ SZ →
      compL elt cond t s l (xs.map enc) acc h = .ok (acc ++ (xs.filter p).map g) h
  | [], acc, _, _ => by
    rw [List.map_nil]
    unfold compL
    rw [if_pos lk]
    simp
  | a :: xs, acc, q, z => by
    rw [List.map_cons]
    unfold compL
    rw [if_pos lk]
    obtain ⟨s1, e1, e2, e3⟩ := q a List.mem_cons_self
    rw [List.length_cons] at z
    rw [e1]
    simp only
    rw [e2]
    have ih := fun acc' => comp_all (elt := elt) (cond := cond) (t := t) (p := p) (g := g) lk xs acc' fun b m => q b (List.mem_cons_of_mem _ m)
    cases ep : p a with
    | false =>
      simp only
      rw [ih acc (by omega), List.filter_cons, ep]
      rfl
    | true =>
      simp only
      rw [e3 ep]
      simp only
      rw [if_pos (by omega), ih (acc ++ [g a]) (by rw [List.length_append]; simp; omega), List.filter_cons, ep]
      simp
theorem comp_map {α : Type} {enc : α → D} {elt cond : Env → Hs → R} {t : Tg} {l : Lks} {s : Env} {h : Hs} {g : α → D} (lk : lkOk l h) (xs : List α) (q : ∀ a ∈ xs, ∃ s1, putT t (enc a) s h = some s1 ∧ cond s1 h = .ok (.bl true) h ∧ elt s1 h = .ok (g a) h) (z : xs.length ≤ SZ) :
    compL elt cond t s l (xs.map enc) [] h = .ok (xs.map g) h := by
  rw [comp_all (p := fun _ => true) (g := g) lk xs [] (fun a m => by obtain ⟨s1, e1, e2, e3⟩ := q a m; exact ⟨s1, e1, e2, fun _ => e3⟩) (by simpa using z)]
  simp [List.filter_eq_self.mpr]
theorem bls_map {α : Type} {p : α → Bool} : ∀ l : List α, blsOf (l.map fun a => .bl (p a)) = some (l.map p)
  | [] => rfl
  | a :: l => by rw [List.map_cons, blsOf, bls_map l]; rfl
theorem ints_map {α : Type} {p : α → Int} : ∀ l : List α, intsOf (l.map fun a => .int (p a)) = some (l.map p)
  | [] => rfl
  | a :: l => by rw [List.map_cons, intsOf, ints_map l]; rfl
theorem strs_map {α : Type} {p : α → List Char} : ∀ l : List α, strsOf (l.map fun a => .str (p a)) = some (l.map p)
  | [] => rfl
  | a :: l => by rw [List.map_cons, strsOf, strs_map l]; rfl
end VI
section
set_option autoImplicit true
set_option relaxedAutoImplicit true
/-! V17: equations of runs, one by one. -/
namespace VI
theorem xe_nop : ev P F (.nop) s h = .ok .non h := by rw [ev] <;> rfl

theorem xe_non : ev P F (.non) s h = .ok .non h := by rw [ev] <;> rfl

theorem xe_bl : ev P F (.bl b) s h = .ok (.bl b) h := by rw [ev] <;> rfl

theorem xe_int : ev P F (.int i) s h = .ok (.int i) h := by rw [ev] <;> rfl

theorem xe_str : ev P F (.str x) s h = .ok (.str x) h := by rw [ev] <;> rfl

theorem xe_var : ev P F (.var i) s h = match s[i]? with
    | some (some d) => .ok d h
    | _ => .bad := by rw [ev] <;> rfl

theorem xe_glob : ev P F (.glob x) s h = match P.con x with
    | some d => .ok d h
    | none => .bad := by rw [ev] <;> rfl

theorem xe_tup : ev P F (.tup es) s h = (evs P F es s h).bnd fun ds h1 => .ok (.tup ds) h1 := by rw [ev] <;> rfl

theorem xe_lst : ev P F (.lst hp es) s h = (evs P F es s h).bnd fun ds h1 => mkL hp ds h1 := by rw [ev] <;> rfl

theorem xe_dct : ev P F (.dct ks vs) s h = (evs P F vs s h).bnd fun ds h1 => .ok (.ref h1.length) (h1 ++ [.dct ((ks.zip ds).foldl (fun kvs p => putK p.1 p.2 kvs) [])]) := by rw [ev] <;> rfl

theorem xe_dck : ev P F (.dck a b) s h = ((ev P F a s h).bns fun d h1 => (ev P F b s h1).bns fun d2 h2 => .ok [d, d2] h2).bnd dckD := by rw [ev] <;> rfl

theorem xe_dtn : ev P F (.dtn) s h = .ok (.ref h.length) (h ++ [.dt []]) := by rw [ev] <;> rfl

theorem xe_bin : ev P F (.bin op hp a b) s h = (ev P F a s h).bnd fun x h1 => (ev P F b s h1).bnd fun y h2 => binD op hp x y h2 := by rw [ev] <;> rfl

theorem xe_neg : ev P F (.neg a) s h = (ev P F a s h).bnd negD := by rw [ev] <;> rfl

theorem xe_cmp : ev P F (.cmp op a b) s h = (ev P F a s h).bnd fun x h1 => (ev P F b s h1).bnd fun y h2 => okB (cmpD op x y h2) h2 := by rw [ev] <;> rfl

theorem xe_ch2 : ev P F (.ch2 o1 o2 a b c) s h = (ev P F a s h).bnd fun x h1 => (ev P F b s h1).bnd fun y h2 => match cmpD o1 x y h2 with
    | some true => (ev P F c s h2).bnd fun z h3 => okB (cmpD o2 y z h3) h3
    | some false => .ok (.bl false) h2
    | none => .bad := by rw [ev] <;> rfl

theorem xe_ch3 : ev P F (.ch3 o1 o2 o3 a b c d) s h = (ev P F a s h).bnd fun x h1 => (ev P F b s h1).bnd fun y h2 => match cmpD o1 x y h2 with
    | some true => (ev P F c s h2).bnd fun z h3 => match cmpD o2 y z h3 with
      | some true => (ev P F d s h3).bnd fun w h4 => okB (cmpD o3 z w h4) h4
      | some false => .ok (.bl false) h3
      | none => .bad
    | some false => .ok (.bl false) h2
    | none => .bad := by rw [ev] <;> rfl

theorem xe_and : ev P F (.and a b) s h = (ev P F a s h).tst (fun h1 => ev P F b s h1) fun h1 => .ok (.bl false) h1 := by rw [ev] <;> rfl

theorem xe_or : ev P F (.or a b) s h = (ev P F a s h).tst (fun h1 => .ok (.bl true) h1) fun h1 => ev P F b s h1 := by rw [ev] <;> rfl

theorem xe_not : ev P F (.not a) s h = (ev P F a s h).bnd notD := by rw [ev] <;> rfl

theorem xe_ife : ev P F (.ife c a b) s h = (ev P F c s h).tst (fun h1 => ev P F a s h1) fun h1 => ev P F b s h1 := by rw [ev] <;> rfl

theorem xe_idx : ev P F (.idx a b) s h = (ev P F a s h).bnd fun x h1 => (ev P F b s h1).bnd fun y h2 => idxD x y h2 := by rw [ev] <;> rfl

theorem xe_sli : ev P F (.sli hp a lo hi) s h = (ev P F a s h).bnd fun x h1 => (ev P F lo s h1).bnd fun l h2 => match optI (isNop lo) l with
    | some l' => (ev P F hi s h2).bnd fun u h3 => match optI (isNop hi) u with
      | some u' => sliD hp x l' u' h3
      | none => .bad
    | none => .bad := by rw [ev] <;> rfl

theorem xe_rvs : ev P F (.rvs hp a) s h = (ev P F a s h).bnd (rvsD hp) := by rw [ev] <;> rfl

theorem xe_fld : ev P F (.fld o f) s h = (ev P F o s h).bnd (fldD P.fok f) := by rw [ev] <;> rfl

theorem xe_call : ev P F (.call f dr args) s h = (evs P F args s h).bnd fun ds h1 => drp dr h1 (F f ds h1) := by rw [ev] <;> rfl

theorem xe_meth : ev P F (.meth o m dr args) s h = (ev P F o s h).bnd fun d h1 => match insOf d h1 with
    | some (n, c, fs) => match P.mid c m with
      | some f => match fs.lookup m with
        | none => (evs P F args s h1).bnd fun ds h2 => drp dr h2 (F f (.ref n :: ds) h2)
        | some _ => .bad
      | none => .bad
    | none => .bad := by rw [ev] <;> rfl

theorem xe_new : ev P F (.new c args) s h = (evs P F args s h).bnd fun ds h1 => match P.ini c with
    | some f => (F f (.ref h1.length :: ds) (h1 ++ [.ins c []])).bnd (newD h1.length)
    | none => .bad := by rw [ev] <;> rfl

theorem xe_blt : ev P F (.blt b hp args) s h = (evs P F args s h).bnd (bltD b hp) := by rw [ev] <;> rfl

theorem xe_mth : ev P F (.mth m hp o args) s h = (ev P F o s h).bnd fun x h1 => if mtyD m x h1 then (evs P F args s h1).bnd fun ds h2 => mthD m hp x ds h2 else .bad := by rw [ev] <;> rfl

theorem xe_comp {cond : E} : ev P F (.comp hp elt t src cond) s h = (evr P F src s h).bnd fun xs l h1 => (compL (ev P F elt) (ev P F cond) t s l xs [] h1).bnd (mkL hp) := by rw [ev] <;> rfl

theorem xe_inst : ev P F (.inst a c) s h = (ev P F a s h).bnd fun x h1 => okB (instD P.sub x c h1) h1 := by rw [ev] <;> rfl

theorem xe_frz : ev P F (.frz a) s h = (ev P F a s h).bnd frzD := by rw [ev] <;> rfl

theorem xe_drop : ev P F (.drop a) s h = dropH h (ev P F a s h) := by rw [ev] <;> rfl

theorem xl_nil : evs P F (.nil) s h = .ok [] h := by rw [evs] <;> rfl

theorem xl_cons : evs P F (.cons e es) s h = (ev P F e s h).bns fun d h1 => (evs P F es s h1).bns fun ds h2 => .ok (d :: ds) h2 := by rw [evs] <;> rfl

theorem xr_seq : evr P F (.seq e) s h = (ev P F e s h).bnl seqR := by rw [evr] <;> rfl

theorem xr_rg1 : evr P F (.rg1 a) s h = (ev P F a s h).bnl rg1R := by rw [evr] <;> rfl

theorem xr_rg2 : evr P F (.rg2 a b) s h = (ev P F a s h).bnl fun x h1 => (ev P F b s h1).bnl fun y h2 => rg2R x y h2 := by rw [evr] <;> rfl

theorem xr_rg3 : evr P F (.rg3 w0 w1 w2) s h = .bad := by rw [evr] <;> rfl

theorem xr_enum : evr P F (.enum e) s h = (ev P F e s h).bnl enumR := by rw [evr] <;> rfl

theorem xr_zip : evr P F (.zip a b) s h = (ev P F a s h).bnl fun x h1 => (ev P F b s h1).bnl fun y h2 => zipR x y h2 := by rw [evr] <;> rfl

theorem xr_rev : evr P F (.rev e) s h = (ev P F e s h).bnl revR := by rw [evr] <;> rfl

theorem xs_asg : exec P F (.asg t e) s h = (ev P F e s h).bx s (asgD t s) := by rw [exec] <;> rfl

theorem xs_setf : exec P F (.setf o f e) s h = (ev P F e s h).bx s fun v h1 => (ev P F o s h1).bx s fun d h2 => setfD P.fok f v d s h2 := by rw [exec] <;> rfl

theorem xs_sets : exec P F (.sets o lo hi e) s h = (ev P F e s h).bx s fun v h1 => (ev P F o s h1).bx s fun d h2 => (ev P F lo s h2).bx s fun a h3 => intX a ((ev P F hi s h3).bx s fun c h4 => setsD v d a c s h4) := by rw [exec] <;> rfl
theorem int_x {i : Int} {x : X} : intX (.int i) x = x := (rfl)

theorem xs_seti : exec P F (.seti o i e) s h = (ev P F e s h).bx s fun v h1 => (ev P F o s h1).bx s fun d h2 => (ev P F i s h2).bx s fun k h3 => setiD v d k s h3 := by rw [exec] <;> rfl

theorem xs_par : exec P F (.par w0 w1 w2 w3) s h = .bad := by rw [exec] <;> rfl

theorem xs_exp : exec P F (.exp e) s h = (ev P F e s h).bx s fun _ h1 => .nx s h1 := by rw [exec] <;> rfl

theorem xs_ite : exec P F (.ite c a b) s h = (ev P F c s h).tsx s (fun h1 => execs P F a s h1) fun h1 => execs P F b s h1 := by rw [exec] <;> rfl

theorem xs_loop : exec P F (.loop t src body) s h = (evr P F src s h).bx s fun xs l h1 => forL (execs P F body) t l xs s h1 := by rw [exec] <;> rfl

theorem xs_whl : exec P F (.whl c body) s h = whlL (ev P F c) (execs P F body) s h := by rw [exec] <;> rfl

theorem xs_ret : exec P F (.ret e) s h = (ev P F e s h).bx s fun d h1 => .rt d h1 := by rw [exec] <;> rfl

theorem xs_retn : exec P F (.retn) s h = .rt .non h := by rw [exec] <;> rfl

theorem xs_rai : exec P F (.rai c) s h = .ex c s h := by rw [exec] <;> rfl

noncomputable def tryR (P : Pr) (F : Nat → List D → Hs → R) (hs : Hd) (r : X) : X := match r with
  | .ex c s1 h1 => if P.exs c then hdl P F c hs s1 h1 else .bad
  | .nx s1 h1 => .nx s1 h1
  | .rt d h1 => .rt d h1
  | .bad => .bad
theorem xs_try {body : Ss} {hs : Hd} : exec P F (.try body hs) s h = tryR P F hs (execs P F body s h) := by rw [exec] <;> rfl
theorem tr_nx {hs : Hd} : tryR P F hs (.nx s h) = .nx s h := rfl
theorem tr_rt {hs : Hd} {d : D} : tryR P F hs (.rt d h) = .rt d h := rfl
theorem tr_ex {hs : Hd} {c : String} (k : P.exs c = true) : tryR P F hs (.ex c s h) = hdl P F c hs s h := by
  show (if P.exs c = true then _ else _) = _
  rw [if_pos k]
theorem xh_nil {c : String} : hdl P F c .nil s h = .ex c s h := by rw [hdl] <;> rfl
theorem xh_yes {c k : String} {sl : Option Nat} {su : Ss} {r : Hd} (e : P.sub c k = true) : hdl P F c (.one k sl su r) s h = qs h (execs P F su (setO sl (.exc c) s) h) := by rw [hdl, if_pos e]
theorem xh_no {c k : String} {sl : Option Nat} {su : Ss} {r : Hd} (e : P.sub c k = false) : hdl P F c (.one k sl su r) s h = hdl P F c r s h := by rw [hdl, if_neg (by rw [e]; decide)]
theorem so_some {i : Nat} {d : D} : setO (some i) d s = s.set i (some d) := rfl
theorem so_none {d : D} : setO none d s = s := rfl
theorem qs_rt {d : D} (q : noX d = true) : qs h (.rt d h) = .rt d h := by
  unfold qs
  exact if_pos ⟨rfl, q⟩
theorem xr_lst : evr P F (.lst e) s h = (ev P F e s h).bnl lstR := by rw [evr] <;> rfl
theorem lstR_l {xs : List D} : lstR (.lst xs) h = .ok xs [] h := rfl

theorem xs_pas : exec P F (.pas) s h = .nx s h := by rw [exec] <;> rfl

theorem xs_frz : exec P F (.frz i) s h = match s[i]? with
    | some (some d) => (frzD d h).bx s fun v h1 => .nx (s.set i (some v)) h1
    | _ => .bad := by rw [exec] <;> rfl

theorem xb_nil : execs P F (.nil) s h = .nx s h := by rw [execs] <;> rfl

theorem xb_cons : execs P F (.cons a ss) s h = (exec P F a s h).sq fun s1 h1 => execs P F ss s1 h1 := by rw [execs] <;> rfl

theorem b_ok : (R.ok d h).bnd k = k d h := (rfl)
theorem b_exc : (R.exc c h).bnd k = .exc c h := (rfl)
theorem b_bad : R.bad.bnd k = .bad := (rfl)
theorem b2_ok : (R.ok d h).bns k = k d h := (rfl)
theorem b2_exc : (R.exc c h).bns k = .exc c h := (rfl)
theorem b2_bad : R.bad.bns k = .bad := (rfl)
theorem b3_ok : (Rs.ok d h).bnd k = k d h := (rfl)
theorem b3_exc : (Rs.exc c h).bnd k = .exc c h := (rfl)
theorem b3_bad : Rs.bad.bnd k = .bad := (rfl)
theorem b4_ok : (Rs.ok d h).bns k = k d h := (rfl)
theorem b4_exc : (Rs.exc c h).bns k = .exc c h := (rfl)
theorem b4_bad : Rs.bad.bns k = .bad := (rfl)
theorem b5_tt : (R.ok (.bl true) h).tst a b = a h := (rfl)
theorem b5_ff : (R.ok (.bl false) h).tst a b = b h := (rfl)
theorem b5_exc : (R.exc c h).tst a b = .exc c h := (rfl)
theorem b6_ok : (R.ok d h).bx s k = k d h := (rfl)
theorem b6_exc : (R.exc c h).bx s k = .ex c s h := (rfl)
theorem b6_bad : R.bad.bx s k = .bad := (rfl)
theorem b7_tt : (R.ok (.bl true) h).tsx s a b = a h := (rfl)
theorem b7_ff : (R.ok (.bl false) h).tsx s a b = b h := (rfl)
theorem b7_exc : (R.exc c h).tsx s a b = .ex c s h := (rfl)
theorem b8_nx : (X.nx s h).sq k = k s h := (rfl)
theorem b8_rt : (X.rt d h).sq k = .rt d h := (rfl)
theorem b8_ex : (X.ex c s h).sq k = .ex c s h := (rfl)
theorem b8_bad : X.bad.sq k = .bad := (rfl)
theorem b9_nx : (X.nx s h).fin = .ok .non h := (rfl)
theorem b9_rt : (X.rt d h).fin = .ok d h := (rfl)
theorem b9_ex : (X.ex c s h).fin = .exc c h := (rfl)
theorem b10_ok : (R.ok d h).bnl k = k d h := (rfl)
theorem b10_exc : (R.exc c h).bnl k = .exc c h := (rfl)
theorem b11_ok : (Rl.ok d l h).bnd k = k d l h := (rfl)
theorem b11_exc : (Rl.exc c h).bnd k = .exc c h := (rfl)
theorem b12_ok : (Rl.ok d l h).bx s k = k d l h := (rfl)
theorem b12_exc : (Rl.exc c h).bx s k = .ex c s h := (rfl)
theorem g_nat {α : Type} {xs : List α} {k : Nat} : getI xs (k : Int) = xs[k]? := by
  unfold getI ixOf
  rw [if_pos (by omega)]
  by_cases z : k < xs.length
  · rw [if_pos (by omega)]; simp
  · rw [if_neg (by omega), List.getElem?_eq_none (by omega)]
theorem g_0 {α : Type} {x : α} {xs : List α} : getI (x :: xs) 0 = some x := by
  have := g_nat (xs := x :: xs) (k := 0)
  simpa using this
theorem g_1 {α : Type} {x y : α} {xs : List α} : getI (x :: y :: xs) 1 = some y := by
  have := g_nat (xs := x :: y :: xs) (k := 1)
  simpa using this
theorem g_2 {α : Type} {x y z : α} {xs : List α} : getI (x :: y :: z :: xs) 2 = some z := by
  have := g_nat (xs := x :: y :: z :: xs) (k := 2)
  simpa using this
theorem g_last {α : Type} {x : α} {xs : List α} : getI (xs ++ [x]) (-1) = some x := by
  unfold getI ixOf
  have e : (-1 + ((xs ++ [x]).length : Int)).toNat = xs.length := by simp; omega
  rw [if_neg (by omega), if_pos (by simp; omega)]
  simp only
  rw [e]
  simp
theorem g_int {α : Type} {xs : List α} {i : Int} (h0 : 0 ≤ i) (h1 : i < xs.length) : ∃ x, getI xs i = some x ∧ x ∈ xs := by
  obtain ⟨k, rfl⟩ := Int.eq_ofNat_of_zero_le h0
  rw [g_nat]
  have z : k < xs.length := by omega
  exact ⟨xs[k], List.getElem?_eq_getElem z, List.getElem_mem z⟩
theorem rg1_ok {j : Int} {n : Nat} (e : j = n) (z : n < 1000000) : rg1R (.int j) h = .ok ((List.range n).map fun k => .int (k : Nat)) [] h := by
  subst e
  unfold rg1R rgOk rgL
  simp only
  rw [if_pos (by simp only [Bool.and_eq_true, decide_eq_true_eq]; omega)]
  simp
theorem rg2_ok {i j : Int} (z : -1000000 < i ∧ i < 1000000 ∧ -1000000 < j ∧ j < 1000000) : rg2R (.int i) (.int j) h = .ok ((List.range (j - i).toNat).map fun k => .int (i + (k : Nat))) [] h := by
  unfold rg2R rgOk rgL
  simp only
  rw [if_pos (by simp only [Bool.and_eq_true, decide_eq_true_eq]; omega)]
theorem c_eq : cmpD .eq x y h = orS (orS (eqD x y h) (eqS x y h)) (eqM x y h) := (rfl)
theorem or_s {k : Bool} {b : Option Bool} : orS (some k) b = some k := (rfl)
theorem or_n {b : Option Bool} : orS none b = b := (rfl)
theorem eqD_dct {n : Nat} {kvs : List (Ky × D)} {y : D} (e : h[n]? = some (.dct kvs)) : eqD (.ref n) y h = none := by
  simp [eqD, rsl, e]
theorem eqS_dct {n : Nat} {kvs : List (Ky × D)} {z : List Char} (e : h[n]? = some (.dct kvs)) : eqS (.ref n) (.str z) h = some false := by
  simp [eqS, e]
theorem c_ne : cmpD .ne x y h = (orS (orS (eqD x y h) (eqS x y h)) (eqM x y h)).map not := (rfl)
theorem c_lt : cmpD .lt (.int i) (.int j) h = some (decide (i < j)) := (rfl)
theorem c_le : cmpD .le (.int i) (.int j) h = some (decide (i ≤ j)) := (rfl)
theorem c_gt : cmpD .gt (.int i) (.int j) h = some (decide (j < i)) := (rfl)
theorem c_ge : cmpD .ge (.int i) (.int j) h = some (decide (j ≤ i)) := (rfl)
theorem c_in : cmpD .isin x y h = orS (inD x y h) (inM x y h) := (rfl)
theorem c_nin : cmpD .notin x y h = (orS (inD x y h) (inM x y h)).map not := (rfl)
theorem c_is : cmpD .is x y h = isD x y := (rfl)
theorem c_isn : cmpD .isnot x y h = (isD x y).map not := (rfl)
theorem c_isnon : isD .non .non = some true := (rfl)
theorem c_isbl : isD (.bl a) (.bl b) = some (decide (a = b)) := (rfl)
theorem c_isi : isD (.int i) .non = some false := (rfl)
theorem c_iss : isD (.str i) .non = some false := (rfl)
theorem c_ist : isD (.tup i) .non = some false := (rfl)
theorem c_isl : isD (.lst i) .non = some false := (rfl)
theorem c_isr : isD (.ref i) .non = some false := (rfl)
theorem c_isb : isD (.bl i) .non = some false := (rfl)
theorem e_ii : eqD (.int i) (.int j) h = some (decide (i = j)) := by
  simp [eqD, rsl, deq]
  by_cases z : i = j <;> simp [z]
theorem e_ss : eqD (.str i) (.str j) h = some (decide (i = j)) := by
  simp [eqD, rsl, deq]
  by_cases z : i = j <;> simp [z]
theorem e_bb : eqD (.bl i) (.bl j) h = some (decide (i = j)) := by
  simp [eqD, rsl, deq]
  by_cases z : i = j <;> simp [z]
theorem e_si : eqD (.str i) (.int j) h = some false := by simp [eqD, rsl, deq]
theorem e_is : eqD (.int i) (.str j) h = some false := by simp [eqD, rsl, deq]
theorem e_nn : eqD .non .non h = some true := by simp [eqD, rsl, deq]
theorem e_ni : eqD .non (.int j) h = some false := by simp [eqD, rsl, deq]
theorem e_in : eqD (.int j) .non h = some false := by simp [eqD, rsl, deq]
theorem e_sn : eqD (.str j) .non h = some false := by simp [eqD, rsl, deq]
theorem e_ns : eqD .non (.str j) h = some false := by simp [eqD, rsl, deq]
theorem ok_some : okB (some k) h = .ok (.bl k) h := (rfl)
theorem ok_none : okB none h = .bad := (rfl)
theorem m_some {f : Bool → Bool} : (some k : Option Bool).map f = some (f k) := (rfl)
theorem o_add : binD .add hp (.int i) (.int j) h = .ok (.int (i + j)) h := (rfl)
theorem o_adds : binD .add hp (.str i) (.str j) h = if i.length + j.length ≤ SZ then .ok (.str (i ++ j)) h else .bad := (rfl)
theorem o_addt : binD .add hp (.tup i) (.tup j) h = if i.length + j.length ≤ SZ then .ok (.tup (i ++ j)) h else .bad := (rfl)
theorem o_addl : binD .add hp (.lst i) (.lst j) h = if i.length + j.length ≤ SZ then mkL hp (i ++ j) h else .bad := (rfl)
theorem o_sub : binD .sub hp (.int i) (.int j) h = .ok (.int (i - j)) h := (rfl)
theorem o_mul : binD .mul hp (.int i) (.int j) h = if mulOk i j then .ok (.int (i * j)) h else .bad := (rfl)
theorem o_muls : binD .mul hp (.str i) (.int j) h = if decide (-(2 ^ 63) ≤ j) && decide (j < 2 ^ 63) && decide (i.length * j.toNat ≤ SZ) then .ok (.str (List.replicate j.toNat i).flatten) h else .bad := (rfl)
theorem o_fdv : binD .fdv hp (.int i) (.int j) h = if decide (0 < j) && decide (j < 1073741824) then .ok (.int (i / j)) h else .bad := (rfl)
theorem o_mod : binD .mod hp (.int i) (.int j) h = if 0 < j then .ok (.int (i % j)) h else .bad := (rfl)
theorem o_pow : binD .pow hp (.int i) (.int j) h = if decide (0 ≤ j) && decide (j ≤ 1000000) && decide (i.natAbs < 2 ^ 64) then .ok (.int (i ^ j.toNat)) h else .bad := (rfl)
theorem o_neg : negD (.int i) h = .ok (.int (-i)) h := (rfl)
theorem o_not : notD (.bl k) h = .ok (.bl (!k)) h := (rfl)
theorem k_tt : mkL true xs h = .ok (.ref h.length) (h ++ [.lst xs]) := (rfl)
theorem k_ff : mkL false xs h = .ok (.lst xs) h := (rfl)
theorem i_tup : idxD (.tup a) (.int i) h = match getI a i with | some d => .ok d h | none => .bad := (rfl)
theorem i_lst : idxD (.lst a) (.int i) h = match getI a i with | some d => .ok d h | none => .bad := (rfl)
theorem i_scr : idxD (.scr a) (.int i) h = match getI a i with | some d => .ok (.int d) h | none => .bad := (rfl)
theorem i_str : idxD (.str a) (.int i) h = match getI a i with | some c => (if a.length ≤ SZ then .ok (.str [c]) h else .bad) | none => .bad := (rfl)
theorem l_str : bltD .len hp [.str a] h = if a.length ≤ SZ then .ok (.int a.length) h else .bad := (rfl)
theorem l_scr : bltD .len hp [.scr a] h = .ok (.int a.length) h := (rfl)
theorem l_tup : bltD .len hp [.tup a] h = .ok (.int a.length) h := (rfl)
theorem l_lst : bltD .len hp [.lst a] h = .ok (.int a.length) h := (rfl)
theorem l_intb : bltD .int hp [.bl k] h = .ok (.int (if k then 1 else 0)) h := (rfl)
theorem l_inti : bltD .int hp [.int i] h = .ok (.int i) h := (rfl)
theorem l_min : bltD .min hp [.int i, .int j] h = .ok (.int (if j < i then j else i)) h := (rfl)
theorem l_max : bltD .max hp [.int i, .int j] h = .ok (.int (if j > i then j else i)) h := (rfl)
theorem l_abs : bltD .abs hp [.int i] h = .ok (.int (if i < 0 then -i else i)) h := (rfl)
theorem l_list {d : D} (e : anyOf h d = some xs) : bltD .list hp [d] h = mkL hp xs h := by
  have e2 : lstOf h d = some xs := by
    cases d <;> first | exact e | (cases e; done) | skip
    unfold anyOf seqOf at e
    unfold lstOf
    simp only at e ⊢
    split at e
    · rename_i e1; rw [e1]; exact e
    · cases e
  show (match lstOf h d with | some xs => mkL hp xs h | none => .bad) = _
  rw [e2]
theorem l_len {d : D} (e : seqOf h d = some xs) : bltD .len hp [d] h = .ok (.int xs.length) h := by
  cases d <;> first | (cases e; done) | (cases e; rfl) | skip
  rename_i n
  have k : (match anyOf h (.ref n) with | some xs => R.ok (.int xs.length) h | none => .bad) = R.ok (.int xs.length) h := by rw [any_seq e]
  exact k
theorem l_all {d : D} {bs : List Bool} (e : seqOf h d = some xs) (e2 : blsOf xs = some bs) : bltD .all hp [d] h = .ok (.bl (bs.all id)) h := by
  show (match seqOf h d with | some xs => (match blsOf xs with | some bs => R.ok (.bl (bs.all id)) h | none => .bad) | none => .bad) = _
  rw [e]; simp only; rw [e2]
theorem l_sum {d : D} {is : List Int} (e : seqOf h d = some xs) (e2 : intsOf xs = some is) : bltD .sum hp [d] h = .ok (.int is.sum) h := by
  show (match seqOf h d with | some xs => (match intsOf xs with | some is => R.ok (.int is.sum) h | none => .bad) | none => .bad) = _
  rw [e]; simp only; rw [e2]
theorem o_addL {x y : D} {a b : List D} (e1 : seqOf h x = some a) (e2 : seqOf h y = some b) (z : a.length + b.length ≤ SZ) : binD .add hp x y h = mkL hp (a ++ b) h := by
  have k : (match seqOf h x, seqOf h y with | some a, some b => if a.length + b.length ≤ SZ then mkL hp (a ++ b) h else R.bad | _, _ => R.bad) = mkL hp (a ++ b) h := by
    rw [e1, e2]; simp only; rw [if_pos z]
  cases x <;> first | (cases e1; done) | skip
  all_goals (cases y <;> first | (cases e2; done) | exact k)
theorem i_L {x : D} {a : List D} {i : Int} {d : D} (e : seqOf h x = some a) (e2 : getI a i = some d) : idxD x (.int i) h = .ok d h := by
  cases x <;> first | (cases e; done) | skip
  · cases e
    show (match getI _ i with | some d => R.ok d h | none => .bad) = _
    rw [e2]
  · rename_i n
    unfold seqOf at e
    simp only at e
    split at e
    · rename_i e3
      cases e
      show (match h[n]? with | some (.lst a) => _ | some (.dct kvs) => _ | some (.dt kvs) => _ | _ => _) = _
      rw [e3]
      simp only
      rw [e2]
    · cases e
theorem t_L {d : D} {xs : List D} {s2 : String → String → Bool} (e : seqOf h d = some xs) : instD s2 d .list h = some true := by
  cases d <;> first | (cases e; done) | rfl | skip
  rename_i n
  unfold seqOf at e
  simp only at e
  split at e
  · rename_i e3
    simp [instD, crB, tyD, e3]
  · cases e
theorem n_ib : instD sub (.int i) .int h = some true := (rfl)
theorem n_ibl : instD sub (.int i) .bool h = some false := (rfl)
theorem n_is : instD sub (.int i) .str h = some false := (rfl)
theorem n_il : instD sub (.int i) .list h = some false := (rfl)
theorem n_it : instD sub (.int i) .tuple h = some false := (rfl)
theorem n_ss : instD sub (.str i) .str h = some true := (rfl)
theorem n_si : instD sub (.str i) .int h = some false := (rfl)
theorem n_sb : instD sub (.str i) .bool h = some false := (rfl)
theorem n_sl : instD sub (.str i) .list h = some false := (rfl)
theorem n_st : instD sub (.str i) .tuple h = some false := (rfl)
theorem n_tt : instD sub (.tup i) .tuple h = some true := (rfl)
theorem n_tl : instD sub (.tup i) .list h = some false := (rfl)
theorem n_ts : instD sub (.tup i) .str h = some false := (rfl)
theorem n_ti : instD sub (.tup i) .int h = some false := (rfl)
theorem n_ll : instD sub (.lst i) .list h = some true := (rfl)
theorem n_lt : instD sub (.lst i) .tuple h = some false := (rfl)
theorem n_ls : instD sub (.lst i) .str h = some false := (rfl)
theorem n_bb : instD sub (.bl i) .bool h = some true := (rfl)
theorem n_bi : instD sub (.bl i) .int h = some true := (rfl)
theorem a_nm : asgD t s d h = match putT t d s h with | some s1 => .nx s1 h | none => .bad := (rfl)
theorem a_p : putT (.nm i) d s h = if i < s.length then some (s.set i (some d)) else none := (rfl)
theorem a_t : putT (.tp is) (.tup xs) s h = if xs.length = is.length ∧ (∀ i ∈ is, i < s.length) then some ((is.zip xs).foldl (fun s p => s.set p.1 (some p.2)) s) else none := (rfl)
theorem d_tt : drp true h r = dropH h r := (rfl)
theorem d_ff : drp false h r = r := (rfl)
theorem z_nop : isNop .nop = true := (rfl)
theorem z_o : optI true d = some none := (rfl)
theorem z_i : optI false (.int i) = some (some i) := (rfl)
theorem dr_i : dropH h (.ok (.int i) h) = .ok (.int i) h := drop_same rfl
theorem dr_s : dropH h (.ok (.str i) h) = .ok (.str i) h := drop_same rfl
theorem dr_b : dropH h (.ok (.bl i) h) = .ok (.bl i) h := drop_same rfl
theorem dr_n : dropH h (.ok .non h) = .ok .non h := drop_same rfl
/-! ### heap lists at the end of the heap -/
theorem ga {α : Type} {h : List α} {x : α} : (h ++ [x])[h.length]? = some x := by simp
theorem sa {α : Type} {h : List α} {x y : α} : (h ++ [x]).set h.length y = h ++ [y] := by simp
theorem q_app {n : Nat} {xs : List D} (e : h[n]? = some (.lst xs)) (z : xs.length < SZ) : mthD .append hp (.ref n) [d] h = .ok .non (h.set n (.lst (xs ++ [d]))) := by
  unfold mthD
  simp only [e]
  rw [if_pos z]
theorem q_ty {n : Nat} {xs : List D} {m : Mth} (k : mthK m = 0) (e : h[n]? = some (.lst xs)) : mtyD m (.ref n) h = true := by
  unfold mtyD
  rw [k]
  simp [seqOf, e]
theorem q_appE {xs : List D} (z : xs.length < SZ) : mthD .append hp (.ref h.length) [d] (h ++ [.lst xs]) = .ok .non (h ++ [.lst (xs ++ [d])]) := by
  rw [q_app ga z, sa]
theorem q_tyE {xs : List D} : mtyD .append (.ref h.length) (h ++ [.lst xs]) = true := q_ty rfl ga
theorem q_frz {xs : List D} : frzD (.ref h.length) (h ++ [.lst xs]) = .ok (.lst xs) (h ++ [.dead]) := by
  unfold frzD
  simp only [ga, sa]

mutual
def D.sh : Nat → D → Bool
  | 0, _ => false
  | _ + 1, .non => true
  | _ + 1, .bl _ => true
  | _ + 1, .int _ => true
  | _ + 1, .str _ => true
  | k + 1, .tup xs => D.shs k xs
  | k + 1, .lst xs => D.shs k xs
  | _ + 1, _ => false
def D.shs : Nat → List D → Bool
  | _, [] => true
  | k, x :: xs => D.sh k x && D.shs k xs
end
mutual
theorem rsl_sh {h : Hs} : ∀ {k : Nat} {d : D}, D.sh k d = true → rsl h k d = some d
  | 0, _, q => by simp [D.sh] at q
  | k + 1, .non, _ => by simp [rsl]
  | k + 1, .bl _, _ => by simp [rsl]
  | k + 1, .int _, _ => by simp [rsl]
  | k + 1, .str _, _ => by simp [rsl]
  | k + 1, .tup xs, q => by
    simp only [D.sh] at q
    simp [rsl, rsls_sh q]
  | k + 1, .lst xs, q => by
    simp only [D.sh] at q
    simp [rsl, rsls_sh q]
  | k + 1, .ref _, q => by simp [D.sh] at q
  | k + 1, .exc _, q => by simp [D.sh] at q
  | k + 1, .scr _, q => by simp [D.sh] at q
theorem rsls_sh {h : Hs} : ∀ {k : Nat} {ds : List D}, D.shs k ds = true → rsls h k ds = some ds
  | _, [], _ => by simp [rsls]
  | k, x :: xs, q => by
    simp only [D.shs, Bool.and_eq_true] at q
    simp [rsls, rsl_sh q.1, rsls_sh q.2]
end
theorem shs_map {α : Type} {g : α → D} {k : Nat} (q : ∀ a, D.sh k (g a) = true) : ∀ l : List α, D.shs k (l.map g) = true
  | [] => by simp [D.shs]
  | a :: l => by simp [D.shs, q a, shs_map q l]
theorem eqD_sh {x y : D} (a : D.sh DP x = true) (b : D.sh DP y = true) : eqD x y h = some (deq x y) := by
  unfold eqD
  rw [rsl_sh a, rsl_sh b]
/-- a list on the heap beside data -/
theorem rsl_L {x : D} {xs : List D} (e : seqOf h x = some xs) (q : D.shs 59 xs = true) : rsl h DP x = some (.lst xs) := by
  cases x <;> first | (cases e; done) | skip
  · cases e
    simp [rsl, rsls_sh q]
  · rename_i n
    unfold seqOf at e
    simp only at e
    split at e
    · rename_i e3
      cases e
      simp [rsl, e3, rsls_sh q]
    · cases e
theorem eqD_L {x y : D} {xs ys : List D} (e : seqOf h x = some xs) (e2 : seqOf h y = some ys) (q : D.shs 59 xs = true) (q2 : D.shs 59 ys = true) : eqD x y h = some (deqs xs ys) := by
  unfold eqD
  rw [rsl_L e q, rsl_L e2 q2]
  simp [deq]
theorem SZ_d : SZ = 16777216 := (rfl)
theorem cut_last {α : Type} {a : List α} {x : α} : cut (a ++ [x]) none (some (-1)) = a := by
  have e1 : clip (a ++ [x]).length 0 none = 0 := (rfl)
  have e2 : clip (a ++ [x]).length (a ++ [x]).length (some (-1)) = a.length := by
    unfold clip
    simp only
    rw [if_pos (by omega), List.length_append, List.length_singleton]
    omega
  unfold cut
  rw [e1, e2]
  simp
theorem cut_from {α : Type} {a : List α} {k : Nat} : cut a (some (k : Int)) none = a.drop k := by
  have e1 : clip a.length 0 (some (k : Int)) = min k a.length := by
    unfold clip
    simp only
    rw [if_neg (by omega)]
    simp
  have e2 : clip a.length a.length none = a.length := (rfl)
  unfold cut
  rw [e1, e2]
  by_cases z : k ≤ a.length
  · rw [Nat.min_eq_left z, List.take_of_length_le (by simp)]
  · rw [Nat.min_eq_right (by omega), List.drop_eq_nil_of_le (by omega : a.length ≤ k)]
    simp
theorem cut_to {α : Type} {a : List α} {k : Nat} : cut a none (some (k : Int)) = a.take k := by
  have e1 : clip a.length 0 none = 0 := (rfl)
  have e2 : clip a.length a.length (some (k : Int)) = min k a.length := by
    unfold clip
    simp only
    rw [if_neg (by omega)]
    simp
  unfold cut
  rw [e1, e2]
  simp
theorem sl_last {a : List D} {x : D} : sliD hp (.lst (a ++ [x])) none (some (-1)) h = mkL hp a h := by
  unfold sliD
  simp only [seqOf, cut_last]
theorem sl_L {d : D} {xs : List D} (e : seqOf h d = some xs) : sliD hp d lo hi h = mkL hp (cut xs lo hi) h := by
  cases d <;> first | (cases e; done) | skip
  · cases e; rfl
  · unfold sliD
    simp only [e]
theorem e_l0 : eqD (.lst []) (.lst []) h = some true := by simp [eqD, rsl, rsls, deq, deqs]
theorem a_L {d : D} {xs : List D} {is : List Nat} (e : anyOf h d = some xs) (z : xs.length = is.length ∧ (∀ i ∈ is, i < s.length)) : putT (.tp is) d s h = some ((is.zip xs).foldl (fun s p => s.set p.1 (some p.2)) s) := by
  unfold putT
  simp only [e]
  rw [if_pos z]
theorem n_in1 : inD x (.tup ys) h = if flatD x && ys.all flatD then some (anyEq x ys) else none := (rfl)
theorem n_in2 : inD (.str [c]) (.str b) h = some (decide (c ∈ b)) := (rfl)
theorem n_in3 : inD x (.lst ys) h = inL x (.lst ys) h := (rfl)
theorem d_ss : deq (.str i) (.str j) = decide (i = j) := by
  simp [deq]
  by_cases z : i = j <;> simp [z]
theorem d_ii : deq (.int i) (.int j) = decide (i = j) := by
  simp [deq]
  by_cases z : i = j <;> simp [z]
theorem d_si : deq (.str i) (.int j) = false := by simp [deq]
theorem d_is : deq (.int i) (.str j) = false := by simp [deq]
theorem f_s : flatD (.str i) = true := (rfl)
theorem f_i : flatD (.int i) = true := (rfl)
theorem all_t {α : Type} {h : Hs} : ∀ l : List α, bltD .all false [.lst (l.map fun _ => .bl true)] h = .ok (.bl true) h := fun l => by
  rw [l_all (h := h) (d := .lst (l.map fun _ => .bl true)) rfl (bls_map (p := fun _ => true) l)]
  have : ((l.map fun _ => true).all id) = true := by
    rw [List.all_eq_true]
    intro x m
    obtain ⟨_, _, rfl⟩ := List.mem_map.mp m
    rfl
  rw [this]
theorem cut_mid {α : Type} {a : List α} {i j : Nat} : cut a (some (i : Int)) (some (j : Int)) = (a.drop i).take (j - i) := by
  have e1 : clip a.length 0 (some (i : Int)) = min i a.length := by
    unfold clip
    simp only
    rw [if_neg (by omega)]
    simp
  have e2 : clip a.length a.length (some (j : Int)) = min j a.length := by
    unfold clip
    simp only
    rw [if_neg (by omega)]
    simp
  unfold cut
  rw [e1, e2]
  by_cases z : i ≤ a.length
  · rw [Nat.min_eq_left z]
    by_cases y : j ≤ a.length
    · rw [Nat.min_eq_left y]
    · rw [Nat.min_eq_right (by omega), List.take_of_length_le (by simp), List.take_of_length_le (by simp; omega)]
  · have m : min i a.length = a.length := by omega
    rw [m, List.drop_eq_nil_of_le (Nat.le_refl a.length), List.drop_eq_nil_of_le (by omega : a.length ≤ i)]
    simp
theorem sl_str {x : List Char} {lo hi : Option Int} : sliD hp (.str x) lo hi h = if x.length ≤ SZ then .ok (.str (cut x lo hi)) h else .bad := (rfl)
end VI
end
/-! V18: tools for whiles, more equations. -/
namespace VI
theorem whl_up {c : Env → Hs → R} {b : Env → Hs → X} : ∀ (n : Nat) (s : Env) (h : Hs), whlN c b n s h ≠ .bad → whlN c b (n + 1) s h = whlN c b n s h
  | 0, _, _, q => absurd rfl q
  | n + 1, s, h, q => by
    rw [whlN] at q
    rw [whlN]
    conv => rhs; rw [whlN]
    cases e : c s h with
    | bad => rfl
    | exc _ _ => rfl
    | ok d h1 =>
      rw [e] at q
      cases d with
      | bl k =>
        cases k with
        | false => rfl
        | true =>
          replace q : ((b s h1).sq fun s2 h2 => whlN c b n s2 h2) ≠ .bad := q
          show ((b s h1).sq fun s2 h2 => whlN c b (n + 1) s2 h2) = ((b s h1).sq fun s2 h2 => whlN c b n s2 h2)
          cases e2 : b s h1 with
          | nx s2 h2 =>
            rw [e2] at q
            exact whl_up n s2 h2 q
          | rt _ _ => rfl
          | ex _ _ _ => rfl
          | bad => rfl
      | _ => rfl
theorem whl_add {c : Env → Hs → R} {b : Env → Hs → X} {n : Nat} {s : Env} {h : Hs} (q : whlN c b n s h ≠ .bad) : ∀ k, whlN c b (n + k) s h = whlN c b n s h
  | 0 => rfl
  | k + 1 => by
    have e := whl_add q k
    rw [← Nat.add_assoc, whl_up (n + k) s h (by rw [e]; exact q), e]
theorem whl_is {c : Env → Hs → R} {b : Env → Hs → X} {n : Nat} {s : Env} {h : Hs} {r : X} (e : whlN c b n s h = r) (q : r ≠ .bad) : whlL c b s h = r := by
  have z : ∃ n, whlN c b n s h ≠ .bad := ⟨n, by rw [e]; exact q⟩
  unfold whlL
  rw [dif_pos z]
  have h1 := whl_add (Classical.choose_spec z) n
  have h2 := whl_add (n := n) (s := s) (h := h) (c := c) (b := b) (by rw [e]; exact q) (Classical.choose z)
  rw [Nat.add_comm] at h2
  rw [← h1, h2, e]
/-- a while by a measure -/
theorem whl_run {c : Env → Hs → R} {b : Env → Hs → X} {S : Nat → Env → Hs → Prop} {T : X → Prop} (nb : ¬ T .bad)
    (go : ∀ m s h, S m s h → (∃ h', c s h = .ok (.bl false) h' ∧ T (.nx s h')) ∨ (∃ h1, c s h = .ok (.bl true) h1 ∧ ((∃ m2 s2 h2, m2 < m ∧ b s h1 = .nx s2 h2 ∧ S m2 s2 h2) ∨ (T (b s h1) ∧ ∀ s2 h2, b s h1 ≠ .nx s2 h2)))) :
    ∀ m s h, S m s h → T (whlL c b s h) := by
  have key : ∀ n m s h, m < n → S m s h → ∃ r, whlN c b n s h = r ∧ T r := by
    intro n
    induction n with
    | zero => intro m s h l; omega
    | succ n ih =>
      intro m s h l q
      rw [whlN]
      rcases go m s h q with ⟨h', e, t⟩ | ⟨h1, e, z⟩
      · rw [e]; exact ⟨_, rfl, t⟩
      · rw [e]
        show ∃ r, ((b s h1).sq fun s2 h2 => whlN c b n s2 h2) = r ∧ T r
        rcases z with ⟨m2, s2, h2, l2, e2, q2⟩ | ⟨t, nn⟩
        · rw [e2]; exact ih m2 s2 h2 (by omega) q2
        · cases e2 : b s h1 with
          | nx s2 h2 => exact absurd e2 (nn s2 h2)
          | rt _ _ => rw [e2] at t; exact ⟨_, rfl, t⟩
          | ex _ _ _ => rw [e2] at t; exact ⟨_, rfl, t⟩
          | bad => rw [e2] at t; exact absurd t nb
  intro m s h q
  obtain ⟨r, e, t⟩ := key (m + 1) m s h (Nat.lt_succ_self m) q
  rw [whl_is e fun z => nb (z ▸ t)]
  exact t
theorem fl_n {body : Env → Hs → X} {t : Tg} {s : Env} {h : Hs} : forL body t [] [] s h = .nx s h := by
  unfold forL
  rw [if_pos lk_nil]
theorem fl_c {body : Env → Hs → X} {t : Tg} {s : Env} {h : Hs} {x : D} {xs : List D} : forL body t [] (x :: xs) s h = match putT t x s h with
    | some s1 => (body s1 h).sq fun s2 h2 => forL body t [] xs s2 h2
    | none => .bad := by
  rw [forL]
  rw [if_pos lk_nil]
  all_goals rfl
/-! ### heaps -/
theorem set_app {h : Hs} {g : Hs} {n : Nat} {o : O} (z : n < h.length) : (h ++ g).set n o = h.set n o ++ g := by rw [List.set_append_left _ _ z]
theorem get_app {h g : Hs} {n : Nat} (z : n < h.length) : (h ++ g)[n]? = h[n]? := List.getElem?_append_left z
theorem fld_ok {fok : String → String → Bool} {f : String} {n : Nat} {c : String} {fs : List (String × D)} {v : D} {h : Hs} (e : h[n]? = some (.ins c fs)) (k : fok c f = true) (l : fs.lookup f = some v) : fldD fok f (.ref n) h = .ok v h := by
  unfold fldD insOf
  simp only [e, k, l, if_true]
theorem ins_ok {n : Nat} {c : String} {fs : List (String × D)} {h : Hs} (e : h[n]? = some (.ins c fs)) : insOf (.ref n) h = some (n, c, fs) := by
  unfold insOf
  simp only [e]
theorem q_pop0 {hp : Bool} {n : Nat} {x : D} {xs : List D} {h : Hs} (e : h[n]? = some (.lst (x :: xs))) (z : xs.length < SZ) : mthD .popat hp (.ref n) [.int 0] h = .ok x (h.set n (.lst xs)) := by
  have e2 : ixOf (x :: xs).length 0 = some 0 := by
    unfold ixOf
    simp
  have e3 : (x :: xs)[0]? = some x := rfl
  unfold mthD
  simp only [e, e2, e3]
  rw [if_pos (by rw [List.length_cons]; omega)]
  rfl
theorem q_ins0 {hp : Bool} {n : Nat} {d : D} {xs : List D} {h : Hs} (e : h[n]? = some (.lst xs)) (z : xs.length < SZ) : mthD .insert hp (.ref n) [.int 0, d] h = .ok .non (h.set n (.lst (d :: xs))) := by
  unfold mthD
  simp only [e]
  rw [if_pos (by simp [z])]
theorem q_ext {hp : Bool} {n : Nat} {d : D} {xs ys : List D} {h : Hs} (e : h[n]? = some (.lst xs)) (e2 : seqOf h d = some ys) (z : xs.length + ys.length ≤ SZ) : mthD .extend hp (.ref n) [d] h = .ok .non (h.set n (.lst (xs ++ ys))) := by
  unfold mthD
  simp only [e, e2]
  rw [if_pos z]
theorem sq_ref {n : Nat} {xs : List D} {h : Hs} (e : h[n]? = some (.lst xs)) : seqOf h (.ref n) = some xs := by
  unfold seqOf
  simp only [e]
end VI
/-! V19: more tools: loops over two rows, types on a longer heap, lists at the end of the heap. -/
namespace VI
theorem for_app {body : Env → Hs → X} {t : Tg} {l : Lks} : ∀ (xs ys : List D) (s : Env) (h : Hs), forL body t l (xs ++ ys) s h = (forL body t l xs s h).sq fun s2 h2 => forL body t l ys s2 h2
  | [], ys, s, h => by
    rw [List.nil_append]
    by_cases q : lkOk l h
    · conv => rhs; rw [forL]
      rw [if_pos q]
      rfl
    · conv => rhs; rw [forL]
      rw [if_neg q]
      cases ys with
      | nil => rw [forL, if_neg q]; rfl
      | cons y ys => rw [forL, if_neg q]; rfl
  | x :: xs, ys, s, h => by
    rw [List.cons_append]
    conv => lhs; rw [forL]
    conv => rhs; rw [forL]
    by_cases q : lkOk l h
    · rw [if_pos q, if_pos q]
      cases e : putT t x s h with
      | none => rfl
      | some s1 =>
        simp only
        cases e2 : body s1 h with
        | nx s2 h2 => exact for_app xs ys s2 h2
        | rt _ _ => rfl
        | ex _ _ _ => rfl
        | bad => rfl
    · rw [if_neg q, if_neg q]; rfl
theorem for_step {body : Env → Hs → X} {t : Tg} {l : Lks} {x : D} {xs : List D} {s s1 : Env} {h : Hs} (lk : lkOk l h) (e : putT t x s h = some s1) : forL body t l (x :: xs) s h = (body s1 h).sq fun s2 h2 => forL body t l xs s2 h2 := by
  rw [forL, if_pos lk, e]
theorem ty_app {d : D} {h : Hs} {t : String} (g : Hs) (e : tyD d h = some t) : tyD d (h ++ g) = some t := by
  cases d <;> first | exact e | skip
  rename_i n
  unfold tyD at e ⊢
  simp only at e ⊢
  cases q : h[n]? with
  | none => rw [q] at e; cases e
  | some o => rw [q] at e; rw [List.getElem?_append_left (List.getElem?_eq_some_iff.mp q).1, q]; exact e
theorem isC_app {d : D} {c : String} {h : Hs} {b : Bool} (g : Hs) (e : isC d c h = some b) : isC d c (h ++ g) = some b := by
  unfold isC at e ⊢
  cases d <;> first | (cases e; done) | skip
  rename_i n
  simp only at e ⊢
  cases q : h[n]? with
  | none => rw [q] at e; cases e
  | some o => rw [q] at e; rw [List.getElem?_append_left (List.getElem?_eq_some_iff.mp q).1, q]; exact e
theorem inst_app {sub : String → String → Bool} {d : D} {c : Cr} {h : Hs} {b : Bool} (g : Hs) (e : instD sub d c h = some b) : instD sub d c (h ++ g) = some b := by
  unfold instD at e ⊢
  cases q : crB c with
  | none =>
    rw [q] at e
    cases c <;> first | (exact e) | skip
    exact isC_app g e
  | some k =>
    rw [q] at e
    simp only at e ⊢
    cases z : tyD d h with
    | none => rw [z] at e; cases e
    | some t => rw [z] at e; rw [ty_app g z]; exact e
theorem q_extE {hp : Bool} {xs ys : List D} {h : Hs} (z : xs.length + ys.length ≤ SZ) : mthD .extend hp (.ref h.length) [.lst ys] (h ++ [.lst xs]) = .ok .non (h ++ [.lst (xs ++ ys)]) := by
  rw [q_ext ga (e2 := rfl) z, sa]
theorem q_tyX {xs : List D} {h : Hs} : mtyD .extend (.ref h.length) (h ++ [.lst xs]) = true := q_ty rfl ga
theorem get_memL {α : Type} {l : List α} {i : Int} (h0 : 0 ≤ i) (h1 : i < l.length) : ∃ a, getI l i = some a ∧ a ∈ l := by
  obtain ⟨k, rfl⟩ := Int.eq_ofNat_of_zero_le h0
  have lt : k < l.length := by omega
  exact ⟨l[k], by rw [g_nat, List.getElem?_eq_getElem lt], List.getElem_mem lt⟩
theorem get_modL {α : Type} {l : List α} (i : Int) {m : Int} (e : (l.length : Int) = m) (z : 0 < m) : ∃ a, getI l (i % m) = some a ∧ a ∈ l := get_memL (Int.emod_nonneg _ (by omega)) (by have := Int.emod_lt_of_pos i z; omega)
theorem mod_nat (i : Int) {m : Int} (z : 0 < m) : ∃ k : Nat, i % m = (k : Nat) ∧ (k : Int) < m := by
  obtain ⟨k, e⟩ := Int.eq_ofNat_of_zero_le (Int.emod_nonneg i (by omega : m ≠ 0))
  exact ⟨k, e, by have := Int.emod_lt_of_pos i z; omega⟩
mutual
theorem deq_self : ∀ {k : Nat} {d : D}, D.sh k d = true → deq d d = true
  | 0, _, q => by simp [D.sh] at q
  | k + 1, .non, _ => by simp [deq]
  | k + 1, .bl _, _ => by simp [deq]
  | k + 1, .int _, _ => by simp [deq]
  | k + 1, .str _, _ => by simp [deq]
  | k + 1, .tup xs, q => by
    simp only [D.sh] at q
    simp only [deq]
    exact deqs_self q
  | k + 1, .lst xs, q => by
    simp only [D.sh] at q
    simp only [deq]
    exact deqs_self q
  | k + 1, .ref _, q => by simp [D.sh] at q
  | k + 1, .exc _, q => by simp [D.sh] at q
  | k + 1, .scr _, q => by simp [D.sh] at q
theorem deqs_self : ∀ {k : Nat} {ds : List D}, D.shs k ds = true → deqs ds ds = true
  | _, [], _ => by simp [deqs]
  | k, x :: xs, q => by
    simp only [D.shs, Bool.and_eq_true] at q
    simp only [deqs, Bool.and_eq_true]
    exact ⟨deq_self q.1, deqs_self q.2⟩
end
theorem eqD_self {d : D} {h : Hs} (q : D.sh DP d = true) : eqD d d h = some true := by rw [eqD_sh q q, deq_self q]
theorem eqD_selfL {xs : List D} {h : Hs} (q : D.shs 59 xs = true) : eqD (.lst xs) (.lst xs) h = some true := by rw [eqD_L rfl rfl q q, deqs_self q]
theorem eqD_l0 {xs : List D} {h : Hs} (q : D.shs 59 xs = true) : eqD (.lst xs) (.lst []) h = some (decide (xs = [])) := by
  rw [eqD_L rfl rfl q (by simp [D.shs])]
  cases xs <;> simp [deqs]
theorem sl_l {hp : Bool} {a : List D} {lo hi : Option Int} {h : Hs} : sliD hp (.lst a) lo hi h = mkL hp (cut a lo hi) h := sl_L rfl
mutual
/-- data to a depth, references too -/
def D.shr : Nat → D → Bool
  | 0, _ => false
  | _ + 1, .non => true
  | _ + 1, .bl _ => true
  | _ + 1, .int _ => true
  | _ + 1, .str _ => true
  | _ + 1, .ref _ => true
  | k + 1, .tup xs => D.shrs k xs
  | k + 1, .lst xs => D.shrs k xs
  | _ + 1, _ => false
def D.shrs : Nat → List D → Bool
  | _, [] => true
  | k, x :: xs => D.shr k x && D.shrs k xs
end
mutual
theorem rsl_refl {h : Hs} : ∀ {k : Nat} {d a : D}, rsl h k d = some a → deq a a = true
  | 0, _, _, q => by simp [rsl] at q
  | k + 1, .ref n, a, q => by
    simp only [rsl] at q
    split at q
    · split at q
      · rename_i e; cases q; simp only [deq]; exact rsls_refl e
      · cases q
    · cases q
  | k + 1, .tup xs, a, q => by
    simp only [rsl] at q
    split at q
    · rename_i e; cases q; simp only [deq]; exact rsls_refl e
    · cases q
  | k + 1, .lst xs, a, q => by
    simp only [rsl] at q
    split at q
    · rename_i e; cases q; simp only [deq]; exact rsls_refl e
    · cases q
  | k + 1, .non, a, q => by simp only [rsl] at q; cases q; simp [deq]
  | k + 1, .bl _, a, q => by simp only [rsl] at q; cases q; simp [deq]
  | k + 1, .int _, a, q => by simp only [rsl] at q; cases q; simp [deq]
  | k + 1, .str _, a, q => by simp only [rsl] at q; cases q; simp [deq]
  | k + 1, .exc _, _, q => by simp [rsl] at q
  | k + 1, .scr _, _, q => by simp [rsl] at q
theorem rsls_refl {h : Hs} : ∀ {k : Nat} {ds as : List D}, rsls h k ds = some as → deqs as as = true
  | _, [], _, q => by simp only [rsls] at q; cases q; simp [deqs]
  | k, x :: xs, _, q => by
    simp only [rsls] at q
    split at q
    · rename_i e1
      split at q
      · rename_i e2
        cases q
        simp only [deqs, rsl_refl e1, rsls_refl e2]
        rfl
      · cases q
    · cases q
end
theorem eqB_flat {h : Hs} {d : D} (f : flatE d = true) : eqB h d d = some true := by
  have e : deq d d = true := by cases d <;> first | (cases f; done) | simp [deq]
  unfold eqB
  rw [f, e]; rfl
theorem eqB_ref {h : Hs} {n : Nat} : eqB h (.ref n) (.ref n) = some true := by
  unfold eqB
  rw [if_neg (by simp [flatE]), if_pos (by simp [refEq])]
theorem eqB_tup {h : Hs} {xs : List D} : eqB h (.tup xs) (.tup xs) = none := by simp [eqB, flatE, refEq, dctAt]
theorem eqB_lst {h : Hs} {xs : List D} : eqB h (.lst xs) (.lst xs) = none := by simp [eqB, flatE, refEq, dctAt]
theorem zipE_self {f : D → D → Option Bool} : ∀ {xs : List D}, (∀ x ∈ xs, f x x = some true) → zipE f xs xs = some (xs.map fun _ => true)
  | [], _ => rfl
  | x :: xs, q => by
    unfold zipE
    rw [q x List.mem_cons_self, zipE_self fun y m => q y (List.mem_cons_of_mem _ m)]
    rfl
theorem eqR_self {h : Hs} {f : D → D → Option Bool} {d : D} {b : Bool} {xs : List D} (e : rowOf h d = some (b, xs)) (q : ∀ x ∈ xs, f x x = some true) : eqR h f d d = some true := by
  unfold eqR
  rw [e]
  simp only [if_true]
  rw [zipE_self q]
  simp
theorem shrs_mem : ∀ {k : Nat} {xs : List D}, D.shrs k xs = true → ∀ x ∈ xs, D.shr k x = true
  | _, [], _, _, m => by cases m
  | k, y :: xs, q, x, m => by
    simp only [D.shrs, Bool.and_eq_true] at q
    rcases List.mem_cons.mp m with rfl | m
    · exact q.1
    · exact shrs_mem q.2 x m
theorem eqG_self {h : Hs} : ∀ {k : Nat} {d : D}, D.shr k d = true → eqG h k d d = some true
  | 0, d, q => by simp [D.shr] at q
  | k + 1, d, q => by
    show (match eqB h d d with | some b => some b | none => eqR h (eqG h k) d d) = some true
    cases d with
    | tup xs =>
      rw [eqB_tup]
      exact eqR_self rfl fun x m => eqG_self (shrs_mem (by simpa [D.shr] using q) x m)
    | lst xs =>
      rw [eqB_lst]
      exact eqR_self rfl fun x m => eqG_self (shrs_mem (by simpa [D.shr] using q) x m)
    | ref n => rw [eqB_ref]
    | exc _ => simp [D.shr] at q
    | scr _ => simp [D.shr] at q
    | _ => rw [eqB_flat rfl]
theorem eqT_self {h : Hs} {L : List D} (q : D.shrs 8 L = true) : orS (orS (eqD (.lst L) (.lst L) h) (eqS (.lst L) (.lst L) h)) (eqM (.lst L) (.lst L) h) = some true := by
  have e : eqM (.lst L) (.lst L) h = some true := eqR_self (f := eqG h 8) rfl fun x m => eqG_self (shrs_mem q x m)
  have e1 : eqD (.lst L) (.lst L) h = some true ∨ eqD (.lst L) (.lst L) h = none := by
    unfold eqD
    cases r : rsl h DP (.lst L) with
    | none => exact .inr rfl
    | some a => exact .inl (by simp only [rsl_refl r])
  have e2 : eqS (.lst L) (.lst L) h = none := rfl
  rcases e1 with e1 | e1 <;> rw [e1]
  · rfl
  · rw [e2]; exact e
theorem shrs_app {k : Nat} : ∀ {a b : List D}, D.shrs k (a ++ b) = (D.shrs k a && D.shrs k b)
  | [], _ => by simp [D.shrs]
  | x :: a, b => by simp [D.shrs, shrs_app, Bool.and_assoc]
theorem shrs_of {k : Nat} : ∀ {l : List D}, (∀ d ∈ l, D.shr k d = true) → D.shrs k l = true
  | [], _ => by simp [D.shrs]
  | x :: l, q => by
    have ih := shrs_of (l := l) fun d m => q d (List.mem_cons_of_mem _ m)
    simp [D.shrs, q x List.mem_cons_self, ih]
theorem eqG_B {h : Hs} {n : Nat} {x y : D} {b : Bool} (e : eqB h x y = some b) : eqG h n x y = some b := by
  cases n with
  | zero => exact e
  | succ n =>
    show (match eqB h x y with | some b => some b | none => eqR h (eqG h n) x y) = some b
    rw [e]
/-- a text beside a dict, a list, a tuple -/
theorem eqB_sd {h : Hs} {r : Nat} {x : List Char} {kvs : List (Ky × D)} (e : h[r]? = some (.dct kvs)) : eqB h (.str x) (.ref r) = some false := by
  have rr : rowOf h (.ref r) = none := by simp [rowOf, seqOf, e]
  have rs : rowOf h (.str x) = none := rfl
  have di : dctAt h (.ref r) = true := by simp [dctAt, e]
  have ds : dctAt h (.str x) = false := rfl
  simp [eqB, flatE, refEq, rr, rs, di, ds, isTx]
theorem eqB_sl {h : Hs} {x : List Char} {l : List D} : eqB h (.str x) (.lst l) = some false := by
  have rr : rowOf h (.lst l) = some (false, l) := rfl
  have rs : rowOf h (.str x) = none := rfl
  simp [eqB, flatE, refEq, rr, rs]
theorem eqB_st {h : Hs} {x : List Char} {l : List D} : eqB h (.str x) (.tup l) = some false := by
  have rr : rowOf h (.tup l) = some (true, l) := rfl
  have rs : rowOf h (.str x) = none := rfl
  simp [eqB, flatE, refEq, rr, rs]
theorem fl_r {r : Nat} : flatD (.ref r) = false := rfl
theorem fl_l {l : List D} : flatD (.lst l) = false := rfl
theorem fl_t {l : List D} : flatD (.tup l) = false := rfl
/-- which element of a list of given things -/
theorem blsx {α : Type} {p : α → Bool} {h : Hs} (l : List α) : bltD .all false [.lst (l.map fun a => .bl (p a))] h = .ok (.bl (l.all p)) h := by
  rw [l_all (h := h) (d := .lst (l.map fun a => .bl (p a))) rfl (bls_map l)]
  simp [List.all_map]
end VI
/-! V20: a hook that looks at fewer objects, and the top's run in parts (own work): the kernel wants less room. -/
namespace VI
open PySem PySem.Spec PyProof.Rows L2
def rfY (g : Addr -> Option Obj) (as : List Addr) : List Addr := (as.flatMap fun a => match g a with
  | some o => He.refsD o
  | none => []).filter fun a => !(Nat.beq a mainGlobals)
def asY (g : Addr -> Option Obj) : List Addr :=
  let a1 := rfY g [mainGlobals]
  let a2 := rfY g a1
  let a3 := rfY g a2
  mainGlobals :: (a1 ++ (a2 ++ (a3 ++ rfY g a3)))
abbrev fnY (lw : Lw) : List He.DefD := lw.defs.map (·.d)
def obsY1 (lw : Lw) (g : Addr -> Option Obj) : He.AlT := He.obsT [] (fnY lw) [] (He.frT g (asY g))
def obsY2 (lw : Lw) (g : Addr -> Option Obj) : Bool := lw.facts (He.frT g (asY g))
def obsY (lw : Lw) (g : Addr -> Option Obj) : He.AlX := (obsY1 lw g, obsY2 lw g)
theorem saysY_of {lw : Lw} {w : World} {h : Heap} (e : obsY lw h.get? = He.valX (fnY lw) [] w) : He.SaysX [] (fnY lw) [] [] lw.facts w h (He.frT h.get? (asY h.get?)) := by
  have e1 : He.obsT [] (fnY lw) [] (He.frT h.get? (asY h.get?)) = He.valT (fnY lw) [] w := congrArg (fun z : He.AlX => z.1) e
  have e2 : lw.facts (He.frT h.get? (asY h.get?)) = true := congrArg (fun z : He.AlX => z.2) e
  exact ⟨e1, e2, fun p hp => (by cases hp), fun p hp => (by cases hp), fun p hp => (by cases hp)⟩
def hkY (lw : Lw) : PySem.W.Hook where
  α := He.AlX
  obs := fun s => obsY lw s.heap.get?
  val := fun w => He.valX (fnY lw) [] w
  says := fun w h => ∃ K : PySem.W.Frag, K.In h ∧ He.SaysX [] (fnY lw) [] [] lw.facts w h K
  of := fun _ _ e => ⟨_, He.frT_in, saysY_of e⟩
  keeps := fun _ _ _ ⟨K, hK, c⟩ k => ⟨K, PySem.W.Frag.In.keeps hK k, ⟨c.t, c.more, c.hd, c.out, fun p hp => (by cases hp)⟩⟩
theorem obsY_eq {lw : Lw} {g : Addr -> Option Obj} {s : Shared} (h : ∀ a, g a = s.heap.get? a) : obsY lw g = (hkY lw).obs s := by
  have e : g = s.heap.get? := funext h
  rw [e] <;> rfl
theorem map4 {α β γ δ ε : Type} {X : Option α} {f : α → β} {g : α → γ} {h : α → δ} {k : α → ε} {a : β} {b : γ} {c : δ} {d : ε} (e1 : X.map f = some a) (e2 : X.map g = some b) (e3 : X.map h = some c) (e4 : X.map k = some d) :
    X.map (fun s => (f s, g s, (h s, k s))) = some (a, b, (c, d)) := by
  cases X with
  | none => cases e1
  | some x =>
    simp only [Option.map_some, Option.some.injEq] at e1 e2 e3 e4 ⊢
    rw [e1, e2, e3, e4]
end VI
namespace K13
open PySem PySem.Spec PyProof.Rows L2
abbrev topS (i : Nat) : Stmt := PySem.Challenge.pw_inkloom_k13_nodes_joined.main.body.getD i (.Pass ⟨0, 0, 0, 0⟩)
def str0 : List Char := " !\"#$&'()*+,-./0123456789:;<=>?@ABCDEFGHIJKLMNOPQRSTUVWXYZ[\\]^_`".toList
def str1 : List Char := "abcdefghijklmnopqrstuvwxyz{|}~".toList
abbrev st_height_of_0 : VI.S := .ret (.ife (.cmp .is (.var 0) (.non)) (.int 0) (.idx (.var 0) (.int 3)))
abbrev tb_height_of_0 : VI.Ss := .cons st_height_of_0 .nil
def body_height_of : VI.Ss := .cons (.ret (.ife (.cmp .is (.var 0) (.non)) (.int 0) (.idx (.var 0) (.int 3)))) .nil
def fn_height_of : VI.Fn := ⟨1, 1, body_height_of⟩
def dd_height_of : VI.Dfn := ⟨⟨("height_of", none), "height_of", "height_of", defArgs (topS 1), defBody (topS 1), defScope (topS 1), [], []⟩, ["node"], ["node"], fn_height_of⟩
theorem bd_height_of : VI.BindOk dd_height_of := fun _ _ _ _ _ _ us hl => match us, hl with | [_], _ => rfl
abbrev st_nsize_of_0 : VI.S := .ret (.ife (.cmp .is (.var 0) (.non)) (.int 0) (.idx (.var 0) (.int 4)))
abbrev tb_nsize_of_0 : VI.Ss := .cons st_nsize_of_0 .nil
def body_nsize_of : VI.Ss := .cons (.ret (.ife (.cmp .is (.var 0) (.non)) (.int 0) (.idx (.var 0) (.int 4)))) .nil
def fn_nsize_of : VI.Fn := ⟨1, 1, body_nsize_of⟩
def dd_nsize_of : VI.Dfn := ⟨⟨("size_of", none), "size_of", "size_of", defArgs (topS 2), defBody (topS 2), defScope (topS 2), [], []⟩, ["node"], ["node"], fn_nsize_of⟩
theorem bd_nsize_of : VI.BindOk dd_nsize_of := fun _ _ _ _ _ _ us hl => match us, hl with | [_], _ => rfl
abbrev st_ends_of_0 : VI.S := .ret (.ife (.cmp .is (.var 0) (.non)) (.int 0) (.idx (.var 0) (.int 5)))
abbrev tb_ends_of_0 : VI.Ss := .cons st_ends_of_0 .nil
def body_ends_of : VI.Ss := .cons (.ret (.ife (.cmp .is (.var 0) (.non)) (.int 0) (.idx (.var 0) (.int 5)))) .nil
def fn_ends_of : VI.Fn := ⟨1, 1, body_ends_of⟩
def dd_ends_of : VI.Dfn := ⟨⟨("ends_of", none), "ends_of", "ends_of", defArgs (topS 3), defBody (topS 3), defScope (topS 3), [], []⟩, ["node"], ["node"], fn_ends_of⟩
theorem bd_ends_of : VI.BindOk dd_ends_of := fun _ _ _ _ _ _ us hl => match us, hl with | [_], _ => rfl
abbrev st_made_0 : VI.S := .asg (.nm 3) (.bin .add false (.int 1) (.blt .max false (.cons (.call 0 true (.cons (.var 0) .nil)) (.cons (.call 0 true (.cons (.var 2) .nil)) .nil))))
abbrev st_made_1 : VI.S := .asg (.nm 4) (.bin .add false (.bin .add false (.call 1 true (.cons (.var 0) .nil)) (.idx (.var 1) (.int 1))) (.call 1 true (.cons (.var 2) .nil)))
abbrev st_made_2 : VI.S := .ret (.tup (.cons (.var 0) (.cons (.var 1) (.cons (.var 2) (.cons (.var 3) (.cons (.var 4) (.cons (.bin .add false (.bin .add false (.call 2 true (.cons (.var 0) .nil)) (.idx (.var 1) (.int 2))) (.call 2 true (.cons (.var 2) .nil))) .nil)))))))
abbrev tb_made_2 : VI.Ss := .cons st_made_2 .nil
abbrev tb_made_1 : VI.Ss := .cons st_made_1 tb_made_2
abbrev tb_made_0 : VI.Ss := .cons st_made_0 tb_made_1
def body_made : VI.Ss := .cons (.asg (.nm 3) (.bin .add false (.int 1) (.blt .max false (.cons (.call 0 true (.cons (.var 0) .nil)) (.cons (.call 0 true (.cons (.var 2) .nil)) .nil))))) (.cons (.asg (.nm 4) (.bin .add false (.bin .add false (.call 1 true (.cons (.var 0) .nil)) (.idx (.var 1) (.int 1))) (.call 1 true (.cons (.var 2) .nil)))) (.cons (.ret (.tup (.cons (.var 0) (.cons (.var 1) (.cons (.var 2) (.cons (.var 3) (.cons (.var 4) (.cons (.bin .add false (.bin .add false (.call 2 true (.cons (.var 0) .nil)) (.idx (.var 1) (.int 2))) (.call 2 true (.cons (.var 2) .nil))) .nil)))))))) .nil))
def fn_made : VI.Fn := ⟨3, 5, body_made⟩
def dd_made : VI.Dfn := ⟨⟨("made", none), "made", "made", defArgs (topS 4), defBody (topS 4), defScope (topS 4), [], []⟩, ["left", "piece", "right", "height", "size"], ["left", "piece", "right"], fn_made⟩
theorem bd_made : VI.BindOk dd_made := fun _ _ _ _ _ _ us hl => match us, hl with | [_, _, _], _ => rfl
abbrev st_turned_0 : VI.S := .ite (.cmp .gt (.call 0 true (.cons (.var 0) .nil)) (.bin .add false (.call 0 true (.cons (.var 2) .nil)) (.int 1))) (.cons (.ite (.cmp .ge (.call 0 true (.cons (.idx (.var 0) (.int 0)) .nil)) (.call 0 true (.cons (.idx (.var 0) (.int 2)) .nil))) (.cons (.ret (.call 3 true (.cons (.idx (.var 0) (.int 0)) (.cons (.idx (.var 0) (.int 1)) (.cons (.call 3 true (.cons (.idx (.var 0) (.int 2)) (.cons (.var 1) (.cons (.var 2) .nil)))) .nil))))) .nil) (.nil)) (.cons (.asg (.nm 3) (.idx (.var 0) (.int 2))) (.cons (.ret (.call 3 true (.cons (.call 3 true (.cons (.idx (.var 0) (.int 0)) (.cons (.idx (.var 0) (.int 1)) (.cons (.idx (.var 3) (.int 0)) .nil)))) (.cons (.idx (.var 3) (.int 1)) (.cons (.call 3 true (.cons (.idx (.var 3) (.int 2)) (.cons (.var 1) (.cons (.var 2) .nil)))) .nil))))) .nil))) (.nil)
abbrev st_turned_1 : VI.S := .ite (.cmp .gt (.call 0 true (.cons (.var 2) .nil)) (.bin .add false (.call 0 true (.cons (.var 0) .nil)) (.int 1))) (.cons (.ite (.cmp .ge (.call 0 true (.cons (.idx (.var 2) (.int 2)) .nil)) (.call 0 true (.cons (.idx (.var 2) (.int 0)) .nil))) (.cons (.ret (.call 3 true (.cons (.call 3 true (.cons (.var 0) (.cons (.var 1) (.cons (.idx (.var 2) (.int 0)) .nil)))) (.cons (.idx (.var 2) (.int 1)) (.cons (.idx (.var 2) (.int 2)) .nil))))) .nil) (.nil)) (.cons (.asg (.nm 3) (.idx (.var 2) (.int 0))) (.cons (.ret (.call 3 true (.cons (.call 3 true (.cons (.var 0) (.cons (.var 1) (.cons (.idx (.var 3) (.int 0)) .nil)))) (.cons (.idx (.var 3) (.int 1)) (.cons (.call 3 true (.cons (.idx (.var 3) (.int 2)) (.cons (.idx (.var 2) (.int 1)) (.cons (.idx (.var 2) (.int 2)) .nil)))) .nil))))) .nil))) (.nil)
abbrev st_turned_2 : VI.S := .ret (.call 3 true (.cons (.var 0) (.cons (.var 1) (.cons (.var 2) .nil))))
abbrev tb_turned_2 : VI.Ss := .cons st_turned_2 .nil
abbrev tb_turned_1 : VI.Ss := .cons st_turned_1 tb_turned_2
abbrev tb_turned_0 : VI.Ss := .cons st_turned_0 tb_turned_1
def body_turned : VI.Ss := .cons (.ite (.cmp .gt (.call 0 true (.cons (.var 0) .nil)) (.bin .add false (.call 0 true (.cons (.var 2) .nil)) (.int 1))) (.cons (.ite (.cmp .ge (.call 0 true (.cons (.idx (.var 0) (.int 0)) .nil)) (.call 0 true (.cons (.idx (.var 0) (.int 2)) .nil))) (.cons (.ret (.call 3 true (.cons (.idx (.var 0) (.int 0)) (.cons (.idx (.var 0) (.int 1)) (.cons (.call 3 true (.cons (.idx (.var 0) (.int 2)) (.cons (.var 1) (.cons (.var 2) .nil)))) .nil))))) .nil) (.nil)) (.cons (.asg (.nm 3) (.idx (.var 0) (.int 2))) (.cons (.ret (.call 3 true (.cons (.call 3 true (.cons (.idx (.var 0) (.int 0)) (.cons (.idx (.var 0) (.int 1)) (.cons (.idx (.var 3) (.int 0)) .nil)))) (.cons (.idx (.var 3) (.int 1)) (.cons (.call 3 true (.cons (.idx (.var 3) (.int 2)) (.cons (.var 1) (.cons (.var 2) .nil)))) .nil))))) .nil))) (.nil)) (.cons (.ite (.cmp .gt (.call 0 true (.cons (.var 2) .nil)) (.bin .add false (.call 0 true (.cons (.var 0) .nil)) (.int 1))) (.cons (.ite (.cmp .ge (.call 0 true (.cons (.idx (.var 2) (.int 2)) .nil)) (.call 0 true (.cons (.idx (.var 2) (.int 0)) .nil))) (.cons (.ret (.call 3 true (.cons (.call 3 true (.cons (.var 0) (.cons (.var 1) (.cons (.idx (.var 2) (.int 0)) .nil)))) (.cons (.idx (.var 2) (.int 1)) (.cons (.idx (.var 2) (.int 2)) .nil))))) .nil) (.nil)) (.cons (.asg (.nm 3) (.idx (.var 2) (.int 0))) (.cons (.ret (.call 3 true (.cons (.call 3 true (.cons (.var 0) (.cons (.var 1) (.cons (.idx (.var 3) (.int 0)) .nil)))) (.cons (.idx (.var 3) (.int 1)) (.cons (.call 3 true (.cons (.idx (.var 3) (.int 2)) (.cons (.idx (.var 2) (.int 1)) (.cons (.idx (.var 2) (.int 2)) .nil)))) .nil))))) .nil))) (.nil)) (.cons (.ret (.call 3 true (.cons (.var 0) (.cons (.var 1) (.cons (.var 2) .nil))))) .nil))
def fn_turned : VI.Fn := ⟨3, 4, body_turned⟩
def dd_turned : VI.Dfn := ⟨⟨("turned", none), "turned", "turned", defArgs (topS 5), defBody (topS 5), defScope (topS 5), [], []⟩, ["left", "piece", "right", "inner"], ["left", "piece", "right"], fn_turned⟩
theorem bd_turned : VI.BindOk dd_turned := fun _ _ _ _ _ _ us hl => match us, hl with | [_, _, _], _ => rfl
abbrev st_joined_0 : VI.S := .ite (.cmp .gt (.call 0 true (.cons (.var 0) .nil)) (.bin .add false (.call 0 true (.cons (.var 2) .nil)) (.int 1))) (.cons (.ret (.call 4 true (.cons (.idx (.var 0) (.int 0)) (.cons (.idx (.var 0) (.int 1)) (.cons (.call 5 true (.cons (.idx (.var 0) (.int 2)) (.cons (.var 1) (.cons (.var 2) .nil)))) .nil))))) .nil) (.nil)
abbrev st_joined_1 : VI.S := .ite (.cmp .gt (.call 0 true (.cons (.var 2) .nil)) (.bin .add false (.call 0 true (.cons (.var 0) .nil)) (.int 1))) (.cons (.ret (.call 4 true (.cons (.call 5 true (.cons (.var 0) (.cons (.var 1) (.cons (.idx (.var 2) (.int 0)) .nil)))) (.cons (.idx (.var 2) (.int 1)) (.cons (.idx (.var 2) (.int 2)) .nil))))) .nil) (.nil)
abbrev st_joined_2 : VI.S := .ret (.call 3 true (.cons (.var 0) (.cons (.var 1) (.cons (.var 2) .nil))))
abbrev tb_joined_2 : VI.Ss := .cons st_joined_2 .nil
abbrev tb_joined_1 : VI.Ss := .cons st_joined_1 tb_joined_2
abbrev tb_joined_0 : VI.Ss := .cons st_joined_0 tb_joined_1
def body_joined : VI.Ss := .cons (.ite (.cmp .gt (.call 0 true (.cons (.var 0) .nil)) (.bin .add false (.call 0 true (.cons (.var 2) .nil)) (.int 1))) (.cons (.ret (.call 4 true (.cons (.idx (.var 0) (.int 0)) (.cons (.idx (.var 0) (.int 1)) (.cons (.call 5 true (.cons (.idx (.var 0) (.int 2)) (.cons (.var 1) (.cons (.var 2) .nil)))) .nil))))) .nil) (.nil)) (.cons (.ite (.cmp .gt (.call 0 true (.cons (.var 2) .nil)) (.bin .add false (.call 0 true (.cons (.var 0) .nil)) (.int 1))) (.cons (.ret (.call 4 true (.cons (.call 5 true (.cons (.var 0) (.cons (.var 1) (.cons (.idx (.var 2) (.int 0)) .nil)))) (.cons (.idx (.var 2) (.int 1)) (.cons (.idx (.var 2) (.int 2)) .nil))))) .nil) (.nil)) (.cons (.ret (.call 3 true (.cons (.var 0) (.cons (.var 1) (.cons (.var 2) .nil))))) .nil))
def fn_joined : VI.Fn := ⟨3, 3, body_joined⟩
def dd_joined : VI.Dfn := ⟨⟨("joined", none), "joined", "joined", defArgs (topS 6), defBody (topS 6), defScope (topS 6), [], []⟩, ["left", "piece", "right"], ["left", "piece", "right"], fn_joined⟩
theorem bd_joined : VI.BindOk dd_joined := fun _ _ _ _ _ _ us hl => match us, hl with | [_, _, _], _ => rfl
abbrev st_last_off_0 : VI.S := .ite (.cmp .is (.idx (.var 0) (.int 2)) (.non)) (.cons (.ret (.tup (.cons (.idx (.var 0) (.int 0)) (.cons (.idx (.var 0) (.int 1)) .nil)))) .nil) (.nil)
abbrev st_last_off_1 : VI.S := .asg (.tp [1, 2]) (.call 6 true (.cons (.idx (.var 0) (.int 2)) .nil))
abbrev st_last_off_2 : VI.S := .ret (.tup (.cons (.call 4 true (.cons (.idx (.var 0) (.int 0)) (.cons (.idx (.var 0) (.int 1)) (.cons (.var 1) .nil)))) (.cons (.var 2) .nil)))
abbrev tb_last_off_2 : VI.Ss := .cons st_last_off_2 .nil
abbrev tb_last_off_1 : VI.Ss := .cons st_last_off_1 tb_last_off_2
abbrev tb_last_off_0 : VI.Ss := .cons st_last_off_0 tb_last_off_1
def body_last_off : VI.Ss := .cons (.ite (.cmp .is (.idx (.var 0) (.int 2)) (.non)) (.cons (.ret (.tup (.cons (.idx (.var 0) (.int 0)) (.cons (.idx (.var 0) (.int 1)) .nil)))) .nil) (.nil)) (.cons (.asg (.tp [1, 2]) (.call 6 true (.cons (.idx (.var 0) (.int 2)) .nil))) (.cons (.ret (.tup (.cons (.call 4 true (.cons (.idx (.var 0) (.int 0)) (.cons (.idx (.var 0) (.int 1)) (.cons (.var 1) .nil)))) (.cons (.var 2) .nil)))) .nil))
def fn_last_off : VI.Fn := ⟨1, 3, body_last_off⟩
def dd_last_off : VI.Dfn := ⟨⟨("last_off", none), "last_off", "last_off", defArgs (topS 7), defBody (topS 7), defScope (topS 7), [], []⟩, ["node", "rest", "piece"], ["node"], fn_last_off⟩
theorem bd_last_off : VI.BindOk dd_last_off := fun _ _ _ _ _ _ us hl => match us, hl with | [_], _ => rfl
abbrev st_nmet_0 : VI.S := .ite (.cmp .is (.var 0) (.non)) (.cons (.ret (.var 1)) .nil) (.nil)
abbrev st_nmet_1 : VI.S := .ite (.cmp .is (.var 1) (.non)) (.cons (.ret (.var 0)) .nil) (.nil)
abbrev st_nmet_2 : VI.S := .asg (.tp [2, 3]) (.call 6 true (.cons (.var 0) .nil))
abbrev st_nmet_3 : VI.S := .ret (.call 5 true (.cons (.var 2) (.cons (.var 3) (.cons (.var 1) .nil))))
abbrev tb_nmet_3 : VI.Ss := .cons st_nmet_3 .nil
abbrev tb_nmet_2 : VI.Ss := .cons st_nmet_2 tb_nmet_3
abbrev tb_nmet_1 : VI.Ss := .cons st_nmet_1 tb_nmet_2
abbrev tb_nmet_0 : VI.Ss := .cons st_nmet_0 tb_nmet_1
def body_nmet : VI.Ss := .cons (.ite (.cmp .is (.var 0) (.non)) (.cons (.ret (.var 1)) .nil) (.nil)) (.cons (.ite (.cmp .is (.var 1) (.non)) (.cons (.ret (.var 0)) .nil) (.nil)) (.cons (.asg (.tp [2, 3]) (.call 6 true (.cons (.var 0) .nil))) (.cons (.ret (.call 5 true (.cons (.var 2) (.cons (.var 3) (.cons (.var 1) .nil))))) .nil)))
def fn_nmet : VI.Fn := ⟨2, 4, body_nmet⟩
def dd_nmet : VI.Dfn := ⟨⟨("met", none), "met", "met", defArgs (topS 8), defBody (topS 8), defScope (topS 8), [], []⟩, ["left", "right", "rest", "piece"], ["left", "right"], fn_nmet⟩
theorem bd_nmet : VI.BindOk dd_nmet := fun _ _ _ _ _ _ us hl => match us, hl with | [_, _], _ => rfl
abbrev st_pieces_of_0 : VI.S := .ite (.cmp .is (.var 0) (.non)) (.cons (.ret (.lst false (.nil))) .nil) (.nil)
abbrev st_pieces_of_1 : VI.S := .ret (.bin .add false (.bin .add false (.call 8 true (.cons (.idx (.var 0) (.int 0)) .nil)) (.lst false (.cons (.idx (.var 0) (.int 1)) .nil))) (.call 8 true (.cons (.idx (.var 0) (.int 2)) .nil)))
abbrev tb_pieces_of_1 : VI.Ss := .cons st_pieces_of_1 .nil
abbrev tb_pieces_of_0 : VI.Ss := .cons st_pieces_of_0 tb_pieces_of_1
def body_pieces_of : VI.Ss := .cons (.ite (.cmp .is (.var 0) (.non)) (.cons (.ret (.lst false (.nil))) .nil) (.nil)) (.cons (.ret (.bin .add false (.bin .add false (.call 8 true (.cons (.idx (.var 0) (.int 0)) .nil)) (.lst false (.cons (.idx (.var 0) (.int 1)) .nil))) (.call 8 true (.cons (.idx (.var 0) (.int 2)) .nil)))) .nil)
def fn_pieces_of : VI.Fn := ⟨1, 1, body_pieces_of⟩
def dd_pieces_of : VI.Dfn := ⟨⟨("pieces_of", none), "pieces_of", "pieces_of", defArgs (topS 9), defBody (topS 9), defScope (topS 9), [], []⟩, ["node"], ["node"], fn_pieces_of⟩
theorem bd_pieces_of : VI.BindOk dd_pieces_of := fun _ _ _ _ _ _ us hl => match us, hl with | [_], _ => rfl
abbrev st_law_cell_at_0 : VI.S := .ite (.cmp .lt (.var 1) (.blt .len false (.cons (.var 0) .nil))) (.cons (.ret (.idx (.var 0) (.var 1))) .nil) (.nil)
abbrev st_law_cell_at_1 : VI.S := .ret (.int 0)
abbrev tb_law_cell_at_1 : VI.Ss := .cons st_law_cell_at_1 .nil
abbrev tb_law_cell_at_0 : VI.Ss := .cons st_law_cell_at_0 tb_law_cell_at_1
def body_law_cell_at : VI.Ss := .cons (.ite (.cmp .lt (.var 1) (.blt .len false (.cons (.var 0) .nil))) (.cons (.ret (.idx (.var 0) (.var 1))) .nil) (.nil)) (.cons (.ret (.int 0)) .nil)
def fn_law_cell_at : VI.Fn := ⟨2, 2, body_law_cell_at⟩
def dd_law_cell_at : VI.Dfn := ⟨⟨("_law_cell_at", none), "_law_cell_at", "_law_cell_at", defArgs (topS 11), defBody (topS 11), defScope (topS 11), [], []⟩, ["_law_script", "_law_k"], ["_law_script", "_law_k"], fn_law_cell_at⟩
theorem bd_law_cell_at : VI.BindOk dd_law_cell_at := fun _ _ _ _ _ _ us hl => match us, hl with | [_, _], _ => rfl
abbrev st_law_whole_0 : VI.S := .ret (.and (.inst (.var 0) .int) (.not (.inst (.var 0) .bool)))
abbrev tb_law_whole_0 : VI.Ss := .cons st_law_whole_0 .nil
def body_law_whole : VI.Ss := .cons (.ret (.and (.inst (.var 0) .int) (.not (.inst (.var 0) .bool)))) .nil
def fn_law_whole : VI.Fn := ⟨1, 1, body_law_whole⟩
def dd_law_whole : VI.Dfn := ⟨⟨("_law_whole", none), "_law_whole", "_law_whole", defArgs (topS 12), defBody (topS 12), defScope (topS 12), [], []⟩, ["_law_found"], ["_law_found"], fn_law_whole⟩
theorem bd_law_whole : VI.BindOk dd_law_whole := fun _ _ _ _ _ _ us hl => match us, hl with | [_], _ => rfl
abbrev st_law_mixed_0 : VI.S := .asg (.nm 2) (.bin .mod false (.bin .add false (.bin .add false (.bin .mul false (.var 0) (.int 48271)) (.bin .mul false (.int 7919) (.var 1))) (.int 12345)) (.int 2147483647))
abbrev st_law_mixed_1 : VI.S := .ret (.bin .mod false (.bin .mul false (.bin .mod false (.bin .mul false (.var 2) (.var 2)) (.int 2147483647)) (.var 2)) (.int 2147483647))
abbrev tb_law_mixed_1 : VI.Ss := .cons st_law_mixed_1 .nil
abbrev tb_law_mixed_0 : VI.Ss := .cons st_law_mixed_0 tb_law_mixed_1
def body_law_mixed : VI.Ss := .cons (.asg (.nm 2) (.bin .mod false (.bin .add false (.bin .add false (.bin .mul false (.var 0) (.int 48271)) (.bin .mul false (.int 7919) (.var 1))) (.int 12345)) (.int 2147483647))) (.cons (.ret (.bin .mod false (.bin .mul false (.bin .mod false (.bin .mul false (.var 2) (.var 2)) (.int 2147483647)) (.var 2)) (.int 2147483647))) .nil)
def fn_law_mixed : VI.Fn := ⟨2, 3, body_law_mixed⟩
def dd_law_mixed : VI.Dfn := ⟨⟨("_law_mixed", none), "_law_mixed", "_law_mixed", defArgs (topS 13), defBody (topS 13), defScope (topS 13), [], []⟩, ["_law_cell", "_law_k", "_law_number"], ["_law_cell", "_law_k"], fn_law_mixed⟩
theorem bd_law_mixed : VI.BindOk dd_law_mixed := fun _ _ _ _ _ _ us hl => match us, hl with | [_, _], _ => rfl
abbrev lb_law_text_by_0 : VI.Ss := .cons (.asg (.nm 5) (.call 11 true (.cons (.var 0) (.cons (.var 4) .nil)))) (.cons (.asg (.nm 3) (.bin .add false (.var 3) (.idx (.lst false (.cons (.str ['\n']) (.cons (.idx (.str ['a', 'b']) (.bin .mod false (.bin .fdv false (.var 5) (.int 8)) (.int 2))) (.cons (.idx (.var 2) (.bin .mod false (.bin .fdv false (.var 5) (.int 8)) (.int 94))) (.cons (.idx (.var 2) (.bin .mod false (.bin .fdv false (.var 5) (.int 8)) (.int 94))) .nil))))) (.bin .mod false (.var 5) (.int 4))))) .nil)
abbrev st_law_text_by_0 : VI.S := .asg (.nm 2) (.str str0)
abbrev st_law_text_by_1 : VI.S := .asg (.nm 2) (.bin .add false (.var 2) (.str str1))
abbrev st_law_text_by_2 : VI.S := .asg (.nm 3) (.str [])
abbrev st_law_text_by_3 : VI.S := .loop (.nm 4) (.rg1 (.var 1)) (lb_law_text_by_0)
abbrev st_law_text_by_4 : VI.S := .ret (.var 3)
abbrev tb_law_text_by_4 : VI.Ss := .cons st_law_text_by_4 .nil
abbrev tb_law_text_by_3 : VI.Ss := .cons st_law_text_by_3 tb_law_text_by_4
abbrev tb_law_text_by_2 : VI.Ss := .cons st_law_text_by_2 tb_law_text_by_3
abbrev tb_law_text_by_1 : VI.Ss := .cons st_law_text_by_1 tb_law_text_by_2
abbrev tb_law_text_by_0 : VI.Ss := .cons st_law_text_by_0 tb_law_text_by_1
def body_law_text_by : VI.Ss := .cons (.asg (.nm 2) (.str str0)) (.cons (.asg (.nm 2) (.bin .add false (.var 2) (.str str1))) (.cons (.asg (.nm 3) (.str [])) (.cons (.loop (.nm 4) (.rg1 (.var 1)) (.cons (.asg (.nm 5) (.call 11 true (.cons (.var 0) (.cons (.var 4) .nil)))) (.cons (.asg (.nm 3) (.bin .add false (.var 3) (.idx (.lst false (.cons (.str ['\n']) (.cons (.idx (.str ['a', 'b']) (.bin .mod false (.bin .fdv false (.var 5) (.int 8)) (.int 2))) (.cons (.idx (.var 2) (.bin .mod false (.bin .fdv false (.var 5) (.int 8)) (.int 94))) (.cons (.idx (.var 2) (.bin .mod false (.bin .fdv false (.var 5) (.int 8)) (.int 94))) .nil))))) (.bin .mod false (.var 5) (.int 4))))) .nil))) (.cons (.ret (.var 3)) .nil))))
def fn_law_text_by : VI.Fn := ⟨2, 6, body_law_text_by⟩
def dd_law_text_by : VI.Dfn := ⟨⟨("_law_text_by", none), "_law_text_by", "_law_text_by", defArgs (topS 14), defBody (topS 14), defScope (topS 14), [], []⟩, ["_law_cell", "_law_many_here", "_law_some", "_law_text", "_law_k", "_law_number"], ["_law_cell", "_law_many_here"], fn_law_text_by⟩
theorem bd_law_text_by : VI.BindOk dd_law_text_by := fun _ _ _ _ _ _ us hl => match us, hl with | [_, _], _ => rfl
abbrev le_law_good_0 : VI.E := .var 5
abbrev lq_law_good_0 : VI.E := .not (.call 10 true (.cons (.var 5) .nil))
abbrev st_law_good_0 : VI.S := .ite (.cmp .is (.var 0) (.non)) (.cons (.ret (.tup (.cons (.int 0) (.cons (.int 0) (.cons (.int 0) .nil))))) .nil) (.nil)
abbrev st_law_good_1 : VI.S := .ite (.or (.not (.inst (.var 0) .tuple)) (.or (.cmp .ne (.blt .len false (.cons (.var 0) .nil)) (.int 6)) (.or (.not (.inst (.idx (.var 0) (.int 1)) .tuple)) (.cmp .ne (.blt .len false (.cons (.idx (.var 0) (.int 1)) .nil)) (.int 3))))) (.cons (.ret (.non)) .nil) (.nil)
abbrev st_law_good_2 : VI.S := .asg (.nm 1) (.call 13 true (.cons (.idx (.var 0) (.int 0)) .nil))
abbrev st_law_good_3 : VI.S := .asg (.nm 2) (.call 13 true (.cons (.idx (.var 0) (.int 2)) .nil))
abbrev st_law_good_4 : VI.S := .ite (.or (.cmp .is (.var 1) (.non)) (.or (.cmp .is (.var 2) (.non)) (.cmp .gt (.blt .abs false (.cons (.bin .sub false (.idx (.var 1) (.int 0)) (.idx (.var 2) (.int 0))) .nil)) (.int 1)))) (.cons (.ret (.non)) .nil) (.nil)
abbrev st_law_good_5 : VI.S := .asg (.nm 3) (.bin .add false (.bin .add false (.idx (.var 1) (.int 1)) (.idx (.idx (.var 0) (.int 1)) (.int 1))) (.idx (.var 2) (.int 1)))
abbrev st_law_good_6 : VI.S := .asg (.nm 4) (.tup (.cons (.bin .add false (.int 1) (.blt .max false (.cons (.idx (.var 1) (.int 0)) (.cons (.idx (.var 2) (.int 0)) .nil)))) (.cons (.var 3) (.cons (.bin .add false (.bin .add false (.idx (.var 1) (.int 2)) (.idx (.idx (.var 0) (.int 1)) (.int 2))) (.idx (.var 2) (.int 2))) .nil))))
abbrev st_law_good_7 : VI.S := .ite (.or (.cmp .ne (.sli false (.var 0) (.int 3) (.nop)) (.var 4)) (.cmp .ne (.comp false (.var 5) (.nm 5) (.seq (.bin .add false (.idx (.var 0) (.int 1)) (.sli false (.var 0) (.int 3) (.nop)))) (.not (.call 10 true (.cons (.var 5) .nil)))) (.lst false (.nil)))) (.cons (.ret (.non)) .nil) (.nil)
abbrev st_law_good_8 : VI.S := .ret (.var 4)
abbrev tb_law_good_8 : VI.Ss := .cons st_law_good_8 .nil
abbrev tb_law_good_7 : VI.Ss := .cons st_law_good_7 tb_law_good_8
abbrev tb_law_good_6 : VI.Ss := .cons st_law_good_6 tb_law_good_7
abbrev tb_law_good_5 : VI.Ss := .cons st_law_good_5 tb_law_good_6
abbrev tb_law_good_4 : VI.Ss := .cons st_law_good_4 tb_law_good_5
abbrev tb_law_good_3 : VI.Ss := .cons st_law_good_3 tb_law_good_4
abbrev tb_law_good_2 : VI.Ss := .cons st_law_good_2 tb_law_good_3
abbrev tb_law_good_1 : VI.Ss := .cons st_law_good_1 tb_law_good_2
abbrev tb_law_good_0 : VI.Ss := .cons st_law_good_0 tb_law_good_1
def body_law_good : VI.Ss := .cons (.ite (.cmp .is (.var 0) (.non)) (.cons (.ret (.tup (.cons (.int 0) (.cons (.int 0) (.cons (.int 0) .nil))))) .nil) (.nil)) (.cons (.ite (.or (.not (.inst (.var 0) .tuple)) (.or (.cmp .ne (.blt .len false (.cons (.var 0) .nil)) (.int 6)) (.or (.not (.inst (.idx (.var 0) (.int 1)) .tuple)) (.cmp .ne (.blt .len false (.cons (.idx (.var 0) (.int 1)) .nil)) (.int 3))))) (.cons (.ret (.non)) .nil) (.nil)) (.cons (.asg (.nm 1) (.call 13 true (.cons (.idx (.var 0) (.int 0)) .nil))) (.cons (.asg (.nm 2) (.call 13 true (.cons (.idx (.var 0) (.int 2)) .nil))) (.cons (.ite (.or (.cmp .is (.var 1) (.non)) (.or (.cmp .is (.var 2) (.non)) (.cmp .gt (.blt .abs false (.cons (.bin .sub false (.idx (.var 1) (.int 0)) (.idx (.var 2) (.int 0))) .nil)) (.int 1)))) (.cons (.ret (.non)) .nil) (.nil)) (.cons (.asg (.nm 3) (.bin .add false (.bin .add false (.idx (.var 1) (.int 1)) (.idx (.idx (.var 0) (.int 1)) (.int 1))) (.idx (.var 2) (.int 1)))) (.cons (.asg (.nm 4) (.tup (.cons (.bin .add false (.int 1) (.blt .max false (.cons (.idx (.var 1) (.int 0)) (.cons (.idx (.var 2) (.int 0)) .nil)))) (.cons (.var 3) (.cons (.bin .add false (.bin .add false (.idx (.var 1) (.int 2)) (.idx (.idx (.var 0) (.int 1)) (.int 2))) (.idx (.var 2) (.int 2))) .nil))))) (.cons (.ite (.or (.cmp .ne (.sli false (.var 0) (.int 3) (.nop)) (.var 4)) (.cmp .ne (.comp false (.var 5) (.nm 5) (.seq (.bin .add false (.idx (.var 0) (.int 1)) (.sli false (.var 0) (.int 3) (.nop)))) (.not (.call 10 true (.cons (.var 5) .nil)))) (.lst false (.nil)))) (.cons (.ret (.non)) .nil) (.nil)) (.cons (.ret (.var 4)) .nil))))))))
def fn_law_good : VI.Fn := ⟨1, 6, body_law_good⟩
def dd_law_good : VI.Dfn := ⟨⟨("_law_good", none), "_law_good", "_law_good", defArgs (topS 15), defBody (topS 15), defScope (topS 15), [], []⟩, ["_law_node", "_law_left", "_law_right", "_law_size", "_law_due", "_law_one"], ["_law_node"], fn_law_good⟩
theorem bd_law_good : VI.BindOk dd_law_good := fun _ _ _ _ _ _ us hl => match us, hl with | [_], _ => rfl
abbrev st_law_pieces_0 : VI.S := .ite (.cmp .is (.var 0) (.non)) (.cons (.ret (.lst false (.nil))) .nil) (.nil)
abbrev st_law_pieces_1 : VI.S := .ret (.bin .add false (.bin .add false (.call 14 true (.cons (.idx (.var 0) (.int 0)) .nil)) (.lst false (.cons (.idx (.var 0) (.int 1)) .nil))) (.call 14 true (.cons (.idx (.var 0) (.int 2)) .nil)))
abbrev tb_law_pieces_1 : VI.Ss := .cons st_law_pieces_1 .nil
abbrev tb_law_pieces_0 : VI.Ss := .cons st_law_pieces_0 tb_law_pieces_1
def body_law_pieces : VI.Ss := .cons (.ite (.cmp .is (.var 0) (.non)) (.cons (.ret (.lst false (.nil))) .nil) (.nil)) (.cons (.ret (.bin .add false (.bin .add false (.call 14 true (.cons (.idx (.var 0) (.int 0)) .nil)) (.lst false (.cons (.idx (.var 0) (.int 1)) .nil))) (.call 14 true (.cons (.idx (.var 0) (.int 2)) .nil)))) .nil)
def fn_law_pieces : VI.Fn := ⟨1, 1, body_law_pieces⟩
def dd_law_pieces : VI.Dfn := ⟨⟨("_law_pieces", none), "_law_pieces", "_law_pieces", defArgs (topS 16), defBody (topS 16), defScope (topS 16), [], []⟩, ["_law_node"], ["_law_node"], fn_law_pieces⟩
theorem bd_law_pieces : VI.BindOk dd_law_pieces := fun _ _ _ _ _ _ us hl => match us, hl with | [_], _ => rfl
abbrev st_law_piece_0 : VI.S := .asg (.nm 2) (.call 11 true (.cons (.var 0) (.cons (.bin .add false (.bin .mul false (.int 7) (.var 1)) (.int 1)) .nil)))
abbrev st_law_piece_1 : VI.S := .asg (.nm 3) (.bin .add false (.int 1) (.bin .mod false (.bin .fdv false (.var 2) (.int 1000)) (.int 9)))
abbrev st_law_piece_2 : VI.S := .ret (.tup (.cons (.bin .mod false (.var 2) (.int 1000)) (.cons (.var 3) (.cons (.bin .mod false (.bin .fdv false (.var 2) (.int 9000)) (.bin .add false (.var 3) (.int 1))) .nil))))
abbrev tb_law_piece_2 : VI.Ss := .cons st_law_piece_2 .nil
abbrev tb_law_piece_1 : VI.Ss := .cons st_law_piece_1 tb_law_piece_2
abbrev tb_law_piece_0 : VI.Ss := .cons st_law_piece_0 tb_law_piece_1
def body_law_piece : VI.Ss := .cons (.asg (.nm 2) (.call 11 true (.cons (.var 0) (.cons (.bin .add false (.bin .mul false (.int 7) (.var 1)) (.int 1)) .nil)))) (.cons (.asg (.nm 3) (.bin .add false (.int 1) (.bin .mod false (.bin .fdv false (.var 2) (.int 1000)) (.int 9)))) (.cons (.ret (.tup (.cons (.bin .mod false (.var 2) (.int 1000)) (.cons (.var 3) (.cons (.bin .mod false (.bin .fdv false (.var 2) (.int 9000)) (.bin .add false (.var 3) (.int 1))) .nil))))) .nil))
def fn_law_piece : VI.Fn := ⟨2, 4, body_law_piece⟩
def dd_law_piece : VI.Dfn := ⟨⟨("_law_piece", none), "_law_piece", "_law_piece", defArgs (topS 17), defBody (topS 17), defScope (topS 17), [], []⟩, ["_law_cell", "_law_k", "_law_number", "_law_size"], ["_law_cell", "_law_k"], fn_law_piece⟩
theorem bd_law_piece : VI.BindOk dd_law_piece := fun _ _ _ _ _ _ us hl => match us, hl with | [_, _], _ => rfl
abbrev st_law_same_0 : VI.S := .asg (.nm 2) (.call 13 true (.cons (.var 0) .nil))
abbrev st_law_same_1 : VI.S := .ite (.or (.cmp .is (.var 2) (.non)) (.cmp .ne (.tup (.cons (.call 0 true (.cons (.var 0) .nil)) (.cons (.call 1 true (.cons (.var 0) .nil)) (.cons (.call 2 true (.cons (.var 0) .nil)) .nil)))) (.var 2))) (.cons (.ret (.bl false)) .nil) (.nil)
abbrev st_law_same_2 : VI.S := .ret (.and (.cmp .eq (.call 14 true (.cons (.var 0) .nil)) (.var 1)) (.cmp .eq (.call 8 true (.cons (.var 0) .nil)) (.var 1)))
abbrev tb_law_same_2 : VI.Ss := .cons st_law_same_2 .nil
abbrev tb_law_same_1 : VI.Ss := .cons st_law_same_1 tb_law_same_2
abbrev tb_law_same_0 : VI.Ss := .cons st_law_same_0 tb_law_same_1
def body_law_same : VI.Ss := .cons (.asg (.nm 2) (.call 13 true (.cons (.var 0) .nil))) (.cons (.ite (.or (.cmp .is (.var 2) (.non)) (.cmp .ne (.tup (.cons (.call 0 true (.cons (.var 0) .nil)) (.cons (.call 1 true (.cons (.var 0) .nil)) (.cons (.call 2 true (.cons (.var 0) .nil)) .nil)))) (.var 2))) (.cons (.ret (.bl false)) .nil) (.nil)) (.cons (.ret (.and (.cmp .eq (.call 14 true (.cons (.var 0) .nil)) (.var 1)) (.cmp .eq (.call 8 true (.cons (.var 0) .nil)) (.var 1)))) .nil))
def fn_law_same : VI.Fn := ⟨2, 3, body_law_same⟩
def dd_law_same : VI.Dfn := ⟨⟨("_law_same", none), "_law_same", "_law_same", defArgs (topS 18), defBody (topS 18), defScope (topS 18), [], []⟩, ["_law_node", "_law_row", "_law_found"], ["_law_node", "_law_row"], fn_law_same⟩
theorem bd_law_same : VI.BindOk dd_law_same := fun _ _ _ _ _ _ us hl => match us, hl with | [_, _], _ => rfl
abbrev st_law_many_0 : VI.S := .asg (.nm 1) (.call 9 true (.cons (.var 0) (.cons (.int 0) .nil)))
abbrev st_law_many_1 : VI.S := .ite (.cmp .eq (.bin .mod false (.bin .fdv false (.var 1) (.int 13)) (.int 6)) (.int 1)) (.cons (.ret (.bin .add false (.int 13) (.bin .mod false (.bin .fdv false (.var 1) (.int 78)) (.int 28)))) .nil) (.nil)
abbrev st_law_many_2 : VI.S := .ite (.cmp .eq (.bin .mod false (.bin .fdv false (.var 1) (.int 13)) (.int 20)) (.int 2)) (.cons (.ret (.bin .add false (.int 41) (.bin .mod false (.bin .fdv false (.var 1) (.int 260)) (.int 50)))) .nil) (.nil)
abbrev st_law_many_3 : VI.S := .ret (.bin .mod false (.var 1) (.int 13))
abbrev tb_law_many_3 : VI.Ss := .cons st_law_many_3 .nil
abbrev tb_law_many_2 : VI.Ss := .cons st_law_many_2 tb_law_many_3
abbrev tb_law_many_1 : VI.Ss := .cons st_law_many_1 tb_law_many_2
abbrev tb_law_many_0 : VI.Ss := .cons st_law_many_0 tb_law_many_1
def body_law_many : VI.Ss := .cons (.asg (.nm 1) (.call 9 true (.cons (.var 0) (.cons (.int 0) .nil)))) (.cons (.ite (.cmp .eq (.bin .mod false (.bin .fdv false (.var 1) (.int 13)) (.int 6)) (.int 1)) (.cons (.ret (.bin .add false (.int 13) (.bin .mod false (.bin .fdv false (.var 1) (.int 78)) (.int 28)))) .nil) (.nil)) (.cons (.ite (.cmp .eq (.bin .mod false (.bin .fdv false (.var 1) (.int 13)) (.int 20)) (.int 2)) (.cons (.ret (.bin .add false (.int 41) (.bin .mod false (.bin .fdv false (.var 1) (.int 260)) (.int 50)))) .nil) (.nil)) (.cons (.ret (.bin .mod false (.var 1) (.int 13))) .nil)))
def fn_law_many : VI.Fn := ⟨1, 2, body_law_many⟩
def dd_law_many : VI.Dfn := ⟨⟨("_law_many", none), "_law_many", "_law_many", defArgs (topS 19), defBody (topS 19), defScope (topS 19), [], []⟩, ["_law_script", "_law_cell"], ["_law_script"], fn_law_many⟩
theorem bd_law_many : VI.BindOk dd_law_many := fun _ _ _ _ _ _ us hl => match us, hl with | [_], _ => rfl
abbrev st_law_one_more_0 : VI.S := .asg (.nm 3) (.bin .mod false (.idx (.lst false (.cons (.int 0) (.cons (.bin .fdv false (.var 2) (.int 12)) (.cons (.bin .sub false (.blt .len false (.cons (.var 0) .nil)) (.int 2)) (.cons (.bin .fdv false (.var 2) (.int 12)) .nil))))) (.bin .mod false (.bin .fdv false (.var 2) (.int 3)) (.int 4))) (.bin .sub false (.blt .len false (.cons (.var 0) .nil)) (.int 1)))
abbrev st_law_one_more_1 : VI.S := .asg (.nm 4) (.idx (.var 0) (.var 3))
abbrev st_law_one_more_2 : VI.S := .asg (.nm 5) (.idx (.var 0) (.bin .add false (.var 3) (.int 1)))
abbrev st_law_one_more_3 : VI.S := .asg (.nm 6) (.lst false (.nil))
abbrev st_law_one_more_4 : VI.S := .ite (.cmp .eq (.bin .mod false (.var 2) (.int 3)) (.int 2)) (.cons (.asg (.nm 6) (.lst false (.cons (.call 15 true (.cons (.var 2) (.cons (.int 5) .nil))) .nil))) (.cons (.sets (.var 0) (.var 3) (.bin .add false (.var 3) (.int 2)) (.lst true (.cons (.call 5 true (.cons (.var 4) (.cons (.idx (.var 6) (.int 0)) (.cons (.var 5) .nil)))) .nil))) .nil)) (.cons (.sets (.var 0) (.var 3) (.bin .add false (.var 3) (.int 2)) (.lst true (.cons (.call 7 true (.cons (.var 4) (.cons (.var 5) .nil))) .nil))) .nil)
abbrev st_law_one_more_5 : VI.S := .sets (.var 1) (.var 3) (.bin .add false (.var 3) (.int 2)) (.lst true (.cons (.bin .add false (.bin .add false (.idx (.var 1) (.var 3)) (.var 6)) (.idx (.var 1) (.bin .add false (.var 3) (.int 1)))) .nil))
abbrev st_law_one_more_6 : VI.S := .ret (.var 3)
abbrev tb_law_one_more_6 : VI.Ss := .cons st_law_one_more_6 .nil
abbrev tb_law_one_more_5 : VI.Ss := .cons st_law_one_more_5 tb_law_one_more_6
abbrev tb_law_one_more_4 : VI.Ss := .cons st_law_one_more_4 tb_law_one_more_5
abbrev tb_law_one_more_3 : VI.Ss := .cons st_law_one_more_3 tb_law_one_more_4
abbrev tb_law_one_more_2 : VI.Ss := .cons st_law_one_more_2 tb_law_one_more_3
abbrev tb_law_one_more_1 : VI.Ss := .cons st_law_one_more_1 tb_law_one_more_2
abbrev tb_law_one_more_0 : VI.Ss := .cons st_law_one_more_0 tb_law_one_more_1
def body_law_one_more : VI.Ss := .cons (.asg (.nm 3) (.bin .mod false (.idx (.lst false (.cons (.int 0) (.cons (.bin .fdv false (.var 2) (.int 12)) (.cons (.bin .sub false (.blt .len false (.cons (.var 0) .nil)) (.int 2)) (.cons (.bin .fdv false (.var 2) (.int 12)) .nil))))) (.bin .mod false (.bin .fdv false (.var 2) (.int 3)) (.int 4))) (.bin .sub false (.blt .len false (.cons (.var 0) .nil)) (.int 1)))) (.cons (.asg (.nm 4) (.idx (.var 0) (.var 3))) (.cons (.asg (.nm 5) (.idx (.var 0) (.bin .add false (.var 3) (.int 1)))) (.cons (.asg (.nm 6) (.lst false (.nil))) (.cons (.ite (.cmp .eq (.bin .mod false (.var 2) (.int 3)) (.int 2)) (.cons (.asg (.nm 6) (.lst false (.cons (.call 15 true (.cons (.var 2) (.cons (.int 5) .nil))) .nil))) (.cons (.sets (.var 0) (.var 3) (.bin .add false (.var 3) (.int 2)) (.lst true (.cons (.call 5 true (.cons (.var 4) (.cons (.idx (.var 6) (.int 0)) (.cons (.var 5) .nil)))) .nil))) .nil)) (.cons (.sets (.var 0) (.var 3) (.bin .add false (.var 3) (.int 2)) (.lst true (.cons (.call 7 true (.cons (.var 4) (.cons (.var 5) .nil))) .nil))) .nil)) (.cons (.sets (.var 1) (.var 3) (.bin .add false (.var 3) (.int 2)) (.lst true (.cons (.bin .add false (.bin .add false (.idx (.var 1) (.var 3)) (.var 6)) (.idx (.var 1) (.bin .add false (.var 3) (.int 1)))) .nil))) (.cons (.ret (.var 3)) .nil))))))
def fn_law_one_more : VI.Fn := ⟨3, 7, body_law_one_more⟩
def dd_law_one_more : VI.Dfn := ⟨⟨("_law_one_more", none), "_law_one_more", "_law_one_more", defArgs (topS 20), defBody (topS 20), defScope (topS 20), [], []⟩, ["_law_nodes", "_law_rows", "_law_number", "_law_at", "_law_left", "_law_right", "_law_between"], ["_law_nodes", "_law_rows", "_law_number"], fn_law_one_more⟩
theorem bd_law_one_more : VI.BindOk dd_law_one_more := fun _ _ _ _ _ _ us hl => match us, hl with | [_, _, _], _ => rfl
abbrev le_law_0 : VI.E := .lst false (.cons (.call 15 true (.cons (.call 9 true (.cons (.var 0) (.cons (.int 1) .nil))) (.cons (.var 3) .nil))) .nil)
abbrev lq_law_0 : VI.E := .bl true
abbrev le_law_1 : VI.E := .call 5 true (.cons (.non) (.cons (.idx (.var 5) (.int 0)) (.cons (.non) .nil)))
abbrev lq_law_1 : VI.E := .bl true
abbrev le_law_2 : VI.E := .blt .list false (.cons (.var 5) .nil)
abbrev lq_law_2 : VI.E := .bl true
abbrev lc_law_3 : VI.E := .cmp .gt (.blt .len false (.cons (.var 4) .nil)) (.int 1)
abbrev lb_law_3 : VI.Ss := .cons (.asg (.nm 9) (.call 11 true (.cons (.call 9 true (.cons (.var 0) (.cons (.bin .add false (.int 2) (.bin .mod false (.var 8) (.int 20))) .nil))) (.cons (.bin .add false (.int 300) (.var 8)) .nil)))) (.cons (.asg (.nm 10) (.call 18 false (.cons (.var 4) (.cons (.var 2) (.cons (.var 9) .nil))))) (.cons (.asg (.nm 8) (.bin .add false (.var 8) (.int 1))) (.cons (.ite (.and (.or (.cmp .lt (.var 1) (.int 14)) (.cmp .eq (.bin .mod false (.var 8) (.int 9)) (.int 0))) (.not (.call 16 true (.cons (.idx (.var 4) (.var 10)) (.cons (.idx (.var 2) (.var 10)) .nil))))) (.cons (.ret (.bl false)) .nil) (.nil)) .nil)))
abbrev le_law_4 : VI.E := .call 8 true (.cons (.var 11) .nil)
abbrev lq_law_4 : VI.E := .bl true
abbrev st_law_0 : VI.S := .asg (.nm 1) (.call 17 true (.cons (.var 0) .nil))
abbrev st_law_1 : VI.S := .asg (.nm 2) (.comp true (.lst false (.cons (.call 15 true (.cons (.call 9 true (.cons (.var 0) (.cons (.int 1) .nil))) (.cons (.var 3) .nil))) .nil)) (.nm 3) (.rg1 (.var 1)) (.bl true))
abbrev st_law_2 : VI.S := .asg (.nm 4) (.comp true (.call 5 true (.cons (.non) (.cons (.idx (.var 5) (.int 0)) (.cons (.non) .nil)))) (.nm 5) (.seq (.var 2)) (.bl true))
abbrev st_law_3 : VI.S := .ite (.or (.not (.call 16 true (.cons (.non) (.cons (.lst false (.nil)) .nil)))) (.cmp .isnot (.call 7 true (.cons (.non) (.cons (.non) .nil))) (.non))) (.cons (.ret (.bl false)) .nil) (.nil)
abbrev st_law_4 : VI.S := .asg (.nm 6) (.blt .list false (.cons (.var 4) .nil))
abbrev st_law_5 : VI.S := .asg (.nm 7) (.comp false (.blt .list false (.cons (.var 5) .nil)) (.nm 5) (.seq (.var 2)) (.bl true))
abbrev st_law_6 : VI.S := .asg (.nm 8) (.int 0)
abbrev st_law_7 : VI.S := .whl (lc_law_3) (lb_law_3)
abbrev st_law_8 : VI.S := .ite (.cmp .eq (.var 1) (.int 0)) (.cons (.ret (.bl true)) .nil) (.nil)
abbrev st_law_9 : VI.S := .ite (.or (.not (.call 16 true (.cons (.call 7 true (.cons (.idx (.var 4) (.int 0)) (.cons (.non) .nil))) (.cons (.idx (.var 2) (.int 0)) .nil)))) (.not (.call 16 true (.cons (.call 7 true (.cons (.non) (.cons (.idx (.var 4) (.int 0)) .nil))) (.cons (.idx (.var 2) (.int 0)) .nil))))) (.cons (.ret (.bl false)) .nil) (.nil)
abbrev st_law_10 : VI.S := .ret (.and (.call 16 true (.cons (.idx (.var 4) (.int 0)) (.cons (.idx (.var 2) (.int 0)) .nil))) (.cmp .eq (.comp false (.call 8 true (.cons (.var 11) .nil)) (.nm 11) (.seq (.var 6)) (.bl true)) (.var 7)))
abbrev tb_law_10 : VI.Ss := .cons st_law_10 .nil
abbrev tb_law_9 : VI.Ss := .cons st_law_9 tb_law_10
abbrev tb_law_8 : VI.Ss := .cons st_law_8 tb_law_9
abbrev tb_law_7 : VI.Ss := .cons st_law_7 tb_law_8
abbrev tb_law_6 : VI.Ss := .cons st_law_6 tb_law_7
abbrev tb_law_5 : VI.Ss := .cons st_law_5 tb_law_6
abbrev tb_law_4 : VI.Ss := .cons st_law_4 tb_law_5
abbrev tb_law_3 : VI.Ss := .cons st_law_3 tb_law_4
abbrev tb_law_2 : VI.Ss := .cons st_law_2 tb_law_3
abbrev tb_law_1 : VI.Ss := .cons st_law_1 tb_law_2
abbrev tb_law_0 : VI.Ss := .cons st_law_0 tb_law_1
def body_law : VI.Ss := .cons (.asg (.nm 1) (.call 17 true (.cons (.var 0) .nil))) (.cons (.asg (.nm 2) (.comp true (.lst false (.cons (.call 15 true (.cons (.call 9 true (.cons (.var 0) (.cons (.int 1) .nil))) (.cons (.var 3) .nil))) .nil)) (.nm 3) (.rg1 (.var 1)) (.bl true))) (.cons (.asg (.nm 4) (.comp true (.call 5 true (.cons (.non) (.cons (.idx (.var 5) (.int 0)) (.cons (.non) .nil)))) (.nm 5) (.seq (.var 2)) (.bl true))) (.cons (.ite (.or (.not (.call 16 true (.cons (.non) (.cons (.lst false (.nil)) .nil)))) (.cmp .isnot (.call 7 true (.cons (.non) (.cons (.non) .nil))) (.non))) (.cons (.ret (.bl false)) .nil) (.nil)) (.cons (.asg (.nm 6) (.blt .list false (.cons (.var 4) .nil))) (.cons (.asg (.nm 7) (.comp false (.blt .list false (.cons (.var 5) .nil)) (.nm 5) (.seq (.var 2)) (.bl true))) (.cons (.asg (.nm 8) (.int 0)) (.cons (.whl (.cmp .gt (.blt .len false (.cons (.var 4) .nil)) (.int 1)) (.cons (.asg (.nm 9) (.call 11 true (.cons (.call 9 true (.cons (.var 0) (.cons (.bin .add false (.int 2) (.bin .mod false (.var 8) (.int 20))) .nil))) (.cons (.bin .add false (.int 300) (.var 8)) .nil)))) (.cons (.asg (.nm 10) (.call 18 false (.cons (.var 4) (.cons (.var 2) (.cons (.var 9) .nil))))) (.cons (.asg (.nm 8) (.bin .add false (.var 8) (.int 1))) (.cons (.ite (.and (.or (.cmp .lt (.var 1) (.int 14)) (.cmp .eq (.bin .mod false (.var 8) (.int 9)) (.int 0))) (.not (.call 16 true (.cons (.idx (.var 4) (.var 10)) (.cons (.idx (.var 2) (.var 10)) .nil))))) (.cons (.ret (.bl false)) .nil) (.nil)) .nil))))) (.cons (.ite (.cmp .eq (.var 1) (.int 0)) (.cons (.ret (.bl true)) .nil) (.nil)) (.cons (.ite (.or (.not (.call 16 true (.cons (.call 7 true (.cons (.idx (.var 4) (.int 0)) (.cons (.non) .nil))) (.cons (.idx (.var 2) (.int 0)) .nil)))) (.not (.call 16 true (.cons (.call 7 true (.cons (.non) (.cons (.idx (.var 4) (.int 0)) .nil))) (.cons (.idx (.var 2) (.int 0)) .nil))))) (.cons (.ret (.bl false)) .nil) (.nil)) (.cons (.ret (.and (.call 16 true (.cons (.idx (.var 4) (.int 0)) (.cons (.idx (.var 2) (.int 0)) .nil))) (.cmp .eq (.comp false (.call 8 true (.cons (.var 11) .nil)) (.nm 11) (.seq (.var 6)) (.bl true)) (.var 7)))) .nil))))))))))
def fn_law : VI.Fn := ⟨1, 12, body_law⟩
def dd_law : VI.Dfn := ⟨⟨("law", none), "law", "law", defArgs (topS 21), defBody (topS 21), defScope (topS 21), [], []⟩, ["_law_script", "_law_many_here", "_law_rows", "_law_k", "_law_nodes", "_law_row", "_law_kept", "_law_first", "_law_turn", "_law_number", "_law_at", "_law_node"], ["_law_script"], fn_law⟩
theorem bd_law : VI.BindOk dd_law := fun _ _ _ _ _ _ us hl => match us, hl with | [_], _ => rfl
def lw : VI.Lw := {
  defs := [dd_height_of, dd_nsize_of, dd_ends_of, dd_made, dd_turned, dd_joined, dd_last_off, dd_nmet, dd_pieces_of, dd_law_cell_at, dd_law_whole, dd_law_mixed, dd_law_text_by, dd_law_good, dd_law_pieces, dd_law_piece, dd_law_same, dd_law_many, dd_law_one_more, dd_law]
  mds := []
  ins := []
  cls := []
  exc := []
  con := []
  up := []
  hot := [] }
abbrev P : VI.Pr := lw.pr
abbrev id_height_of : Nat := 0
abbrev id_nsize_of : Nat := 1
abbrev id_ends_of : Nat := 2
abbrev id_made : Nat := 3
abbrev id_turned : Nat := 4
abbrev id_joined : Nat := 5
abbrev id_last_off : Nat := 6
abbrev id_nmet : Nat := 7
abbrev id_pieces_of : Nat := 8
abbrev id_law_cell_at : Nat := 9
abbrev id_law_whole : Nat := 10
abbrev id_law_mixed : Nat := 11
abbrev id_law_text_by : Nat := 12
abbrev id_law_good : Nat := 13
abbrev id_law_pieces : Nat := 14
abbrev id_law_piece : Nat := 15
abbrev id_law_same : Nat := 16
abbrev id_law_many : Nat := 17
abbrev id_law_one_more : Nat := 18
abbrev id_law : Nat := 19
theorem go {n f : Nat} {d : VI.Dfn} {ds : List VI.D} {h : VI.Hs} (e : lw.defs[f]? = some d) (l : ds.length = d.fn.np) : VI.run P (n + 1) f ds h = (VI.execs P (VI.run P n) d.fn.body (ds.map some ++ List.replicate (d.fn.ns - ds.length) none) h).fin :=
  VI.run_eq (by show (lw.defs[f]?).map (·.fn) = _; rw [e]; rfl) l
theorem go_height_of {n : Nat} {x0 : VI.D} {h : VI.Hs} : VI.run P (n + 1) id_height_of [x0] h = (VI.execs P (VI.run P n) body_height_of [some x0] h).fin := go (d := dd_height_of) rfl rfl
theorem go_nsize_of {n : Nat} {x0 : VI.D} {h : VI.Hs} : VI.run P (n + 1) id_nsize_of [x0] h = (VI.execs P (VI.run P n) body_nsize_of [some x0] h).fin := go (d := dd_nsize_of) rfl rfl
theorem go_ends_of {n : Nat} {x0 : VI.D} {h : VI.Hs} : VI.run P (n + 1) id_ends_of [x0] h = (VI.execs P (VI.run P n) body_ends_of [some x0] h).fin := go (d := dd_ends_of) rfl rfl
theorem go_made {n : Nat} {x0 x1 x2 : VI.D} {h : VI.Hs} : VI.run P (n + 1) id_made [x0, x1, x2] h = (VI.execs P (VI.run P n) body_made [some x0, some x1, some x2, none, none] h).fin := go (d := dd_made) rfl rfl
theorem go_turned {n : Nat} {x0 x1 x2 : VI.D} {h : VI.Hs} : VI.run P (n + 1) id_turned [x0, x1, x2] h = (VI.execs P (VI.run P n) body_turned [some x0, some x1, some x2, none] h).fin := go (d := dd_turned) rfl rfl
theorem go_joined {n : Nat} {x0 x1 x2 : VI.D} {h : VI.Hs} : VI.run P (n + 1) id_joined [x0, x1, x2] h = (VI.execs P (VI.run P n) body_joined [some x0, some x1, some x2] h).fin := go (d := dd_joined) rfl rfl
theorem go_last_off {n : Nat} {x0 : VI.D} {h : VI.Hs} : VI.run P (n + 1) id_last_off [x0] h = (VI.execs P (VI.run P n) body_last_off [some x0, none, none] h).fin := go (d := dd_last_off) rfl rfl
theorem go_nmet {n : Nat} {x0 x1 : VI.D} {h : VI.Hs} : VI.run P (n + 1) id_nmet [x0, x1] h = (VI.execs P (VI.run P n) body_nmet [some x0, some x1, none, none] h).fin := go (d := dd_nmet) rfl rfl
theorem go_pieces_of {n : Nat} {x0 : VI.D} {h : VI.Hs} : VI.run P (n + 1) id_pieces_of [x0] h = (VI.execs P (VI.run P n) body_pieces_of [some x0] h).fin := go (d := dd_pieces_of) rfl rfl
theorem go_law_cell_at {n : Nat} {x0 x1 : VI.D} {h : VI.Hs} : VI.run P (n + 1) id_law_cell_at [x0, x1] h = (VI.execs P (VI.run P n) body_law_cell_at [some x0, some x1] h).fin := go (d := dd_law_cell_at) rfl rfl
theorem go_law_whole {n : Nat} {x0 : VI.D} {h : VI.Hs} : VI.run P (n + 1) id_law_whole [x0] h = (VI.execs P (VI.run P n) body_law_whole [some x0] h).fin := go (d := dd_law_whole) rfl rfl
theorem go_law_mixed {n : Nat} {x0 x1 : VI.D} {h : VI.Hs} : VI.run P (n + 1) id_law_mixed [x0, x1] h = (VI.execs P (VI.run P n) body_law_mixed [some x0, some x1, none] h).fin := go (d := dd_law_mixed) rfl rfl
theorem go_law_text_by {n : Nat} {x0 x1 : VI.D} {h : VI.Hs} : VI.run P (n + 1) id_law_text_by [x0, x1] h = (VI.execs P (VI.run P n) body_law_text_by [some x0, some x1, none, none, none, none] h).fin := go (d := dd_law_text_by) rfl rfl
theorem go_law_good {n : Nat} {x0 : VI.D} {h : VI.Hs} : VI.run P (n + 1) id_law_good [x0] h = (VI.execs P (VI.run P n) body_law_good [some x0, none, none, none, none, none] h).fin := go (d := dd_law_good) rfl rfl
theorem go_law_pieces {n : Nat} {x0 : VI.D} {h : VI.Hs} : VI.run P (n + 1) id_law_pieces [x0] h = (VI.execs P (VI.run P n) body_law_pieces [some x0] h).fin := go (d := dd_law_pieces) rfl rfl
theorem go_law_piece {n : Nat} {x0 x1 : VI.D} {h : VI.Hs} : VI.run P (n + 1) id_law_piece [x0, x1] h = (VI.execs P (VI.run P n) body_law_piece [some x0, some x1, none, none] h).fin := go (d := dd_law_piece) rfl rfl
theorem go_law_same {n : Nat} {x0 x1 : VI.D} {h : VI.Hs} : VI.run P (n + 1) id_law_same [x0, x1] h = (VI.execs P (VI.run P n) body_law_same [some x0, some x1, none] h).fin := go (d := dd_law_same) rfl rfl
theorem go_law_many {n : Nat} {x0 : VI.D} {h : VI.Hs} : VI.run P (n + 1) id_law_many [x0] h = (VI.execs P (VI.run P n) body_law_many [some x0, none] h).fin := go (d := dd_law_many) rfl rfl
theorem go_law_one_more {n : Nat} {x0 x1 x2 : VI.D} {h : VI.Hs} : VI.run P (n + 1) id_law_one_more [x0, x1, x2] h = (VI.execs P (VI.run P n) body_law_one_more [some x0, some x1, some x2, none, none, none, none] h).fin := go (d := dd_law_one_more) rfl rfl
theorem go_law {n : Nat} {x0 : VI.D} {h : VI.Hs} : VI.run P (n + 1) id_law [x0] h = (VI.execs P (VI.run P n) body_law [some x0, none, none, none, none, none, none, none, none, none, none, none] h).fin := go (d := dd_law) rfl rfl
theorem good : lw.Good := ⟨by decide +kernel, by decide +kernel, by decide +kernel, fun x m => by
  simp only [lw, List.mem_cons, List.not_mem_nil, or_false] at m
  rcases m with rfl | rfl | rfl | rfl | rfl | rfl | rfl | rfl | rfl | rfl | rfl | rfl | rfl | rfl | rfl | rfl | rfl | rfl | rfl | rfl
  · exact bd_height_of
  · exact bd_nsize_of
  · exact bd_ends_of
  · exact bd_made
  · exact bd_turned
  · exact bd_joined
  · exact bd_last_off
  · exact bd_nmet
  · exact bd_pieces_of
  · exact bd_law_cell_at
  · exact bd_law_whole
  · exact bd_law_mixed
  · exact bd_law_text_by
  · exact bd_law_good
  · exact bd_law_pieces
  · exact bd_law_piece
  · exact bd_law_same
  · exact bd_law_many
  · exact bd_law_one_more
  · exact bd_law⟩
end K13
namespace K13
open PySem PySem.Spec PyProof.Rows L2
def nms0 : List PySem.Str := ["height_of", "size_of", "ends_of", "made", "turned", "joined", "last_off", "met", "pieces_of", "_law_cell_at", "_law_whole", "_law_mixed", "_law_text_by", "_law_good", "_law_pieces", "_law_piece", "_law_same", "_law_many", "_law_one_more"]
abbrev nms : List PySem.Str := nms0
abbrev RW : PySem.W.OpenRow := PySem.W.OpenLaw.row PySem.Challenge.rw_inkloom_k13_nodes_joined
abbrev hk : PySem.W.Hook := VI.hkY lw
def ob (s : PySem.W.SharedT) : He.AlX := VI.obsY lw (HandSHeadRun.getT s)
theorem ob_eq (s : PySem.W.SharedT) : ob s = hk.obs s.abs := VI.obsY_eq (HandSHeadRun.getT_eq s)
open PySem.W PySem.Calls HandSHeadRun in
theorem top_3 (w : World) (os : OsState) : ((HandSHeadRun.endF (stepQ (denQ tabQ) RW.prog w) 9000 RW.prog w os)).map (fun s => VI.obsY1 lw (HandSHeadRun.getT s)) = some (He.valT (VI.fnY lw) [] w) := by
  kernel_rfl
open PySem.W PySem.Calls HandSHeadRun in
theorem top_4 (w : World) (os : OsState) : ((HandSHeadRun.endF (stepQ (denQ tabQ) RW.prog w) 9000 RW.prog w os)).map (fun s => VI.obsY2 lw (HandSHeadRun.getT s)) = some true := by
  kernel_rfl
open PySem.W PySem.Calls HandSHeadRun in
theorem top_1 (w : World) (os : OsState) : ((HandSHeadRun.endF (stepQ (denQ tabQ) RW.prog w) 9000 RW.prog w os)).map (fun s => looksF RW.prog (boot_heap w.params) s.abs) = some true := by
  kernel_rfl
open PySem.W PySem.Calls HandSHeadRun in
theorem top_2 (w : World) (os : OsState) : ((HandSHeadRun.endF (stepQ (denQ tabQ) RW.prog w) 9000 RW.prog w os)).map (fun s => seenQ (PySem.W.view RW.prog [21]) nms (importedModules RW.prog.main.body) (fun s => xlAt (PySem.W.view RW.prog [21]) [] s && recOk RW.toRowW.records s) s.abs) = some (openGood (PySem.W.view RW.prog [21]) nms) := by
  kernel_rfl
theorem top_run (w : World) : HandSHeadRun.RunEq RW (PySem.W.view RW.prog [21]) hk ob 9000 nms w := fun os => VI.map4 (top_1 w os) (top_2 w os) (top_3 w os) (top_4 w os)
end K13
namespace K13
open VI
/-! ### nodes -/
structure Pc where
  b : Int
  s : Int
  e : Int
deriving DecidableEq
def Pc.d (p : Pc) : D := .tup [.int p.b, .int p.s, .int p.e]
inductive Nd where
  | e | n (l : Nd) (p : Pc) (r : Nd)
def mx (i j : Int) : Int := if j > i then j else i
def Nd.ht : Nd → Int
  | .e => 0
  | .n l _ r => 1 + mx l.ht r.ht
def Nd.sz : Nd → Int
  | .e => 0
  | .n l p r => l.sz + p.s + r.sz
def Nd.en : Nd → Int
  | .e => 0
  | .n l p r => l.en + p.e + r.en
def Nd.d : Nd → D
  | .e => .non
  | .n l p r => .tup [l.d, p.d, r.d, .int (1 + mx l.ht r.ht), .int (l.sz + p.s + r.sz), .int (l.en + p.e + r.en)]
/-- its pieces -/
def Nd.pcs : Nd → List Pc
  | .e => []
  | .n l p r => l.pcs ++ p :: r.pcs
def Nd.dp : Nd → Nat
  | .e => 0
  | .n l _ r => max l.dp r.dp + 1
theorem Nd.ht0 : ∀ t : Nd, 0 ≤ t.ht
  | .e => Int.le_refl 0
  | .n l _ r => by
    have h1 := Nd.ht0 l
    have h2 := Nd.ht0 r
    simp only [Nd.ht, mx]
    split <;> omega
theorem pc_pu (p : Pc) : p.d.pu = true := rfl
theorem nd_pu : ∀ t : Nd, t.d.pu = true
  | .e => rfl
  | .n l p r => by
    have h1 := nd_pu l
    have h2 := nd_pu r
    simp [Nd.d, D.pu, D.pus, h1, h2, pc_pu]
theorem nd_e : Nd.d .e = .non := rfl
theorem nd_n {l r : Nd} {p : Pc} : Nd.d (.n l p r) = .tup [l.d, p.d, r.d, .int (1 + mx l.ht r.ht), .int (l.sz + p.s + r.sz), .int (l.en + p.e + r.en)] := rfl
theorem g6_3 {a b c d e f : D} : getI [a, b, c, d, e, f] 3 = some d := rfl
theorem g6_4 {a b c d e f : D} : getI [a, b, c, d, e, f] 4 = some e := rfl
theorem g6_5 {a b c d e f : D} : getI [a, b, c, d, e, f] 5 = some f := rfl
theorem nd_i0 {a b c d e f : D} {h : Hs} : idxD (.tup [a, b, c, d, e, f]) (.int 0) h = .ok a h := rfl
theorem nd_i1 {a b c d e f : D} {h : Hs} : idxD (.tup [a, b, c, d, e, f]) (.int 1) h = .ok b h := rfl
theorem nd_i2 {a b c d e f : D} {h : Hs} : idxD (.tup [a, b, c, d, e, f]) (.int 2) h = .ok c h := rfl
theorem nd_i3 {a b c d e f : D} {h : Hs} : idxD (.tup [a, b, c, d, e, f]) (.int 3) h = .ok d h := rfl
theorem nd_i4 {a b c d e f : D} {h : Hs} : idxD (.tup [a, b, c, d, e, f]) (.int 4) h = .ok e h := rfl
theorem nd_i5 {a b c d e f : D} {h : Hs} : idxD (.tup [a, b, c, d, e, f]) (.int 5) h = .ok f h := rfl
theorem pc_i0 {p : Pc} {h : Hs} : idxD p.d (.int 0) h = .ok (.int p.b) h := rfl
theorem pc_i1 {p : Pc} {h : Hs} : idxD p.d (.int 1) h = .ok (.int p.s) h := rfl
theorem pc_i2 {p : Pc} {h : Hs} : idxD p.d (.int 2) h = .ok (.int p.e) h := rfl
theorem nd_isn {t : Nd} : isD t.d .non = some (match t with | .e => true | .n _ _ _ => false) := by cases t <;> rfl
theorem c_height (n : Nat) (t : Nd) (h : Hs) : dropH h (run P (n + 1) id_height_of [t.d] h) = .ok (.int t.ht) h := by
  rw [go_height_of]
  simp only [body_height_of]
  cases t with
  | e => simp [xe_nop, xe_non, xe_bl, xe_int, xe_str, xe_var, xe_glob, xe_tup, xe_lst, xe_dct, xe_dtn, xe_dck, xe_bin, xe_neg, xe_cmp, xe_ch2, xe_ch3, xe_and, xe_or, xe_not, xe_ife, xe_idx, xe_sli, xe_rvs, xe_fld, xe_call, xe_meth, xe_new, xe_blt, xe_mth, xe_inst, xe_frz, xe_drop, xl_nil, xl_cons, xr_seq, xr_lst, lstR_l, xr_rg1, xr_rg2, xr_rg3, xr_enum, xr_zip, xr_rev, xs_asg, xs_setf, xs_seti, xs_sets, int_x, xs_exp, xs_ite, xs_ret, xs_retn, xs_rai, xs_try, tr_nx, tr_rt, xh_nil, so_some, so_none, xs_pas, xs_frz, xb_nil, xb_cons, b_ok, b_exc, b_bad, b2_ok, b2_exc, b2_bad, b3_ok, b3_exc, b3_bad, b4_ok, b4_exc, b4_bad, b5_tt, b5_ff, b5_exc, b6_ok, b6_exc, b6_bad, b7_tt, b7_ff, b7_exc, b8_nx, b8_rt, b8_ex, b8_bad, b9_nx, b9_rt, b9_ex, b10_ok, b10_exc, b11_ok, b11_exc, b12_ok, b12_exc, c_eq, or_s, or_n, c_ne, c_lt, c_le, c_gt, c_ge, c_in, c_nin, c_is, c_isn, c_isnon, c_isbl, c_isi, c_iss, c_ist, c_isl, c_isr, c_isb, e_ii, e_ss, e_bb, e_si, e_is, e_nn, e_ni, e_in, e_sn, e_ns, ok_some, ok_none, m_some, o_add, o_adds, o_addt, o_addl, o_sub, o_mul, o_muls, o_fdv, o_mod, o_pow, o_neg, o_not, k_tt, k_ff, i_tup, i_lst, i_scr, i_str, l_str, l_scr, l_tup, l_lst, l_intb, l_inti, l_min, l_max, l_abs, n_ib, n_ibl, n_is, n_il, n_it, n_ss, n_si, n_sb, n_sl, n_st, n_tt, n_tl, n_ts, n_ti, n_ll, n_lt, n_ls, n_bb, n_bi, a_nm, a_p, a_t, d_tt, d_ff, z_o, z_i, g_nat, g_0, g_1, g_2, g_last, q_appE, q_tyE, q_frz, seqR_str, seqR_tup, seqR_lst, isNop, SZ_d, sl_last, e_l0, n_in1, n_in2, d_ss, d_ii, d_si, d_is, f_s, f_i, anyEq, dr_i, dr_s, dr_b, dr_n, nd_isn, nd_e, Nd.ht]
  | n l p r => simp [xe_nop, xe_non, xe_bl, xe_int, xe_str, xe_var, xe_glob, xe_tup, xe_lst, xe_dct, xe_dtn, xe_dck, xe_bin, xe_neg, xe_cmp, xe_ch2, xe_ch3, xe_and, xe_or, xe_not, xe_ife, xe_idx, xe_sli, xe_rvs, xe_fld, xe_call, xe_meth, xe_new, xe_blt, xe_mth, xe_inst, xe_frz, xe_drop, xl_nil, xl_cons, xr_seq, xr_lst, lstR_l, xr_rg1, xr_rg2, xr_rg3, xr_enum, xr_zip, xr_rev, xs_asg, xs_setf, xs_seti, xs_sets, int_x, xs_exp, xs_ite, xs_ret, xs_retn, xs_rai, xs_try, tr_nx, tr_rt, xh_nil, so_some, so_none, xs_pas, xs_frz, xb_nil, xb_cons, b_ok, b_exc, b_bad, b2_ok, b2_exc, b2_bad, b3_ok, b3_exc, b3_bad, b4_ok, b4_exc, b4_bad, b5_tt, b5_ff, b5_exc, b6_ok, b6_exc, b6_bad, b7_tt, b7_ff, b7_exc, b8_nx, b8_rt, b8_ex, b8_bad, b9_nx, b9_rt, b9_ex, b10_ok, b10_exc, b11_ok, b11_exc, b12_ok, b12_exc, c_eq, or_s, or_n, c_ne, c_lt, c_le, c_gt, c_ge, c_in, c_nin, c_is, c_isn, c_isnon, c_isbl, c_isi, c_iss, c_ist, c_isl, c_isr, c_isb, e_ii, e_ss, e_bb, e_si, e_is, e_nn, e_ni, e_in, e_sn, e_ns, ok_some, ok_none, m_some, o_add, o_adds, o_addt, o_addl, o_sub, o_mul, o_muls, o_fdv, o_mod, o_pow, o_neg, o_not, k_tt, k_ff, i_tup, i_lst, i_scr, i_str, l_str, l_scr, l_tup, l_lst, l_intb, l_inti, l_min, l_max, l_abs, n_ib, n_ibl, n_is, n_il, n_it, n_ss, n_si, n_sb, n_sl, n_st, n_tt, n_tl, n_ts, n_ti, n_ll, n_lt, n_ls, n_bb, n_bi, a_nm, a_p, a_t, d_tt, d_ff, z_o, z_i, g_nat, g_0, g_1, g_2, g_last, q_appE, q_tyE, q_frz, seqR_str, seqR_tup, seqR_lst, isNop, SZ_d, sl_last, e_l0, n_in1, n_in2, d_ss, d_ii, d_si, d_is, f_s, f_i, anyEq, dr_i, dr_s, dr_b, dr_n, nd_n, g6_3, Nd.ht]
theorem c_nsize (n : Nat) (t : Nd) (h : Hs) : dropH h (run P (n + 1) id_nsize_of [t.d] h) = .ok (.int t.sz) h := by
  rw [go_nsize_of]
  simp only [body_nsize_of]
  cases t with
  | e => simp [xe_nop, xe_non, xe_bl, xe_int, xe_str, xe_var, xe_glob, xe_tup, xe_lst, xe_dct, xe_dtn, xe_dck, xe_bin, xe_neg, xe_cmp, xe_ch2, xe_ch3, xe_and, xe_or, xe_not, xe_ife, xe_idx, xe_sli, xe_rvs, xe_fld, xe_call, xe_meth, xe_new, xe_blt, xe_mth, xe_inst, xe_frz, xe_drop, xl_nil, xl_cons, xr_seq, xr_lst, lstR_l, xr_rg1, xr_rg2, xr_rg3, xr_enum, xr_zip, xr_rev, xs_asg, xs_setf, xs_seti, xs_sets, int_x, xs_exp, xs_ite, xs_ret, xs_retn, xs_rai, xs_try, tr_nx, tr_rt, xh_nil, so_some, so_none, xs_pas, xs_frz, xb_nil, xb_cons, b_ok, b_exc, b_bad, b2_ok, b2_exc, b2_bad, b3_ok, b3_exc, b3_bad, b4_ok, b4_exc, b4_bad, b5_tt, b5_ff, b5_exc, b6_ok, b6_exc, b6_bad, b7_tt, b7_ff, b7_exc, b8_nx, b8_rt, b8_ex, b8_bad, b9_nx, b9_rt, b9_ex, b10_ok, b10_exc, b11_ok, b11_exc, b12_ok, b12_exc, c_eq, or_s, or_n, c_ne, c_lt, c_le, c_gt, c_ge, c_in, c_nin, c_is, c_isn, c_isnon, c_isbl, c_isi, c_iss, c_ist, c_isl, c_isr, c_isb, e_ii, e_ss, e_bb, e_si, e_is, e_nn, e_ni, e_in, e_sn, e_ns, ok_some, ok_none, m_some, o_add, o_adds, o_addt, o_addl, o_sub, o_mul, o_muls, o_fdv, o_mod, o_pow, o_neg, o_not, k_tt, k_ff, i_tup, i_lst, i_scr, i_str, l_str, l_scr, l_tup, l_lst, l_intb, l_inti, l_min, l_max, l_abs, n_ib, n_ibl, n_is, n_il, n_it, n_ss, n_si, n_sb, n_sl, n_st, n_tt, n_tl, n_ts, n_ti, n_ll, n_lt, n_ls, n_bb, n_bi, a_nm, a_p, a_t, d_tt, d_ff, z_o, z_i, g_nat, g_0, g_1, g_2, g_last, q_appE, q_tyE, q_frz, seqR_str, seqR_tup, seqR_lst, isNop, SZ_d, sl_last, e_l0, n_in1, n_in2, d_ss, d_ii, d_si, d_is, f_s, f_i, anyEq, dr_i, dr_s, dr_b, dr_n, nd_isn, nd_e, Nd.sz]
  | n l p r => simp [xe_nop, xe_non, xe_bl, xe_int, xe_str, xe_var, xe_glob, xe_tup, xe_lst, xe_dct, xe_dtn, xe_dck, xe_bin, xe_neg, xe_cmp, xe_ch2, xe_ch3, xe_and, xe_or, xe_not, xe_ife, xe_idx, xe_sli, xe_rvs, xe_fld, xe_call, xe_meth, xe_new, xe_blt, xe_mth, xe_inst, xe_frz, xe_drop, xl_nil, xl_cons, xr_seq, xr_lst, lstR_l, xr_rg1, xr_rg2, xr_rg3, xr_enum, xr_zip, xr_rev, xs_asg, xs_setf, xs_seti, xs_sets, int_x, xs_exp, xs_ite, xs_ret, xs_retn, xs_rai, xs_try, tr_nx, tr_rt, xh_nil, so_some, so_none, xs_pas, xs_frz, xb_nil, xb_cons, b_ok, b_exc, b_bad, b2_ok, b2_exc, b2_bad, b3_ok, b3_exc, b3_bad, b4_ok, b4_exc, b4_bad, b5_tt, b5_ff, b5_exc, b6_ok, b6_exc, b6_bad, b7_tt, b7_ff, b7_exc, b8_nx, b8_rt, b8_ex, b8_bad, b9_nx, b9_rt, b9_ex, b10_ok, b10_exc, b11_ok, b11_exc, b12_ok, b12_exc, c_eq, or_s, or_n, c_ne, c_lt, c_le, c_gt, c_ge, c_in, c_nin, c_is, c_isn, c_isnon, c_isbl, c_isi, c_iss, c_ist, c_isl, c_isr, c_isb, e_ii, e_ss, e_bb, e_si, e_is, e_nn, e_ni, e_in, e_sn, e_ns, ok_some, ok_none, m_some, o_add, o_adds, o_addt, o_addl, o_sub, o_mul, o_muls, o_fdv, o_mod, o_pow, o_neg, o_not, k_tt, k_ff, i_tup, i_lst, i_scr, i_str, l_str, l_scr, l_tup, l_lst, l_intb, l_inti, l_min, l_max, l_abs, n_ib, n_ibl, n_is, n_il, n_it, n_ss, n_si, n_sb, n_sl, n_st, n_tt, n_tl, n_ts, n_ti, n_ll, n_lt, n_ls, n_bb, n_bi, a_nm, a_p, a_t, d_tt, d_ff, z_o, z_i, g_nat, g_0, g_1, g_2, g_last, q_appE, q_tyE, q_frz, seqR_str, seqR_tup, seqR_lst, isNop, SZ_d, sl_last, e_l0, n_in1, n_in2, d_ss, d_ii, d_si, d_is, f_s, f_i, anyEq, dr_i, dr_s, dr_b, dr_n, nd_n, g6_4, Nd.sz]
theorem c_ends (n : Nat) (t : Nd) (h : Hs) : dropH h (run P (n + 1) id_ends_of [t.d] h) = .ok (.int t.en) h := by
  rw [go_ends_of]
  simp only [body_ends_of]
  cases t with
  | e => simp [xe_nop, xe_non, xe_bl, xe_int, xe_str, xe_var, xe_glob, xe_tup, xe_lst, xe_dct, xe_dtn, xe_dck, xe_bin, xe_neg, xe_cmp, xe_ch2, xe_ch3, xe_and, xe_or, xe_not, xe_ife, xe_idx, xe_sli, xe_rvs, xe_fld, xe_call, xe_meth, xe_new, xe_blt, xe_mth, xe_inst, xe_frz, xe_drop, xl_nil, xl_cons, xr_seq, xr_lst, lstR_l, xr_rg1, xr_rg2, xr_rg3, xr_enum, xr_zip, xr_rev, xs_asg, xs_setf, xs_seti, xs_sets, int_x, xs_exp, xs_ite, xs_ret, xs_retn, xs_rai, xs_try, tr_nx, tr_rt, xh_nil, so_some, so_none, xs_pas, xs_frz, xb_nil, xb_cons, b_ok, b_exc, b_bad, b2_ok, b2_exc, b2_bad, b3_ok, b3_exc, b3_bad, b4_ok, b4_exc, b4_bad, b5_tt, b5_ff, b5_exc, b6_ok, b6_exc, b6_bad, b7_tt, b7_ff, b7_exc, b8_nx, b8_rt, b8_ex, b8_bad, b9_nx, b9_rt, b9_ex, b10_ok, b10_exc, b11_ok, b11_exc, b12_ok, b12_exc, c_eq, or_s, or_n, c_ne, c_lt, c_le, c_gt, c_ge, c_in, c_nin, c_is, c_isn, c_isnon, c_isbl, c_isi, c_iss, c_ist, c_isl, c_isr, c_isb, e_ii, e_ss, e_bb, e_si, e_is, e_nn, e_ni, e_in, e_sn, e_ns, ok_some, ok_none, m_some, o_add, o_adds, o_addt, o_addl, o_sub, o_mul, o_muls, o_fdv, o_mod, o_pow, o_neg, o_not, k_tt, k_ff, i_tup, i_lst, i_scr, i_str, l_str, l_scr, l_tup, l_lst, l_intb, l_inti, l_min, l_max, l_abs, n_ib, n_ibl, n_is, n_il, n_it, n_ss, n_si, n_sb, n_sl, n_st, n_tt, n_tl, n_ts, n_ti, n_ll, n_lt, n_ls, n_bb, n_bi, a_nm, a_p, a_t, d_tt, d_ff, z_o, z_i, g_nat, g_0, g_1, g_2, g_last, q_appE, q_tyE, q_frz, seqR_str, seqR_tup, seqR_lst, isNop, SZ_d, sl_last, e_l0, n_in1, n_in2, d_ss, d_ii, d_si, d_is, f_s, f_i, anyEq, dr_i, dr_s, dr_b, dr_n, nd_isn, nd_e, Nd.en]
  | n l p r => simp [xe_nop, xe_non, xe_bl, xe_int, xe_str, xe_var, xe_glob, xe_tup, xe_lst, xe_dct, xe_dtn, xe_dck, xe_bin, xe_neg, xe_cmp, xe_ch2, xe_ch3, xe_and, xe_or, xe_not, xe_ife, xe_idx, xe_sli, xe_rvs, xe_fld, xe_call, xe_meth, xe_new, xe_blt, xe_mth, xe_inst, xe_frz, xe_drop, xl_nil, xl_cons, xr_seq, xr_lst, lstR_l, xr_rg1, xr_rg2, xr_rg3, xr_enum, xr_zip, xr_rev, xs_asg, xs_setf, xs_seti, xs_sets, int_x, xs_exp, xs_ite, xs_ret, xs_retn, xs_rai, xs_try, tr_nx, tr_rt, xh_nil, so_some, so_none, xs_pas, xs_frz, xb_nil, xb_cons, b_ok, b_exc, b_bad, b2_ok, b2_exc, b2_bad, b3_ok, b3_exc, b3_bad, b4_ok, b4_exc, b4_bad, b5_tt, b5_ff, b5_exc, b6_ok, b6_exc, b6_bad, b7_tt, b7_ff, b7_exc, b8_nx, b8_rt, b8_ex, b8_bad, b9_nx, b9_rt, b9_ex, b10_ok, b10_exc, b11_ok, b11_exc, b12_ok, b12_exc, c_eq, or_s, or_n, c_ne, c_lt, c_le, c_gt, c_ge, c_in, c_nin, c_is, c_isn, c_isnon, c_isbl, c_isi, c_iss, c_ist, c_isl, c_isr, c_isb, e_ii, e_ss, e_bb, e_si, e_is, e_nn, e_ni, e_in, e_sn, e_ns, ok_some, ok_none, m_some, o_add, o_adds, o_addt, o_addl, o_sub, o_mul, o_muls, o_fdv, o_mod, o_pow, o_neg, o_not, k_tt, k_ff, i_tup, i_lst, i_scr, i_str, l_str, l_scr, l_tup, l_lst, l_intb, l_inti, l_min, l_max, l_abs, n_ib, n_ibl, n_is, n_il, n_it, n_ss, n_si, n_sb, n_sl, n_st, n_tt, n_tl, n_ts, n_ti, n_ll, n_lt, n_ls, n_bb, n_bi, a_nm, a_p, a_t, d_tt, d_ff, z_o, z_i, g_nat, g_0, g_1, g_2, g_last, q_appE, q_tyE, q_frz, seqR_str, seqR_tup, seqR_lst, isNop, SZ_d, sl_last, e_l0, n_in1, n_in2, d_ss, d_ii, d_si, d_is, f_s, f_i, anyEq, dr_i, dr_s, dr_b, dr_n, nd_n, g6_5, Nd.en]
theorem c_made (n : Nat) (l r : Nd) (p : Pc) (h : Hs) : run P (n + 2) id_made [l.d, p.d, r.d] h = .ok (Nd.n l p r).d h := by
  have e1 := fun t => c_height n t h
  have e2 := fun t => c_nsize n t h
  have e3 := fun t => c_ends n t h
  rw [go_made]
  simp only [body_made]
  simp [xe_nop, xe_non, xe_bl, xe_int, xe_str, xe_var, xe_glob, xe_tup, xe_lst, xe_dct, xe_dtn, xe_dck, xe_bin, xe_neg, xe_cmp, xe_ch2, xe_ch3, xe_and, xe_or, xe_not, xe_ife, xe_idx, xe_sli, xe_rvs, xe_fld, xe_call, xe_meth, xe_new, xe_blt, xe_mth, xe_inst, xe_frz, xe_drop, xl_nil, xl_cons, xr_seq, xr_lst, lstR_l, xr_rg1, xr_rg2, xr_rg3, xr_enum, xr_zip, xr_rev, xs_asg, xs_setf, xs_seti, xs_sets, int_x, xs_exp, xs_ite, xs_ret, xs_retn, xs_rai, xs_try, tr_nx, tr_rt, xh_nil, so_some, so_none, xs_pas, xs_frz, xb_nil, xb_cons, b_ok, b_exc, b_bad, b2_ok, b2_exc, b2_bad, b3_ok, b3_exc, b3_bad, b4_ok, b4_exc, b4_bad, b5_tt, b5_ff, b5_exc, b6_ok, b6_exc, b6_bad, b7_tt, b7_ff, b7_exc, b8_nx, b8_rt, b8_ex, b8_bad, b9_nx, b9_rt, b9_ex, b10_ok, b10_exc, b11_ok, b11_exc, b12_ok, b12_exc, c_eq, or_s, or_n, c_ne, c_lt, c_le, c_gt, c_ge, c_in, c_nin, c_is, c_isn, c_isnon, c_isbl, c_isi, c_iss, c_ist, c_isl, c_isr, c_isb, e_ii, e_ss, e_bb, e_si, e_is, e_nn, e_ni, e_in, e_sn, e_ns, ok_some, ok_none, m_some, o_add, o_adds, o_addt, o_addl, o_sub, o_mul, o_muls, o_fdv, o_mod, o_pow, o_neg, o_not, k_tt, k_ff, i_tup, i_lst, i_scr, i_str, l_str, l_scr, l_tup, l_lst, l_intb, l_inti, l_min, l_max, l_abs, n_ib, n_ibl, n_is, n_il, n_it, n_ss, n_si, n_sb, n_sl, n_st, n_tt, n_tl, n_ts, n_ti, n_ll, n_lt, n_ls, n_bb, n_bi, a_nm, a_p, a_t, d_tt, d_ff, z_o, z_i, g_nat, g_0, g_1, g_2, g_last, q_appE, q_tyE, q_frz, seqR_str, seqR_tup, seqR_lst, isNop, SZ_d, sl_last, e_l0, n_in1, n_in2, d_ss, d_ii, d_si, d_is, f_s, f_i, anyEq, dr_i, dr_s, dr_b, dr_n, e1, e2, e3, pc_i1, pc_i2, nd_n, mx]
theorem d_made (n : Nat) (l r : Nd) (p : Pc) (h : Hs) : dropH h (run P (n + 2) id_made [l.d, p.d, r.d] h) = .ok (Nd.n l p r).d h := by
  rw [c_made]; exact drop_same (nd_pu _)
def turnN (l : Nd) (p : Pc) (r : Nd) : Nd :=
  if l.ht > r.ht + 1 then match l with
    | .n a q b => if a.ht ≥ b.ht then .n a q (.n b p r) else match b with
      | .n c s d => .n (.n a q c) s (.n d p r)
      | .e => .e
    | .e => .e
  else if r.ht > l.ht + 1 then match r with
    | .n a q b => if b.ht ≥ a.ht then .n (.n l p a) q b else match a with
      | .n c s d => .n (.n l p c) s (.n d q b)
      | .e => .e
    | .e => .e
  else .n l p r
theorem c_turned (n : Nat) (l r : Nd) (p : Pc) (h : Hs) : dropH h (run P (n + 3) id_turned [l.d, p.d, r.d] h) = .ok (turnN l p r).d h := by
  have e1 := fun t => c_height (n + 1) t h
  have e2 := fun a q b => d_made n a b q h
  have key : run P (n + 3) id_turned [l.d, p.d, r.d] h = .ok (turnN l p r).d h := by
    rw [go_turned]
    simp only [body_turned]
    by_cases z1 : r.ht + 1 < l.ht
    · cases l with
      | e => simp only [Nd.ht] at z1; have := r.ht0; omega
      | n a q b =>
        by_cases z2 : b.ht ≤ a.ht
        · have t : turnN (.n a q b) p r = .n a q (.n b p r) := by unfold turnN; rw [if_pos z1]; simp only; rw [if_pos z2]
          rw [t]
          simp [xe_nop, xe_non, xe_bl, xe_int, xe_str, xe_var, xe_glob, xe_tup, xe_lst, xe_dct, xe_dtn, xe_dck, xe_bin, xe_neg, xe_cmp, xe_ch2, xe_ch3, xe_and, xe_or, xe_not, xe_ife, xe_idx, xe_sli, xe_rvs, xe_fld, xe_call, xe_meth, xe_new, xe_blt, xe_mth, xe_inst, xe_frz, xe_drop, xl_nil, xl_cons, xr_seq, xr_lst, lstR_l, xr_rg1, xr_rg2, xr_rg3, xr_enum, xr_zip, xr_rev, xs_asg, xs_setf, xs_seti, xs_sets, int_x, xs_exp, xs_ite, xs_ret, xs_retn, xs_rai, xs_try, tr_nx, tr_rt, xh_nil, so_some, so_none, xs_pas, xs_frz, xb_nil, xb_cons, b_ok, b_exc, b_bad, b2_ok, b2_exc, b2_bad, b3_ok, b3_exc, b3_bad, b4_ok, b4_exc, b4_bad, b5_tt, b5_ff, b5_exc, b6_ok, b6_exc, b6_bad, b7_tt, b7_ff, b7_exc, b8_nx, b8_rt, b8_ex, b8_bad, b9_nx, b9_rt, b9_ex, b10_ok, b10_exc, b11_ok, b11_exc, b12_ok, b12_exc, c_eq, or_s, or_n, c_ne, c_lt, c_le, c_gt, c_ge, c_in, c_nin, c_is, c_isn, c_isnon, c_isbl, c_isi, c_iss, c_ist, c_isl, c_isr, c_isb, e_ii, e_ss, e_bb, e_si, e_is, e_nn, e_ni, e_in, e_sn, e_ns, ok_some, ok_none, m_some, o_add, o_adds, o_addt, o_addl, o_sub, o_mul, o_muls, o_fdv, o_mod, o_pow, o_neg, o_not, k_tt, k_ff, i_tup, i_lst, i_scr, i_str, l_str, l_scr, l_tup, l_lst, l_intb, l_inti, l_min, l_max, l_abs, n_ib, n_ibl, n_is, n_il, n_it, n_ss, n_si, n_sb, n_sl, n_st, n_tt, n_tl, n_ts, n_ti, n_ll, n_lt, n_ls, n_bb, n_bi, a_nm, a_p, a_t, d_tt, d_ff, z_o, z_i, g_nat, g_0, g_1, g_2, g_last, q_appE, q_tyE, q_frz, seqR_str, seqR_tup, seqR_lst, isNop, SZ_d, sl_last, e_l0, n_in1, n_in2, d_ss, d_ii, d_si, d_is, f_s, f_i, anyEq, dr_i, dr_s, dr_b, dr_n, e1, z1]
          rw [nd_n]
          simp [xe_nop, xe_non, xe_bl, xe_int, xe_str, xe_var, xe_glob, xe_tup, xe_lst, xe_dct, xe_dtn, xe_dck, xe_bin, xe_neg, xe_cmp, xe_ch2, xe_ch3, xe_and, xe_or, xe_not, xe_ife, xe_idx, xe_sli, xe_rvs, xe_fld, xe_call, xe_meth, xe_new, xe_blt, xe_mth, xe_inst, xe_frz, xe_drop, xl_nil, xl_cons, xr_seq, xr_lst, lstR_l, xr_rg1, xr_rg2, xr_rg3, xr_enum, xr_zip, xr_rev, xs_asg, xs_setf, xs_seti, xs_sets, int_x, xs_exp, xs_ite, xs_ret, xs_retn, xs_rai, xs_try, tr_nx, tr_rt, xh_nil, so_some, so_none, xs_pas, xs_frz, xb_nil, xb_cons, b_ok, b_exc, b_bad, b2_ok, b2_exc, b2_bad, b3_ok, b3_exc, b3_bad, b4_ok, b4_exc, b4_bad, b5_tt, b5_ff, b5_exc, b6_ok, b6_exc, b6_bad, b7_tt, b7_ff, b7_exc, b8_nx, b8_rt, b8_ex, b8_bad, b9_nx, b9_rt, b9_ex, b10_ok, b10_exc, b11_ok, b11_exc, b12_ok, b12_exc, c_eq, or_s, or_n, c_ne, c_lt, c_le, c_gt, c_ge, c_in, c_nin, c_is, c_isn, c_isnon, c_isbl, c_isi, c_iss, c_ist, c_isl, c_isr, c_isb, e_ii, e_ss, e_bb, e_si, e_is, e_nn, e_ni, e_in, e_sn, e_ns, ok_some, ok_none, m_some, o_add, o_adds, o_addt, o_addl, o_sub, o_mul, o_muls, o_fdv, o_mod, o_pow, o_neg, o_not, k_tt, k_ff, i_tup, i_lst, i_scr, i_str, l_str, l_scr, l_tup, l_lst, l_intb, l_inti, l_min, l_max, l_abs, n_ib, n_ibl, n_is, n_il, n_it, n_ss, n_si, n_sb, n_sl, n_st, n_tt, n_tl, n_ts, n_ti, n_ll, n_lt, n_ls, n_bb, n_bi, a_nm, a_p, a_t, d_tt, d_ff, z_o, z_i, g_nat, g_0, g_1, g_2, g_last, q_appE, q_tyE, q_frz, seqR_str, seqR_tup, seqR_lst, isNop, SZ_d, sl_last, e_l0, n_in1, n_in2, d_ss, d_ii, d_si, d_is, f_s, f_i, anyEq, dr_i, dr_s, dr_b, dr_n, e1, e2, nd_i0, nd_i1, nd_i2, z2]
        · cases b with
          | e => simp only [Nd.ht] at z2; have := a.ht0; omega
          | n c s d =>
            have t : turnN (.n a q (.n c s d)) p r = .n (.n a q c) s (.n d p r) := by unfold turnN; rw [if_pos z1]; simp only; rw [if_neg z2]
            rw [t]
            simp [xe_nop, xe_non, xe_bl, xe_int, xe_str, xe_var, xe_glob, xe_tup, xe_lst, xe_dct, xe_dtn, xe_dck, xe_bin, xe_neg, xe_cmp, xe_ch2, xe_ch3, xe_and, xe_or, xe_not, xe_ife, xe_idx, xe_sli, xe_rvs, xe_fld, xe_call, xe_meth, xe_new, xe_blt, xe_mth, xe_inst, xe_frz, xe_drop, xl_nil, xl_cons, xr_seq, xr_lst, lstR_l, xr_rg1, xr_rg2, xr_rg3, xr_enum, xr_zip, xr_rev, xs_asg, xs_setf, xs_seti, xs_sets, int_x, xs_exp, xs_ite, xs_ret, xs_retn, xs_rai, xs_try, tr_nx, tr_rt, xh_nil, so_some, so_none, xs_pas, xs_frz, xb_nil, xb_cons, b_ok, b_exc, b_bad, b2_ok, b2_exc, b2_bad, b3_ok, b3_exc, b3_bad, b4_ok, b4_exc, b4_bad, b5_tt, b5_ff, b5_exc, b6_ok, b6_exc, b6_bad, b7_tt, b7_ff, b7_exc, b8_nx, b8_rt, b8_ex, b8_bad, b9_nx, b9_rt, b9_ex, b10_ok, b10_exc, b11_ok, b11_exc, b12_ok, b12_exc, c_eq, or_s, or_n, c_ne, c_lt, c_le, c_gt, c_ge, c_in, c_nin, c_is, c_isn, c_isnon, c_isbl, c_isi, c_iss, c_ist, c_isl, c_isr, c_isb, e_ii, e_ss, e_bb, e_si, e_is, e_nn, e_ni, e_in, e_sn, e_ns, ok_some, ok_none, m_some, o_add, o_adds, o_addt, o_addl, o_sub, o_mul, o_muls, o_fdv, o_mod, o_pow, o_neg, o_not, k_tt, k_ff, i_tup, i_lst, i_scr, i_str, l_str, l_scr, l_tup, l_lst, l_intb, l_inti, l_min, l_max, l_abs, n_ib, n_ibl, n_is, n_il, n_it, n_ss, n_si, n_sb, n_sl, n_st, n_tt, n_tl, n_ts, n_ti, n_ll, n_lt, n_ls, n_bb, n_bi, a_nm, a_p, a_t, d_tt, d_ff, z_o, z_i, g_nat, g_0, g_1, g_2, g_last, q_appE, q_tyE, q_frz, seqR_str, seqR_tup, seqR_lst, isNop, SZ_d, sl_last, e_l0, n_in1, n_in2, d_ss, d_ii, d_si, d_is, f_s, f_i, anyEq, dr_i, dr_s, dr_b, dr_n, e1, z1]
            rw [nd_n]
            simp [xe_nop, xe_non, xe_bl, xe_int, xe_str, xe_var, xe_glob, xe_tup, xe_lst, xe_dct, xe_dtn, xe_dck, xe_bin, xe_neg, xe_cmp, xe_ch2, xe_ch3, xe_and, xe_or, xe_not, xe_ife, xe_idx, xe_sli, xe_rvs, xe_fld, xe_call, xe_meth, xe_new, xe_blt, xe_mth, xe_inst, xe_frz, xe_drop, xl_nil, xl_cons, xr_seq, xr_lst, lstR_l, xr_rg1, xr_rg2, xr_rg3, xr_enum, xr_zip, xr_rev, xs_asg, xs_setf, xs_seti, xs_sets, int_x, xs_exp, xs_ite, xs_ret, xs_retn, xs_rai, xs_try, tr_nx, tr_rt, xh_nil, so_some, so_none, xs_pas, xs_frz, xb_nil, xb_cons, b_ok, b_exc, b_bad, b2_ok, b2_exc, b2_bad, b3_ok, b3_exc, b3_bad, b4_ok, b4_exc, b4_bad, b5_tt, b5_ff, b5_exc, b6_ok, b6_exc, b6_bad, b7_tt, b7_ff, b7_exc, b8_nx, b8_rt, b8_ex, b8_bad, b9_nx, b9_rt, b9_ex, b10_ok, b10_exc, b11_ok, b11_exc, b12_ok, b12_exc, c_eq, or_s, or_n, c_ne, c_lt, c_le, c_gt, c_ge, c_in, c_nin, c_is, c_isn, c_isnon, c_isbl, c_isi, c_iss, c_ist, c_isl, c_isr, c_isb, e_ii, e_ss, e_bb, e_si, e_is, e_nn, e_ni, e_in, e_sn, e_ns, ok_some, ok_none, m_some, o_add, o_adds, o_addt, o_addl, o_sub, o_mul, o_muls, o_fdv, o_mod, o_pow, o_neg, o_not, k_tt, k_ff, i_tup, i_lst, i_scr, i_str, l_str, l_scr, l_tup, l_lst, l_intb, l_inti, l_min, l_max, l_abs, n_ib, n_ibl, n_is, n_il, n_it, n_ss, n_si, n_sb, n_sl, n_st, n_tt, n_tl, n_ts, n_ti, n_ll, n_lt, n_ls, n_bb, n_bi, a_nm, a_p, a_t, d_tt, d_ff, z_o, z_i, g_nat, g_0, g_1, g_2, g_last, q_appE, q_tyE, q_frz, seqR_str, seqR_tup, seqR_lst, isNop, SZ_d, sl_last, e_l0, n_in1, n_in2, d_ss, d_ii, d_si, d_is, f_s, f_i, anyEq, dr_i, dr_s, dr_b, dr_n, e1, e2, nd_i0, nd_i1, nd_i2, z2]
            rw [nd_n]
            simp [xe_nop, xe_non, xe_bl, xe_int, xe_str, xe_var, xe_glob, xe_tup, xe_lst, xe_dct, xe_dtn, xe_dck, xe_bin, xe_neg, xe_cmp, xe_ch2, xe_ch3, xe_and, xe_or, xe_not, xe_ife, xe_idx, xe_sli, xe_rvs, xe_fld, xe_call, xe_meth, xe_new, xe_blt, xe_mth, xe_inst, xe_frz, xe_drop, xl_nil, xl_cons, xr_seq, xr_lst, lstR_l, xr_rg1, xr_rg2, xr_rg3, xr_enum, xr_zip, xr_rev, xs_asg, xs_setf, xs_seti, xs_sets, int_x, xs_exp, xs_ite, xs_ret, xs_retn, xs_rai, xs_try, tr_nx, tr_rt, xh_nil, so_some, so_none, xs_pas, xs_frz, xb_nil, xb_cons, b_ok, b_exc, b_bad, b2_ok, b2_exc, b2_bad, b3_ok, b3_exc, b3_bad, b4_ok, b4_exc, b4_bad, b5_tt, b5_ff, b5_exc, b6_ok, b6_exc, b6_bad, b7_tt, b7_ff, b7_exc, b8_nx, b8_rt, b8_ex, b8_bad, b9_nx, b9_rt, b9_ex, b10_ok, b10_exc, b11_ok, b11_exc, b12_ok, b12_exc, c_eq, or_s, or_n, c_ne, c_lt, c_le, c_gt, c_ge, c_in, c_nin, c_is, c_isn, c_isnon, c_isbl, c_isi, c_iss, c_ist, c_isl, c_isr, c_isb, e_ii, e_ss, e_bb, e_si, e_is, e_nn, e_ni, e_in, e_sn, e_ns, ok_some, ok_none, m_some, o_add, o_adds, o_addt, o_addl, o_sub, o_mul, o_muls, o_fdv, o_mod, o_pow, o_neg, o_not, k_tt, k_ff, i_tup, i_lst, i_scr, i_str, l_str, l_scr, l_tup, l_lst, l_intb, l_inti, l_min, l_max, l_abs, n_ib, n_ibl, n_is, n_il, n_it, n_ss, n_si, n_sb, n_sl, n_st, n_tt, n_tl, n_ts, n_ti, n_ll, n_lt, n_ls, n_bb, n_bi, a_nm, a_p, a_t, d_tt, d_ff, z_o, z_i, g_nat, g_0, g_1, g_2, g_last, q_appE, q_tyE, q_frz, seqR_str, seqR_tup, seqR_lst, isNop, SZ_d, sl_last, e_l0, n_in1, n_in2, d_ss, d_ii, d_si, d_is, f_s, f_i, anyEq, dr_i, dr_s, dr_b, dr_n, e1, e2, nd_i0, nd_i1, nd_i2]
    · by_cases z3 : l.ht + 1 < r.ht
      · cases r with
        | e => simp only [Nd.ht] at z3; have := l.ht0; omega
        | n a q b =>
          by_cases z2 : a.ht ≤ b.ht
          · have t : turnN l p (.n a q b) = .n (.n l p a) q b := by unfold turnN; rw [if_neg z1, if_pos z3]; simp only; rw [if_pos z2]
            rw [t]
            simp [xe_nop, xe_non, xe_bl, xe_int, xe_str, xe_var, xe_glob, xe_tup, xe_lst, xe_dct, xe_dtn, xe_dck, xe_bin, xe_neg, xe_cmp, xe_ch2, xe_ch3, xe_and, xe_or, xe_not, xe_ife, xe_idx, xe_sli, xe_rvs, xe_fld, xe_call, xe_meth, xe_new, xe_blt, xe_mth, xe_inst, xe_frz, xe_drop, xl_nil, xl_cons, xr_seq, xr_lst, lstR_l, xr_rg1, xr_rg2, xr_rg3, xr_enum, xr_zip, xr_rev, xs_asg, xs_setf, xs_seti, xs_sets, int_x, xs_exp, xs_ite, xs_ret, xs_retn, xs_rai, xs_try, tr_nx, tr_rt, xh_nil, so_some, so_none, xs_pas, xs_frz, xb_nil, xb_cons, b_ok, b_exc, b_bad, b2_ok, b2_exc, b2_bad, b3_ok, b3_exc, b3_bad, b4_ok, b4_exc, b4_bad, b5_tt, b5_ff, b5_exc, b6_ok, b6_exc, b6_bad, b7_tt, b7_ff, b7_exc, b8_nx, b8_rt, b8_ex, b8_bad, b9_nx, b9_rt, b9_ex, b10_ok, b10_exc, b11_ok, b11_exc, b12_ok, b12_exc, c_eq, or_s, or_n, c_ne, c_lt, c_le, c_gt, c_ge, c_in, c_nin, c_is, c_isn, c_isnon, c_isbl, c_isi, c_iss, c_ist, c_isl, c_isr, c_isb, e_ii, e_ss, e_bb, e_si, e_is, e_nn, e_ni, e_in, e_sn, e_ns, ok_some, ok_none, m_some, o_add, o_adds, o_addt, o_addl, o_sub, o_mul, o_muls, o_fdv, o_mod, o_pow, o_neg, o_not, k_tt, k_ff, i_tup, i_lst, i_scr, i_str, l_str, l_scr, l_tup, l_lst, l_intb, l_inti, l_min, l_max, l_abs, n_ib, n_ibl, n_is, n_il, n_it, n_ss, n_si, n_sb, n_sl, n_st, n_tt, n_tl, n_ts, n_ti, n_ll, n_lt, n_ls, n_bb, n_bi, a_nm, a_p, a_t, d_tt, d_ff, z_o, z_i, g_nat, g_0, g_1, g_2, g_last, q_appE, q_tyE, q_frz, seqR_str, seqR_tup, seqR_lst, isNop, SZ_d, sl_last, e_l0, n_in1, n_in2, d_ss, d_ii, d_si, d_is, f_s, f_i, anyEq, dr_i, dr_s, dr_b, dr_n, e1, z1, z3]
            rw [nd_n]
            simp [xe_nop, xe_non, xe_bl, xe_int, xe_str, xe_var, xe_glob, xe_tup, xe_lst, xe_dct, xe_dtn, xe_dck, xe_bin, xe_neg, xe_cmp, xe_ch2, xe_ch3, xe_and, xe_or, xe_not, xe_ife, xe_idx, xe_sli, xe_rvs, xe_fld, xe_call, xe_meth, xe_new, xe_blt, xe_mth, xe_inst, xe_frz, xe_drop, xl_nil, xl_cons, xr_seq, xr_lst, lstR_l, xr_rg1, xr_rg2, xr_rg3, xr_enum, xr_zip, xr_rev, xs_asg, xs_setf, xs_seti, xs_sets, int_x, xs_exp, xs_ite, xs_ret, xs_retn, xs_rai, xs_try, tr_nx, tr_rt, xh_nil, so_some, so_none, xs_pas, xs_frz, xb_nil, xb_cons, b_ok, b_exc, b_bad, b2_ok, b2_exc, b2_bad, b3_ok, b3_exc, b3_bad, b4_ok, b4_exc, b4_bad, b5_tt, b5_ff, b5_exc, b6_ok, b6_exc, b6_bad, b7_tt, b7_ff, b7_exc, b8_nx, b8_rt, b8_ex, b8_bad, b9_nx, b9_rt, b9_ex, b10_ok, b10_exc, b11_ok, b11_exc, b12_ok, b12_exc, c_eq, or_s, or_n, c_ne, c_lt, c_le, c_gt, c_ge, c_in, c_nin, c_is, c_isn, c_isnon, c_isbl, c_isi, c_iss, c_ist, c_isl, c_isr, c_isb, e_ii, e_ss, e_bb, e_si, e_is, e_nn, e_ni, e_in, e_sn, e_ns, ok_some, ok_none, m_some, o_add, o_adds, o_addt, o_addl, o_sub, o_mul, o_muls, o_fdv, o_mod, o_pow, o_neg, o_not, k_tt, k_ff, i_tup, i_lst, i_scr, i_str, l_str, l_scr, l_tup, l_lst, l_intb, l_inti, l_min, l_max, l_abs, n_ib, n_ibl, n_is, n_il, n_it, n_ss, n_si, n_sb, n_sl, n_st, n_tt, n_tl, n_ts, n_ti, n_ll, n_lt, n_ls, n_bb, n_bi, a_nm, a_p, a_t, d_tt, d_ff, z_o, z_i, g_nat, g_0, g_1, g_2, g_last, q_appE, q_tyE, q_frz, seqR_str, seqR_tup, seqR_lst, isNop, SZ_d, sl_last, e_l0, n_in1, n_in2, d_ss, d_ii, d_si, d_is, f_s, f_i, anyEq, dr_i, dr_s, dr_b, dr_n, e1, e2, nd_i0, nd_i1, nd_i2, z2]
          · cases a with
            | e => simp only [Nd.ht] at z2; have := b.ht0; omega
            | n c s d =>
              have t : turnN l p (.n (.n c s d) q b) = .n (.n l p c) s (.n d q b) := by unfold turnN; rw [if_neg z1, if_pos z3]; simp only; rw [if_neg z2]
              rw [t]
              simp [xe_nop, xe_non, xe_bl, xe_int, xe_str, xe_var, xe_glob, xe_tup, xe_lst, xe_dct, xe_dtn, xe_dck, xe_bin, xe_neg, xe_cmp, xe_ch2, xe_ch3, xe_and, xe_or, xe_not, xe_ife, xe_idx, xe_sli, xe_rvs, xe_fld, xe_call, xe_meth, xe_new, xe_blt, xe_mth, xe_inst, xe_frz, xe_drop, xl_nil, xl_cons, xr_seq, xr_lst, lstR_l, xr_rg1, xr_rg2, xr_rg3, xr_enum, xr_zip, xr_rev, xs_asg, xs_setf, xs_seti, xs_sets, int_x, xs_exp, xs_ite, xs_ret, xs_retn, xs_rai, xs_try, tr_nx, tr_rt, xh_nil, so_some, so_none, xs_pas, xs_frz, xb_nil, xb_cons, b_ok, b_exc, b_bad, b2_ok, b2_exc, b2_bad, b3_ok, b3_exc, b3_bad, b4_ok, b4_exc, b4_bad, b5_tt, b5_ff, b5_exc, b6_ok, b6_exc, b6_bad, b7_tt, b7_ff, b7_exc, b8_nx, b8_rt, b8_ex, b8_bad, b9_nx, b9_rt, b9_ex, b10_ok, b10_exc, b11_ok, b11_exc, b12_ok, b12_exc, c_eq, or_s, or_n, c_ne, c_lt, c_le, c_gt, c_ge, c_in, c_nin, c_is, c_isn, c_isnon, c_isbl, c_isi, c_iss, c_ist, c_isl, c_isr, c_isb, e_ii, e_ss, e_bb, e_si, e_is, e_nn, e_ni, e_in, e_sn, e_ns, ok_some, ok_none, m_some, o_add, o_adds, o_addt, o_addl, o_sub, o_mul, o_muls, o_fdv, o_mod, o_pow, o_neg, o_not, k_tt, k_ff, i_tup, i_lst, i_scr, i_str, l_str, l_scr, l_tup, l_lst, l_intb, l_inti, l_min, l_max, l_abs, n_ib, n_ibl, n_is, n_il, n_it, n_ss, n_si, n_sb, n_sl, n_st, n_tt, n_tl, n_ts, n_ti, n_ll, n_lt, n_ls, n_bb, n_bi, a_nm, a_p, a_t, d_tt, d_ff, z_o, z_i, g_nat, g_0, g_1, g_2, g_last, q_appE, q_tyE, q_frz, seqR_str, seqR_tup, seqR_lst, isNop, SZ_d, sl_last, e_l0, n_in1, n_in2, d_ss, d_ii, d_si, d_is, f_s, f_i, anyEq, dr_i, dr_s, dr_b, dr_n, e1, z1, z3]
              rw [nd_n]
              simp [xe_nop, xe_non, xe_bl, xe_int, xe_str, xe_var, xe_glob, xe_tup, xe_lst, xe_dct, xe_dtn, xe_dck, xe_bin, xe_neg, xe_cmp, xe_ch2, xe_ch3, xe_and, xe_or, xe_not, xe_ife, xe_idx, xe_sli, xe_rvs, xe_fld, xe_call, xe_meth, xe_new, xe_blt, xe_mth, xe_inst, xe_frz, xe_drop, xl_nil, xl_cons, xr_seq, xr_lst, lstR_l, xr_rg1, xr_rg2, xr_rg3, xr_enum, xr_zip, xr_rev, xs_asg, xs_setf, xs_seti, xs_sets, int_x, xs_exp, xs_ite, xs_ret, xs_retn, xs_rai, xs_try, tr_nx, tr_rt, xh_nil, so_some, so_none, xs_pas, xs_frz, xb_nil, xb_cons, b_ok, b_exc, b_bad, b2_ok, b2_exc, b2_bad, b3_ok, b3_exc, b3_bad, b4_ok, b4_exc, b4_bad, b5_tt, b5_ff, b5_exc, b6_ok, b6_exc, b6_bad, b7_tt, b7_ff, b7_exc, b8_nx, b8_rt, b8_ex, b8_bad, b9_nx, b9_rt, b9_ex, b10_ok, b10_exc, b11_ok, b11_exc, b12_ok, b12_exc, c_eq, or_s, or_n, c_ne, c_lt, c_le, c_gt, c_ge, c_in, c_nin, c_is, c_isn, c_isnon, c_isbl, c_isi, c_iss, c_ist, c_isl, c_isr, c_isb, e_ii, e_ss, e_bb, e_si, e_is, e_nn, e_ni, e_in, e_sn, e_ns, ok_some, ok_none, m_some, o_add, o_adds, o_addt, o_addl, o_sub, o_mul, o_muls, o_fdv, o_mod, o_pow, o_neg, o_not, k_tt, k_ff, i_tup, i_lst, i_scr, i_str, l_str, l_scr, l_tup, l_lst, l_intb, l_inti, l_min, l_max, l_abs, n_ib, n_ibl, n_is, n_il, n_it, n_ss, n_si, n_sb, n_sl, n_st, n_tt, n_tl, n_ts, n_ti, n_ll, n_lt, n_ls, n_bb, n_bi, a_nm, a_p, a_t, d_tt, d_ff, z_o, z_i, g_nat, g_0, g_1, g_2, g_last, q_appE, q_tyE, q_frz, seqR_str, seqR_tup, seqR_lst, isNop, SZ_d, sl_last, e_l0, n_in1, n_in2, d_ss, d_ii, d_si, d_is, f_s, f_i, anyEq, dr_i, dr_s, dr_b, dr_n, e1, e2, nd_i0, nd_i1, nd_i2, z2]
              rw [nd_n]
              simp [xe_nop, xe_non, xe_bl, xe_int, xe_str, xe_var, xe_glob, xe_tup, xe_lst, xe_dct, xe_dtn, xe_dck, xe_bin, xe_neg, xe_cmp, xe_ch2, xe_ch3, xe_and, xe_or, xe_not, xe_ife, xe_idx, xe_sli, xe_rvs, xe_fld, xe_call, xe_meth, xe_new, xe_blt, xe_mth, xe_inst, xe_frz, xe_drop, xl_nil, xl_cons, xr_seq, xr_lst, lstR_l, xr_rg1, xr_rg2, xr_rg3, xr_enum, xr_zip, xr_rev, xs_asg, xs_setf, xs_seti, xs_sets, int_x, xs_exp, xs_ite, xs_ret, xs_retn, xs_rai, xs_try, tr_nx, tr_rt, xh_nil, so_some, so_none, xs_pas, xs_frz, xb_nil, xb_cons, b_ok, b_exc, b_bad, b2_ok, b2_exc, b2_bad, b3_ok, b3_exc, b3_bad, b4_ok, b4_exc, b4_bad, b5_tt, b5_ff, b5_exc, b6_ok, b6_exc, b6_bad, b7_tt, b7_ff, b7_exc, b8_nx, b8_rt, b8_ex, b8_bad, b9_nx, b9_rt, b9_ex, b10_ok, b10_exc, b11_ok, b11_exc, b12_ok, b12_exc, c_eq, or_s, or_n, c_ne, c_lt, c_le, c_gt, c_ge, c_in, c_nin, c_is, c_isn, c_isnon, c_isbl, c_isi, c_iss, c_ist, c_isl, c_isr, c_isb, e_ii, e_ss, e_bb, e_si, e_is, e_nn, e_ni, e_in, e_sn, e_ns, ok_some, ok_none, m_some, o_add, o_adds, o_addt, o_addl, o_sub, o_mul, o_muls, o_fdv, o_mod, o_pow, o_neg, o_not, k_tt, k_ff, i_tup, i_lst, i_scr, i_str, l_str, l_scr, l_tup, l_lst, l_intb, l_inti, l_min, l_max, l_abs, n_ib, n_ibl, n_is, n_il, n_it, n_ss, n_si, n_sb, n_sl, n_st, n_tt, n_tl, n_ts, n_ti, n_ll, n_lt, n_ls, n_bb, n_bi, a_nm, a_p, a_t, d_tt, d_ff, z_o, z_i, g_nat, g_0, g_1, g_2, g_last, q_appE, q_tyE, q_frz, seqR_str, seqR_tup, seqR_lst, isNop, SZ_d, sl_last, e_l0, n_in1, n_in2, d_ss, d_ii, d_si, d_is, f_s, f_i, anyEq, dr_i, dr_s, dr_b, dr_n, e1, e2, nd_i0, nd_i1, nd_i2]
      · have t : turnN l p r = .n l p r := by unfold turnN; rw [if_neg z1, if_neg z3]
        rw [t]
        simp [xe_nop, xe_non, xe_bl, xe_int, xe_str, xe_var, xe_glob, xe_tup, xe_lst, xe_dct, xe_dtn, xe_dck, xe_bin, xe_neg, xe_cmp, xe_ch2, xe_ch3, xe_and, xe_or, xe_not, xe_ife, xe_idx, xe_sli, xe_rvs, xe_fld, xe_call, xe_meth, xe_new, xe_blt, xe_mth, xe_inst, xe_frz, xe_drop, xl_nil, xl_cons, xr_seq, xr_lst, lstR_l, xr_rg1, xr_rg2, xr_rg3, xr_enum, xr_zip, xr_rev, xs_asg, xs_setf, xs_seti, xs_sets, int_x, xs_exp, xs_ite, xs_ret, xs_retn, xs_rai, xs_try, tr_nx, tr_rt, xh_nil, so_some, so_none, xs_pas, xs_frz, xb_nil, xb_cons, b_ok, b_exc, b_bad, b2_ok, b2_exc, b2_bad, b3_ok, b3_exc, b3_bad, b4_ok, b4_exc, b4_bad, b5_tt, b5_ff, b5_exc, b6_ok, b6_exc, b6_bad, b7_tt, b7_ff, b7_exc, b8_nx, b8_rt, b8_ex, b8_bad, b9_nx, b9_rt, b9_ex, b10_ok, b10_exc, b11_ok, b11_exc, b12_ok, b12_exc, c_eq, or_s, or_n, c_ne, c_lt, c_le, c_gt, c_ge, c_in, c_nin, c_is, c_isn, c_isnon, c_isbl, c_isi, c_iss, c_ist, c_isl, c_isr, c_isb, e_ii, e_ss, e_bb, e_si, e_is, e_nn, e_ni, e_in, e_sn, e_ns, ok_some, ok_none, m_some, o_add, o_adds, o_addt, o_addl, o_sub, o_mul, o_muls, o_fdv, o_mod, o_pow, o_neg, o_not, k_tt, k_ff, i_tup, i_lst, i_scr, i_str, l_str, l_scr, l_tup, l_lst, l_intb, l_inti, l_min, l_max, l_abs, n_ib, n_ibl, n_is, n_il, n_it, n_ss, n_si, n_sb, n_sl, n_st, n_tt, n_tl, n_ts, n_ti, n_ll, n_lt, n_ls, n_bb, n_bi, a_nm, a_p, a_t, d_tt, d_ff, z_o, z_i, g_nat, g_0, g_1, g_2, g_last, q_appE, q_tyE, q_frz, seqR_str, seqR_tup, seqR_lst, isNop, SZ_d, sl_last, e_l0, n_in1, n_in2, d_ss, d_ii, d_si, d_is, f_s, f_i, anyEq, dr_i, dr_s, dr_b, dr_n, e1, e2, z1, z3]
  rw [key]; exact drop_same (nd_pu _)
end K13
namespace K13
open VI
theorem Nd.htdp : ∀ t : Nd, t.ht = (t.dp : Int)
  | .e => rfl
  | .n l p r => by
    have h1 := Nd.htdp l
    have h2 := Nd.htdp r
    simp only [Nd.ht, Nd.dp, mx]
    split <;> omega
def joinN (l : Nd) (p : Pc) (r : Nd) : Nd :=
  if l.ht > r.ht + 1 then match l with
    | .n a q b => turnN a q (joinN b p r)
    | .e => .e
  else if r.ht > l.ht + 1 then match r with
    | .n a q b => turnN (joinN l p a) q b
    | .e => .e
  else .n l p r
termination_by l.dp + r.dp
decreasing_by
  all_goals simp only [Nd.dp]; omega
theorem join_eq (l : Nd) (p : Pc) (r : Nd) : joinN l p r = if l.ht > r.ht + 1 then (match l with
    | .n a q b => turnN a q (joinN b p r)
    | .e => .e)
  else if r.ht > l.ht + 1 then (match r with
    | .n a q b => turnN (joinN l p a) q b
    | .e => .e)
  else .n l p r := by
  conv => lhs; unfold joinN
/-! ### what is balanced -/
def Bal : Nd → Prop
  | .e => True
  | .n l _ r => Bal l ∧ Bal r ∧ l.ht ≤ r.ht + 1 ∧ r.ht ≤ l.ht + 1
theorem mx_eq (i j : Int) : mx i j = max i j := by
  unfold mx
  split <;> omega
theorem turn_ok {l r : Nd} {p : Pc} (hl : Bal l) (hr : Bal r) (h1 : l.ht ≤ r.ht + 2) (h2 : r.ht ≤ l.ht + 2) :
    Bal (turnN l p r) ∧ mx l.ht r.ht ≤ (turnN l p r).ht ∧ (turnN l p r).ht ≤ mx l.ht r.ht + 1 ∧ (turnN l p r).pcs = l.pcs ++ p :: r.pcs := by
  unfold turnN
  have l0 := l.ht0
  have r0 := r.ht0
  by_cases z1 : l.ht > r.ht + 1
  · rw [if_pos z1]
    cases l with
    | e => simp only [Nd.ht] at z1; omega
    | n a q b =>
      have a0 := a.ht0
      have b0 := b.ht0
      simp only
      by_cases z2 : a.ht ≥ b.ht
      · rw [if_pos z2]
        simp only [Bal, Nd.ht, mx_eq, Nd.pcs] at *
        exact ⟨⟨hl.1, ⟨hl.2.1, hr, by omega, by omega⟩, by omega, by omega⟩, by omega, by omega, by simp⟩
      · rw [if_neg z2]
        cases b with
        | e => simp only [Nd.ht] at z2; omega
        | n c s d =>
          have c0 := c.ht0
          have d0 := d.ht0
          simp only [Bal, Nd.ht, mx_eq, Nd.pcs] at *
          exact ⟨⟨⟨hl.1, hl.2.1.1, by omega, by omega⟩, ⟨hl.2.1.2.1, hr, by omega, by omega⟩, by omega, by omega⟩, by omega, by omega, by simp⟩
  · rw [if_neg z1]
    by_cases z3 : r.ht > l.ht + 1
    · rw [if_pos z3]
      cases r with
      | e => simp only [Nd.ht] at z3; omega
      | n a q b =>
        have a0 := a.ht0
        have b0 := b.ht0
        simp only
        by_cases z2 : b.ht ≥ a.ht
        · rw [if_pos z2]
          simp only [Bal, Nd.ht, mx_eq, Nd.pcs] at *
          exact ⟨⟨⟨hl, hr.1, by omega, by omega⟩, hr.2.1, by omega, by omega⟩, by omega, by omega, by simp⟩
        · rw [if_neg z2]
          cases a with
          | e => simp only [Nd.ht] at z2; omega
          | n c s d =>
            have c0 := c.ht0
            have d0 := d.ht0
            simp only [Bal, Nd.ht, mx_eq, Nd.pcs] at *
            exact ⟨⟨⟨hl, hr.1.1, by omega, by omega⟩, ⟨hr.1.2.1, hr.2.1, by omega, by omega⟩, by omega, by omega⟩, by omega, by omega, by simp⟩
    · rw [if_neg z3]
      simp only [Bal, Nd.ht, mx_eq, Nd.pcs] at *
      exact ⟨⟨hl, hr, by omega, by omega⟩, by omega, by omega, trivial⟩
/-- of nearly one height -/
theorem turn_ht {l r : Nd} {p : Pc} (h1 : l.ht ≤ r.ht + 1) (h2 : r.ht ≤ l.ht + 1) : turnN l p r = .n l p r := by
  unfold turnN
  rw [if_neg (by omega), if_neg (by omega)]
theorem join_ok : ∀ (N : Nat) (l r : Nd) (p : Pc), l.dp + r.dp ≤ N → Bal l → Bal r → Bal (joinN l p r) ∧ mx l.ht r.ht ≤ (joinN l p r).ht ∧ (joinN l p r).ht ≤ mx l.ht r.ht + 1 ∧ (joinN l p r).pcs = l.pcs ++ p :: r.pcs := by
  intro N
  induction N with
  | zero =>
    intro l r p hN hl hr
    have e1 := l.htdp
    have e2 := r.htdp
    rw [join_eq, if_neg (by omega), if_neg (by omega)]
    simp only [Bal, Nd.ht, mx_eq, Nd.pcs] at *
    exact ⟨⟨hl, hr, by omega, by omega⟩, by omega, by omega, trivial⟩
  | succ N ih =>
    intro l r p hN hl hr
    have l0 := l.ht0
    have r0 := r.ht0
    rw [join_eq]
    by_cases z1 : l.ht > r.ht + 1
    · rw [if_pos z1]
      cases l with
      | e => simp only [Nd.ht] at z1; omega
      | n a q b =>
        simp only [Nd.dp] at hN
        obtain ⟨i1, i2, i3, i4⟩ := ih b r p (by omega) hl.2.1 hr
        obtain ⟨ha, hb, d1, d2⟩ := hl
        have a0 := a.ht0
        simp only [Nd.ht, mx_eq] at *
        obtain ⟨j1, j2, j3, j4⟩ := turn_ok (p := q) ha i1 (by omega) (by omega)
        simp only [mx_eq] at j2 j3
        by_cases z : (joinN b p r).ht ≤ a.ht + 1
        · have e : (turnN a q (joinN b p r)).ht = 1 + max a.ht (joinN b p r).ht := by
            rw [turn_ht (l := a) (r := joinN b p r) (by omega) z]
            simp only [Nd.ht, mx_eq]
          exact ⟨j1, by omega, by omega, by rw [j4, i4]; simp [Nd.pcs]⟩
        · exact ⟨j1, by omega, by omega, by rw [j4, i4]; simp [Nd.pcs]⟩
    · rw [if_neg z1]
      by_cases z3 : r.ht > l.ht + 1
      · rw [if_pos z3]
        cases r with
        | e => simp only [Nd.ht] at z3; omega
        | n a q b =>
          simp only [Nd.dp] at hN
          obtain ⟨i1, i2, i3, i4⟩ := ih l a p (by omega) hl hr.1
          obtain ⟨ha, hb, d1, d2⟩ := hr
          have b0 := b.ht0
          simp only [Nd.ht, mx_eq] at *
          obtain ⟨j1, j2, j3, j4⟩ := turn_ok (p := q) i1 hb (by omega) (by omega)
          simp only [mx_eq] at j2 j3
          by_cases z : (joinN l p a).ht ≤ b.ht + 1
          · have e : (turnN (joinN l p a) q b).ht = 1 + max (joinN l p a).ht b.ht := by
              rw [turn_ht (l := joinN l p a) (r := b) z (by omega)]
              simp only [Nd.ht, mx_eq]
            exact ⟨j1, by omega, by omega, by rw [j4, i4]; simp [Nd.pcs]⟩
          · exact ⟨j1, by omega, by omega, by rw [j4, i4]; simp [Nd.pcs]⟩
      · rw [if_neg z3]
        simp only [Bal, Nd.ht, mx_eq, Nd.pcs] at *
        exact ⟨⟨hl, hr, by omega, by omega⟩, by omega, by omega, trivial⟩
theorem join_bal {l r : Nd} {p : Pc} (hl : Bal l) (hr : Bal r) : Bal (joinN l p r) := (join_ok _ l r p (Nat.le_refl _) hl hr).1
theorem join_pcs {l r : Nd} {p : Pc} (hl : Bal l) (hr : Bal r) : (joinN l p r).pcs = l.pcs ++ p :: r.pcs := (join_ok _ l r p (Nat.le_refl _) hl hr).2.2.2
theorem c_joined : ∀ (N : Nat) (l r : Nd) (p : Pc) (n : Nat) (h : Hs), l.dp + r.dp ≤ N → N + 4 ≤ n → run P n id_joined [l.d, p.d, r.d] h = .ok (joinN l p r).d h := by
  intro N
  induction N with
  | zero =>
    intro l r p n h hN hn
    obtain ⟨m, rfl⟩ := Nat.exists_eq_add_of_le' hn
    have e1 := l.htdp
    have e2 := r.htdp
    have z1 : ¬ r.ht + 1 < l.ht := by omega
    have z2 : ¬ l.ht + 1 < r.ht := by omega
    have c1 := fun t => c_height (m + 2) t h
    have c2 := fun a q b => d_made (m + 1) a b q h
    rw [join_eq, if_neg z1, if_neg z2, Nat.zero_add, go_joined]
    simp only [body_joined]
    simp [xe_nop, xe_non, xe_bl, xe_int, xe_str, xe_var, xe_glob, xe_tup, xe_lst, xe_dct, xe_dtn, xe_dck, xe_bin, xe_neg, xe_cmp, xe_ch2, xe_ch3, xe_and, xe_or, xe_not, xe_ife, xe_idx, xe_sli, xe_rvs, xe_fld, xe_call, xe_meth, xe_new, xe_blt, xe_mth, xe_inst, xe_frz, xe_drop, xl_nil, xl_cons, xr_seq, xr_lst, lstR_l, xr_rg1, xr_rg2, xr_rg3, xr_enum, xr_zip, xr_rev, xs_asg, xs_setf, xs_seti, xs_sets, int_x, xs_exp, xs_ite, xs_ret, xs_retn, xs_rai, xs_try, tr_nx, tr_rt, xh_nil, so_some, so_none, xs_pas, xs_frz, xb_nil, xb_cons, b_ok, b_exc, b_bad, b2_ok, b2_exc, b2_bad, b3_ok, b3_exc, b3_bad, b4_ok, b4_exc, b4_bad, b5_tt, b5_ff, b5_exc, b6_ok, b6_exc, b6_bad, b7_tt, b7_ff, b7_exc, b8_nx, b8_rt, b8_ex, b8_bad, b9_nx, b9_rt, b9_ex, b10_ok, b10_exc, b11_ok, b11_exc, b12_ok, b12_exc, c_eq, or_s, or_n, c_ne, c_lt, c_le, c_gt, c_ge, c_in, c_nin, c_is, c_isn, c_isnon, c_isbl, c_isi, c_iss, c_ist, c_isl, c_isr, c_isb, e_ii, e_ss, e_bb, e_si, e_is, e_nn, e_ni, e_in, e_sn, e_ns, ok_some, ok_none, m_some, o_add, o_adds, o_addt, o_addl, o_sub, o_mul, o_muls, o_fdv, o_mod, o_pow, o_neg, o_not, k_tt, k_ff, i_tup, i_lst, i_scr, i_str, l_str, l_scr, l_tup, l_lst, l_intb, l_inti, l_min, l_max, l_abs, n_ib, n_ibl, n_is, n_il, n_it, n_ss, n_si, n_sb, n_sl, n_st, n_tt, n_tl, n_ts, n_ti, n_ll, n_lt, n_ls, n_bb, n_bi, a_nm, a_p, a_t, d_tt, d_ff, z_o, z_i, g_nat, g_0, g_1, g_2, g_last, q_appE, q_tyE, q_frz, seqR_str, seqR_tup, seqR_lst, isNop, SZ_d, sl_last, e_l0, n_in1, n_in2, d_ss, d_ii, d_si, d_is, f_s, f_i, anyEq, dr_i, dr_s, dr_b, dr_n, c1, c2, z1, z2]
  | succ N ih =>
    intro l r p n h hN hn
    obtain ⟨m, rfl⟩ := Nat.exists_eq_add_of_le' hn
    have l0 := l.ht0
    have r0 := r.ht0
    have c1 : ∀ t : Nd, dropH h (run P (m + (N + 3) + 1) id_height_of [t.d] h) = .ok (.int t.ht) h := fun t => c_height (m + (N + 3)) t h
    have c2 : ∀ a q b, dropH h (run P (m + (N + 3) + 1) id_made [Nd.d a, Pc.d q, Nd.d b] h) = .ok (Nd.n a q b).d h := fun a q b => d_made (m + (N + 2)) a b q h
    have c3 : ∀ a q b, dropH h (run P (m + (N + 3) + 1) id_turned [Nd.d a, Pc.d q, Nd.d b] h) = .ok (turnN a q b).d h := fun a q b => c_turned (m + (N + 1)) a b q h
    rw [join_eq, show m + (N + 1 + 4) = m + (N + 3) + 1 + 1 by omega, go_joined]
    simp only [body_joined]
    by_cases z1 : r.ht + 1 < l.ht
    · rw [if_pos z1]
      cases l with
      | e => simp only [Nd.ht] at z1; omega
      | n a q b =>
        simp only [Nd.dp] at hN
        have i := congrArg (dropH h) (ih b r p (m + (N + 3) + 1) h (by omega) (by omega))
        rw [drop_same (nd_pu _)] at i
        simp [xe_nop, xe_non, xe_bl, xe_int, xe_str, xe_var, xe_glob, xe_tup, xe_lst, xe_dct, xe_dtn, xe_dck, xe_bin, xe_neg, xe_cmp, xe_ch2, xe_ch3, xe_and, xe_or, xe_not, xe_ife, xe_idx, xe_sli, xe_rvs, xe_fld, xe_call, xe_meth, xe_new, xe_blt, xe_mth, xe_inst, xe_frz, xe_drop, xl_nil, xl_cons, xr_seq, xr_lst, lstR_l, xr_rg1, xr_rg2, xr_rg3, xr_enum, xr_zip, xr_rev, xs_asg, xs_setf, xs_seti, xs_sets, int_x, xs_exp, xs_ite, xs_ret, xs_retn, xs_rai, xs_try, tr_nx, tr_rt, xh_nil, so_some, so_none, xs_pas, xs_frz, xb_nil, xb_cons, b_ok, b_exc, b_bad, b2_ok, b2_exc, b2_bad, b3_ok, b3_exc, b3_bad, b4_ok, b4_exc, b4_bad, b5_tt, b5_ff, b5_exc, b6_ok, b6_exc, b6_bad, b7_tt, b7_ff, b7_exc, b8_nx, b8_rt, b8_ex, b8_bad, b9_nx, b9_rt, b9_ex, b10_ok, b10_exc, b11_ok, b11_exc, b12_ok, b12_exc, c_eq, or_s, or_n, c_ne, c_lt, c_le, c_gt, c_ge, c_in, c_nin, c_is, c_isn, c_isnon, c_isbl, c_isi, c_iss, c_ist, c_isl, c_isr, c_isb, e_ii, e_ss, e_bb, e_si, e_is, e_nn, e_ni, e_in, e_sn, e_ns, ok_some, ok_none, m_some, o_add, o_adds, o_addt, o_addl, o_sub, o_mul, o_muls, o_fdv, o_mod, o_pow, o_neg, o_not, k_tt, k_ff, i_tup, i_lst, i_scr, i_str, l_str, l_scr, l_tup, l_lst, l_intb, l_inti, l_min, l_max, l_abs, n_ib, n_ibl, n_is, n_il, n_it, n_ss, n_si, n_sb, n_sl, n_st, n_tt, n_tl, n_ts, n_ti, n_ll, n_lt, n_ls, n_bb, n_bi, a_nm, a_p, a_t, d_tt, d_ff, z_o, z_i, g_nat, g_0, g_1, g_2, g_last, q_appE, q_tyE, q_frz, seqR_str, seqR_tup, seqR_lst, isNop, SZ_d, sl_last, e_l0, n_in1, n_in2, d_ss, d_ii, d_si, d_is, f_s, f_i, anyEq, dr_i, dr_s, dr_b, dr_n, c1, z1]
        rw [nd_n]
        simp [xe_nop, xe_non, xe_bl, xe_int, xe_str, xe_var, xe_glob, xe_tup, xe_lst, xe_dct, xe_dtn, xe_dck, xe_bin, xe_neg, xe_cmp, xe_ch2, xe_ch3, xe_and, xe_or, xe_not, xe_ife, xe_idx, xe_sli, xe_rvs, xe_fld, xe_call, xe_meth, xe_new, xe_blt, xe_mth, xe_inst, xe_frz, xe_drop, xl_nil, xl_cons, xr_seq, xr_lst, lstR_l, xr_rg1, xr_rg2, xr_rg3, xr_enum, xr_zip, xr_rev, xs_asg, xs_setf, xs_seti, xs_sets, int_x, xs_exp, xs_ite, xs_ret, xs_retn, xs_rai, xs_try, tr_nx, tr_rt, xh_nil, so_some, so_none, xs_pas, xs_frz, xb_nil, xb_cons, b_ok, b_exc, b_bad, b2_ok, b2_exc, b2_bad, b3_ok, b3_exc, b3_bad, b4_ok, b4_exc, b4_bad, b5_tt, b5_ff, b5_exc, b6_ok, b6_exc, b6_bad, b7_tt, b7_ff, b7_exc, b8_nx, b8_rt, b8_ex, b8_bad, b9_nx, b9_rt, b9_ex, b10_ok, b10_exc, b11_ok, b11_exc, b12_ok, b12_exc, c_eq, or_s, or_n, c_ne, c_lt, c_le, c_gt, c_ge, c_in, c_nin, c_is, c_isn, c_isnon, c_isbl, c_isi, c_iss, c_ist, c_isl, c_isr, c_isb, e_ii, e_ss, e_bb, e_si, e_is, e_nn, e_ni, e_in, e_sn, e_ns, ok_some, ok_none, m_some, o_add, o_adds, o_addt, o_addl, o_sub, o_mul, o_muls, o_fdv, o_mod, o_pow, o_neg, o_not, k_tt, k_ff, i_tup, i_lst, i_scr, i_str, l_str, l_scr, l_tup, l_lst, l_intb, l_inti, l_min, l_max, l_abs, n_ib, n_ibl, n_is, n_il, n_it, n_ss, n_si, n_sb, n_sl, n_st, n_tt, n_tl, n_ts, n_ti, n_ll, n_lt, n_ls, n_bb, n_bi, a_nm, a_p, a_t, d_tt, d_ff, z_o, z_i, g_nat, g_0, g_1, g_2, g_last, q_appE, q_tyE, q_frz, seqR_str, seqR_tup, seqR_lst, isNop, SZ_d, sl_last, e_l0, n_in1, n_in2, d_ss, d_ii, d_si, d_is, f_s, f_i, anyEq, dr_i, dr_s, dr_b, dr_n, nd_i0, nd_i1, nd_i2, i, c3]
    · rw [if_neg z1]
      by_cases z3 : l.ht + 1 < r.ht
      · rw [if_pos z3]
        cases r with
        | e => simp only [Nd.ht] at z3; omega
        | n a q b =>
          simp only [Nd.dp] at hN
          have i := congrArg (dropH h) (ih l a p (m + (N + 3) + 1) h (by omega) (by omega))
          rw [drop_same (nd_pu _)] at i
          simp [xe_nop, xe_non, xe_bl, xe_int, xe_str, xe_var, xe_glob, xe_tup, xe_lst, xe_dct, xe_dtn, xe_dck, xe_bin, xe_neg, xe_cmp, xe_ch2, xe_ch3, xe_and, xe_or, xe_not, xe_ife, xe_idx, xe_sli, xe_rvs, xe_fld, xe_call, xe_meth, xe_new, xe_blt, xe_mth, xe_inst, xe_frz, xe_drop, xl_nil, xl_cons, xr_seq, xr_lst, lstR_l, xr_rg1, xr_rg2, xr_rg3, xr_enum, xr_zip, xr_rev, xs_asg, xs_setf, xs_seti, xs_sets, int_x, xs_exp, xs_ite, xs_ret, xs_retn, xs_rai, xs_try, tr_nx, tr_rt, xh_nil, so_some, so_none, xs_pas, xs_frz, xb_nil, xb_cons, b_ok, b_exc, b_bad, b2_ok, b2_exc, b2_bad, b3_ok, b3_exc, b3_bad, b4_ok, b4_exc, b4_bad, b5_tt, b5_ff, b5_exc, b6_ok, b6_exc, b6_bad, b7_tt, b7_ff, b7_exc, b8_nx, b8_rt, b8_ex, b8_bad, b9_nx, b9_rt, b9_ex, b10_ok, b10_exc, b11_ok, b11_exc, b12_ok, b12_exc, c_eq, or_s, or_n, c_ne, c_lt, c_le, c_gt, c_ge, c_in, c_nin, c_is, c_isn, c_isnon, c_isbl, c_isi, c_iss, c_ist, c_isl, c_isr, c_isb, e_ii, e_ss, e_bb, e_si, e_is, e_nn, e_ni, e_in, e_sn, e_ns, ok_some, ok_none, m_some, o_add, o_adds, o_addt, o_addl, o_sub, o_mul, o_muls, o_fdv, o_mod, o_pow, o_neg, o_not, k_tt, k_ff, i_tup, i_lst, i_scr, i_str, l_str, l_scr, l_tup, l_lst, l_intb, l_inti, l_min, l_max, l_abs, n_ib, n_ibl, n_is, n_il, n_it, n_ss, n_si, n_sb, n_sl, n_st, n_tt, n_tl, n_ts, n_ti, n_ll, n_lt, n_ls, n_bb, n_bi, a_nm, a_p, a_t, d_tt, d_ff, z_o, z_i, g_nat, g_0, g_1, g_2, g_last, q_appE, q_tyE, q_frz, seqR_str, seqR_tup, seqR_lst, isNop, SZ_d, sl_last, e_l0, n_in1, n_in2, d_ss, d_ii, d_si, d_is, f_s, f_i, anyEq, dr_i, dr_s, dr_b, dr_n, c1, z1, z3]
          rw [nd_n]
          simp [xe_nop, xe_non, xe_bl, xe_int, xe_str, xe_var, xe_glob, xe_tup, xe_lst, xe_dct, xe_dtn, xe_dck, xe_bin, xe_neg, xe_cmp, xe_ch2, xe_ch3, xe_and, xe_or, xe_not, xe_ife, xe_idx, xe_sli, xe_rvs, xe_fld, xe_call, xe_meth, xe_new, xe_blt, xe_mth, xe_inst, xe_frz, xe_drop, xl_nil, xl_cons, xr_seq, xr_lst, lstR_l, xr_rg1, xr_rg2, xr_rg3, xr_enum, xr_zip, xr_rev, xs_asg, xs_setf, xs_seti, xs_sets, int_x, xs_exp, xs_ite, xs_ret, xs_retn, xs_rai, xs_try, tr_nx, tr_rt, xh_nil, so_some, so_none, xs_pas, xs_frz, xb_nil, xb_cons, b_ok, b_exc, b_bad, b2_ok, b2_exc, b2_bad, b3_ok, b3_exc, b3_bad, b4_ok, b4_exc, b4_bad, b5_tt, b5_ff, b5_exc, b6_ok, b6_exc, b6_bad, b7_tt, b7_ff, b7_exc, b8_nx, b8_rt, b8_ex, b8_bad, b9_nx, b9_rt, b9_ex, b10_ok, b10_exc, b11_ok, b11_exc, b12_ok, b12_exc, c_eq, or_s, or_n, c_ne, c_lt, c_le, c_gt, c_ge, c_in, c_nin, c_is, c_isn, c_isnon, c_isbl, c_isi, c_iss, c_ist, c_isl, c_isr, c_isb, e_ii, e_ss, e_bb, e_si, e_is, e_nn, e_ni, e_in, e_sn, e_ns, ok_some, ok_none, m_some, o_add, o_adds, o_addt, o_addl, o_sub, o_mul, o_muls, o_fdv, o_mod, o_pow, o_neg, o_not, k_tt, k_ff, i_tup, i_lst, i_scr, i_str, l_str, l_scr, l_tup, l_lst, l_intb, l_inti, l_min, l_max, l_abs, n_ib, n_ibl, n_is, n_il, n_it, n_ss, n_si, n_sb, n_sl, n_st, n_tt, n_tl, n_ts, n_ti, n_ll, n_lt, n_ls, n_bb, n_bi, a_nm, a_p, a_t, d_tt, d_ff, z_o, z_i, g_nat, g_0, g_1, g_2, g_last, q_appE, q_tyE, q_frz, seqR_str, seqR_tup, seqR_lst, isNop, SZ_d, sl_last, e_l0, n_in1, n_in2, d_ss, d_ii, d_si, d_is, f_s, f_i, anyEq, dr_i, dr_s, dr_b, dr_n, nd_i0, nd_i1, nd_i2, i, c3]
      · rw [if_neg z3]
        simp [xe_nop, xe_non, xe_bl, xe_int, xe_str, xe_var, xe_glob, xe_tup, xe_lst, xe_dct, xe_dtn, xe_dck, xe_bin, xe_neg, xe_cmp, xe_ch2, xe_ch3, xe_and, xe_or, xe_not, xe_ife, xe_idx, xe_sli, xe_rvs, xe_fld, xe_call, xe_meth, xe_new, xe_blt, xe_mth, xe_inst, xe_frz, xe_drop, xl_nil, xl_cons, xr_seq, xr_lst, lstR_l, xr_rg1, xr_rg2, xr_rg3, xr_enum, xr_zip, xr_rev, xs_asg, xs_setf, xs_seti, xs_sets, int_x, xs_exp, xs_ite, xs_ret, xs_retn, xs_rai, xs_try, tr_nx, tr_rt, xh_nil, so_some, so_none, xs_pas, xs_frz, xb_nil, xb_cons, b_ok, b_exc, b_bad, b2_ok, b2_exc, b2_bad, b3_ok, b3_exc, b3_bad, b4_ok, b4_exc, b4_bad, b5_tt, b5_ff, b5_exc, b6_ok, b6_exc, b6_bad, b7_tt, b7_ff, b7_exc, b8_nx, b8_rt, b8_ex, b8_bad, b9_nx, b9_rt, b9_ex, b10_ok, b10_exc, b11_ok, b11_exc, b12_ok, b12_exc, c_eq, or_s, or_n, c_ne, c_lt, c_le, c_gt, c_ge, c_in, c_nin, c_is, c_isn, c_isnon, c_isbl, c_isi, c_iss, c_ist, c_isl, c_isr, c_isb, e_ii, e_ss, e_bb, e_si, e_is, e_nn, e_ni, e_in, e_sn, e_ns, ok_some, ok_none, m_some, o_add, o_adds, o_addt, o_addl, o_sub, o_mul, o_muls, o_fdv, o_mod, o_pow, o_neg, o_not, k_tt, k_ff, i_tup, i_lst, i_scr, i_str, l_str, l_scr, l_tup, l_lst, l_intb, l_inti, l_min, l_max, l_abs, n_ib, n_ibl, n_is, n_il, n_it, n_ss, n_si, n_sb, n_sl, n_st, n_tt, n_tl, n_ts, n_ti, n_ll, n_lt, n_ls, n_bb, n_bi, a_nm, a_p, a_t, d_tt, d_ff, z_o, z_i, g_nat, g_0, g_1, g_2, g_last, q_appE, q_tyE, q_frz, seqR_str, seqR_tup, seqR_lst, isNop, SZ_d, sl_last, e_l0, n_in1, n_in2, d_ss, d_ii, d_si, d_is, f_s, f_i, anyEq, dr_i, dr_s, dr_b, dr_n, c1, c2, z1, z3]
theorem d_joined {l r : Nd} {p : Pc} {n : Nat} {h : Hs} (b : l.dp + r.dp + 4 ≤ n) : dropH h (run P n id_joined [l.d, p.d, r.d] h) = .ok (joinN l p r).d h := by
  rw [c_joined _ l r p n h (Nat.le_refl _) b]; exact drop_same (nd_pu _)
end K13
namespace K13
open VI
/-! ### the last piece off, two nodes met -/
def lastNd : Nd → Option (Nd × Pc)
  | .e => none
  | .n l p r => match lastNd r with
    | none => some (l, p)
    | some (a, q) => some (turnN l p a, q)
theorem last_e : ∀ {t : Nd}, lastNd t = none → t = .e
  | .e, _ => rfl
  | .n l p r, h => by
    unfold lastNd at h
    split at h <;> cases h
theorem last_ok : ∀ {t a : Nd} {q : Pc}, Bal t → lastNd t = some (a, q) → Bal a ∧ t.ht ≤ a.ht + 1 ∧ a.ht ≤ t.ht ∧ t.pcs = a.pcs ++ [q]
  | .n l p r, a, q, hb, h => by
    unfold lastNd at h
    obtain ⟨hl, hr, d1, d2⟩ := hb
    have l0 := l.ht0
    cases e : lastNd r with
    | none =>
      rw [e] at h
      cases h
      have := last_e e
      subst this
      simp only [Nd.ht, mx_eq, Nd.pcs] at *
      exact ⟨hl, by omega, by omega, by simp⟩
    | some z =>
      obtain ⟨b, s⟩ := z
      rw [e] at h
      cases h
      obtain ⟨i1, i2, i3, i4⟩ := last_ok hr e
      obtain ⟨j1, j2, j3, j4⟩ := turn_ok (l := l) (r := b) (p := p) hl i1 (by omega) (by omega)
      simp only [mx_eq] at j2 j3
      simp only [Nd.ht, mx_eq, Nd.pcs]
      by_cases z : l.ht ≤ b.ht + 1
      · have e : (turnN l p b).ht = 1 + max l.ht b.ht := by
          rw [turn_ht (l := l) (r := b) z (by omega)]
          simp only [Nd.ht, mx_eq]
        exact ⟨j1, by omega, by omega, by rw [j4, i4]; simp⟩
      · exact ⟨j1, by omega, by omega, by rw [j4, i4]; simp⟩
theorem last_dp {t a : Nd} {q : Pc} (hb : Bal t) (h : lastNd t = some (a, q)) : a.dp ≤ t.dp := by
  have := (last_ok hb h).2.2.1
  rw [Nd.htdp, Nd.htdp] at this
  omega
def metN (l r : Nd) : Nd := match lastNd l with
  | none => r
  | some (a, q) => match r with
    | .e => l
    | .n b s c => joinN a q (.n b s c)
theorem met_ok {l r : Nd} (hl : Bal l) (hr : Bal r) : Bal (metN l r) ∧ (metN l r).pcs = l.pcs ++ r.pcs ∧ (metN l r).dp ≤ max l.dp r.dp + 1 := by
  unfold metN
  cases e : lastNd l with
  | none =>
    have := last_e e
    subst this
    simp only [Nd.pcs, Nd.dp]
    exact ⟨hr, by simp, by omega⟩
  | some z =>
    obtain ⟨a, q⟩ := z
    obtain ⟨i1, i2, i3, i4⟩ := last_ok hl e
    cases r with
    | e => simp only [Nd.pcs, Nd.dp]; exact ⟨hl, by simp, by omega⟩
    | n b s c =>
      obtain ⟨j1, j2, j3, j4⟩ := join_ok _ a (.n b s c) q (Nat.le_refl _) i1 hr
      simp only
      rw [mx_eq, Nd.htdp, Nd.htdp, Nd.htdp] at j3
      rw [Nd.htdp, Nd.htdp] at i3
      exact ⟨j1, by rw [j4, i4]; simp, by omega⟩
theorem tup_pu2 {a b : D} (h1 : a.pu = true) (h2 : b.pu = true) : (D.tup [a, b]).pu = true := by simp [D.pu, D.pus, h1, h2]
theorem d_last : ∀ (N : Nat) (t a : Nd) (q : Pc) (n : Nat) (h : Hs), t.dp ≤ N → N + 4 ≤ n → lastNd t = some (a, q) → dropH h (run P n id_last_off [t.d] h) = .ok (.tup [a.d, q.d]) h := by
  intro N
  induction N with
  | zero =>
    intro t a q n h hN hn e
    cases t with
    | e => cases e
    | n l p r => simp only [Nd.dp] at hN; omega
  | succ N ih =>
    intro t a q n h hN hn e
    obtain ⟨m, rfl⟩ := Nat.exists_eq_add_of_le' hn
    cases t with
    | e => cases e
    | n l p r =>
      simp only [Nd.dp] at hN
      unfold lastNd at e
      have c3 : ∀ a q b, dropH h (run P (m + (N + 3) + 1) id_turned [Nd.d a, Pc.d q, Nd.d b] h) = .ok (turnN a q b).d h := fun a q b => c_turned (m + (N + 1)) a b q h
      rw [show m + (N + 1 + 4) = m + (N + 3) + 1 + 1 by omega, go_last_off]
      simp only [body_last_off]
      cases er : lastNd r with
      | none =>
        rw [er] at e
        cases e
        have := last_e er
        subst this
        have dp := drop_same (h := h) (tup_pu2 (nd_pu a) (pc_pu q))
        rw [nd_n, nd_e]
        simp [xe_nop, xe_non, xe_bl, xe_int, xe_str, xe_var, xe_glob, xe_tup, xe_lst, xe_dct, xe_dtn, xe_dck, xe_bin, xe_neg, xe_cmp, xe_ch2, xe_ch3, xe_and, xe_or, xe_not, xe_ife, xe_idx, xe_sli, xe_rvs, xe_fld, xe_call, xe_meth, xe_new, xe_blt, xe_mth, xe_inst, xe_frz, xe_drop, xl_nil, xl_cons, xr_seq, xr_lst, lstR_l, xr_rg1, xr_rg2, xr_rg3, xr_enum, xr_zip, xr_rev, xs_asg, xs_setf, xs_seti, xs_sets, int_x, xs_exp, xs_ite, xs_ret, xs_retn, xs_rai, xs_try, tr_nx, tr_rt, xh_nil, so_some, so_none, xs_pas, xs_frz, xb_nil, xb_cons, b_ok, b_exc, b_bad, b2_ok, b2_exc, b2_bad, b3_ok, b3_exc, b3_bad, b4_ok, b4_exc, b4_bad, b5_tt, b5_ff, b5_exc, b6_ok, b6_exc, b6_bad, b7_tt, b7_ff, b7_exc, b8_nx, b8_rt, b8_ex, b8_bad, b9_nx, b9_rt, b9_ex, b10_ok, b10_exc, b11_ok, b11_exc, b12_ok, b12_exc, c_eq, or_s, or_n, c_ne, c_lt, c_le, c_gt, c_ge, c_in, c_nin, c_is, c_isn, c_isnon, c_isbl, c_isi, c_iss, c_ist, c_isl, c_isr, c_isb, e_ii, e_ss, e_bb, e_si, e_is, e_nn, e_ni, e_in, e_sn, e_ns, ok_some, ok_none, m_some, o_add, o_adds, o_addt, o_addl, o_sub, o_mul, o_muls, o_fdv, o_mod, o_pow, o_neg, o_not, k_tt, k_ff, i_tup, i_lst, i_scr, i_str, l_str, l_scr, l_tup, l_lst, l_intb, l_inti, l_min, l_max, l_abs, n_ib, n_ibl, n_is, n_il, n_it, n_ss, n_si, n_sb, n_sl, n_st, n_tt, n_tl, n_ts, n_ti, n_ll, n_lt, n_ls, n_bb, n_bi, a_nm, a_p, a_t, d_tt, d_ff, z_o, z_i, g_nat, g_0, g_1, g_2, g_last, q_appE, q_tyE, q_frz, seqR_str, seqR_tup, seqR_lst, isNop, SZ_d, sl_last, e_l0, n_in1, n_in2, d_ss, d_ii, d_si, d_is, f_s, f_i, anyEq, dr_i, dr_s, dr_b, dr_n, nd_i0, nd_i1, nd_i2, dp]
      | some z =>
        obtain ⟨b, s⟩ := z
        rw [er] at e
        cases e
        have i := ih r b q (m + (N + 3) + 1) h (by omega) (by omega) er
        have ir : isD r.d .non = some false := by
          cases r with
          | e => cases er
          | n _ _ _ => rfl
        have dp := drop_same (h := h) (tup_pu2 (nd_pu (turnN l p b)) (pc_pu q))
        rw [nd_n]
        simp [xe_nop, xe_non, xe_bl, xe_int, xe_str, xe_var, xe_glob, xe_tup, xe_lst, xe_dct, xe_dtn, xe_dck, xe_bin, xe_neg, xe_cmp, xe_ch2, xe_ch3, xe_and, xe_or, xe_not, xe_ife, xe_idx, xe_sli, xe_rvs, xe_fld, xe_call, xe_meth, xe_new, xe_blt, xe_mth, xe_inst, xe_frz, xe_drop, xl_nil, xl_cons, xr_seq, xr_lst, lstR_l, xr_rg1, xr_rg2, xr_rg3, xr_enum, xr_zip, xr_rev, xs_asg, xs_setf, xs_seti, xs_sets, int_x, xs_exp, xs_ite, xs_ret, xs_retn, xs_rai, xs_try, tr_nx, tr_rt, xh_nil, so_some, so_none, xs_pas, xs_frz, xb_nil, xb_cons, b_ok, b_exc, b_bad, b2_ok, b2_exc, b2_bad, b3_ok, b3_exc, b3_bad, b4_ok, b4_exc, b4_bad, b5_tt, b5_ff, b5_exc, b6_ok, b6_exc, b6_bad, b7_tt, b7_ff, b7_exc, b8_nx, b8_rt, b8_ex, b8_bad, b9_nx, b9_rt, b9_ex, b10_ok, b10_exc, b11_ok, b11_exc, b12_ok, b12_exc, c_eq, or_s, or_n, c_ne, c_lt, c_le, c_gt, c_ge, c_in, c_nin, c_is, c_isn, c_isnon, c_isbl, c_isi, c_iss, c_ist, c_isl, c_isr, c_isb, e_ii, e_ss, e_bb, e_si, e_is, e_nn, e_ni, e_in, e_sn, e_ns, ok_some, ok_none, m_some, o_add, o_adds, o_addt, o_addl, o_sub, o_mul, o_muls, o_fdv, o_mod, o_pow, o_neg, o_not, k_tt, k_ff, i_tup, i_lst, i_scr, i_str, l_str, l_scr, l_tup, l_lst, l_intb, l_inti, l_min, l_max, l_abs, n_ib, n_ibl, n_is, n_il, n_it, n_ss, n_si, n_sb, n_sl, n_st, n_tt, n_tl, n_ts, n_ti, n_ll, n_lt, n_ls, n_bb, n_bi, a_nm, a_p, a_t, d_tt, d_ff, z_o, z_i, g_nat, g_0, g_1, g_2, g_last, q_appE, q_tyE, q_frz, seqR_str, seqR_tup, seqR_lst, isNop, SZ_d, sl_last, e_l0, n_in1, n_in2, d_ss, d_ii, d_si, d_is, f_s, f_i, anyEq, dr_i, dr_s, dr_b, dr_n, nd_i0, nd_i1, nd_i2, ir, i, c3, dp]
theorem d_met {l r : Nd} {n : Nat} {h : Hs} (hl : Bal l) (b : l.dp + r.dp + 5 ≤ n) : dropH h (run P n id_nmet [l.d, r.d] h) = .ok (metN l r).d h := by
  obtain ⟨m, rfl⟩ := Nat.exists_eq_add_of_le' b
  have key : run P (m + (l.dp + r.dp + 5)) id_nmet [l.d, r.d] h = .ok (metN l r).d h := by
    rw [show m + (l.dp + r.dp + 5) = m + (l.dp + r.dp + 4) + 1 by omega, go_nmet]
    simp only [body_nmet]
    unfold metN
    cases e : lastNd l with
    | none =>
      have := last_e e
      subst this
      rw [nd_e]
      simp [xe_nop, xe_non, xe_bl, xe_int, xe_str, xe_var, xe_glob, xe_tup, xe_lst, xe_dct, xe_dtn, xe_dck, xe_bin, xe_neg, xe_cmp, xe_ch2, xe_ch3, xe_and, xe_or, xe_not, xe_ife, xe_idx, xe_sli, xe_rvs, xe_fld, xe_call, xe_meth, xe_new, xe_blt, xe_mth, xe_inst, xe_frz, xe_drop, xl_nil, xl_cons, xr_seq, xr_lst, lstR_l, xr_rg1, xr_rg2, xr_rg3, xr_enum, xr_zip, xr_rev, xs_asg, xs_setf, xs_seti, xs_sets, int_x, xs_exp, xs_ite, xs_ret, xs_retn, xs_rai, xs_try, tr_nx, tr_rt, xh_nil, so_some, so_none, xs_pas, xs_frz, xb_nil, xb_cons, b_ok, b_exc, b_bad, b2_ok, b2_exc, b2_bad, b3_ok, b3_exc, b3_bad, b4_ok, b4_exc, b4_bad, b5_tt, b5_ff, b5_exc, b6_ok, b6_exc, b6_bad, b7_tt, b7_ff, b7_exc, b8_nx, b8_rt, b8_ex, b8_bad, b9_nx, b9_rt, b9_ex, b10_ok, b10_exc, b11_ok, b11_exc, b12_ok, b12_exc, c_eq, or_s, or_n, c_ne, c_lt, c_le, c_gt, c_ge, c_in, c_nin, c_is, c_isn, c_isnon, c_isbl, c_isi, c_iss, c_ist, c_isl, c_isr, c_isb, e_ii, e_ss, e_bb, e_si, e_is, e_nn, e_ni, e_in, e_sn, e_ns, ok_some, ok_none, m_some, o_add, o_adds, o_addt, o_addl, o_sub, o_mul, o_muls, o_fdv, o_mod, o_pow, o_neg, o_not, k_tt, k_ff, i_tup, i_lst, i_scr, i_str, l_str, l_scr, l_tup, l_lst, l_intb, l_inti, l_min, l_max, l_abs, n_ib, n_ibl, n_is, n_il, n_it, n_ss, n_si, n_sb, n_sl, n_st, n_tt, n_tl, n_ts, n_ti, n_ll, n_lt, n_ls, n_bb, n_bi, a_nm, a_p, a_t, d_tt, d_ff, z_o, z_i, g_nat, g_0, g_1, g_2, g_last, q_appE, q_tyE, q_frz, seqR_str, seqR_tup, seqR_lst, isNop, SZ_d, sl_last, e_l0, n_in1, n_in2, d_ss, d_ii, d_si, d_is, f_s, f_i, anyEq, dr_i, dr_s, dr_b, dr_n]
    | some z =>
      obtain ⟨a, q⟩ := z
      have il : isD l.d .non = some false := by
        cases l with
        | e => cases e
        | n _ _ _ => rfl
      cases r with
      | e =>
        rw [nd_e]
        simp [xe_nop, xe_non, xe_bl, xe_int, xe_str, xe_var, xe_glob, xe_tup, xe_lst, xe_dct, xe_dtn, xe_dck, xe_bin, xe_neg, xe_cmp, xe_ch2, xe_ch3, xe_and, xe_or, xe_not, xe_ife, xe_idx, xe_sli, xe_rvs, xe_fld, xe_call, xe_meth, xe_new, xe_blt, xe_mth, xe_inst, xe_frz, xe_drop, xl_nil, xl_cons, xr_seq, xr_lst, lstR_l, xr_rg1, xr_rg2, xr_rg3, xr_enum, xr_zip, xr_rev, xs_asg, xs_setf, xs_seti, xs_sets, int_x, xs_exp, xs_ite, xs_ret, xs_retn, xs_rai, xs_try, tr_nx, tr_rt, xh_nil, so_some, so_none, xs_pas, xs_frz, xb_nil, xb_cons, b_ok, b_exc, b_bad, b2_ok, b2_exc, b2_bad, b3_ok, b3_exc, b3_bad, b4_ok, b4_exc, b4_bad, b5_tt, b5_ff, b5_exc, b6_ok, b6_exc, b6_bad, b7_tt, b7_ff, b7_exc, b8_nx, b8_rt, b8_ex, b8_bad, b9_nx, b9_rt, b9_ex, b10_ok, b10_exc, b11_ok, b11_exc, b12_ok, b12_exc, c_eq, or_s, or_n, c_ne, c_lt, c_le, c_gt, c_ge, c_in, c_nin, c_is, c_isn, c_isnon, c_isbl, c_isi, c_iss, c_ist, c_isl, c_isr, c_isb, e_ii, e_ss, e_bb, e_si, e_is, e_nn, e_ni, e_in, e_sn, e_ns, ok_some, ok_none, m_some, o_add, o_adds, o_addt, o_addl, o_sub, o_mul, o_muls, o_fdv, o_mod, o_pow, o_neg, o_not, k_tt, k_ff, i_tup, i_lst, i_scr, i_str, l_str, l_scr, l_tup, l_lst, l_intb, l_inti, l_min, l_max, l_abs, n_ib, n_ibl, n_is, n_il, n_it, n_ss, n_si, n_sb, n_sl, n_st, n_tt, n_tl, n_ts, n_ti, n_ll, n_lt, n_ls, n_bb, n_bi, a_nm, a_p, a_t, d_tt, d_ff, z_o, z_i, g_nat, g_0, g_1, g_2, g_last, q_appE, q_tyE, q_frz, seqR_str, seqR_tup, seqR_lst, isNop, SZ_d, sl_last, e_l0, n_in1, n_in2, d_ss, d_ii, d_si, d_is, f_s, f_i, anyEq, dr_i, dr_s, dr_b, dr_n, il]
      | n c s d =>
        have ir : isD (Nd.n c s d).d .non = some false := rfl
        have c1 := d_last _ l a q (m + (l.dp + (Nd.n c s d).dp + 4)) h (Nat.le_refl _) (by omega) e
        have ld := last_dp hl e
        have c2 := d_joined (l := a) (r := .n c s d) (p := q) (n := m + (l.dp + (Nd.n c s d).dp + 4)) (h := h) (by omega)
        simp only
        generalize (Nd.n c s d).dp = dd at *
        generalize (joinN a q (.n c s d)).d = J at *
        generalize (Nd.n c s d).d = C at *
        simp [xe_nop, xe_non, xe_bl, xe_int, xe_str, xe_var, xe_glob, xe_tup, xe_lst, xe_dct, xe_dtn, xe_dck, xe_bin, xe_neg, xe_cmp, xe_ch2, xe_ch3, xe_and, xe_or, xe_not, xe_ife, xe_idx, xe_sli, xe_rvs, xe_fld, xe_call, xe_meth, xe_new, xe_blt, xe_mth, xe_inst, xe_frz, xe_drop, xl_nil, xl_cons, xr_seq, xr_lst, lstR_l, xr_rg1, xr_rg2, xr_rg3, xr_enum, xr_zip, xr_rev, xs_asg, xs_setf, xs_seti, xs_sets, int_x, xs_exp, xs_ite, xs_ret, xs_retn, xs_rai, xs_try, tr_nx, tr_rt, xh_nil, so_some, so_none, xs_pas, xs_frz, xb_nil, xb_cons, b_ok, b_exc, b_bad, b2_ok, b2_exc, b2_bad, b3_ok, b3_exc, b3_bad, b4_ok, b4_exc, b4_bad, b5_tt, b5_ff, b5_exc, b6_ok, b6_exc, b6_bad, b7_tt, b7_ff, b7_exc, b8_nx, b8_rt, b8_ex, b8_bad, b9_nx, b9_rt, b9_ex, b10_ok, b10_exc, b11_ok, b11_exc, b12_ok, b12_exc, c_eq, or_s, or_n, c_ne, c_lt, c_le, c_gt, c_ge, c_in, c_nin, c_is, c_isn, c_isnon, c_isbl, c_isi, c_iss, c_ist, c_isl, c_isr, c_isb, e_ii, e_ss, e_bb, e_si, e_is, e_nn, e_ni, e_in, e_sn, e_ns, ok_some, ok_none, m_some, o_add, o_adds, o_addt, o_addl, o_sub, o_mul, o_muls, o_fdv, o_mod, o_pow, o_neg, o_not, k_tt, k_ff, i_tup, i_lst, i_scr, i_str, l_str, l_scr, l_tup, l_lst, l_intb, l_inti, l_min, l_max, l_abs, n_ib, n_ibl, n_is, n_il, n_it, n_ss, n_si, n_sb, n_sl, n_st, n_tt, n_tl, n_ts, n_ti, n_ll, n_lt, n_ls, n_bb, n_bi, a_nm, a_p, a_t, d_tt, d_ff, z_o, z_i, g_nat, g_0, g_1, g_2, g_last, q_appE, q_tyE, q_frz, seqR_str, seqR_tup, seqR_lst, isNop, SZ_d, sl_last, e_l0, n_in1, n_in2, d_ss, d_ii, d_si, d_is, f_s, f_i, anyEq, dr_i, dr_s, dr_b, dr_n, il, ir, c1, c2]
  rw [key]; exact drop_same (nd_pu _)
/-! ### pieces, and what is good -/
theorem pcs_pu (l : List Pc) : D.pu (.lst (l.map Pc.d)) = true := D.pus_map (fun p => pc_pu p)
theorem d_lpieces : ∀ (t : Nd) (n : Nat) (h : Hs), t.dp + 1 ≤ n → t.pcs.length < 1000000 → dropH h (run P n id_law_pieces [t.d] h) = .ok (.lst (t.pcs.map Pc.d)) h
  | .e, n, h, hn, _ => by
    obtain ⟨m, rfl⟩ := Nat.exists_eq_add_of_le' hn
    rw [show m + (Nd.e.dp + 1) = m + 1 from rfl, go_law_pieces]
    simp only [body_law_pieces]
    rw [nd_e]
    have := drop_same (h := h) (d := .lst []) rfl
    simp [xe_nop, xe_non, xe_bl, xe_int, xe_str, xe_var, xe_glob, xe_tup, xe_lst, xe_dct, xe_dtn, xe_dck, xe_bin, xe_neg, xe_cmp, xe_ch2, xe_ch3, xe_and, xe_or, xe_not, xe_ife, xe_idx, xe_sli, xe_rvs, xe_fld, xe_call, xe_meth, xe_new, xe_blt, xe_mth, xe_inst, xe_frz, xe_drop, xl_nil, xl_cons, xr_seq, xr_lst, lstR_l, xr_rg1, xr_rg2, xr_rg3, xr_enum, xr_zip, xr_rev, xs_asg, xs_setf, xs_seti, xs_sets, int_x, xs_exp, xs_ite, xs_ret, xs_retn, xs_rai, xs_try, tr_nx, tr_rt, xh_nil, so_some, so_none, xs_pas, xs_frz, xb_nil, xb_cons, b_ok, b_exc, b_bad, b2_ok, b2_exc, b2_bad, b3_ok, b3_exc, b3_bad, b4_ok, b4_exc, b4_bad, b5_tt, b5_ff, b5_exc, b6_ok, b6_exc, b6_bad, b7_tt, b7_ff, b7_exc, b8_nx, b8_rt, b8_ex, b8_bad, b9_nx, b9_rt, b9_ex, b10_ok, b10_exc, b11_ok, b11_exc, b12_ok, b12_exc, c_eq, or_s, or_n, c_ne, c_lt, c_le, c_gt, c_ge, c_in, c_nin, c_is, c_isn, c_isnon, c_isbl, c_isi, c_iss, c_ist, c_isl, c_isr, c_isb, e_ii, e_ss, e_bb, e_si, e_is, e_nn, e_ni, e_in, e_sn, e_ns, ok_some, ok_none, m_some, o_add, o_adds, o_addt, o_addl, o_sub, o_mul, o_muls, o_fdv, o_mod, o_pow, o_neg, o_not, k_tt, k_ff, i_tup, i_lst, i_scr, i_str, l_str, l_scr, l_tup, l_lst, l_intb, l_inti, l_min, l_max, l_abs, n_ib, n_ibl, n_is, n_il, n_it, n_ss, n_si, n_sb, n_sl, n_st, n_tt, n_tl, n_ts, n_ti, n_ll, n_lt, n_ls, n_bb, n_bi, a_nm, a_p, a_t, d_tt, d_ff, z_o, z_i, g_nat, g_0, g_1, g_2, g_last, q_appE, q_tyE, q_frz, seqR_str, seqR_tup, seqR_lst, isNop, SZ_d, sl_last, e_l0, n_in1, n_in2, d_ss, d_ii, d_si, d_is, f_s, f_i, anyEq, dr_i, dr_s, dr_b, dr_n, this, Nd.pcs]
  | .n l p r, n, h, hn, hz => by
    obtain ⟨m, rfl⟩ := Nat.exists_eq_add_of_le' hn
    simp only [Nd.pcs, List.length_append, List.length_cons] at hz
    simp only [Nd.dp] at hn ⊢
    have i1 := d_lpieces l (m + (max l.dp r.dp + 1)) h (by omega) (by omega)
    have i2 := d_lpieces r (m + (max l.dp r.dp + 1)) h (by omega) (by omega)
    rw [show m + (max l.dp r.dp + 1 + 1) = m + (max l.dp r.dp + 1) + 1 by omega, go_law_pieces]
    simp only [body_law_pieces]
    have dp := drop_same (h := h) (pcs_pu (Nd.n l p r).pcs)
    simp only [Nd.pcs, List.map_append, List.map_cons] at dp ⊢
    have z1 : l.pcs.length + 1 ≤ 16777216 := by omega
    have z2 : l.pcs.length + 1 + r.pcs.length ≤ 16777216 := by omega
    rw [nd_n]
    generalize max l.dp r.dp = M at *
    simp [xe_nop, xe_non, xe_bl, xe_int, xe_str, xe_var, xe_glob, xe_tup, xe_lst, xe_dct, xe_dtn, xe_dck, xe_bin, xe_neg, xe_cmp, xe_ch2, xe_ch3, xe_and, xe_or, xe_not, xe_ife, xe_idx, xe_sli, xe_rvs, xe_fld, xe_call, xe_meth, xe_new, xe_blt, xe_mth, xe_inst, xe_frz, xe_drop, xl_nil, xl_cons, xr_seq, xr_lst, lstR_l, xr_rg1, xr_rg2, xr_rg3, xr_enum, xr_zip, xr_rev, xs_asg, xs_setf, xs_seti, xs_sets, int_x, xs_exp, xs_ite, xs_ret, xs_retn, xs_rai, xs_try, tr_nx, tr_rt, xh_nil, so_some, so_none, xs_pas, xs_frz, xb_nil, xb_cons, b_ok, b_exc, b_bad, b2_ok, b2_exc, b2_bad, b3_ok, b3_exc, b3_bad, b4_ok, b4_exc, b4_bad, b5_tt, b5_ff, b5_exc, b6_ok, b6_exc, b6_bad, b7_tt, b7_ff, b7_exc, b8_nx, b8_rt, b8_ex, b8_bad, b9_nx, b9_rt, b9_ex, b10_ok, b10_exc, b11_ok, b11_exc, b12_ok, b12_exc, c_eq, or_s, or_n, c_ne, c_lt, c_le, c_gt, c_ge, c_in, c_nin, c_is, c_isn, c_isnon, c_isbl, c_isi, c_iss, c_ist, c_isl, c_isr, c_isb, e_ii, e_ss, e_bb, e_si, e_is, e_nn, e_ni, e_in, e_sn, e_ns, ok_some, ok_none, m_some, o_add, o_adds, o_addt, o_addl, o_sub, o_mul, o_muls, o_fdv, o_mod, o_pow, o_neg, o_not, k_tt, k_ff, i_tup, i_lst, i_scr, i_str, l_str, l_scr, l_tup, l_lst, l_intb, l_inti, l_min, l_max, l_abs, n_ib, n_ibl, n_is, n_il, n_it, n_ss, n_si, n_sb, n_sl, n_st, n_tt, n_tl, n_ts, n_ti, n_ll, n_lt, n_ls, n_bb, n_bi, a_nm, a_p, a_t, d_tt, d_ff, z_o, z_i, g_nat, g_0, g_1, g_2, g_last, q_appE, q_tyE, q_frz, seqR_str, seqR_tup, seqR_lst, isNop, SZ_d, sl_last, e_l0, n_in1, n_in2, d_ss, d_ii, d_si, d_is, f_s, f_i, anyEq, dr_i, dr_s, dr_b, dr_n, nd_i0, nd_i1, nd_i2, i1, i2, z1, z2, dp]
theorem d_pieces : ∀ (t : Nd) (n : Nat) (h : Hs), t.dp + 1 ≤ n → t.pcs.length < 1000000 → dropH h (run P n id_pieces_of [t.d] h) = .ok (.lst (t.pcs.map Pc.d)) h
  | .e, n, h, hn, _ => by
    obtain ⟨m, rfl⟩ := Nat.exists_eq_add_of_le' hn
    rw [show m + (Nd.e.dp + 1) = m + 1 from rfl, go_pieces_of]
    simp only [body_pieces_of]
    rw [nd_e]
    have := drop_same (h := h) (d := .lst []) rfl
    simp [xe_nop, xe_non, xe_bl, xe_int, xe_str, xe_var, xe_glob, xe_tup, xe_lst, xe_dct, xe_dtn, xe_dck, xe_bin, xe_neg, xe_cmp, xe_ch2, xe_ch3, xe_and, xe_or, xe_not, xe_ife, xe_idx, xe_sli, xe_rvs, xe_fld, xe_call, xe_meth, xe_new, xe_blt, xe_mth, xe_inst, xe_frz, xe_drop, xl_nil, xl_cons, xr_seq, xr_lst, lstR_l, xr_rg1, xr_rg2, xr_rg3, xr_enum, xr_zip, xr_rev, xs_asg, xs_setf, xs_seti, xs_sets, int_x, xs_exp, xs_ite, xs_ret, xs_retn, xs_rai, xs_try, tr_nx, tr_rt, xh_nil, so_some, so_none, xs_pas, xs_frz, xb_nil, xb_cons, b_ok, b_exc, b_bad, b2_ok, b2_exc, b2_bad, b3_ok, b3_exc, b3_bad, b4_ok, b4_exc, b4_bad, b5_tt, b5_ff, b5_exc, b6_ok, b6_exc, b6_bad, b7_tt, b7_ff, b7_exc, b8_nx, b8_rt, b8_ex, b8_bad, b9_nx, b9_rt, b9_ex, b10_ok, b10_exc, b11_ok, b11_exc, b12_ok, b12_exc, c_eq, or_s, or_n, c_ne, c_lt, c_le, c_gt, c_ge, c_in, c_nin, c_is, c_isn, c_isnon, c_isbl, c_isi, c_iss, c_ist, c_isl, c_isr, c_isb, e_ii, e_ss, e_bb, e_si, e_is, e_nn, e_ni, e_in, e_sn, e_ns, ok_some, ok_none, m_some, o_add, o_adds, o_addt, o_addl, o_sub, o_mul, o_muls, o_fdv, o_mod, o_pow, o_neg, o_not, k_tt, k_ff, i_tup, i_lst, i_scr, i_str, l_str, l_scr, l_tup, l_lst, l_intb, l_inti, l_min, l_max, l_abs, n_ib, n_ibl, n_is, n_il, n_it, n_ss, n_si, n_sb, n_sl, n_st, n_tt, n_tl, n_ts, n_ti, n_ll, n_lt, n_ls, n_bb, n_bi, a_nm, a_p, a_t, d_tt, d_ff, z_o, z_i, g_nat, g_0, g_1, g_2, g_last, q_appE, q_tyE, q_frz, seqR_str, seqR_tup, seqR_lst, isNop, SZ_d, sl_last, e_l0, n_in1, n_in2, d_ss, d_ii, d_si, d_is, f_s, f_i, anyEq, dr_i, dr_s, dr_b, dr_n, this, Nd.pcs]
  | .n l p r, n, h, hn, hz => by
    obtain ⟨m, rfl⟩ := Nat.exists_eq_add_of_le' hn
    simp only [Nd.pcs, List.length_append, List.length_cons] at hz
    simp only [Nd.dp] at hn ⊢
    have i1 := d_pieces l (m + (max l.dp r.dp + 1)) h (by omega) (by omega)
    have i2 := d_pieces r (m + (max l.dp r.dp + 1)) h (by omega) (by omega)
    rw [show m + (max l.dp r.dp + 1 + 1) = m + (max l.dp r.dp + 1) + 1 by omega, go_pieces_of]
    simp only [body_pieces_of]
    have dp := drop_same (h := h) (pcs_pu (Nd.n l p r).pcs)
    simp only [Nd.pcs, List.map_append, List.map_cons] at dp ⊢
    have z1 : l.pcs.length + 1 ≤ 16777216 := by omega
    have z2 : l.pcs.length + 1 + r.pcs.length ≤ 16777216 := by omega
    rw [nd_n]
    generalize max l.dp r.dp = M at *
    simp [xe_nop, xe_non, xe_bl, xe_int, xe_str, xe_var, xe_glob, xe_tup, xe_lst, xe_dct, xe_dtn, xe_dck, xe_bin, xe_neg, xe_cmp, xe_ch2, xe_ch3, xe_and, xe_or, xe_not, xe_ife, xe_idx, xe_sli, xe_rvs, xe_fld, xe_call, xe_meth, xe_new, xe_blt, xe_mth, xe_inst, xe_frz, xe_drop, xl_nil, xl_cons, xr_seq, xr_lst, lstR_l, xr_rg1, xr_rg2, xr_rg3, xr_enum, xr_zip, xr_rev, xs_asg, xs_setf, xs_seti, xs_sets, int_x, xs_exp, xs_ite, xs_ret, xs_retn, xs_rai, xs_try, tr_nx, tr_rt, xh_nil, so_some, so_none, xs_pas, xs_frz, xb_nil, xb_cons, b_ok, b_exc, b_bad, b2_ok, b2_exc, b2_bad, b3_ok, b3_exc, b3_bad, b4_ok, b4_exc, b4_bad, b5_tt, b5_ff, b5_exc, b6_ok, b6_exc, b6_bad, b7_tt, b7_ff, b7_exc, b8_nx, b8_rt, b8_ex, b8_bad, b9_nx, b9_rt, b9_ex, b10_ok, b10_exc, b11_ok, b11_exc, b12_ok, b12_exc, c_eq, or_s, or_n, c_ne, c_lt, c_le, c_gt, c_ge, c_in, c_nin, c_is, c_isn, c_isnon, c_isbl, c_isi, c_iss, c_ist, c_isl, c_isr, c_isb, e_ii, e_ss, e_bb, e_si, e_is, e_nn, e_ni, e_in, e_sn, e_ns, ok_some, ok_none, m_some, o_add, o_adds, o_addt, o_addl, o_sub, o_mul, o_muls, o_fdv, o_mod, o_pow, o_neg, o_not, k_tt, k_ff, i_tup, i_lst, i_scr, i_str, l_str, l_scr, l_tup, l_lst, l_intb, l_inti, l_min, l_max, l_abs, n_ib, n_ibl, n_is, n_il, n_it, n_ss, n_si, n_sb, n_sl, n_st, n_tt, n_tl, n_ts, n_ti, n_ll, n_lt, n_ls, n_bb, n_bi, a_nm, a_p, a_t, d_tt, d_ff, z_o, z_i, g_nat, g_0, g_1, g_2, g_last, q_appE, q_tyE, q_frz, seqR_str, seqR_tup, seqR_lst, isNop, SZ_d, sl_last, e_l0, n_in1, n_in2, d_ss, d_ii, d_si, d_is, f_s, f_i, anyEq, dr_i, dr_s, dr_b, dr_n, nd_i0, nd_i1, nd_i2, i1, i2, z1, z2, dp]
theorem wh_int (n : Nat) (i : Int) (h : Hs) : dropH h (run P (n + 1) id_law_whole [.int i] h) = .ok (.bl true) h := by
  rw [go_law_whole]
  simp only [body_law_whole]
  simp [xe_nop, xe_non, xe_bl, xe_int, xe_str, xe_var, xe_glob, xe_tup, xe_lst, xe_dct, xe_dtn, xe_dck, xe_bin, xe_neg, xe_cmp, xe_ch2, xe_ch3, xe_and, xe_or, xe_not, xe_ife, xe_idx, xe_sli, xe_rvs, xe_fld, xe_call, xe_meth, xe_new, xe_blt, xe_mth, xe_inst, xe_frz, xe_drop, xl_nil, xl_cons, xr_seq, xr_lst, lstR_l, xr_rg1, xr_rg2, xr_rg3, xr_enum, xr_zip, xr_rev, xs_asg, xs_setf, xs_seti, xs_sets, int_x, xs_exp, xs_ite, xs_ret, xs_retn, xs_rai, xs_try, tr_nx, tr_rt, xh_nil, so_some, so_none, xs_pas, xs_frz, xb_nil, xb_cons, b_ok, b_exc, b_bad, b2_ok, b2_exc, b2_bad, b3_ok, b3_exc, b3_bad, b4_ok, b4_exc, b4_bad, b5_tt, b5_ff, b5_exc, b6_ok, b6_exc, b6_bad, b7_tt, b7_ff, b7_exc, b8_nx, b8_rt, b8_ex, b8_bad, b9_nx, b9_rt, b9_ex, b10_ok, b10_exc, b11_ok, b11_exc, b12_ok, b12_exc, c_eq, or_s, or_n, c_ne, c_lt, c_le, c_gt, c_ge, c_in, c_nin, c_is, c_isn, c_isnon, c_isbl, c_isi, c_iss, c_ist, c_isl, c_isr, c_isb, e_ii, e_ss, e_bb, e_si, e_is, e_nn, e_ni, e_in, e_sn, e_ns, ok_some, ok_none, m_some, o_add, o_adds, o_addt, o_addl, o_sub, o_mul, o_muls, o_fdv, o_mod, o_pow, o_neg, o_not, k_tt, k_ff, i_tup, i_lst, i_scr, i_str, l_str, l_scr, l_tup, l_lst, l_intb, l_inti, l_min, l_max, l_abs, n_ib, n_ibl, n_is, n_il, n_it, n_ss, n_si, n_sb, n_sl, n_st, n_tt, n_tl, n_ts, n_ti, n_ll, n_lt, n_ls, n_bb, n_bi, a_nm, a_p, a_t, d_tt, d_ff, z_o, z_i, g_nat, g_0, g_1, g_2, g_last, q_appE, q_tyE, q_frz, seqR_str, seqR_tup, seqR_lst, isNop, SZ_d, sl_last, e_l0, n_in1, n_in2, d_ss, d_ii, d_si, d_is, f_s, f_i, anyEq, dr_i, dr_s, dr_b, dr_n]
theorem d_good : ∀ (t : Nd) (n : Nat) (h : Hs), Bal t → t.dp + 2 ≤ n → dropH h (run P n id_law_good [t.d] h) = .ok (.tup [.int t.ht, .int t.sz, .int t.en]) h
  | .e, n, h, _, hn => by
    obtain ⟨m, rfl⟩ := Nat.exists_eq_add_of_le' hn
    rw [show m + (Nd.e.dp + 2) = m + 1 + 1 from rfl, go_law_good]
    simp only [body_law_good]
    rw [nd_e]
    have := drop_same (h := h) (d := .tup [.int 0, .int 0, .int 0]) rfl
    simp [xe_nop, xe_non, xe_bl, xe_int, xe_str, xe_var, xe_glob, xe_tup, xe_lst, xe_dct, xe_dtn, xe_dck, xe_bin, xe_neg, xe_cmp, xe_ch2, xe_ch3, xe_and, xe_or, xe_not, xe_ife, xe_idx, xe_sli, xe_rvs, xe_fld, xe_call, xe_meth, xe_new, xe_blt, xe_mth, xe_inst, xe_frz, xe_drop, xl_nil, xl_cons, xr_seq, xr_lst, lstR_l, xr_rg1, xr_rg2, xr_rg3, xr_enum, xr_zip, xr_rev, xs_asg, xs_setf, xs_seti, xs_sets, int_x, xs_exp, xs_ite, xs_ret, xs_retn, xs_rai, xs_try, tr_nx, tr_rt, xh_nil, so_some, so_none, xs_pas, xs_frz, xb_nil, xb_cons, b_ok, b_exc, b_bad, b2_ok, b2_exc, b2_bad, b3_ok, b3_exc, b3_bad, b4_ok, b4_exc, b4_bad, b5_tt, b5_ff, b5_exc, b6_ok, b6_exc, b6_bad, b7_tt, b7_ff, b7_exc, b8_nx, b8_rt, b8_ex, b8_bad, b9_nx, b9_rt, b9_ex, b10_ok, b10_exc, b11_ok, b11_exc, b12_ok, b12_exc, c_eq, or_s, or_n, c_ne, c_lt, c_le, c_gt, c_ge, c_in, c_nin, c_is, c_isn, c_isnon, c_isbl, c_isi, c_iss, c_ist, c_isl, c_isr, c_isb, e_ii, e_ss, e_bb, e_si, e_is, e_nn, e_ni, e_in, e_sn, e_ns, ok_some, ok_none, m_some, o_add, o_adds, o_addt, o_addl, o_sub, o_mul, o_muls, o_fdv, o_mod, o_pow, o_neg, o_not, k_tt, k_ff, i_tup, i_lst, i_scr, i_str, l_str, l_scr, l_tup, l_lst, l_intb, l_inti, l_min, l_max, l_abs, n_ib, n_ibl, n_is, n_il, n_it, n_ss, n_si, n_sb, n_sl, n_st, n_tt, n_tl, n_ts, n_ti, n_ll, n_lt, n_ls, n_bb, n_bi, a_nm, a_p, a_t, d_tt, d_ff, z_o, z_i, g_nat, g_0, g_1, g_2, g_last, q_appE, q_tyE, q_frz, seqR_str, seqR_tup, seqR_lst, isNop, SZ_d, sl_last, e_l0, n_in1, n_in2, d_ss, d_ii, d_si, d_is, f_s, f_i, anyEq, dr_i, dr_s, dr_b, dr_n, this, Nd.ht, Nd.sz, Nd.en]
  | .n l p r, n, h, hb, hn => by
    obtain ⟨m, rfl⟩ := Nat.exists_eq_add_of_le' hn
    obtain ⟨hl, hr, d1, d2⟩ := hb
    simp only [Nd.dp] at hn ⊢
    have i1 := d_good l (m + (max l.dp r.dp + 2)) h hl (by omega)
    have i2 := d_good r (m + (max l.dp r.dp + 2)) h hr (by omega)
    rw [show m + (max l.dp r.dp + 1 + 2) = m + (max l.dp r.dp + 2) + 1 by omega, go_law_good]
    simp only [Nd.ht, Nd.sz, Nd.en]
    obtain ⟨H, hH⟩ : ∃ H, H = 1 + mx l.ht r.ht := ⟨_, rfl⟩
    obtain ⟨S, hS⟩ : ∃ S, S = l.sz + p.s + r.sz := ⟨_, rfl⟩
    obtain ⟨Z, hZ⟩ : ∃ Z, Z = l.en + p.e + r.en := ⟨_, rfl⟩
    have dp := drop_same (h := h) (d := .tup [.int H, .int S, .int Z]) rfl
    have wi := fun i => wh_int (m + (max l.dp r.dp + 1)) i h
    rw [show m + (max l.dp r.dp + 1) + 1 = m + (max l.dp r.dp + 2) by omega] at wi
    generalize max l.dp r.dp = M at *
    have cm := comp_all (enc := fun i : Int => D.int i) (elt := ev P (run P (m + (M + 2))) le_law_good_0) (cond := ev P (run P (m + (M + 2))) lq_law_good_0) (t := .nm 5) (l := []) (s := [some (.tup [l.d, p.d, r.d, .int H, .int S, .int Z]), some (.tup [.int l.ht, .int l.sz, .int l.en]), some (.tup [.int r.ht, .int r.sz, .int r.en]), some (.int S), some (.tup [.int H, .int S, .int Z]), none]) (h := h) (p := fun _ => false) (g := fun i => .int i) lk_nil [p.b, p.s, p.e, H, S, Z] []
      (fun i _ => ⟨[some (.tup [l.d, p.d, r.d, .int H, .int S, .int Z]), some (.tup [.int l.ht, .int l.sz, .int l.en]), some (.tup [.int r.ht, .int r.sz, .int r.en]), some (.int S), some (.tup [.int H, .int S, .int Z]), some (.int i)], by simp [a_p], by simp [lq_law_good_0, xe_nop, xe_non, xe_bl, xe_int, xe_str, xe_var, xe_glob, xe_tup, xe_lst, xe_dct, xe_dtn, xe_dck, xe_bin, xe_neg, xe_cmp, xe_ch2, xe_ch3, xe_and, xe_or, xe_not, xe_ife, xe_idx, xe_sli, xe_rvs, xe_fld, xe_call, xe_meth, xe_new, xe_blt, xe_mth, xe_inst, xe_frz, xe_drop, xl_nil, xl_cons, xr_seq, xr_lst, lstR_l, xr_rg1, xr_rg2, xr_rg3, xr_enum, xr_zip, xr_rev, xs_asg, xs_setf, xs_seti, xs_sets, int_x, xs_exp, xs_ite, xs_ret, xs_retn, xs_rai, xs_try, tr_nx, tr_rt, xh_nil, so_some, so_none, xs_pas, xs_frz, xb_nil, xb_cons, b_ok, b_exc, b_bad, b2_ok, b2_exc, b2_bad, b3_ok, b3_exc, b3_bad, b4_ok, b4_exc, b4_bad, b5_tt, b5_ff, b5_exc, b6_ok, b6_exc, b6_bad, b7_tt, b7_ff, b7_exc, b8_nx, b8_rt, b8_ex, b8_bad, b9_nx, b9_rt, b9_ex, b10_ok, b10_exc, b11_ok, b11_exc, b12_ok, b12_exc, c_eq, or_s, or_n, c_ne, c_lt, c_le, c_gt, c_ge, c_in, c_nin, c_is, c_isn, c_isnon, c_isbl, c_isi, c_iss, c_ist, c_isl, c_isr, c_isb, e_ii, e_ss, e_bb, e_si, e_is, e_nn, e_ni, e_in, e_sn, e_ns, ok_some, ok_none, m_some, o_add, o_adds, o_addt, o_addl, o_sub, o_mul, o_muls, o_fdv, o_mod, o_pow, o_neg, o_not, k_tt, k_ff, i_tup, i_lst, i_scr, i_str, l_str, l_scr, l_tup, l_lst, l_intb, l_inti, l_min, l_max, l_abs, n_ib, n_ibl, n_is, n_il, n_it, n_ss, n_si, n_sb, n_sl, n_st, n_tt, n_tl, n_ts, n_ti, n_ll, n_lt, n_ls, n_bb, n_bi, a_nm, a_p, a_t, d_tt, d_ff, z_o, z_i, g_nat, g_0, g_1, g_2, g_last, q_appE, q_tyE, q_frz, seqR_str, seqR_tup, seqR_lst, isNop, SZ_d, sl_last, e_l0, n_in1, n_in2, d_ss, d_ii, d_si, d_is, f_s, f_i, anyEq, dr_i, dr_s, dr_b, dr_n, wi], fun z => by cases z⟩) (by rw [SZ_d]; simp)
    have e1 := eqD_self (d := .tup [.int H, .int S, .int Z]) (h := h) rfl
    have sl : ∀ a b c : D, sliD false (.tup [a, b, c, .int H, .int S, .int Z]) (some 3) none h = .ok (.tup [.int H, .int S, .int Z]) h := fun _ _ _ => rfl
    have ab : ¬ (1 : Int) < (if l.ht - r.ht < 0 then -(l.ht - r.ht) else l.ht - r.ht) := by split <;> omega
    have mxe : 1 + (if l.ht < r.ht then r.ht else l.ht) = H := by rw [hH]; rfl
    have ti : ∀ h : Hs, instD P.sub p.d .tuple h = some true := fun _ => rfl
    have tl : ∀ h : Hs, bltD .len false [p.d] h = .ok (.int 3) h := fun _ => rfl
    have ad : ∀ a b c : D, binD .add false p.d (.tup [a, b, c]) h = .ok (.tup [.int p.b, .int p.s, .int p.e, a, b, c]) h := fun _ _ _ => rfl
    have ef : ([] : List D) ++ (List.filter (fun _ => false) [p.b, p.s, p.e, H, S, Z]).map (fun i => D.int i) = [] := rfl
    rw [ef] at cm
    simp only [le_law_good_0, lq_law_good_0, List.map_cons, List.map_nil] at cm
    rw [nd_n, ← hH, ← hS, ← hZ]
    simp only [body_law_good]
    simp [xe_nop, xe_non, xe_bl, xe_int, xe_str, xe_var, xe_glob, xe_tup, xe_lst, xe_dct, xe_dtn, xe_dck, xe_bin, xe_neg, xe_cmp, xe_ch2, xe_ch3, xe_and, xe_or, xe_not, xe_ife, xe_idx, xe_sli, xe_rvs, xe_fld, xe_call, xe_meth, xe_new, xe_blt, xe_mth, xe_inst, xe_frz, xe_drop, xl_nil, xl_cons, xr_seq, xr_lst, lstR_l, xr_rg1, xr_rg2, xr_rg3, xr_enum, xr_zip, xr_rev, xs_asg, xs_setf, xs_seti, xs_sets, int_x, xs_exp, xs_ite, xs_ret, xs_retn, xs_rai, xs_try, tr_nx, tr_rt, xh_nil, so_some, so_none, xs_pas, xs_frz, xb_nil, xb_cons, b_ok, b_exc, b_bad, b2_ok, b2_exc, b2_bad, b3_ok, b3_exc, b3_bad, b4_ok, b4_exc, b4_bad, b5_tt, b5_ff, b5_exc, b6_ok, b6_exc, b6_bad, b7_tt, b7_ff, b7_exc, b8_nx, b8_rt, b8_ex, b8_bad, b9_nx, b9_rt, b9_ex, b10_ok, b10_exc, b11_ok, b11_exc, b12_ok, b12_exc, c_eq, or_s, or_n, c_ne, c_lt, c_le, c_gt, c_ge, c_in, c_nin, c_is, c_isn, c_isnon, c_isbl, c_isi, c_iss, c_ist, c_isl, c_isr, c_isb, e_ii, e_ss, e_bb, e_si, e_is, e_nn, e_ni, e_in, e_sn, e_ns, ok_some, ok_none, m_some, o_add, o_adds, o_addt, o_addl, o_sub, o_mul, o_muls, o_fdv, o_mod, o_pow, o_neg, o_not, k_tt, k_ff, i_tup, i_lst, i_scr, i_str, l_str, l_scr, l_tup, l_lst, l_intb, l_inti, l_min, l_max, l_abs, n_ib, n_ibl, n_is, n_il, n_it, n_ss, n_si, n_sb, n_sl, n_st, n_tt, n_tl, n_ts, n_ti, n_ll, n_lt, n_ls, n_bb, n_bi, a_nm, a_p, a_t, d_tt, d_ff, z_o, z_i, g_nat, g_0, g_1, g_2, g_last, q_appE, q_tyE, q_frz, seqR_str, seqR_tup, seqR_lst, isNop, SZ_d, sl_last, e_l0, n_in1, n_in2, d_ss, d_ii, d_si, d_is, f_s, f_i, anyEq, dr_i, dr_s, dr_b, dr_n, xe_comp, nd_i0, nd_i1, nd_i2, i1, i2, ti, tl, pc_i1, pc_i2, ab, mxe, ← hS, ← hZ, sl, ad, e1, cm, dp]
theorem bal_pow : ∀ {t : Nd}, Bal t → 2 ^ (t.dp / 2) ≤ t.pcs.length + 1
  | .e, _ => by simp [Nd.dp, Nd.pcs]
  | .n l p r, ⟨hl, hr, d1, d2⟩ => by
    have i1 := bal_pow hl
    have i2 := bal_pow hr
    rw [Nd.htdp, Nd.htdp] at d1 d2
    simp only [Nd.dp, Nd.pcs, List.length_append, List.length_cons]
    by_cases z : max l.dp r.dp = 0
    · rw [z]; simp
    · have a : max l.dp r.dp + 1 - 2 ≤ l.dp := by omega
      have b : max l.dp r.dp + 1 - 2 ≤ r.dp := by omega
      have e : (max l.dp r.dp + 1) / 2 = (max l.dp r.dp + 1 - 2) / 2 + 1 := by omega
      have p1 : 2 ^ ((max l.dp r.dp + 1 - 2) / 2) ≤ 2 ^ (l.dp / 2) := Nat.pow_le_pow_right (by decide) (Nat.div_le_div_right a)
      have p2 : 2 ^ ((max l.dp r.dp + 1 - 2) / 2) ≤ 2 ^ (r.dp / 2) := Nat.pow_le_pow_right (by decide) (Nat.div_le_div_right b)
      rw [e, Nat.pow_succ]
      omega
theorem bal_dp {t : Nd} (k : Nat) (h : Bal t) (b : t.pcs.length + 1 < 2 ^ k) : t.dp < 2 * k := by
  have h1 := bal_pow h
  have h2 : 2 ^ (t.dp / 2) < 2 ^ k := Nat.lt_of_le_of_lt h1 b
  have h3 := (Nat.pow_lt_pow_iff_right (by decide : 1 < 2)).mp h2
  omega
end K13
namespace K13
open VI
/-- a cell of the script -/
def cell (ns : List Int) (k : Nat) : Int := ns.getD k 0
theorem c_cell (n : Nat) (ns : List Int) (k : Nat) (h : Hs) : run P (n + 1) id_law_cell_at [.scr ns, .int k] h = .ok (.int (cell ns k)) h := by
  rw [go_law_cell_at]
  simp only [body_law_cell_at]
  by_cases q : k < ns.length
  · have e : ns[k]? = some ns[k] := List.getElem?_eq_getElem q
    simp [xe_nop, xe_non, xe_bl, xe_int, xe_str, xe_var, xe_glob, xe_tup, xe_lst, xe_dct, xe_dtn, xe_dck, xe_bin, xe_neg, xe_cmp, xe_ch2, xe_ch3, xe_and, xe_or, xe_not, xe_ife, xe_idx, xe_sli, xe_rvs, xe_fld, xe_call, xe_meth, xe_new, xe_blt, xe_mth, xe_inst, xe_frz, xe_drop, xl_nil, xl_cons, xr_seq, xr_lst, lstR_l, xr_rg1, xr_rg2, xr_rg3, xr_enum, xr_zip, xr_rev, xs_asg, xs_setf, xs_seti, xs_sets, int_x, xs_exp, xs_ite, xs_ret, xs_retn, xs_rai, xs_try, tr_nx, tr_rt, xh_nil, so_some, so_none, xs_pas, xs_frz, xb_nil, xb_cons, b_ok, b_exc, b_bad, b2_ok, b2_exc, b2_bad, b3_ok, b3_exc, b3_bad, b4_ok, b4_exc, b4_bad, b5_tt, b5_ff, b5_exc, b6_ok, b6_exc, b6_bad, b7_tt, b7_ff, b7_exc, b8_nx, b8_rt, b8_ex, b8_bad, b9_nx, b9_rt, b9_ex, b10_ok, b10_exc, b11_ok, b11_exc, b12_ok, b12_exc, c_eq, or_s, or_n, c_ne, c_lt, c_le, c_gt, c_ge, c_in, c_nin, c_is, c_isn, c_isnon, c_isbl, c_isi, c_iss, c_ist, c_isl, c_isr, c_isb, e_ii, e_ss, e_bb, e_si, e_is, e_nn, e_ni, e_in, e_sn, e_ns, ok_some, ok_none, m_some, o_add, o_adds, o_addt, o_addl, o_sub, o_mul, o_muls, o_fdv, o_mod, o_pow, o_neg, o_not, k_tt, k_ff, i_tup, i_lst, i_scr, i_str, l_str, l_scr, l_tup, l_lst, l_intb, l_inti, l_min, l_max, l_abs, n_ib, n_ibl, n_is, n_il, n_it, n_ss, n_si, n_sb, n_sl, n_st, n_tt, n_tl, n_ts, n_ti, n_ll, n_lt, n_ls, n_bb, n_bi, a_nm, a_p, a_t, d_tt, d_ff, z_o, z_i, g_nat, g_0, g_1, g_2, g_last, q_appE, q_tyE, q_frz, seqR_str, seqR_tup, seqR_lst, isNop, SZ_d, sl_last, e_l0, n_in1, n_in2, d_ss, d_ii, d_si, d_is, f_s, f_i, anyEq, dr_i, dr_s, dr_b, dr_n, q, cell, e]
  · simp [xe_nop, xe_non, xe_bl, xe_int, xe_str, xe_var, xe_glob, xe_tup, xe_lst, xe_dct, xe_dtn, xe_dck, xe_bin, xe_neg, xe_cmp, xe_ch2, xe_ch3, xe_and, xe_or, xe_not, xe_ife, xe_idx, xe_sli, xe_rvs, xe_fld, xe_call, xe_meth, xe_new, xe_blt, xe_mth, xe_inst, xe_frz, xe_drop, xl_nil, xl_cons, xr_seq, xr_lst, lstR_l, xr_rg1, xr_rg2, xr_rg3, xr_enum, xr_zip, xr_rev, xs_asg, xs_setf, xs_seti, xs_sets, int_x, xs_exp, xs_ite, xs_ret, xs_retn, xs_rai, xs_try, tr_nx, tr_rt, xh_nil, so_some, so_none, xs_pas, xs_frz, xb_nil, xb_cons, b_ok, b_exc, b_bad, b2_ok, b2_exc, b2_bad, b3_ok, b3_exc, b3_bad, b4_ok, b4_exc, b4_bad, b5_tt, b5_ff, b5_exc, b6_ok, b6_exc, b6_bad, b7_tt, b7_ff, b7_exc, b8_nx, b8_rt, b8_ex, b8_bad, b9_nx, b9_rt, b9_ex, b10_ok, b10_exc, b11_ok, b11_exc, b12_ok, b12_exc, c_eq, or_s, or_n, c_ne, c_lt, c_le, c_gt, c_ge, c_in, c_nin, c_is, c_isn, c_isnon, c_isbl, c_isi, c_iss, c_ist, c_isl, c_isr, c_isb, e_ii, e_ss, e_bb, e_si, e_is, e_nn, e_ni, e_in, e_sn, e_ns, ok_some, ok_none, m_some, o_add, o_adds, o_addt, o_addl, o_sub, o_mul, o_muls, o_fdv, o_mod, o_pow, o_neg, o_not, k_tt, k_ff, i_tup, i_lst, i_scr, i_str, l_str, l_scr, l_tup, l_lst, l_intb, l_inti, l_min, l_max, l_abs, n_ib, n_ibl, n_is, n_il, n_it, n_ss, n_si, n_sb, n_sl, n_st, n_tt, n_tl, n_ts, n_ti, n_ll, n_lt, n_ls, n_bb, n_bi, a_nm, a_p, a_t, d_tt, d_ff, z_o, z_i, g_nat, g_0, g_1, g_2, g_last, q_appE, q_tyE, q_frz, seqR_str, seqR_tup, seqR_lst, isNop, SZ_d, sl_last, e_l0, n_in1, n_in2, d_ss, d_ii, d_si, d_is, f_s, f_i, anyEq, dr_i, dr_s, dr_b, dr_n, q, cell]
theorem c_cellO (n : Nat) (ns : List Int) (k : Nat) (h : Hs) : run P (n + 1) 9 [.scr ns, .int (OfNat.ofNat k)] h = .ok (.int (cell ns k)) h := c_cell n ns k h
theorem c_lwhole (n : Nat) (i : Int) (h : Hs) : run P (n + 1) id_law_whole [.int i] h = .ok (.bl true) h := by
  rw [go_law_whole]
  simp only [body_law_whole]
  simp [xe_nop, xe_non, xe_bl, xe_int, xe_str, xe_var, xe_glob, xe_tup, xe_lst, xe_dct, xe_dtn, xe_dck, xe_bin, xe_neg, xe_cmp, xe_ch2, xe_ch3, xe_and, xe_or, xe_not, xe_ife, xe_idx, xe_sli, xe_rvs, xe_fld, xe_call, xe_meth, xe_new, xe_blt, xe_mth, xe_inst, xe_frz, xe_drop, xl_nil, xl_cons, xr_seq, xr_lst, lstR_l, xr_rg1, xr_rg2, xr_rg3, xr_enum, xr_zip, xr_rev, xs_asg, xs_setf, xs_seti, xs_sets, int_x, xs_exp, xs_ite, xs_ret, xs_retn, xs_rai, xs_try, tr_nx, tr_rt, xh_nil, so_some, so_none, xs_pas, xs_frz, xb_nil, xb_cons, b_ok, b_exc, b_bad, b2_ok, b2_exc, b2_bad, b3_ok, b3_exc, b3_bad, b4_ok, b4_exc, b4_bad, b5_tt, b5_ff, b5_exc, b6_ok, b6_exc, b6_bad, b7_tt, b7_ff, b7_exc, b8_nx, b8_rt, b8_ex, b8_bad, b9_nx, b9_rt, b9_ex, b10_ok, b10_exc, b11_ok, b11_exc, b12_ok, b12_exc, c_eq, or_s, or_n, c_ne, c_lt, c_le, c_gt, c_ge, c_in, c_nin, c_is, c_isn, c_isnon, c_isbl, c_isi, c_iss, c_ist, c_isl, c_isr, c_isb, e_ii, e_ss, e_bb, e_si, e_is, e_nn, e_ni, e_in, e_sn, e_ns, ok_some, ok_none, m_some, o_add, o_adds, o_addt, o_addl, o_sub, o_mul, o_muls, o_fdv, o_mod, o_pow, o_neg, o_not, k_tt, k_ff, i_tup, i_lst, i_scr, i_str, l_str, l_scr, l_tup, l_lst, l_intb, l_inti, l_min, l_max, l_abs, n_ib, n_ibl, n_is, n_il, n_it, n_ss, n_si, n_sb, n_sl, n_st, n_tt, n_tl, n_ts, n_ti, n_ll, n_lt, n_ls, n_bb, n_bi, a_nm, a_p, a_t, d_tt, d_ff, z_o, z_i, g_nat, g_0, g_1, g_2, g_last, q_appE, q_tyE, q_frz, seqR_str, seqR_tup, seqR_lst, isNop, SZ_d, sl_last, e_l0, n_in1, n_in2, d_ss, d_ii, d_si, d_is, f_s, f_i, anyEq, dr_i, dr_s, dr_b, dr_n]
def mixed (c k : Int) : Int := let m := (c * 48271 + 7919 * k + 12345) % 2147483647; m * m % 2147483647 * m % 2147483647
theorem mixed_b (c k : Int) : 0 ≤ mixed c k ∧ mixed c k < 2147483647 := ⟨Int.emod_nonneg _ (by decide), Int.emod_lt_of_pos _ (by decide)⟩
theorem mok {i j : Int} (h : -(2 ^ 64) < j ∧ j < 2 ^ 64) : mulOk i j = true := by
  unfold mulOk
  simp only [Bool.or_eq_true, Bool.and_eq_true, decide_eq_true_eq]
  exact .inr h
theorem mok1 {i j : Int} (h : -(2 ^ 64) < i ∧ i < 2 ^ 64) : mulOk i j = true := by
  unfold mulOk
  simp only [Bool.or_eq_true, Bool.and_eq_true, decide_eq_true_eq]
  exact .inl h
theorem c_mixed (n : Nat) (c k : Int) (h : Hs) : run P (n + 1) id_law_mixed [.int c, .int k] h = .ok (.int (mixed c k)) h := by
  rw [go_law_mixed]
  simp only [body_law_mixed]
  have b1 : 0 ≤ (c * 48271 + 7919 * k + 12345) % 2147483647 := Int.emod_nonneg _ (by decide)
  have b2 : (c * 48271 + 7919 * k + 12345) % 2147483647 < 2147483647 := Int.emod_lt_of_pos _ (by decide)
  have m1 : mulOk c 48271 = true := mok (by omega)
  have m2 : mulOk 7919 k = true := mok1 (by omega)
  have m3 : mulOk ((c * 48271 + 7919 * k + 12345) % 2147483647) ((c * 48271 + 7919 * k + 12345) % 2147483647) = true := mok (by omega)
  have b5 : 0 ≤ (c * 48271 + 7919 * k + 12345) % 2147483647 * ((c * 48271 + 7919 * k + 12345) % 2147483647) % 2147483647 := Int.emod_nonneg _ (by decide)
  have m4 : mulOk ((c * 48271 + 7919 * k + 12345) % 2147483647 * ((c * 48271 + 7919 * k + 12345) % 2147483647) % 2147483647) ((c * 48271 + 7919 * k + 12345) % 2147483647) = true := mok (by omega)
  simp [xe_nop, xe_non, xe_bl, xe_int, xe_str, xe_var, xe_glob, xe_tup, xe_lst, xe_dct, xe_dtn, xe_dck, xe_bin, xe_neg, xe_cmp, xe_ch2, xe_ch3, xe_and, xe_or, xe_not, xe_ife, xe_idx, xe_sli, xe_rvs, xe_fld, xe_call, xe_meth, xe_new, xe_blt, xe_mth, xe_inst, xe_frz, xe_drop, xl_nil, xl_cons, xr_seq, xr_lst, lstR_l, xr_rg1, xr_rg2, xr_rg3, xr_enum, xr_zip, xr_rev, xs_asg, xs_setf, xs_seti, xs_sets, int_x, xs_exp, xs_ite, xs_ret, xs_retn, xs_rai, xs_try, tr_nx, tr_rt, xh_nil, so_some, so_none, xs_pas, xs_frz, xb_nil, xb_cons, b_ok, b_exc, b_bad, b2_ok, b2_exc, b2_bad, b3_ok, b3_exc, b3_bad, b4_ok, b4_exc, b4_bad, b5_tt, b5_ff, b5_exc, b6_ok, b6_exc, b6_bad, b7_tt, b7_ff, b7_exc, b8_nx, b8_rt, b8_ex, b8_bad, b9_nx, b9_rt, b9_ex, b10_ok, b10_exc, b11_ok, b11_exc, b12_ok, b12_exc, c_eq, or_s, or_n, c_ne, c_lt, c_le, c_gt, c_ge, c_in, c_nin, c_is, c_isn, c_isnon, c_isbl, c_isi, c_iss, c_ist, c_isl, c_isr, c_isb, e_ii, e_ss, e_bb, e_si, e_is, e_nn, e_ni, e_in, e_sn, e_ns, ok_some, ok_none, m_some, o_add, o_adds, o_addt, o_addl, o_sub, o_mul, o_muls, o_fdv, o_mod, o_pow, o_neg, o_not, k_tt, k_ff, i_tup, i_lst, i_scr, i_str, l_str, l_scr, l_tup, l_lst, l_intb, l_inti, l_min, l_max, l_abs, n_ib, n_ibl, n_is, n_il, n_it, n_ss, n_si, n_sb, n_sl, n_st, n_tt, n_tl, n_ts, n_ti, n_ll, n_lt, n_ls, n_bb, n_bi, a_nm, a_p, a_t, d_tt, d_ff, z_o, z_i, g_nat, g_0, g_1, g_2, g_last, q_appE, q_tyE, q_frz, seqR_str, seqR_tup, seqR_lst, isNop, SZ_d, sl_last, e_l0, n_in1, n_in2, d_ss, d_ii, d_si, d_is, f_s, f_i, anyEq, dr_i, dr_s, dr_b, dr_n, m1, m2, m3, m4, mixed]
theorem sz_lt {n : Nat} (h : n < 1000000) : n ≤ SZ := Nat.le_trans (Nat.le_of_lt h) (by decide)
end K13
namespace K13
open VI
/-! ### nodes joined, one by one -/
def rwN (t : Nd) : D := .lst (t.pcs.map Pc.d)
theorem d_mx (n : Nat) (c k : Int) (h : Hs) : dropH h (run P (n + 1) id_law_mixed [.int c, .int k] h) = .ok (.int (mixed c k)) h := by
  rw [c_mixed]; exact drop_same rfl
theorem c_cellM (n : Nat) (ns : List Int) (k : Nat) (i : Int) (h : Hs) (e : i = (k : Nat)) : dropH h (run P (n + 1) id_law_cell_at [.scr ns, .int i] h) = .ok (.int (cell ns k)) h := by
  rw [e, c_cell]; exact drop_same rfl
def pcK (c k : Int) : Pc := ⟨mixed c (7 * k + 1) % 1000, 1 + mixed c (7 * k + 1) / 1000 % 9, mixed c (7 * k + 1) / 9000 % (1 + mixed c (7 * k + 1) / 1000 % 9 + 1)⟩
theorem d_lpiece (n : Nat) (c k : Int) (kb : 0 ≤ k ∧ k < 1000000) (h : Hs) : dropH h (run P (n + 2) id_law_piece [.int c, .int k] h) = .ok (pcK c k).d h := by
  have mx := d_mx n c (7 * k + 1) h
  have mk : mulOk 7 k = true := mok (by omega)
  unfold pcK
  generalize mixed c (7 * k + 1) = m at *
  have z : (0 : Int) < 1 + m / 1000 % 9 + 1 := by omega
  have dp : dropH h (.ok (.tup [.int (m % 1000), .int (1 + m / 1000 % 9), .int (m / 9000 % (1 + m / 1000 % 9 + 1))]) h) = .ok (.tup [.int (m % 1000), .int (1 + m / 1000 % 9), .int (m / 9000 % (1 + m / 1000 % 9 + 1))]) h := drop_same rfl
  rw [go_law_piece]
  show dropH h (execs P (run P (n + 1)) tb_law_piece_0 _ h).fin = .ok (.tup [.int (m % 1000), .int (1 + m / 1000 % 9), .int (m / 9000 % (1 + m / 1000 % 9 + 1))]) h
  simp [tb_law_piece_0, tb_law_piece_1, tb_law_piece_2, xe_nop, xe_non, xe_bl, xe_int, xe_str, xe_var, xe_glob, xe_tup, xe_lst, xe_dct, xe_dtn, xe_dck, xe_bin, xe_neg, xe_cmp, xe_ch2, xe_ch3, xe_and, xe_or, xe_not, xe_ife, xe_idx, xe_sli, xe_rvs, xe_fld, xe_call, xe_meth, xe_new, xe_blt, xe_mth, xe_inst, xe_frz, xe_drop, xl_nil, xl_cons, xr_seq, xr_lst, lstR_l, xr_rg1, xr_rg2, xr_rg3, xr_enum, xr_zip, xr_rev, xs_asg, xs_setf, xs_seti, xs_sets, int_x, xs_exp, xs_ite, xs_ret, xs_retn, xs_rai, xs_try, tr_nx, tr_rt, xh_nil, so_some, so_none, xs_pas, xs_frz, xb_nil, xb_cons, b_ok, b_exc, b_bad, b2_ok, b2_exc, b2_bad, b3_ok, b3_exc, b3_bad, b4_ok, b4_exc, b4_bad, b5_tt, b5_ff, b5_exc, b6_ok, b6_exc, b6_bad, b7_tt, b7_ff, b7_exc, b8_nx, b8_rt, b8_ex, b8_bad, b9_nx, b9_rt, b9_ex, b10_ok, b10_exc, b11_ok, b11_exc, b12_ok, b12_exc, c_eq, or_s, or_n, c_ne, c_lt, c_le, c_gt, c_ge, c_in, c_nin, c_is, c_isn, c_isnon, c_isbl, c_isi, c_iss, c_ist, c_isl, c_isr, c_isb, e_ii, e_ss, e_bb, e_si, e_is, e_nn, e_ni, e_in, e_sn, e_ns, ok_some, ok_none, m_some, o_add, o_adds, o_addt, o_addl, o_sub, o_mul, o_muls, o_fdv, o_mod, o_pow, o_neg, o_not, k_tt, k_ff, i_tup, i_lst, i_scr, i_str, l_str, l_scr, l_tup, l_lst, l_intb, l_inti, l_min, l_max, l_abs, n_ib, n_ibl, n_is, n_il, n_it, n_ss, n_si, n_sb, n_sl, n_st, n_tt, n_tl, n_ts, n_ti, n_ll, n_lt, n_ls, n_bb, n_bi, a_nm, a_p, a_t, d_tt, d_ff, z_o, z_i, g_nat, g_0, g_1, g_2, g_last, q_appE, q_tyE, q_frz, seqR_str, seqR_tup, seqR_lst, isNop, SZ_d, sl_last, e_l0, n_in1, n_in2, d_ss, d_ii, d_si, d_is, f_s, f_i, anyEq, dr_i, dr_s, dr_b, dr_n, mk, mx, z, dp]
theorem pcs_sh (k : Nat) (l : List Pc) : D.shs (k + 2) (l.map Pc.d) = true := shs_map (fun p => by simp [Pc.d, D.sh, D.shs]) l
theorem rwN_sh (N : List Nd) : D.shs 59 (N.map rwN) = true := shs_map (fun t => by
  show D.sh 59 (.lst (t.pcs.map Pc.d)) = true
  have := pcs_sh 56 t.pcs
  simp [D.sh, this]) N
theorem d_lsame (n : Nat) (t : Nd) (b : Bal t) (dp : t.dp < 16) (pl : t.pcs.length < 1000) (h : Hs) : dropH h (run P (n + 20) id_law_same [t.d, rwN t] h) = .ok (.bl true) h := by
  have g := d_good t (n + 19) h b (by omega)
  have c1 := c_height (n + 18) t h
  have c2 := c_nsize (n + 18) t h
  have c3 := c_ends (n + 18) t h
  have lp := d_lpieces t (n + 19) h (by omega) (by omega)
  have pp := d_pieces t (n + 19) h (by omega) (by omega)
  have eq : eqD (.lst (t.pcs.map Pc.d)) (.lst (t.pcs.map Pc.d)) h = some true := eqD_selfL (pcs_sh 57 _)
  have eqT : eqD (.tup [.int t.ht, .int t.sz, .int t.en]) (.tup [.int t.ht, .int t.sz, .int t.en]) h = some true := eqD_self (by simp [D.sh, D.shs])
  have ii : isD (.tup [.int t.ht, .int t.sz, .int t.en]) .non = some false := rfl
  have dd := drop_same (h := h) (d := .bl true) rfl
  rw [go_law_same]
  show dropH h (execs P (run P (n + 19)) tb_law_same_0 _ h).fin = _
  unfold rwN
  generalize t.pcs.map Pc.d = PD at *
  generalize t.d = TD at *
  generalize t.ht = A at *
  generalize t.sz = B at *
  generalize t.en = C at *
  simp [tb_law_same_0, tb_law_same_1, tb_law_same_2, xe_nop, xe_non, xe_bl, xe_int, xe_str, xe_var, xe_glob, xe_tup, xe_lst, xe_dct, xe_dtn, xe_dck, xe_bin, xe_neg, xe_cmp, xe_ch2, xe_ch3, xe_and, xe_or, xe_not, xe_ife, xe_idx, xe_sli, xe_rvs, xe_fld, xe_call, xe_meth, xe_new, xe_blt, xe_mth, xe_inst, xe_frz, xe_drop, xl_nil, xl_cons, xr_seq, xr_lst, lstR_l, xr_rg1, xr_rg2, xr_rg3, xr_enum, xr_zip, xr_rev, xs_asg, xs_setf, xs_seti, xs_sets, int_x, xs_exp, xs_ite, xs_ret, xs_retn, xs_rai, xs_try, tr_nx, tr_rt, xh_nil, so_some, so_none, xs_pas, xs_frz, xb_nil, xb_cons, b_ok, b_exc, b_bad, b2_ok, b2_exc, b2_bad, b3_ok, b3_exc, b3_bad, b4_ok, b4_exc, b4_bad, b5_tt, b5_ff, b5_exc, b6_ok, b6_exc, b6_bad, b7_tt, b7_ff, b7_exc, b8_nx, b8_rt, b8_ex, b8_bad, b9_nx, b9_rt, b9_ex, b10_ok, b10_exc, b11_ok, b11_exc, b12_ok, b12_exc, c_eq, or_s, or_n, c_ne, c_lt, c_le, c_gt, c_ge, c_in, c_nin, c_is, c_isn, c_isnon, c_isbl, c_isi, c_iss, c_ist, c_isl, c_isr, c_isb, e_ii, e_ss, e_bb, e_si, e_is, e_nn, e_ni, e_in, e_sn, e_ns, ok_some, ok_none, m_some, o_add, o_adds, o_addt, o_addl, o_sub, o_mul, o_muls, o_fdv, o_mod, o_pow, o_neg, o_not, k_tt, k_ff, i_tup, i_lst, i_scr, i_str, l_str, l_scr, l_tup, l_lst, l_intb, l_inti, l_min, l_max, l_abs, n_ib, n_ibl, n_is, n_il, n_it, n_ss, n_si, n_sb, n_sl, n_st, n_tt, n_tl, n_ts, n_ti, n_ll, n_lt, n_ls, n_bb, n_bi, a_nm, a_p, a_t, d_tt, d_ff, z_o, z_i, g_nat, g_0, g_1, g_2, g_last, q_appE, q_tyE, q_frz, seqR_str, seqR_tup, seqR_lst, isNop, SZ_d, sl_last, e_l0, n_in1, n_in2, d_ss, d_ii, d_si, d_is, f_s, f_i, anyEq, dr_i, dr_s, dr_b, dr_n, g, c1, c2, c3, lp, pp, eq, eqT, ii, dd]
def totN (N : List Nd) : Nat := (N.map fun t => t.pcs.length).sum
theorem tot_mem {N : List Nd} {t : Nd} (m : t ∈ N) : t.pcs.length ≤ totN N := by
  unfold totN
  induction N with
  | nil => cases m
  | cons a N ih =>
    rw [List.map_cons, List.sum_cons]
    rcases List.mem_cons.mp m with rfl | m
    · omega
    · have := ih m; omega
structure Inv (H : Hs) (N : List Nd) (B : Nat) : Prop where
  rw_ : H[0]? = some (.lst (N.map rwN))
  nd : H[1]? = some (.lst (N.map Nd.d))
  bal : ∀ t ∈ N, Bal t
  tot : totN N ≤ B
theorem dp_of {N : List Nd} {t : Nd} {B : Nat} (b : Bal t) (h : t.pcs.length ≤ B) (hB : B < 255) : t.dp < 16 := bal_dp 8 b (by omega)
theorem setsE {H : Hs} {c a : Nat} {xs ys : List D} (e : H[c]? = some (.lst xs)) (al : a + 2 ≤ xs.length) (xl : xs.length + ys.length < 1000) (s : Env) : setsD (.ref H.length) (.ref c) (.int (a : Nat)) (.int ((a : Nat) + 2)) s (H ++ [.lst ys]) = .nx s ((H ++ [O.lst ys]).set c (O.lst (xs.take a ++ ys ++ xs.drop (a + 2)))) := by
  have cl := (List.getElem?_eq_some_iff.mp e).1
  have e1 : (H ++ [.lst ys])[c]? = some (.lst xs) := by rw [List.getElem?_append_left cl]; exact e
  have e2 : (H ++ [O.lst ys])[H.length]? = some (.lst ys) := ga
  have t1 : (((a : Nat) : Int) + 2).toNat = a + 2 := by omega
  have cond : (decide (c ≠ H.length) && decide ((0 : Int) ≤ (a : Nat)) && decide (((a : Nat) : Int) ≤ (a : Nat) + 2) && decide (((a : Nat) : Int) + 2 ≤ (xs.length : Nat)) && decide (xs.length + ys.length ≤ SZ)) = true := by
    simp only [Bool.and_eq_true, decide_eq_true_eq]
    refine ⟨⟨⟨⟨by omega, by omega⟩, by omega⟩, by omega⟩, by rw [SZ_d]; omega⟩
  unfold setsD
  simp only [e1, e2, cond, if_true, t1, Int.toNat_natCast]
theorem map_mid {α β : Type} (f : α → β) (N : List α) (a : Nat) (t : α) : (N.map f).take a ++ [f t] ++ (N.map f).drop (a + 2) = (N.take a ++ [t] ++ N.drop (a + 2)).map f := by
  simp [List.map_take, List.map_drop]
theorem c_onemore (n : Nat) {H : Hs} {N : List Nd} {B : Nat} (v : Inv H N B) (hB : B < 254) (l2 : 2 ≤ N.length) (nl : N.length < 200) (c : Int) :
    ∃ H' N' a t, run P (n + 60) id_law_one_more [.ref 1, .ref 0, .int c] H = .ok (.int (a : Nat)) H' ∧ Inv H' N' (B + 1) ∧ N'.length + 1 = N.length ∧ N'[a]? = some t ∧ H.length ≤ H'.length := by
  have L1 : (0 : Int) < (N.length : Nat) - 1 := by omega
  have L1' : (1 : Int) < (N.length : Nat) := by omega
  obtain ⟨d, gd, md⟩ := get_modL (l := [D.int 0, .int (c / 12), .int ((N.length : Nat) - 2), .int (c / 12)]) (c / 3) (m := 4) rfl (by decide)
  have ev : ∃ v : Int, d = .int v := by
    simp only [List.mem_cons, List.not_mem_nil, or_false] at md
    rcases md with rfl | rfl | rfl | rfl <;> exact ⟨_, rfl⟩
  obtain ⟨vv, rfl⟩ := ev
  obtain ⟨a, ea, al⟩ := mod_nat vv L1
  have a2 : a + 2 ≤ N.length := by omega
  obtain ⟨l, hl⟩ : ∃ l, N[a]? = some l := ⟨_, List.getElem?_eq_getElem (by omega)⟩
  obtain ⟨r, hr⟩ : ∃ r, N[a + 1]? = some r := ⟨_, List.getElem?_eq_getElem (by omega)⟩
  have ml := List.mem_of_getElem? hl
  have mr := List.mem_of_getElem? hr
  have tl := tot_mem ml
  have tr := tot_mem mr
  have hlB := v.tot
  have dl : l.dp < 16 := dp_of (N := N) (v.bal l ml) tl (by omega)
  have dr : r.dp < 16 := dp_of (N := N) (v.bal r mr) tr (by omega)
  have len1 : ∀ (f : Nd → D) (k : Nat) (K : Hs), K[k]? = some (.lst (N.map f)) → bltD .len false [.ref k] K = .ok (.int (N.length : Nat)) K := fun f k K e => by
    show (match anyOf K (.ref k) with | some xs => R.ok (.int xs.length) K | none => .bad) = _
    simp only [anyOf, seqOf, e, List.length_map]
  have ix : ∀ (f : Nd → D) (k i : Nat) (t : Nd) (K : Hs), K[k]? = some (.lst (N.map f)) → N[i]? = some t → idxD (.ref k) (.int (i : Nat)) K = .ok (f t) K := fun f k i t K e h => by
    unfold idxD
    simp only [e, g_nat, List.getElem?_map, h]; rfl
  have i1 := ix Nd.d 1 a l H v.nd hl
  have i2 := ix Nd.d 1 (a + 1) r H v.nd hr
  have ln := len1 Nd.d 1 H v.nd
  rw [show ((a + 1 : Nat) : Int) = (a : Nat) + 1 by omega] at i2
  -- the sum of all pieces
  have sp : N = N.take a ++ [l, r] ++ N.drop (a + 2) := by
    conv => lhs; rw [← List.take_append_drop a N]
    rw [List.append_assoc]
    congr 1
    have d1 : N.drop a = l :: N.drop (a + 1) := by
      obtain ⟨k, e⟩ := List.getElem?_eq_some_iff.mp hl
      rw [List.drop_eq_getElem_cons k, e]
    have d2 : N.drop (a + 1) = r :: N.drop (a + 2) := by
      obtain ⟨k, e⟩ := List.getElem?_eq_some_iff.mp hr
      rw [List.drop_eq_getElem_cons k, e]
    rw [d1, d2]; rfl
  have key : ∀ (t : Nd) (btw : List Pc), Bal t → t.pcs = l.pcs ++ btw ++ r.pcs → btw.length ≤ 1 → ∀ K : Hs, K[0]? = some (.lst (N.map rwN)) → K.length = H.length + 1 → K[1]? = some (.lst ((N.take a ++ [t] ++ N.drop (a + 2)).map Nd.d)) →
      ∃ H', (∀ s : Env, setsD (.ref (H.length + 1)) (.ref 0) (.int (a : Nat)) (.int ((a : Nat) + 2)) s (K ++ [.lst [rwN t]]) = .nx s H') ∧ Inv H' (N.take a ++ [t] ++ N.drop (a + 2)) (B + 1) ∧ H.length ≤ H'.length := fun t btw bt pt bl K k0 kl k1 => by
    have se := setsE (c := 0) (a := a) (ys := [rwN t]) k0 (by rw [List.length_map]; exact a2) (by rw [List.length_map, List.length_singleton]; omega)
    rw [map_mid, kl] at se
    refine ⟨_, se, ⟨?_, ?_, fun u mu => ?_, ?_⟩, by rw [List.length_set, List.length_append]; omega⟩
    · rw [List.getElem?_set_self (by rw [List.length_append]; omega)]
    · rw [List.getElem?_set_ne (by decide), List.getElem?_append_left ((List.getElem?_eq_some_iff.mp k1).1)]; exact k1
    · rcases List.mem_append.mp mu with mu | mu
      · rcases List.mem_append.mp mu with mu | mu
        · exact v.bal u (List.mem_of_mem_take mu)
        · rw [List.mem_singleton.mp mu]; exact bt
      · exact v.bal u (List.mem_of_mem_drop mu)
    · have e1 : totN N = totN (N.take a) + (l.pcs.length + r.pcs.length) + totN (N.drop (a + 2)) := by
        conv => lhs; rw [sp]
        unfold totN
        simp [List.sum_append]
        omega
      have e2 : totN (N.take a ++ [t] ++ N.drop (a + 2)) = totN (N.take a) + t.pcs.length + totN (N.drop (a + 2)) := by
        unfold totN
        simp [List.sum_append]
        omega
      have e3 : t.pcs.length = l.pcs.length + btw.length + r.pcs.length := by rw [pt, List.length_append, List.length_append]
      omega
  have nl' : ∀ t : Nd, (N.take a ++ [t] ++ N.drop (a + 2)).length + 1 = N.length ∧ (N.take a ++ [t] ++ N.drop (a + 2))[a]? = some t := fun t => by
    have tl : (N.take a).length = a := by rw [List.length_take]; omega
    refine ⟨by rw [List.length_append, List.length_append, tl, List.length_singleton, List.length_drop]; omega, ?_⟩
    rw [List.append_assoc, List.getElem?_append_right (by omega), tl, Nat.sub_self]; rfl
  have h1l := (List.getElem?_eq_some_iff.mp v.nd).1
  by_cases q : c % 3 = 2
  · obtain ⟨p, hp⟩ : ∃ p, p = pcK c 5 := ⟨_, rfl⟩
    have dp_ := fun h => d_lpiece (n + 57) c 5 (by decide) h
    rw [← hp] at dp_
    obtain ⟨t, ht⟩ : ∃ t, t = joinN l p r := ⟨_, rfl⟩
    have jn := d_joined (l := l) (r := r) (p := p) (n := n + 59) (h := H) (by omega)
    rw [← ht] at jn
    have bt : Bal t := by rw [ht]; exact join_bal (v.bal l ml) (v.bal r mr)
    have pt : t.pcs = l.pcs ++ [p] ++ r.pcs := by rw [ht, join_pcs (v.bal l ml) (v.bal r mr)]; simp
    have s1 := setsE (c := 1) (a := a) (ys := [t.d]) v.nd (by rw [List.length_map]; exact a2) (by rw [List.length_map, List.length_singleton]; omega)
    rw [map_mid] at s1
    obtain ⟨K, hK⟩ : ∃ K, K = (H ++ [O.lst [t.d]]).set 1 (.lst ((N.take a ++ [t] ++ N.drop (a + 2)).map Nd.d)) := ⟨_, rfl⟩
    rw [← hK] at s1
    have k0 : K[0]? = some (.lst (N.map rwN)) := by rw [hK, List.getElem?_set_ne (by decide), List.getElem?_append_left (by omega)]; exact v.rw_
    have k1 : K[1]? = some (.lst ((N.take a ++ [t] ++ N.drop (a + 2)).map Nd.d)) := by rw [hK, List.getElem?_set_self (by rw [List.length_append]; omega)]
    have kl : K.length = H.length + 1 := by rw [hK, List.length_set, List.length_append]; rfl
    obtain ⟨H', s2, v', hl'⟩ := key t [p] bt pt (by simp) K k0 kl k1
    have j1 := ix rwN 0 a l K k0 hl
    have j2 := ix rwN 0 (a + 1) r K k0 hr
    rw [show ((a + 1 : Nat) : Int) = (a : Nat) + 1 by omega] at j2
    have rt : rwN t = .lst (l.pcs.map Pc.d ++ [p.d] ++ r.pcs.map Pc.d) := by unfold rwN; rw [pt]; simp
    rw [rt] at s2
    have lz1 : (l.pcs.map Pc.d).length + 1 ≤ 16777216 := by rw [List.length_map]; omega
    have lz2 : (l.pcs.map Pc.d).length + ((r.pcs.map Pc.d).length + 1) ≤ 16777216 := by rw [List.length_map, List.length_map]; omega
    have lz3 : (l.pcs.map Pc.d).length + 1 + (r.pcs.map Pc.d).length ≤ 16777216 := by rw [List.length_map, List.length_map]; omega
    refine ⟨H', _, a, t, ?_, v', (nl' t).1, (nl' t).2, hl'⟩
    rw [go_law_one_more]
    show (execs P (run P (n + 59)) tb_law_one_more_0 _ H).fin = _
    have dp_H := dp_ H
    clear key sp ix len1 nl' dp_ hK k0 k1 rt v' v
    unfold rwN at j1 j2
    simp only [List.append_assoc, List.cons_append, List.nil_append] at s2
    generalize l.pcs.map Pc.d = LP at *
    generalize r.pcs.map Pc.d = RP at *
    generalize l.d = LD at *
    generalize r.d = RD at *
    generalize p.d = PD at *
    generalize t.d = TD at *
    generalize ((N.length : Nat) : Int) = NL at *
    simp [tb_law_one_more_0, tb_law_one_more_1, tb_law_one_more_2, tb_law_one_more_3, tb_law_one_more_4, tb_law_one_more_5, tb_law_one_more_6, xe_nop, xe_non, xe_bl, xe_int, xe_str, xe_var, xe_glob, xe_tup, xe_lst, xe_dct, xe_dtn, xe_dck, xe_bin, xe_neg, xe_cmp, xe_ch2, xe_ch3, xe_and, xe_or, xe_not, xe_ife, xe_idx, xe_sli, xe_rvs, xe_fld, xe_call, xe_meth, xe_new, xe_blt, xe_mth, xe_inst, xe_frz, xe_drop, xl_nil, xl_cons, xr_seq, xr_lst, lstR_l, xr_rg1, xr_rg2, xr_rg3, xr_enum, xr_zip, xr_rev, xs_asg, xs_setf, xs_seti, xs_sets, int_x, xs_exp, xs_ite, xs_ret, xs_retn, xs_rai, xs_try, tr_nx, tr_rt, xh_nil, so_some, so_none, xs_pas, xs_frz, xb_nil, xb_cons, b_ok, b_exc, b_bad, b2_ok, b2_exc, b2_bad, b3_ok, b3_exc, b3_bad, b4_ok, b4_exc, b4_bad, b5_tt, b5_ff, b5_exc, b6_ok, b6_exc, b6_bad, b7_tt, b7_ff, b7_exc, b8_nx, b8_rt, b8_ex, b8_bad, b9_nx, b9_rt, b9_ex, b10_ok, b10_exc, b11_ok, b11_exc, b12_ok, b12_exc, c_eq, or_s, or_n, c_ne, c_lt, c_le, c_gt, c_ge, c_in, c_nin, c_is, c_isn, c_isnon, c_isbl, c_isi, c_iss, c_ist, c_isl, c_isr, c_isb, e_ii, e_ss, e_bb, e_si, e_is, e_nn, e_ni, e_in, e_sn, e_ns, ok_some, ok_none, m_some, o_add, o_adds, o_addt, o_addl, o_sub, o_mul, o_muls, o_fdv, o_mod, o_pow, o_neg, o_not, k_tt, k_ff, i_tup, i_lst, i_scr, i_str, l_str, l_scr, l_tup, l_lst, l_intb, l_inti, l_min, l_max, l_abs, n_ib, n_ibl, n_is, n_il, n_it, n_ss, n_si, n_sb, n_sl, n_st, n_tt, n_tl, n_ts, n_ti, n_ll, n_lt, n_ls, n_bb, n_bi, a_nm, a_p, a_t, d_tt, d_ff, z_o, z_i, g_nat, g_0, g_1, g_2, g_last, q_appE, q_tyE, q_frz, seqR_str, seqR_tup, seqR_lst, isNop, SZ_d, sl_last, e_l0, n_in1, n_in2, d_ss, d_ii, d_si, d_is, f_s, f_i, anyEq, dr_i, dr_s, dr_b, dr_n, ln, gd, L1, L1', ea, i1, i2, q, dp_H, jn, s1, kl, j1, j2, lz1, lz2, lz3, s2]
  · obtain ⟨t, ht⟩ : ∃ t, t = metN l r := ⟨_, rfl⟩
    have jn := d_met (l := l) (r := r) (n := n + 59) (h := H) (v.bal l ml) (by omega)
    rw [← ht] at jn
    obtain ⟨bt, pt, _⟩ := met_ok (v.bal l ml) (v.bal r mr)
    rw [← ht] at bt pt
    have pt' : t.pcs = l.pcs ++ [] ++ r.pcs := by rw [pt]; simp
    have s1 := setsE (c := 1) (a := a) (ys := [t.d]) v.nd (by rw [List.length_map]; exact a2) (by rw [List.length_map, List.length_singleton]; omega)
    rw [map_mid] at s1
    obtain ⟨K, hK⟩ : ∃ K, K = (H ++ [O.lst [t.d]]).set 1 (.lst ((N.take a ++ [t] ++ N.drop (a + 2)).map Nd.d)) := ⟨_, rfl⟩
    rw [← hK] at s1
    have k0 : K[0]? = some (.lst (N.map rwN)) := by rw [hK, List.getElem?_set_ne (by decide), List.getElem?_append_left (by omega)]; exact v.rw_
    have k1 : K[1]? = some (.lst ((N.take a ++ [t] ++ N.drop (a + 2)).map Nd.d)) := by rw [hK, List.getElem?_set_self (by rw [List.length_append]; omega)]
    have kl : K.length = H.length + 1 := by rw [hK, List.length_set, List.length_append]; rfl
    obtain ⟨H', s2, v', hl'⟩ := key t [] bt pt' (by simp) K k0 kl k1
    have j1 := ix rwN 0 a l K k0 hl
    have j2 := ix rwN 0 (a + 1) r K k0 hr
    rw [show ((a + 1 : Nat) : Int) = (a : Nat) + 1 by omega] at j2
    have rt : rwN t = .lst (l.pcs.map Pc.d ++ r.pcs.map Pc.d) := by unfold rwN; rw [pt]; simp
    rw [rt] at s2
    have lz1 : (l.pcs.map Pc.d).length ≤ 16777216 := by rw [List.length_map]; omega
    have lz2 : (l.pcs.map Pc.d).length + (r.pcs.map Pc.d).length ≤ 16777216 := by rw [List.length_map, List.length_map]; omega
    refine ⟨H', _, a, t, ?_, v', (nl' t).1, (nl' t).2, hl'⟩
    rw [go_law_one_more]
    show (execs P (run P (n + 59)) tb_law_one_more_0 _ H).fin = _
    clear key sp ix len1 nl' hK k0 k1 rt v' v
    unfold rwN at j1 j2
    generalize l.pcs.map Pc.d = LP at *
    generalize r.pcs.map Pc.d = RP at *
    generalize l.d = LD at *
    generalize r.d = RD at *
    generalize t.d = TD at *
    generalize ((N.length : Nat) : Int) = NL at *
    simp [tb_law_one_more_0, tb_law_one_more_1, tb_law_one_more_2, tb_law_one_more_3, tb_law_one_more_4, tb_law_one_more_5, tb_law_one_more_6, xe_nop, xe_non, xe_bl, xe_int, xe_str, xe_var, xe_glob, xe_tup, xe_lst, xe_dct, xe_dtn, xe_dck, xe_bin, xe_neg, xe_cmp, xe_ch2, xe_ch3, xe_and, xe_or, xe_not, xe_ife, xe_idx, xe_sli, xe_rvs, xe_fld, xe_call, xe_meth, xe_new, xe_blt, xe_mth, xe_inst, xe_frz, xe_drop, xl_nil, xl_cons, xr_seq, xr_lst, lstR_l, xr_rg1, xr_rg2, xr_rg3, xr_enum, xr_zip, xr_rev, xs_asg, xs_setf, xs_seti, xs_sets, int_x, xs_exp, xs_ite, xs_ret, xs_retn, xs_rai, xs_try, tr_nx, tr_rt, xh_nil, so_some, so_none, xs_pas, xs_frz, xb_nil, xb_cons, b_ok, b_exc, b_bad, b2_ok, b2_exc, b2_bad, b3_ok, b3_exc, b3_bad, b4_ok, b4_exc, b4_bad, b5_tt, b5_ff, b5_exc, b6_ok, b6_exc, b6_bad, b7_tt, b7_ff, b7_exc, b8_nx, b8_rt, b8_ex, b8_bad, b9_nx, b9_rt, b9_ex, b10_ok, b10_exc, b11_ok, b11_exc, b12_ok, b12_exc, c_eq, or_s, or_n, c_ne, c_lt, c_le, c_gt, c_ge, c_in, c_nin, c_is, c_isn, c_isnon, c_isbl, c_isi, c_iss, c_ist, c_isl, c_isr, c_isb, e_ii, e_ss, e_bb, e_si, e_is, e_nn, e_ni, e_in, e_sn, e_ns, ok_some, ok_none, m_some, o_add, o_adds, o_addt, o_addl, o_sub, o_mul, o_muls, o_fdv, o_mod, o_pow, o_neg, o_not, k_tt, k_ff, i_tup, i_lst, i_scr, i_str, l_str, l_scr, l_tup, l_lst, l_intb, l_inti, l_min, l_max, l_abs, n_ib, n_ibl, n_is, n_il, n_it, n_ss, n_si, n_sb, n_sl, n_st, n_tt, n_tl, n_ts, n_ti, n_ll, n_lt, n_ls, n_bb, n_bi, a_nm, a_p, a_t, d_tt, d_ff, z_o, z_i, g_nat, g_0, g_1, g_2, g_last, q_appE, q_tyE, q_frz, seqR_str, seqR_tup, seqR_lst, isNop, SZ_d, sl_last, e_l0, n_in1, n_in2, d_ss, d_ii, d_si, d_is, f_s, f_i, anyEq, dr_i, dr_s, dr_b, dr_n, ln, gd, L1, L1', ea, i1, i2, q, jn, s1, kl, j1, j2, lz1, lz2, s2]
theorem met_e : metN .e .e = .e := rfl
theorem tot_one : ∀ {N : List Nd}, (∀ t ∈ N, t.pcs.length = 1) → totN N = N.length
  | [], _ => rfl
  | a :: N, h => by
    have ih := tot_one (N := N) fun t m => h t (List.mem_cons_of_mem _ m)
    have ha := h a (List.mem_cons_self ..)
    unfold totN at ih ⊢
    rw [List.map_cons, List.sum_cons, ih, ha, List.length_cons]; omega
theorem law_true (ns : List Int) (hns : ns.length ≤ 63) : ∃ h', run P 100 id_law [.scr ns] [] = .ok (.bl true) h' := by
  have cc := fun k i h e => c_cellM 98 ns k i h e
  have c0 := fun h => c_cellM 97 ns 0 0 h rfl
  -- how many
  obtain ⟨z, hz, ez⟩ : ∃ z : Nat, z ≤ 90 ∧ ∀ h, dropH h (run P 99 id_law_many [.scr ns] h) = .ok (.int (z : Nat)) h := by
    obtain ⟨c, hc⟩ : ∃ c, c = cell ns 0 := ⟨_, rfl⟩
    rw [← hc] at c0
    have key : ∀ v : Int, 0 ≤ v → v ≤ 90 → (∀ h, run P 99 id_law_many [.scr ns] h = .ok (.int v) h) → ∃ z : Nat, z ≤ 90 ∧ ∀ h, dropH h (run P 99 id_law_many [.scr ns] h) = .ok (.int (z : Nat)) h := fun v v0 v1 e => by
      obtain ⟨z, rfl⟩ := Int.eq_ofNat_of_zero_le v0
      exact ⟨z, by omega, fun h => by rw [e]; exact drop_same rfl⟩
    by_cases q1 : c / 13 % 6 = 1
    · refine key (13 + c / 78 % 28) (by omega) (by omega) fun h => ?_
      rw [go_law_many]
      show (execs P (run P 98) tb_law_many_0 _ h).fin = _
      simp [tb_law_many_0, tb_law_many_1, xe_nop, xe_non, xe_bl, xe_int, xe_str, xe_var, xe_glob, xe_tup, xe_lst, xe_dct, xe_dtn, xe_dck, xe_bin, xe_neg, xe_cmp, xe_ch2, xe_ch3, xe_and, xe_or, xe_not, xe_ife, xe_idx, xe_sli, xe_rvs, xe_fld, xe_call, xe_meth, xe_new, xe_blt, xe_mth, xe_inst, xe_frz, xe_drop, xl_nil, xl_cons, xr_seq, xr_lst, lstR_l, xr_rg1, xr_rg2, xr_rg3, xr_enum, xr_zip, xr_rev, xs_asg, xs_setf, xs_seti, xs_sets, int_x, xs_exp, xs_ite, xs_ret, xs_retn, xs_rai, xs_try, tr_nx, tr_rt, xh_nil, so_some, so_none, xs_pas, xs_frz, xb_nil, xb_cons, b_ok, b_exc, b_bad, b2_ok, b2_exc, b2_bad, b3_ok, b3_exc, b3_bad, b4_ok, b4_exc, b4_bad, b5_tt, b5_ff, b5_exc, b6_ok, b6_exc, b6_bad, b7_tt, b7_ff, b7_exc, b8_nx, b8_rt, b8_ex, b8_bad, b9_nx, b9_rt, b9_ex, b10_ok, b10_exc, b11_ok, b11_exc, b12_ok, b12_exc, c_eq, or_s, or_n, c_ne, c_lt, c_le, c_gt, c_ge, c_in, c_nin, c_is, c_isn, c_isnon, c_isbl, c_isi, c_iss, c_ist, c_isl, c_isr, c_isb, e_ii, e_ss, e_bb, e_si, e_is, e_nn, e_ni, e_in, e_sn, e_ns, ok_some, ok_none, m_some, o_add, o_adds, o_addt, o_addl, o_sub, o_mul, o_muls, o_fdv, o_mod, o_pow, o_neg, o_not, k_tt, k_ff, i_tup, i_lst, i_scr, i_str, l_str, l_scr, l_tup, l_lst, l_intb, l_inti, l_min, l_max, l_abs, n_ib, n_ibl, n_is, n_il, n_it, n_ss, n_si, n_sb, n_sl, n_st, n_tt, n_tl, n_ts, n_ti, n_ll, n_lt, n_ls, n_bb, n_bi, a_nm, a_p, a_t, d_tt, d_ff, z_o, z_i, g_nat, g_0, g_1, g_2, g_last, q_appE, q_tyE, q_frz, seqR_str, seqR_tup, seqR_lst, isNop, SZ_d, sl_last, e_l0, n_in1, n_in2, d_ss, d_ii, d_si, d_is, f_s, f_i, anyEq, dr_i, dr_s, dr_b, dr_n, c0, q1]
    · by_cases q2 : c / 13 % 20 = 2
      · refine key (41 + c / 260 % 50) (by omega) (by omega) fun h => ?_
        rw [go_law_many]
        show (execs P (run P 98) tb_law_many_0 _ h).fin = _
        simp [tb_law_many_0, tb_law_many_1, tb_law_many_2, xe_nop, xe_non, xe_bl, xe_int, xe_str, xe_var, xe_glob, xe_tup, xe_lst, xe_dct, xe_dtn, xe_dck, xe_bin, xe_neg, xe_cmp, xe_ch2, xe_ch3, xe_and, xe_or, xe_not, xe_ife, xe_idx, xe_sli, xe_rvs, xe_fld, xe_call, xe_meth, xe_new, xe_blt, xe_mth, xe_inst, xe_frz, xe_drop, xl_nil, xl_cons, xr_seq, xr_lst, lstR_l, xr_rg1, xr_rg2, xr_rg3, xr_enum, xr_zip, xr_rev, xs_asg, xs_setf, xs_seti, xs_sets, int_x, xs_exp, xs_ite, xs_ret, xs_retn, xs_rai, xs_try, tr_nx, tr_rt, xh_nil, so_some, so_none, xs_pas, xs_frz, xb_nil, xb_cons, b_ok, b_exc, b_bad, b2_ok, b2_exc, b2_bad, b3_ok, b3_exc, b3_bad, b4_ok, b4_exc, b4_bad, b5_tt, b5_ff, b5_exc, b6_ok, b6_exc, b6_bad, b7_tt, b7_ff, b7_exc, b8_nx, b8_rt, b8_ex, b8_bad, b9_nx, b9_rt, b9_ex, b10_ok, b10_exc, b11_ok, b11_exc, b12_ok, b12_exc, c_eq, or_s, or_n, c_ne, c_lt, c_le, c_gt, c_ge, c_in, c_nin, c_is, c_isn, c_isnon, c_isbl, c_isi, c_iss, c_ist, c_isl, c_isr, c_isb, e_ii, e_ss, e_bb, e_si, e_is, e_nn, e_ni, e_in, e_sn, e_ns, ok_some, ok_none, m_some, o_add, o_adds, o_addt, o_addl, o_sub, o_mul, o_muls, o_fdv, o_mod, o_pow, o_neg, o_not, k_tt, k_ff, i_tup, i_lst, i_scr, i_str, l_str, l_scr, l_tup, l_lst, l_intb, l_inti, l_min, l_max, l_abs, n_ib, n_ibl, n_is, n_il, n_it, n_ss, n_si, n_sb, n_sl, n_st, n_tt, n_tl, n_ts, n_ti, n_ll, n_lt, n_ls, n_bb, n_bi, a_nm, a_p, a_t, d_tt, d_ff, z_o, z_i, g_nat, g_0, g_1, g_2, g_last, q_appE, q_tyE, q_frz, seqR_str, seqR_tup, seqR_lst, isNop, SZ_d, sl_last, e_l0, n_in1, n_in2, d_ss, d_ii, d_si, d_is, f_s, f_i, anyEq, dr_i, dr_s, dr_b, dr_n, c0, q1, q2]
      · refine key (c % 13) (by omega) (by omega) fun h => ?_
        rw [go_law_many]
        show (execs P (run P 98) tb_law_many_0 _ h).fin = _
        simp [tb_law_many_0, tb_law_many_1, tb_law_many_2, tb_law_many_3, xe_nop, xe_non, xe_bl, xe_int, xe_str, xe_var, xe_glob, xe_tup, xe_lst, xe_dct, xe_dtn, xe_dck, xe_bin, xe_neg, xe_cmp, xe_ch2, xe_ch3, xe_and, xe_or, xe_not, xe_ife, xe_idx, xe_sli, xe_rvs, xe_fld, xe_call, xe_meth, xe_new, xe_blt, xe_mth, xe_inst, xe_frz, xe_drop, xl_nil, xl_cons, xr_seq, xr_lst, lstR_l, xr_rg1, xr_rg2, xr_rg3, xr_enum, xr_zip, xr_rev, xs_asg, xs_setf, xs_seti, xs_sets, int_x, xs_exp, xs_ite, xs_ret, xs_retn, xs_rai, xs_try, tr_nx, tr_rt, xh_nil, so_some, so_none, xs_pas, xs_frz, xb_nil, xb_cons, b_ok, b_exc, b_bad, b2_ok, b2_exc, b2_bad, b3_ok, b3_exc, b3_bad, b4_ok, b4_exc, b4_bad, b5_tt, b5_ff, b5_exc, b6_ok, b6_exc, b6_bad, b7_tt, b7_ff, b7_exc, b8_nx, b8_rt, b8_ex, b8_bad, b9_nx, b9_rt, b9_ex, b10_ok, b10_exc, b11_ok, b11_exc, b12_ok, b12_exc, c_eq, or_s, or_n, c_ne, c_lt, c_le, c_gt, c_ge, c_in, c_nin, c_is, c_isn, c_isnon, c_isbl, c_isi, c_iss, c_ist, c_isl, c_isr, c_isb, e_ii, e_ss, e_bb, e_si, e_is, e_nn, e_ni, e_in, e_sn, e_ns, ok_some, ok_none, m_some, o_add, o_adds, o_addt, o_addl, o_sub, o_mul, o_muls, o_fdv, o_mod, o_pow, o_neg, o_not, k_tt, k_ff, i_tup, i_lst, i_scr, i_str, l_str, l_scr, l_tup, l_lst, l_intb, l_inti, l_min, l_max, l_abs, n_ib, n_ibl, n_is, n_il, n_it, n_ss, n_si, n_sb, n_sl, n_st, n_tt, n_tl, n_ts, n_ti, n_ll, n_lt, n_ls, n_bb, n_bi, a_nm, a_p, a_t, d_tt, d_ff, z_o, z_i, g_nat, g_0, g_1, g_2, g_last, q_appE, q_tyE, q_frz, seqR_str, seqR_tup, seqR_lst, isNop, SZ_d, sl_last, e_l0, n_in1, n_in2, d_ss, d_ii, d_si, d_is, f_s, f_i, anyEq, dr_i, dr_s, dr_b, dr_n, c0, q1, q2]
  have ez0 := ez []
  obtain ⟨c, hc⟩ : ∃ c, c = cell ns 1 := ⟨_, rfl⟩
  have c1 := fun h => c_cellM 98 ns 1 1 h rfl
  rw [← hc] at c1
  obtain ⟨N0, hN0⟩ : ∃ N0 : List Nd, N0 = (List.range z).map fun k => .n .e (pcK c (k : Nat)) .e := ⟨_, rfl⟩
  have l0 : N0.length = z := by rw [hN0, List.length_map, List.length_range]
  have b0 : ∀ t ∈ N0, Bal t ∧ t.pcs.length = 1 := fun t m => by
    rw [hN0] at m
    obtain ⟨k, _, rfl⟩ := List.mem_map.mp m
    exact ⟨by simp [Bal, Nd.ht], by simp [Nd.pcs]⟩
  have t0 : totN N0 = z := by rw [tot_one fun t m => (b0 t m).2, l0]
  have hr0 : rg1R (.int ((z : Nat) : Int)) [] = .ok ((List.range z).map fun k => .int (k : Nat)) [] [] := rg1_ok rfl (by omega)
  have cm0 := comp_map (enc := fun k : Nat => D.int (k : Nat)) (elt := ev P (run P 99) le_law_0) (cond := ev P (run P 99) lq_law_0) (t := .nm 3) (l := []) (s := [some (.scr ns), some (.int (z : Nat)), none, none, none, none, none, none, none, none, none, none]) (h := []) (g := fun k : Nat => D.lst [(pcK c (k : Nat)).d]) lk_nil (List.range z)
    (fun k m => by
      have kb := List.mem_range.mp m
      have pc := d_lpiece 97 c (k : Nat) (by omega) []
      refine ⟨[some (.scr ns), some (.int (z : Nat)), none, some (.int (k : Nat)), none, none, none, none, none, none, none, none], by simp [a_p], by simp [lq_law_0, xe_nop, xe_non, xe_bl, xe_int, xe_str, xe_var, xe_glob, xe_tup, xe_lst, xe_dct, xe_dtn, xe_dck, xe_bin, xe_neg, xe_cmp, xe_ch2, xe_ch3, xe_and, xe_or, xe_not, xe_ife, xe_idx, xe_sli, xe_rvs, xe_fld, xe_call, xe_meth, xe_new, xe_blt, xe_mth, xe_inst, xe_frz, xe_drop, xl_nil, xl_cons, xr_seq, xr_lst, lstR_l, xr_rg1, xr_rg2, xr_rg3, xr_enum, xr_zip, xr_rev, xs_asg, xs_setf, xs_seti, xs_sets, int_x, xs_exp, xs_ite, xs_ret, xs_retn, xs_rai, xs_try, tr_nx, tr_rt, xh_nil, so_some, so_none, xs_pas, xs_frz, xb_nil, xb_cons, b_ok, b_exc, b_bad, b2_ok, b2_exc, b2_bad, b3_ok, b3_exc, b3_bad, b4_ok, b4_exc, b4_bad, b5_tt, b5_ff, b5_exc, b6_ok, b6_exc, b6_bad, b7_tt, b7_ff, b7_exc, b8_nx, b8_rt, b8_ex, b8_bad, b9_nx, b9_rt, b9_ex, b10_ok, b10_exc, b11_ok, b11_exc, b12_ok, b12_exc, c_eq, or_s, or_n, c_ne, c_lt, c_le, c_gt, c_ge, c_in, c_nin, c_is, c_isn, c_isnon, c_isbl, c_isi, c_iss, c_ist, c_isl, c_isr, c_isb, e_ii, e_ss, e_bb, e_si, e_is, e_nn, e_ni, e_in, e_sn, e_ns, ok_some, ok_none, m_some, o_add, o_adds, o_addt, o_addl, o_sub, o_mul, o_muls, o_fdv, o_mod, o_pow, o_neg, o_not, k_tt, k_ff, i_tup, i_lst, i_scr, i_str, l_str, l_scr, l_tup, l_lst, l_intb, l_inti, l_min, l_max, l_abs, n_ib, n_ibl, n_is, n_il, n_it, n_ss, n_si, n_sb, n_sl, n_st, n_tt, n_tl, n_ts, n_ti, n_ll, n_lt, n_ls, n_bb, n_bi, a_nm, a_p, a_t, d_tt, d_ff, z_o, z_i, g_nat, g_0, g_1, g_2, g_last, q_appE, q_tyE, q_frz, seqR_str, seqR_tup, seqR_lst, isNop, SZ_d, sl_last, e_l0, n_in1, n_in2, d_ss, d_ii, d_si, d_is, f_s, f_i, anyEq, dr_i, dr_s, dr_b, dr_n], ?_⟩
      generalize (pcK c (k : Nat)).d = PD at *
      simp [le_law_0, xe_nop, xe_non, xe_bl, xe_int, xe_str, xe_var, xe_glob, xe_tup, xe_lst, xe_dct, xe_dtn, xe_dck, xe_bin, xe_neg, xe_cmp, xe_ch2, xe_ch3, xe_and, xe_or, xe_not, xe_ife, xe_idx, xe_sli, xe_rvs, xe_fld, xe_call, xe_meth, xe_new, xe_blt, xe_mth, xe_inst, xe_frz, xe_drop, xl_nil, xl_cons, xr_seq, xr_lst, lstR_l, xr_rg1, xr_rg2, xr_rg3, xr_enum, xr_zip, xr_rev, xs_asg, xs_setf, xs_seti, xs_sets, int_x, xs_exp, xs_ite, xs_ret, xs_retn, xs_rai, xs_try, tr_nx, tr_rt, xh_nil, so_some, so_none, xs_pas, xs_frz, xb_nil, xb_cons, b_ok, b_exc, b_bad, b2_ok, b2_exc, b2_bad, b3_ok, b3_exc, b3_bad, b4_ok, b4_exc, b4_bad, b5_tt, b5_ff, b5_exc, b6_ok, b6_exc, b6_bad, b7_tt, b7_ff, b7_exc, b8_nx, b8_rt, b8_ex, b8_bad, b9_nx, b9_rt, b9_ex, b10_ok, b10_exc, b11_ok, b11_exc, b12_ok, b12_exc, c_eq, or_s, or_n, c_ne, c_lt, c_le, c_gt, c_ge, c_in, c_nin, c_is, c_isn, c_isnon, c_isbl, c_isi, c_iss, c_ist, c_isl, c_isr, c_isb, e_ii, e_ss, e_bb, e_si, e_is, e_nn, e_ni, e_in, e_sn, e_ns, ok_some, ok_none, m_some, o_add, o_adds, o_addt, o_addl, o_sub, o_mul, o_muls, o_fdv, o_mod, o_pow, o_neg, o_not, k_tt, k_ff, i_tup, i_lst, i_scr, i_str, l_str, l_scr, l_tup, l_lst, l_intb, l_inti, l_min, l_max, l_abs, n_ib, n_ibl, n_is, n_il, n_it, n_ss, n_si, n_sb, n_sl, n_st, n_tt, n_tl, n_ts, n_ti, n_ll, n_lt, n_ls, n_bb, n_bi, a_nm, a_p, a_t, d_tt, d_ff, z_o, z_i, g_nat, g_0, g_1, g_2, g_last, q_appE, q_tyE, q_frz, seqR_str, seqR_tup, seqR_lst, isNop, SZ_d, sl_last, e_l0, n_in1, n_in2, d_ss, d_ii, d_si, d_is, f_s, f_i, anyEq, dr_i, dr_s, dr_b, dr_n, c1, pc]) (by rw [List.length_range, SZ_d]; omega)
  have er : ((List.range z).map fun k : Nat => D.lst [(pcK c (k : Nat)).d]) = N0.map rwN := by
    rw [hN0, List.map_map]; rfl
  rw [er] at cm0
  obtain ⟨H1, hH1⟩ : ∃ H1 : Hs, H1 = [.lst (N0.map rwN)] := ⟨_, rfl⟩
  have q1 : seqOf H1 (.ref 0) = some (N0.map rwN) := by rw [hH1]; rfl
  have sr1 := seqR_list q1
  have lk1 := lk_of (g := []) q1
  rw [List.append_nil] at lk1
  have cm1 := comp_map (enc := rwN) (elt := ev P (run P 99) le_law_1) (cond := ev P (run P 99) lq_law_1) (t := .nm 5) (l := lkOf (.ref 0) (N0.map rwN)) (s := [some (.scr ns), some (.int (z : Nat)), some (.ref 0), none, none, none, none, none, none, none, none, none]) (h := H1) (g := Nd.d) lk1 N0
    (fun t m => by
      have m' := m
      rw [hN0] at m'
      obtain ⟨k, _, rfl⟩ := List.mem_map.mp m'
      obtain ⟨p, hp⟩ : ∃ p, p = pcK c (k : Nat) := ⟨_, rfl⟩
      rw [← hp]
      have jn := d_joined (l := .e) (r := .e) (p := p) (n := 99) (h := H1) (by simp [Nd.dp])
      have je : joinN .e p .e = .n .e p .e := by rw [join_eq]; simp [Nd.ht]
      rw [je, nd_e] at jn
      have rt : rwN (.n .e p .e) = .lst [p.d] := rfl
      refine ⟨[some (.scr ns), some (.int (z : Nat)), some (.ref 0), none, none, some (rwN (.n .e p .e)), none, none, none, none, none, none], by simp [a_p], by simp [lq_law_1, xe_nop, xe_non, xe_bl, xe_int, xe_str, xe_var, xe_glob, xe_tup, xe_lst, xe_dct, xe_dtn, xe_dck, xe_bin, xe_neg, xe_cmp, xe_ch2, xe_ch3, xe_and, xe_or, xe_not, xe_ife, xe_idx, xe_sli, xe_rvs, xe_fld, xe_call, xe_meth, xe_new, xe_blt, xe_mth, xe_inst, xe_frz, xe_drop, xl_nil, xl_cons, xr_seq, xr_lst, lstR_l, xr_rg1, xr_rg2, xr_rg3, xr_enum, xr_zip, xr_rev, xs_asg, xs_setf, xs_seti, xs_sets, int_x, xs_exp, xs_ite, xs_ret, xs_retn, xs_rai, xs_try, tr_nx, tr_rt, xh_nil, so_some, so_none, xs_pas, xs_frz, xb_nil, xb_cons, b_ok, b_exc, b_bad, b2_ok, b2_exc, b2_bad, b3_ok, b3_exc, b3_bad, b4_ok, b4_exc, b4_bad, b5_tt, b5_ff, b5_exc, b6_ok, b6_exc, b6_bad, b7_tt, b7_ff, b7_exc, b8_nx, b8_rt, b8_ex, b8_bad, b9_nx, b9_rt, b9_ex, b10_ok, b10_exc, b11_ok, b11_exc, b12_ok, b12_exc, c_eq, or_s, or_n, c_ne, c_lt, c_le, c_gt, c_ge, c_in, c_nin, c_is, c_isn, c_isnon, c_isbl, c_isi, c_iss, c_ist, c_isl, c_isr, c_isb, e_ii, e_ss, e_bb, e_si, e_is, e_nn, e_ni, e_in, e_sn, e_ns, ok_some, ok_none, m_some, o_add, o_adds, o_addt, o_addl, o_sub, o_mul, o_muls, o_fdv, o_mod, o_pow, o_neg, o_not, k_tt, k_ff, i_tup, i_lst, i_scr, i_str, l_str, l_scr, l_tup, l_lst, l_intb, l_inti, l_min, l_max, l_abs, n_ib, n_ibl, n_is, n_il, n_it, n_ss, n_si, n_sb, n_sl, n_st, n_tt, n_tl, n_ts, n_ti, n_ll, n_lt, n_ls, n_bb, n_bi, a_nm, a_p, a_t, d_tt, d_ff, z_o, z_i, g_nat, g_0, g_1, g_2, g_last, q_appE, q_tyE, q_frz, seqR_str, seqR_tup, seqR_lst, isNop, SZ_d, sl_last, e_l0, n_in1, n_in2, d_ss, d_ii, d_si, d_is, f_s, f_i, anyEq, dr_i, dr_s, dr_b, dr_n], ?_⟩
      rw [rt]
      generalize (Nd.n .e p .e).d = TD at *
      generalize p.d = PD at *
      simp [le_law_1, xe_nop, xe_non, xe_bl, xe_int, xe_str, xe_var, xe_glob, xe_tup, xe_lst, xe_dct, xe_dtn, xe_dck, xe_bin, xe_neg, xe_cmp, xe_ch2, xe_ch3, xe_and, xe_or, xe_not, xe_ife, xe_idx, xe_sli, xe_rvs, xe_fld, xe_call, xe_meth, xe_new, xe_blt, xe_mth, xe_inst, xe_frz, xe_drop, xl_nil, xl_cons, xr_seq, xr_lst, lstR_l, xr_rg1, xr_rg2, xr_rg3, xr_enum, xr_zip, xr_rev, xs_asg, xs_setf, xs_seti, xs_sets, int_x, xs_exp, xs_ite, xs_ret, xs_retn, xs_rai, xs_try, tr_nx, tr_rt, xh_nil, so_some, so_none, xs_pas, xs_frz, xb_nil, xb_cons, b_ok, b_exc, b_bad, b2_ok, b2_exc, b2_bad, b3_ok, b3_exc, b3_bad, b4_ok, b4_exc, b4_bad, b5_tt, b5_ff, b5_exc, b6_ok, b6_exc, b6_bad, b7_tt, b7_ff, b7_exc, b8_nx, b8_rt, b8_ex, b8_bad, b9_nx, b9_rt, b9_ex, b10_ok, b10_exc, b11_ok, b11_exc, b12_ok, b12_exc, c_eq, or_s, or_n, c_ne, c_lt, c_le, c_gt, c_ge, c_in, c_nin, c_is, c_isn, c_isnon, c_isbl, c_isi, c_iss, c_ist, c_isl, c_isr, c_isb, e_ii, e_ss, e_bb, e_si, e_is, e_nn, e_ni, e_in, e_sn, e_ns, ok_some, ok_none, m_some, o_add, o_adds, o_addt, o_addl, o_sub, o_mul, o_muls, o_fdv, o_mod, o_pow, o_neg, o_not, k_tt, k_ff, i_tup, i_lst, i_scr, i_str, l_str, l_scr, l_tup, l_lst, l_intb, l_inti, l_min, l_max, l_abs, n_ib, n_ibl, n_is, n_il, n_it, n_ss, n_si, n_sb, n_sl, n_st, n_tt, n_tl, n_ts, n_ti, n_ll, n_lt, n_ls, n_bb, n_bi, a_nm, a_p, a_t, d_tt, d_ff, z_o, z_i, g_nat, g_0, g_1, g_2, g_last, q_appE, q_tyE, q_frz, seqR_str, seqR_tup, seqR_lst, isNop, SZ_d, sl_last, e_l0, n_in1, n_in2, d_ss, d_ii, d_si, d_is, f_s, f_i, anyEq, dr_i, dr_s, dr_b, dr_n, jn]) (by rw [SZ_d]; omega)
  obtain ⟨H2, hH2⟩ : ∃ H2 : Hs, H2 = [.lst (N0.map rwN), .lst (N0.map Nd.d)] := ⟨_, rfl⟩
  have H12 : H1 ++ [.lst (N0.map Nd.d)] = H2 := by rw [hH1, hH2]; rfl
  have v0 : Inv H2 N0 (z + 0) := ⟨by rw [hH2]; rfl, by rw [hH2]; rfl, fun t m => (b0 t m).1, by rw [t0]; omega⟩
  have sm0 := d_lsame 79 .e (by simp [Bal]) (by simp [Nd.dp]) (by simp [Nd.pcs]) H2
  rw [nd_e, show rwN .e = .lst [] from rfl] at sm0
  have mt0 := d_met (l := .e) (r := .e) (n := 99) (h := H2) (by simp [Bal]) (by simp [Nd.dp])
  rw [met_e, nd_e] at mt0
  have kp : bltD .list false [.ref 1] H2 = .ok (.lst (N0.map Nd.d)) H2 := by
    have : lstOf H2 (.ref 1) = some (N0.map Nd.d) := by simp only [lstOf, v0.nd]
    show (match lstOf H2 (.ref 1) with | some xs => mkL false xs H2 | none => .bad) = _
    rw [this]; rfl
  have q2 : seqOf H2 (.ref 0) = some (N0.map rwN) := by simp only [seqOf, v0.rw_]
  have sr2 := seqR_list q2
  have lk2 := lk_of (g := []) q2
  rw [List.append_nil] at lk2
  have cm2 := comp_map (enc := rwN) (elt := ev P (run P 99) le_law_2) (cond := ev P (run P 99) lq_law_2) (t := .nm 5) (l := lkOf (.ref 0) (N0.map rwN)) (s := [some (.scr ns), some (.int (z : Nat)), some (.ref 0), none, some (.ref 1), none, some (.lst (N0.map Nd.d)), none, none, none, none, none]) (h := H2) (g := rwN) lk2 N0
    (fun t m => by
      have bl : bltD .list false [rwN t] H2 = .ok (rwN t) H2 := rfl
      refine ⟨[some (.scr ns), some (.int (z : Nat)), some (.ref 0), none, some (.ref 1), some (rwN t), some (.lst (N0.map Nd.d)), none, none, none, none, none], by simp [a_p], by simp [lq_law_2, xe_nop, xe_non, xe_bl, xe_int, xe_str, xe_var, xe_glob, xe_tup, xe_lst, xe_dct, xe_dtn, xe_dck, xe_bin, xe_neg, xe_cmp, xe_ch2, xe_ch3, xe_and, xe_or, xe_not, xe_ife, xe_idx, xe_sli, xe_rvs, xe_fld, xe_call, xe_meth, xe_new, xe_blt, xe_mth, xe_inst, xe_frz, xe_drop, xl_nil, xl_cons, xr_seq, xr_lst, lstR_l, xr_rg1, xr_rg2, xr_rg3, xr_enum, xr_zip, xr_rev, xs_asg, xs_setf, xs_seti, xs_sets, int_x, xs_exp, xs_ite, xs_ret, xs_retn, xs_rai, xs_try, tr_nx, tr_rt, xh_nil, so_some, so_none, xs_pas, xs_frz, xb_nil, xb_cons, b_ok, b_exc, b_bad, b2_ok, b2_exc, b2_bad, b3_ok, b3_exc, b3_bad, b4_ok, b4_exc, b4_bad, b5_tt, b5_ff, b5_exc, b6_ok, b6_exc, b6_bad, b7_tt, b7_ff, b7_exc, b8_nx, b8_rt, b8_ex, b8_bad, b9_nx, b9_rt, b9_ex, b10_ok, b10_exc, b11_ok, b11_exc, b12_ok, b12_exc, c_eq, or_s, or_n, c_ne, c_lt, c_le, c_gt, c_ge, c_in, c_nin, c_is, c_isn, c_isnon, c_isbl, c_isi, c_iss, c_ist, c_isl, c_isr, c_isb, e_ii, e_ss, e_bb, e_si, e_is, e_nn, e_ni, e_in, e_sn, e_ns, ok_some, ok_none, m_some, o_add, o_adds, o_addt, o_addl, o_sub, o_mul, o_muls, o_fdv, o_mod, o_pow, o_neg, o_not, k_tt, k_ff, i_tup, i_lst, i_scr, i_str, l_str, l_scr, l_tup, l_lst, l_intb, l_inti, l_min, l_max, l_abs, n_ib, n_ibl, n_is, n_il, n_it, n_ss, n_si, n_sb, n_sl, n_st, n_tt, n_tl, n_ts, n_ti, n_ll, n_lt, n_ls, n_bb, n_bi, a_nm, a_p, a_t, d_tt, d_ff, z_o, z_i, g_nat, g_0, g_1, g_2, g_last, q_appE, q_tyE, q_frz, seqR_str, seqR_tup, seqR_lst, isNop, SZ_d, sl_last, e_l0, n_in1, n_in2, d_ss, d_ii, d_si, d_is, f_s, f_i, anyEq, dr_i, dr_s, dr_b, dr_n], ?_⟩
      generalize rwN t = RT at *
      simp [le_law_2, xe_nop, xe_non, xe_bl, xe_int, xe_str, xe_var, xe_glob, xe_tup, xe_lst, xe_dct, xe_dtn, xe_dck, xe_bin, xe_neg, xe_cmp, xe_ch2, xe_ch3, xe_and, xe_or, xe_not, xe_ife, xe_idx, xe_sli, xe_rvs, xe_fld, xe_call, xe_meth, xe_new, xe_blt, xe_mth, xe_inst, xe_frz, xe_drop, xl_nil, xl_cons, xr_seq, xr_lst, lstR_l, xr_rg1, xr_rg2, xr_rg3, xr_enum, xr_zip, xr_rev, xs_asg, xs_setf, xs_seti, xs_sets, int_x, xs_exp, xs_ite, xs_ret, xs_retn, xs_rai, xs_try, tr_nx, tr_rt, xh_nil, so_some, so_none, xs_pas, xs_frz, xb_nil, xb_cons, b_ok, b_exc, b_bad, b2_ok, b2_exc, b2_bad, b3_ok, b3_exc, b3_bad, b4_ok, b4_exc, b4_bad, b5_tt, b5_ff, b5_exc, b6_ok, b6_exc, b6_bad, b7_tt, b7_ff, b7_exc, b8_nx, b8_rt, b8_ex, b8_bad, b9_nx, b9_rt, b9_ex, b10_ok, b10_exc, b11_ok, b11_exc, b12_ok, b12_exc, c_eq, or_s, or_n, c_ne, c_lt, c_le, c_gt, c_ge, c_in, c_nin, c_is, c_isn, c_isnon, c_isbl, c_isi, c_iss, c_ist, c_isl, c_isr, c_isb, e_ii, e_ss, e_bb, e_si, e_is, e_nn, e_ni, e_in, e_sn, e_ns, ok_some, ok_none, m_some, o_add, o_adds, o_addt, o_addl, o_sub, o_mul, o_muls, o_fdv, o_mod, o_pow, o_neg, o_not, k_tt, k_ff, i_tup, i_lst, i_scr, i_str, l_str, l_scr, l_tup, l_lst, l_intb, l_inti, l_min, l_max, l_abs, n_ib, n_ibl, n_is, n_il, n_it, n_ss, n_si, n_sb, n_sl, n_st, n_tt, n_tl, n_ts, n_ti, n_ll, n_lt, n_ls, n_bb, n_bi, a_nm, a_p, a_t, d_tt, d_ff, z_o, z_i, g_nat, g_0, g_1, g_2, g_last, q_appE, q_tyE, q_frz, seqR_str, seqR_tup, seqR_lst, isNop, SZ_d, sl_last, e_l0, n_in1, n_in2, d_ss, d_ii, d_si, d_is, f_s, f_i, anyEq, dr_i, dr_s, dr_b, dr_n, bl]) (by rw [SZ_d]; omega)
  -- the turns
  have W := whl_run (c := ev P (run P 99) lc_law_3) (b := execs P (run P 99) lb_law_3)
    (S := fun m s h => ∃ N turn x9 x10, m = N.length ∧ N.length + turn = z ∧ (z = 0 ∨ 1 ≤ N.length) ∧ Inv h N (z + turn) ∧ s = [some (.scr ns), some (.int (z : Nat)), some (.ref 0), none, some (.ref 1), none, some (.lst (N0.map Nd.d)), some (.lst (N0.map rwN)), some (.int (turn : Nat)), x9, x10, none])
    (T := fun r => ∃ N turn x9 x10 h, N.length ≤ 1 ∧ N.length + turn = z ∧ (z = 0 ∨ 1 ≤ N.length) ∧ Inv h N (z + turn) ∧ r = .nx [some (.scr ns), some (.int (z : Nat)), some (.ref 0), none, some (.ref 1), none, some (.lst (N0.map Nd.d)), some (.lst (N0.map rwN)), some (.int (turn : Nat)), x9, x10, none] h)
    (fun ⟨_, _, _, _, _, _, _, _, _, e⟩ => by cases e)
    (fun m s h ⟨N, turn, x9, x10, em, eN, hz1, v, es⟩ => by
      subst em es
      have ln : bltD .len false [.ref 1] h = .ok (.int (N.length : Nat)) h := by
        show (match anyOf h (.ref 1) with | some xs => R.ok (.int xs.length) h | none => .bad) = _
        simp only [anyOf, seqOf, v.nd, List.length_map]
      by_cases q : 1 < N.length
      · refine .inr ⟨h, ?_, .inl ?_⟩
        · have q' : (1 : Int) < (N.length : Nat) := by omega
          generalize N.length = NL at *
          generalize N0.map Nd.d = A at *
          generalize N0.map rwN = B at *
          simp [lc_law_3, xe_nop, xe_non, xe_bl, xe_int, xe_str, xe_var, xe_glob, xe_tup, xe_lst, xe_dct, xe_dtn, xe_dck, xe_bin, xe_neg, xe_cmp, xe_ch2, xe_ch3, xe_and, xe_or, xe_not, xe_ife, xe_idx, xe_sli, xe_rvs, xe_fld, xe_call, xe_meth, xe_new, xe_blt, xe_mth, xe_inst, xe_frz, xe_drop, xl_nil, xl_cons, xr_seq, xr_lst, lstR_l, xr_rg1, xr_rg2, xr_rg3, xr_enum, xr_zip, xr_rev, xs_asg, xs_setf, xs_seti, xs_sets, int_x, xs_exp, xs_ite, xs_ret, xs_retn, xs_rai, xs_try, tr_nx, tr_rt, xh_nil, so_some, so_none, xs_pas, xs_frz, xb_nil, xb_cons, b_ok, b_exc, b_bad, b2_ok, b2_exc, b2_bad, b3_ok, b3_exc, b3_bad, b4_ok, b4_exc, b4_bad, b5_tt, b5_ff, b5_exc, b6_ok, b6_exc, b6_bad, b7_tt, b7_ff, b7_exc, b8_nx, b8_rt, b8_ex, b8_bad, b9_nx, b9_rt, b9_ex, b10_ok, b10_exc, b11_ok, b11_exc, b12_ok, b12_exc, c_eq, or_s, or_n, c_ne, c_lt, c_le, c_gt, c_ge, c_in, c_nin, c_is, c_isn, c_isnon, c_isbl, c_isi, c_iss, c_ist, c_isl, c_isr, c_isb, e_ii, e_ss, e_bb, e_si, e_is, e_nn, e_ni, e_in, e_sn, e_ns, ok_some, ok_none, m_some, o_add, o_adds, o_addt, o_addl, o_sub, o_mul, o_muls, o_fdv, o_mod, o_pow, o_neg, o_not, k_tt, k_ff, i_tup, i_lst, i_scr, i_str, l_str, l_scr, l_tup, l_lst, l_intb, l_inti, l_min, l_max, l_abs, n_ib, n_ibl, n_is, n_il, n_it, n_ss, n_si, n_sb, n_sl, n_st, n_tt, n_tl, n_ts, n_ti, n_ll, n_lt, n_ls, n_bb, n_bi, a_nm, a_p, a_t, d_tt, d_ff, z_o, z_i, g_nat, g_0, g_1, g_2, g_last, q_appE, q_tyE, q_frz, seqR_str, seqR_tup, seqR_lst, isNop, SZ_d, sl_last, e_l0, n_in1, n_in2, d_ss, d_ii, d_si, d_is, f_s, f_i, anyEq, dr_i, dr_s, dr_b, dr_n, ln, q, q']
        · obtain ⟨C, hC⟩ : ∃ C, C = mixed (cell ns (2 + turn % 20)) (300 + (turn : Nat)) := ⟨_, rfl⟩
          have ce := c_cellM 98 ns (2 + turn % 20) (2 + (turn : Nat) % 20) h (by omega)
          have mx := d_mx 98 (cell ns (2 + turn % 20)) (300 + (turn : Nat)) h
          rw [← hC] at mx
          obtain ⟨h', N', a, t, e, v', l', ht, hl'⟩ := c_onemore 39 v (by omega) (by omega) (by omega) C
          have mt := List.mem_of_getElem? ht
          have tl := tot_mem mt
          have hv := v'.tot
          have sm := d_lsame 79 t (v'.bal t mt) (dp_of (N := N') (v'.bal t mt) tl (by omega)) (by omega) h'
          have i1 : idxD (.ref 1) (.int (a : Nat)) h' = .ok t.d h' := by
            unfold idxD
            simp only [v'.nd, g_nat, List.getElem?_map, ht]; rfl
          have i2 : idxD (.ref 0) (.int (a : Nat)) h' = .ok (rwN t) h' := by
            unfold idxD
            simp only [v'.rw_, g_nat, List.getElem?_map, ht]; rfl
          refine ⟨N'.length, [some (.scr ns), some (.int (z : Nat)), some (.ref 0), none, some (.ref 1), none, some (.lst (N0.map Nd.d)), some (.lst (N0.map rwN)), some (.int ((turn + 1 : Nat) : Nat)), some (.int C), some (.int (a : Nat)), none], h', by omega, ?_, N', turn + 1, some (.int C), some (.int (a : Nat)), rfl, by omega, by omega, by rw [← Nat.add_assoc]; exact v', rfl⟩
          have et : ((turn + 1 : Nat) : Int) = (turn : Nat) + 1 := by omega
          rw [et]
          clear v v' hC tl hv
          generalize N0.map Nd.d = A at *
          generalize N0.map rwN = B at *
          generalize t.d = TD at *
          generalize rwN t = RT at *
          generalize cell ns (2 + turn % 20) = CV at *
          by_cases z1 : ((z : Nat) : Int) < 14
          · simp [lb_law_3, xe_nop, xe_non, xe_bl, xe_int, xe_str, xe_var, xe_glob, xe_tup, xe_lst, xe_dct, xe_dtn, xe_dck, xe_bin, xe_neg, xe_cmp, xe_ch2, xe_ch3, xe_and, xe_or, xe_not, xe_ife, xe_idx, xe_sli, xe_rvs, xe_fld, xe_call, xe_meth, xe_new, xe_blt, xe_mth, xe_inst, xe_frz, xe_drop, xl_nil, xl_cons, xr_seq, xr_lst, lstR_l, xr_rg1, xr_rg2, xr_rg3, xr_enum, xr_zip, xr_rev, xs_asg, xs_setf, xs_seti, xs_sets, int_x, xs_exp, xs_ite, xs_ret, xs_retn, xs_rai, xs_try, tr_nx, tr_rt, xh_nil, so_some, so_none, xs_pas, xs_frz, xb_nil, xb_cons, b_ok, b_exc, b_bad, b2_ok, b2_exc, b2_bad, b3_ok, b3_exc, b3_bad, b4_ok, b4_exc, b4_bad, b5_tt, b5_ff, b5_exc, b6_ok, b6_exc, b6_bad, b7_tt, b7_ff, b7_exc, b8_nx, b8_rt, b8_ex, b8_bad, b9_nx, b9_rt, b9_ex, b10_ok, b10_exc, b11_ok, b11_exc, b12_ok, b12_exc, c_eq, or_s, or_n, c_ne, c_lt, c_le, c_gt, c_ge, c_in, c_nin, c_is, c_isn, c_isnon, c_isbl, c_isi, c_iss, c_ist, c_isl, c_isr, c_isb, e_ii, e_ss, e_bb, e_si, e_is, e_nn, e_ni, e_in, e_sn, e_ns, ok_some, ok_none, m_some, o_add, o_adds, o_addt, o_addl, o_sub, o_mul, o_muls, o_fdv, o_mod, o_pow, o_neg, o_not, k_tt, k_ff, i_tup, i_lst, i_scr, i_str, l_str, l_scr, l_tup, l_lst, l_intb, l_inti, l_min, l_max, l_abs, n_ib, n_ibl, n_is, n_il, n_it, n_ss, n_si, n_sb, n_sl, n_st, n_tt, n_tl, n_ts, n_ti, n_ll, n_lt, n_ls, n_bb, n_bi, a_nm, a_p, a_t, d_tt, d_ff, z_o, z_i, g_nat, g_0, g_1, g_2, g_last, q_appE, q_tyE, q_frz, seqR_str, seqR_tup, seqR_lst, isNop, SZ_d, sl_last, e_l0, n_in1, n_in2, d_ss, d_ii, d_si, d_is, f_s, f_i, anyEq, dr_i, dr_s, dr_b, dr_n, ce, mx, e, i1, i2, sm, z1]
          · by_cases z9 : ((turn : Nat) + 1 : Int) % 9 = 0
            · simp [lb_law_3, xe_nop, xe_non, xe_bl, xe_int, xe_str, xe_var, xe_glob, xe_tup, xe_lst, xe_dct, xe_dtn, xe_dck, xe_bin, xe_neg, xe_cmp, xe_ch2, xe_ch3, xe_and, xe_or, xe_not, xe_ife, xe_idx, xe_sli, xe_rvs, xe_fld, xe_call, xe_meth, xe_new, xe_blt, xe_mth, xe_inst, xe_frz, xe_drop, xl_nil, xl_cons, xr_seq, xr_lst, lstR_l, xr_rg1, xr_rg2, xr_rg3, xr_enum, xr_zip, xr_rev, xs_asg, xs_setf, xs_seti, xs_sets, int_x, xs_exp, xs_ite, xs_ret, xs_retn, xs_rai, xs_try, tr_nx, tr_rt, xh_nil, so_some, so_none, xs_pas, xs_frz, xb_nil, xb_cons, b_ok, b_exc, b_bad, b2_ok, b2_exc, b2_bad, b3_ok, b3_exc, b3_bad, b4_ok, b4_exc, b4_bad, b5_tt, b5_ff, b5_exc, b6_ok, b6_exc, b6_bad, b7_tt, b7_ff, b7_exc, b8_nx, b8_rt, b8_ex, b8_bad, b9_nx, b9_rt, b9_ex, b10_ok, b10_exc, b11_ok, b11_exc, b12_ok, b12_exc, c_eq, or_s, or_n, c_ne, c_lt, c_le, c_gt, c_ge, c_in, c_nin, c_is, c_isn, c_isnon, c_isbl, c_isi, c_iss, c_ist, c_isl, c_isr, c_isb, e_ii, e_ss, e_bb, e_si, e_is, e_nn, e_ni, e_in, e_sn, e_ns, ok_some, ok_none, m_some, o_add, o_adds, o_addt, o_addl, o_sub, o_mul, o_muls, o_fdv, o_mod, o_pow, o_neg, o_not, k_tt, k_ff, i_tup, i_lst, i_scr, i_str, l_str, l_scr, l_tup, l_lst, l_intb, l_inti, l_min, l_max, l_abs, n_ib, n_ibl, n_is, n_il, n_it, n_ss, n_si, n_sb, n_sl, n_st, n_tt, n_tl, n_ts, n_ti, n_ll, n_lt, n_ls, n_bb, n_bi, a_nm, a_p, a_t, d_tt, d_ff, z_o, z_i, g_nat, g_0, g_1, g_2, g_last, q_appE, q_tyE, q_frz, seqR_str, seqR_tup, seqR_lst, isNop, SZ_d, sl_last, e_l0, n_in1, n_in2, d_ss, d_ii, d_si, d_is, f_s, f_i, anyEq, dr_i, dr_s, dr_b, dr_n, ce, mx, e, i1, i2, sm, z1, z9]
            · simp [lb_law_3, xe_nop, xe_non, xe_bl, xe_int, xe_str, xe_var, xe_glob, xe_tup, xe_lst, xe_dct, xe_dtn, xe_dck, xe_bin, xe_neg, xe_cmp, xe_ch2, xe_ch3, xe_and, xe_or, xe_not, xe_ife, xe_idx, xe_sli, xe_rvs, xe_fld, xe_call, xe_meth, xe_new, xe_blt, xe_mth, xe_inst, xe_frz, xe_drop, xl_nil, xl_cons, xr_seq, xr_lst, lstR_l, xr_rg1, xr_rg2, xr_rg3, xr_enum, xr_zip, xr_rev, xs_asg, xs_setf, xs_seti, xs_sets, int_x, xs_exp, xs_ite, xs_ret, xs_retn, xs_rai, xs_try, tr_nx, tr_rt, xh_nil, so_some, so_none, xs_pas, xs_frz, xb_nil, xb_cons, b_ok, b_exc, b_bad, b2_ok, b2_exc, b2_bad, b3_ok, b3_exc, b3_bad, b4_ok, b4_exc, b4_bad, b5_tt, b5_ff, b5_exc, b6_ok, b6_exc, b6_bad, b7_tt, b7_ff, b7_exc, b8_nx, b8_rt, b8_ex, b8_bad, b9_nx, b9_rt, b9_ex, b10_ok, b10_exc, b11_ok, b11_exc, b12_ok, b12_exc, c_eq, or_s, or_n, c_ne, c_lt, c_le, c_gt, c_ge, c_in, c_nin, c_is, c_isn, c_isnon, c_isbl, c_isi, c_iss, c_ist, c_isl, c_isr, c_isb, e_ii, e_ss, e_bb, e_si, e_is, e_nn, e_ni, e_in, e_sn, e_ns, ok_some, ok_none, m_some, o_add, o_adds, o_addt, o_addl, o_sub, o_mul, o_muls, o_fdv, o_mod, o_pow, o_neg, o_not, k_tt, k_ff, i_tup, i_lst, i_scr, i_str, l_str, l_scr, l_tup, l_lst, l_intb, l_inti, l_min, l_max, l_abs, n_ib, n_ibl, n_is, n_il, n_it, n_ss, n_si, n_sb, n_sl, n_st, n_tt, n_tl, n_ts, n_ti, n_ll, n_lt, n_ls, n_bb, n_bi, a_nm, a_p, a_t, d_tt, d_ff, z_o, z_i, g_nat, g_0, g_1, g_2, g_last, q_appE, q_tyE, q_frz, seqR_str, seqR_tup, seqR_lst, isNop, SZ_d, sl_last, e_l0, n_in1, n_in2, d_ss, d_ii, d_si, d_is, f_s, f_i, anyEq, dr_i, dr_s, dr_b, dr_n, ce, mx, e, i1, i2, sm, z1, z9]
      · refine .inl ⟨h, ?_, N, turn, x9, x10, h, by omega, eN, hz1, v, rfl⟩
        have q' : ¬ (1 : Int) < (N.length : Nat) := by omega
        generalize N.length = NL at *
        generalize N0.map Nd.d = A at *
        generalize N0.map rwN = B at *
        simp [lc_law_3, xe_nop, xe_non, xe_bl, xe_int, xe_str, xe_var, xe_glob, xe_tup, xe_lst, xe_dct, xe_dtn, xe_dck, xe_bin, xe_neg, xe_cmp, xe_ch2, xe_ch3, xe_and, xe_or, xe_not, xe_ife, xe_idx, xe_sli, xe_rvs, xe_fld, xe_call, xe_meth, xe_new, xe_blt, xe_mth, xe_inst, xe_frz, xe_drop, xl_nil, xl_cons, xr_seq, xr_lst, lstR_l, xr_rg1, xr_rg2, xr_rg3, xr_enum, xr_zip, xr_rev, xs_asg, xs_setf, xs_seti, xs_sets, int_x, xs_exp, xs_ite, xs_ret, xs_retn, xs_rai, xs_try, tr_nx, tr_rt, xh_nil, so_some, so_none, xs_pas, xs_frz, xb_nil, xb_cons, b_ok, b_exc, b_bad, b2_ok, b2_exc, b2_bad, b3_ok, b3_exc, b3_bad, b4_ok, b4_exc, b4_bad, b5_tt, b5_ff, b5_exc, b6_ok, b6_exc, b6_bad, b7_tt, b7_ff, b7_exc, b8_nx, b8_rt, b8_ex, b8_bad, b9_nx, b9_rt, b9_ex, b10_ok, b10_exc, b11_ok, b11_exc, b12_ok, b12_exc, c_eq, or_s, or_n, c_ne, c_lt, c_le, c_gt, c_ge, c_in, c_nin, c_is, c_isn, c_isnon, c_isbl, c_isi, c_iss, c_ist, c_isl, c_isr, c_isb, e_ii, e_ss, e_bb, e_si, e_is, e_nn, e_ni, e_in, e_sn, e_ns, ok_some, ok_none, m_some, o_add, o_adds, o_addt, o_addl, o_sub, o_mul, o_muls, o_fdv, o_mod, o_pow, o_neg, o_not, k_tt, k_ff, i_tup, i_lst, i_scr, i_str, l_str, l_scr, l_tup, l_lst, l_intb, l_inti, l_min, l_max, l_abs, n_ib, n_ibl, n_is, n_il, n_it, n_ss, n_si, n_sb, n_sl, n_st, n_tt, n_tl, n_ts, n_ti, n_ll, n_lt, n_ls, n_bb, n_bi, a_nm, a_p, a_t, d_tt, d_ff, z_o, z_i, g_nat, g_0, g_1, g_2, g_last, q_appE, q_tyE, q_frz, seqR_str, seqR_tup, seqR_lst, isNop, SZ_d, sl_last, e_l0, n_in1, n_in2, d_ss, d_ii, d_si, d_is, f_s, f_i, anyEq, dr_i, dr_s, dr_b, dr_n, ln, q, q'])
    N0.length [some (.scr ns), some (.int (z : Nat)), some (.ref 0), none, some (.ref 1), none, some (.lst (N0.map Nd.d)), some (.lst (N0.map rwN)), some (.int (0 : Nat)), none, none, none] H2 ⟨N0, 0, none, none, rfl, by omega, by omega, v0, rfl⟩
  obtain ⟨N, turn, x9, x10, H, lN, eN, hz1, v, W⟩ := W
  have nn1 : ∀ h, newD 0 .non h = .ok (.ref 0) h := fun _ => rfl
  have ii : isD .non .non = some true := rfl
  have head : execs P (run P 99) tb_law_0 [some (.scr ns), none, none, none, none, none, none, none, none, none, none, none] [] = execs P (run P 99) tb_law_8 [some (.scr ns), some (.int (z : Nat)), some (.ref 0), none, some (.ref 1), none, some (.lst (N0.map Nd.d)), some (.lst (N0.map rwN)), some (.int (turn : Nat)), x9, x10, none] H := by
    rw [show tb_law_0 = .cons st_law_0 (.cons st_law_1 (.cons st_law_2 (.cons st_law_3 (.cons st_law_4 (.cons st_law_5 (.cons st_law_6 (.cons st_law_7 tb_law_8))))))) from rfl]
    clear v v0 eN hz1 lN
    have q1' := sr1
    rw [hH1] at cm1 sr1
    have m1 : mkL true (N0.map rwN) [] = .ok (.ref 0) [.lst (N0.map rwN)] := rfl
    have m2 : mkL true (N0.map Nd.d) [.lst (N0.map rwN)] = .ok (.ref 1) H2 := by rw [hH2]; rfl
    generalize tb_law_8 = TB
    generalize N0.map Nd.d = A at *
    generalize N0.map rwN = B at *
    simp only [Int.natCast_zero] at W
    simp [xe_nop, xe_non, xe_bl, xe_int, xe_str, xe_var, xe_glob, xe_tup, xe_lst, xe_dct, xe_dtn, xe_dck, xe_bin, xe_neg, xe_cmp, xe_ch2, xe_ch3, xe_and, xe_or, xe_not, xe_ife, xe_idx, xe_sli, xe_rvs, xe_fld, xe_call, xe_meth, xe_new, xe_blt, xe_mth, xe_inst, xe_frz, xe_drop, xl_nil, xl_cons, xr_seq, xr_lst, lstR_l, xr_rg1, xr_rg2, xr_rg3, xr_enum, xr_zip, xr_rev, xs_asg, xs_setf, xs_seti, xs_sets, int_x, xs_exp, xs_ite, xs_ret, xs_retn, xs_rai, xs_try, tr_nx, tr_rt, xh_nil, so_some, so_none, xs_pas, xs_frz, xb_nil, xb_cons, b_ok, b_exc, b_bad, b2_ok, b2_exc, b2_bad, b3_ok, b3_exc, b3_bad, b4_ok, b4_exc, b4_bad, b5_tt, b5_ff, b5_exc, b6_ok, b6_exc, b6_bad, b7_tt, b7_ff, b7_exc, b8_nx, b8_rt, b8_ex, b8_bad, b9_nx, b9_rt, b9_ex, b10_ok, b10_exc, b11_ok, b11_exc, b12_ok, b12_exc, c_eq, or_s, or_n, c_ne, c_lt, c_le, c_gt, c_ge, c_in, c_nin, c_is, c_isn, c_isnon, c_isbl, c_isi, c_iss, c_ist, c_isl, c_isr, c_isb, e_ii, e_ss, e_bb, e_si, e_is, e_nn, e_ni, e_in, e_sn, e_ns, ok_some, ok_none, m_some, o_add, o_adds, o_addt, o_addl, o_sub, o_mul, o_muls, o_fdv, o_mod, o_pow, o_neg, o_not, k_tt, k_ff, i_tup, i_lst, i_scr, i_str, l_str, l_scr, l_tup, l_lst, l_intb, l_inti, l_min, l_max, l_abs, n_ib, n_ibl, n_is, n_il, n_it, n_ss, n_si, n_sb, n_sl, n_st, n_tt, n_tl, n_ts, n_ti, n_ll, n_lt, n_ls, n_bb, n_bi, a_nm, a_p, a_t, d_tt, d_ff, z_o, z_i, g_nat, g_0, g_1, g_2, g_last, q_appE, q_tyE, q_frz, seqR_str, seqR_tup, seqR_lst, isNop, SZ_d, sl_last, e_l0, n_in1, n_in2, d_ss, d_ii, d_si, d_is, f_s, f_i, anyEq, dr_i, dr_s, dr_b, dr_n, xs_whl, xe_comp, ez0, hr0, cm0, m1, sr1, cm1, m2, sm0, mt0, ii, kp, sr2, cm2, W]
  refine ⟨H, ?_⟩
  rw [go_law]
  show (execs P (run P 99) tb_law_0 _ []).fin = _
  rw [head]
  by_cases z0 : z = 0
  · generalize N0.map Nd.d = A at *
    generalize N0.map rwN = B at *
    simp [tb_law_8, xe_nop, xe_non, xe_bl, xe_int, xe_str, xe_var, xe_glob, xe_tup, xe_lst, xe_dct, xe_dtn, xe_dck, xe_bin, xe_neg, xe_cmp, xe_ch2, xe_ch3, xe_and, xe_or, xe_not, xe_ife, xe_idx, xe_sli, xe_rvs, xe_fld, xe_call, xe_meth, xe_new, xe_blt, xe_mth, xe_inst, xe_frz, xe_drop, xl_nil, xl_cons, xr_seq, xr_lst, lstR_l, xr_rg1, xr_rg2, xr_rg3, xr_enum, xr_zip, xr_rev, xs_asg, xs_setf, xs_seti, xs_sets, int_x, xs_exp, xs_ite, xs_ret, xs_retn, xs_rai, xs_try, tr_nx, tr_rt, xh_nil, so_some, so_none, xs_pas, xs_frz, xb_nil, xb_cons, b_ok, b_exc, b_bad, b2_ok, b2_exc, b2_bad, b3_ok, b3_exc, b3_bad, b4_ok, b4_exc, b4_bad, b5_tt, b5_ff, b5_exc, b6_ok, b6_exc, b6_bad, b7_tt, b7_ff, b7_exc, b8_nx, b8_rt, b8_ex, b8_bad, b9_nx, b9_rt, b9_ex, b10_ok, b10_exc, b11_ok, b11_exc, b12_ok, b12_exc, c_eq, or_s, or_n, c_ne, c_lt, c_le, c_gt, c_ge, c_in, c_nin, c_is, c_isn, c_isnon, c_isbl, c_isi, c_iss, c_ist, c_isl, c_isr, c_isb, e_ii, e_ss, e_bb, e_si, e_is, e_nn, e_ni, e_in, e_sn, e_ns, ok_some, ok_none, m_some, o_add, o_adds, o_addt, o_addl, o_sub, o_mul, o_muls, o_fdv, o_mod, o_pow, o_neg, o_not, k_tt, k_ff, i_tup, i_lst, i_scr, i_str, l_str, l_scr, l_tup, l_lst, l_intb, l_inti, l_min, l_max, l_abs, n_ib, n_ibl, n_is, n_il, n_it, n_ss, n_si, n_sb, n_sl, n_st, n_tt, n_tl, n_ts, n_ti, n_ll, n_lt, n_ls, n_bb, n_bi, a_nm, a_p, a_t, d_tt, d_ff, z_o, z_i, g_nat, g_0, g_1, g_2, g_last, q_appE, q_tyE, q_frz, seqR_str, seqR_tup, seqR_lst, isNop, SZ_d, sl_last, e_l0, n_in1, n_in2, d_ss, d_ii, d_si, d_is, f_s, f_i, anyEq, dr_i, dr_s, dr_b, dr_n, z0]
  · obtain ⟨t, hN⟩ : ∃ t, N = [t] := by
      match N, lN, hz1 with
      | [], _, h => simp at h; omega
      | [t], _, _ => exact ⟨t, rfl⟩
      | _ :: _ :: _, h, _ => simp at h
    subst hN
    have bt := v.bal t (List.mem_singleton.mpr rfl)
    have tl : t.pcs.length ≤ z + turn := Nat.le_trans (tot_mem (List.mem_singleton.mpr rfl)) v.tot
    have dpt : t.dp < 16 := bal_dp 8 bt (by simp at eN; omega)
    have pl : t.pcs.length < 1000 := by simp at eN; omega
    have i1 : idxD (.ref 1) (.int 0) H = .ok t.d H := by unfold idxD; simp only [v.nd]; rfl
    have i2 : idxD (.ref 0) (.int 0) H = .ok (rwN t) H := by unfold idxD; simp only [v.rw_]; rfl
    have be : Bal .e := by simp [Bal]
    obtain ⟨ba, pa, da⟩ := met_ok bt be
    obtain ⟨bb, pb, db⟩ := met_ok be bt
    have pa : (metN t .e).pcs = t.pcs := by rw [pa]; simp [Nd.pcs]
    have pb : (metN .e t).pcs = t.pcs := by rw [pb]; simp [Nd.pcs]
    have ma := d_met (l := t) (r := .e) (n := 99) (h := H) bt (by simp [Nd.dp]; omega)
    have mb := d_met (l := .e) (r := t) (n := 99) (h := H) be (by simp [Nd.dp]; omega)
    rw [nd_e] at ma mb
    have ra : rwN (metN t .e) = rwN t := by unfold rwN; rw [pa]
    have rb : rwN (metN .e t) = rwN t := by unfold rwN; rw [pb]
    have sa := d_lsame 79 (metN t .e) ba (bal_dp 8 ba (by rw [pa]; simp at eN; omega)) (by rw [pa]; exact pl) H
    have sb := d_lsame 79 (metN .e t) bb (bal_dp 8 bb (by rw [pb]; simp at eN; omega)) (by rw [pb]; exact pl) H
    rw [ra] at sa
    rw [rb] at sb
    have st := d_lsame 79 t bt dpt pl H
    have cm3 := comp_map (enc := Nd.d) (elt := ev P (run P 99) le_law_4) (cond := ev P (run P 99) lq_law_4) (t := .nm 11) (l := []) (s := [some (.scr ns), some (.int (z : Nat)), some (.ref 0), none, some (.ref 1), none, some (.lst (N0.map Nd.d)), some (.lst (N0.map rwN)), some (.int (turn : Nat)), x9, x10, none]) (h := H) (g := rwN) lk_nil N0
      (fun u m => by
        have hu := b0 u m
        have pp := d_pieces u 99 H (by have := bal_dp 8 hu.1 (by rw [hu.2]; decide); omega) (by rw [hu.2]; decide)
        refine ⟨[some (.scr ns), some (.int (z : Nat)), some (.ref 0), none, some (.ref 1), none, some (.lst (N0.map Nd.d)), some (.lst (N0.map rwN)), some (.int (turn : Nat)), x9, x10, some u.d], by simp [a_p], by simp [lq_law_4, xe_nop, xe_non, xe_bl, xe_int, xe_str, xe_var, xe_glob, xe_tup, xe_lst, xe_dct, xe_dtn, xe_dck, xe_bin, xe_neg, xe_cmp, xe_ch2, xe_ch3, xe_and, xe_or, xe_not, xe_ife, xe_idx, xe_sli, xe_rvs, xe_fld, xe_call, xe_meth, xe_new, xe_blt, xe_mth, xe_inst, xe_frz, xe_drop, xl_nil, xl_cons, xr_seq, xr_lst, lstR_l, xr_rg1, xr_rg2, xr_rg3, xr_enum, xr_zip, xr_rev, xs_asg, xs_setf, xs_seti, xs_sets, int_x, xs_exp, xs_ite, xs_ret, xs_retn, xs_rai, xs_try, tr_nx, tr_rt, xh_nil, so_some, so_none, xs_pas, xs_frz, xb_nil, xb_cons, b_ok, b_exc, b_bad, b2_ok, b2_exc, b2_bad, b3_ok, b3_exc, b3_bad, b4_ok, b4_exc, b4_bad, b5_tt, b5_ff, b5_exc, b6_ok, b6_exc, b6_bad, b7_tt, b7_ff, b7_exc, b8_nx, b8_rt, b8_ex, b8_bad, b9_nx, b9_rt, b9_ex, b10_ok, b10_exc, b11_ok, b11_exc, b12_ok, b12_exc, c_eq, or_s, or_n, c_ne, c_lt, c_le, c_gt, c_ge, c_in, c_nin, c_is, c_isn, c_isnon, c_isbl, c_isi, c_iss, c_ist, c_isl, c_isr, c_isb, e_ii, e_ss, e_bb, e_si, e_is, e_nn, e_ni, e_in, e_sn, e_ns, ok_some, ok_none, m_some, o_add, o_adds, o_addt, o_addl, o_sub, o_mul, o_muls, o_fdv, o_mod, o_pow, o_neg, o_not, k_tt, k_ff, i_tup, i_lst, i_scr, i_str, l_str, l_scr, l_tup, l_lst, l_intb, l_inti, l_min, l_max, l_abs, n_ib, n_ibl, n_is, n_il, n_it, n_ss, n_si, n_sb, n_sl, n_st, n_tt, n_tl, n_ts, n_ti, n_ll, n_lt, n_ls, n_bb, n_bi, a_nm, a_p, a_t, d_tt, d_ff, z_o, z_i, g_nat, g_0, g_1, g_2, g_last, q_appE, q_tyE, q_frz, seqR_str, seqR_tup, seqR_lst, isNop, SZ_d, sl_last, e_l0, n_in1, n_in2, d_ss, d_ii, d_si, d_is, f_s, f_i, anyEq, dr_i, dr_s, dr_b, dr_n], ?_⟩
        unfold rwN
        generalize u.d = UD at *
        generalize u.pcs.map Pc.d = PD at *
        simp [le_law_4, xe_nop, xe_non, xe_bl, xe_int, xe_str, xe_var, xe_glob, xe_tup, xe_lst, xe_dct, xe_dtn, xe_dck, xe_bin, xe_neg, xe_cmp, xe_ch2, xe_ch3, xe_and, xe_or, xe_not, xe_ife, xe_idx, xe_sli, xe_rvs, xe_fld, xe_call, xe_meth, xe_new, xe_blt, xe_mth, xe_inst, xe_frz, xe_drop, xl_nil, xl_cons, xr_seq, xr_lst, lstR_l, xr_rg1, xr_rg2, xr_rg3, xr_enum, xr_zip, xr_rev, xs_asg, xs_setf, xs_seti, xs_sets, int_x, xs_exp, xs_ite, xs_ret, xs_retn, xs_rai, xs_try, tr_nx, tr_rt, xh_nil, so_some, so_none, xs_pas, xs_frz, xb_nil, xb_cons, b_ok, b_exc, b_bad, b2_ok, b2_exc, b2_bad, b3_ok, b3_exc, b3_bad, b4_ok, b4_exc, b4_bad, b5_tt, b5_ff, b5_exc, b6_ok, b6_exc, b6_bad, b7_tt, b7_ff, b7_exc, b8_nx, b8_rt, b8_ex, b8_bad, b9_nx, b9_rt, b9_ex, b10_ok, b10_exc, b11_ok, b11_exc, b12_ok, b12_exc, c_eq, or_s, or_n, c_ne, c_lt, c_le, c_gt, c_ge, c_in, c_nin, c_is, c_isn, c_isnon, c_isbl, c_isi, c_iss, c_ist, c_isl, c_isr, c_isb, e_ii, e_ss, e_bb, e_si, e_is, e_nn, e_ni, e_in, e_sn, e_ns, ok_some, ok_none, m_some, o_add, o_adds, o_addt, o_addl, o_sub, o_mul, o_muls, o_fdv, o_mod, o_pow, o_neg, o_not, k_tt, k_ff, i_tup, i_lst, i_scr, i_str, l_str, l_scr, l_tup, l_lst, l_intb, l_inti, l_min, l_max, l_abs, n_ib, n_ibl, n_is, n_il, n_it, n_ss, n_si, n_sb, n_sl, n_st, n_tt, n_tl, n_ts, n_ti, n_ll, n_lt, n_ls, n_bb, n_bi, a_nm, a_p, a_t, d_tt, d_ff, z_o, z_i, g_nat, g_0, g_1, g_2, g_last, q_appE, q_tyE, q_frz, seqR_str, seqR_tup, seqR_lst, isNop, SZ_d, sl_last, e_l0, n_in1, n_in2, d_ss, d_ii, d_si, d_is, f_s, f_i, anyEq, dr_i, dr_s, dr_b, dr_n, pp]) (by rw [SZ_d]; omega)
    have eqR : eqD (.lst (N0.map rwN)) (.lst (N0.map rwN)) H = some true := eqD_selfL (rwN_sh N0)
    have z0' : ¬ ((z : Nat) : Int) = 0 := by omega
    clear v v0 W head b0 hN0 cm0 cm1 cm2 ra rb pa pb
    generalize N0.map Nd.d = A at *
    generalize N0.map rwN = B at *
    generalize t.d = TD at *
    generalize rwN t = RT at *
    generalize (metN t .e).d = MA at *
    generalize (metN .e t).d = MB at *
    simp [tb_law_8, tb_law_9, tb_law_10, xe_nop, xe_non, xe_bl, xe_int, xe_str, xe_var, xe_glob, xe_tup, xe_lst, xe_dct, xe_dtn, xe_dck, xe_bin, xe_neg, xe_cmp, xe_ch2, xe_ch3, xe_and, xe_or, xe_not, xe_ife, xe_idx, xe_sli, xe_rvs, xe_fld, xe_call, xe_meth, xe_new, xe_blt, xe_mth, xe_inst, xe_frz, xe_drop, xl_nil, xl_cons, xr_seq, xr_lst, lstR_l, xr_rg1, xr_rg2, xr_rg3, xr_enum, xr_zip, xr_rev, xs_asg, xs_setf, xs_seti, xs_sets, int_x, xs_exp, xs_ite, xs_ret, xs_retn, xs_rai, xs_try, tr_nx, tr_rt, xh_nil, so_some, so_none, xs_pas, xs_frz, xb_nil, xb_cons, b_ok, b_exc, b_bad, b2_ok, b2_exc, b2_bad, b3_ok, b3_exc, b3_bad, b4_ok, b4_exc, b4_bad, b5_tt, b5_ff, b5_exc, b6_ok, b6_exc, b6_bad, b7_tt, b7_ff, b7_exc, b8_nx, b8_rt, b8_ex, b8_bad, b9_nx, b9_rt, b9_ex, b10_ok, b10_exc, b11_ok, b11_exc, b12_ok, b12_exc, c_eq, or_s, or_n, c_ne, c_lt, c_le, c_gt, c_ge, c_in, c_nin, c_is, c_isn, c_isnon, c_isbl, c_isi, c_iss, c_ist, c_isl, c_isr, c_isb, e_ii, e_ss, e_bb, e_si, e_is, e_nn, e_ni, e_in, e_sn, e_ns, ok_some, ok_none, m_some, o_add, o_adds, o_addt, o_addl, o_sub, o_mul, o_muls, o_fdv, o_mod, o_pow, o_neg, o_not, k_tt, k_ff, i_tup, i_lst, i_scr, i_str, l_str, l_scr, l_tup, l_lst, l_intb, l_inti, l_min, l_max, l_abs, n_ib, n_ibl, n_is, n_il, n_it, n_ss, n_si, n_sb, n_sl, n_st, n_tt, n_tl, n_ts, n_ti, n_ll, n_lt, n_ls, n_bb, n_bi, a_nm, a_p, a_t, d_tt, d_ff, z_o, z_i, g_nat, g_0, g_1, g_2, g_last, q_appE, q_tyE, q_frz, seqR_str, seqR_tup, seqR_lst, isNop, SZ_d, sl_last, e_l0, n_in1, n_in2, d_ss, d_ii, d_si, d_is, f_s, f_i, anyEq, dr_i, dr_s, dr_b, dr_n, xe_comp, z0, z0', i1, i2, ma, mb, sa, sb, st, cm3, eqR]
end K13
open PySem PySem.W PySem.Calls PyProof.Rows
theorem PySem.Challenge.cw_inkloom_k13_nodes_joined_holds : PySem.Challenge.rw_inkloom_k13_nodes_joined.Holds := by
  w_on; o_law
  refine HandSHeadRun.head_any (r := OpenLaw.row PySem.Challenge.rw_inkloom_k13_nodes_joined) (q := view (OpenLaw.row PySem.Challenge.rw_inkloom_k13_nodes_joined).prog [21]) (H := K13.hk) (ob := K13.ob) (M := 9000) (loose := K13.nms) (d := HandSHeadRun.topDef (OpenLaw.row PySem.Challenge.rw_inkloom_k13_nodes_joined).prog 21) (kwd := []) K13.ob_eq
    (by kernel_rfl) (fun s => by kernel_rfl) K13.top_run (by kernel_rfl) (by kernel_rfl) (by kernel_rfl) (by rfl) (by first | assumption | decide +kernel) (by decide +kernel) ⟨rfl, rfl, rfl, rfl, rfl, by decide +kernel⟩ ?hw ?hc
  case hw => w_witness2
  case hc => exact VI.law_end (hn := 0) (l := PySem.Challenge.rw_inkloom_k13_nodes_joined) (m := 63) (n := 100) (i := 19) (x := "_law_script") (y := K13.dd_law) K13.good rfl (by decide) (by kernel_rfl) ⟨rfl, by decide, by decide⟩ rfl rfl (by kernel_rfl) K13.law_true
