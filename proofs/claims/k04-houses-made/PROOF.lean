import PyProof.Rows.All
import Wide.All
import OpenK.AllK
import Wide.FinOn
import HandS.Base
import HandS.Call
import HandS.List
import HandS.Comp
import HandS.Dict
import HandS.Iter
import HandS.Text
import HandS.Walk
import HandS.Words
import HandS.Exc
import HandS.TryOnly
import HandS.ExcOwn
import HandS.WordsExc
import HandS.WordsList
import HandS.IsInst
import HandS.Conv
import HandS.Style
import HandS.Deep
import HandS.Defaults
import HandS.TupAny
import HandS.ExcCtx
import HandS.HotCalls
import HandS.ExcIs
import HandS.SetFor
import PyProof.Rows.SortShellAny
import KE.GoesEnum
import HandS.Small
import HandS.Codes
import HandS.Head0
import HandS.Head1
import HandS.Head2
import HandS.HeadEnd
import HandS.HeadHook1
import HandS.HeadHook2
import KE.KStateDown
import Lean
import PySem.Challenge.RW_wardhouse_k04_houses_made
set_option Elab.async false
set_option linter.all false
set_option maxRecDepth 100000
set_option maxHeartbeats 0
/-! Ev: a small evaluator of our own over plain data and a store of what may change; later it is tied to the judgements of HandS. -/
namespace Ev
open PySem

/-- plain data: what never changes is told by value, what may change by its place in the store -/
inductive D where
  | non | bl (b : Bool) | int (i : Int) | str (x : Str)
  | scr (ns : List Int)
  | tup (xs : List D) | lst (xs : List D) | dic (ks : List Str) (vs : List D)
  | loc (n : Nat)
  | opq (a : Nat)

instance : Inhabited D := ⟨.non⟩

/-- a place of the store -/
inductive Cell where
  | lst (xs : List D) | dic (kvs : List (Str × D)) | ins (c : Nat) (fs : List (Str × D)) | dead

abbrev Store := List Cell
abbrev Env := List (Option D)

inductive R (α : Type) where
  | ok (a : α) (S : Store) | exn (c : Nat) (S : Store) | stuck

def R.bind {α β : Type} : R α → (α → Store → R β) → R β
  | .ok a S, f => f a S
  | .exn c S, _ => .exn c S
  | .stuck, _ => .stuck

inductive RS where
  | nx (δ : Env) (S : Store) | rt (d : D) (S : Store) | exn (c : Nat) (δ : Env) (S : Store) | stuck

inductive O2 where
  | add | sub | mul | fdiv | mod | pow | eq | ne | lt | le | gt | ge | is_ | isnt | in_ | notin | get | mn | mx
  deriving DecidableEq, Repr

inductive Ty where
  | int | bool | str | tuple | list
  deriving DecidableEq, Repr

inductive O1 where
  | len | tuple | sorted | int | str | neg | isi (t : Ty) | upper
  deriving DecidableEq, Repr

inductive IK where
  | ex | rng1 | rng2 | enm | zip
  deriving DecidableEq, Repr

inductive Tg where
  | nm (i : Nat) | pr (i j : Nat)
  deriving DecidableEq, Repr

inductive E where
  | var (i : Nat)
  | lit (d : D)
  | con (k : Nat)
  | op2 (o : O2) (a b : E)
  | op1 (o : O1) (a : E)
  | not (a : E) | and (a b : E) | or (a b : E)
  | ite (c a b : E)
  | chn (o1 o2 : O2) (a b c : E)
  | tup (es : List E) | lst (m : Bool) (es : List E) | dic (m : Bool) (ks : List Str) (es : List E)
  | add (m : Bool) (a b : E) | mul (m : Bool) (a b : E)
  | lof (m : Bool) (a : E)
  | call (f : Nat) (es : List E)
  | make (c : Nat) (es : List E)
  | meth (c f : Nat) (m : Str) (o : E) (es : List E)
  | att (o : E) (f : Str)
  | slf (o lo : E) | slt (o hi : E) | rev (o : E)
  | cmp (m : Bool) (elt : E) (vs : List Nat) (tg : Tg) (ik : IK) (its : List E) (ifs : List E)
  | app (o e : E) | pop (o : E) | popAt (o e : E) | idx (o e : E) | cnt (o e : E) | join (o e : E) | split (o e : E) | upp (o : E)
  | lrg (m : Bool) (a b : E)
  | dof (a : E)

/-- what an except suite gives back: whether the class is that one; the list of its class; a thing of its own -/
inductive Hd where
  | eqK (k : Nat) | kinds | ret (d : D)
def hdD : Hd → Nat → D
  | .eqK k, c => .bl (decide (c = k))
  | .kinds, c => .lst [.int c]
  | .ret d, _ => d

inductive S where
  | set (i : Nat) (e : E)
  | setA (o : E) (f : Str) (e : E)
  | setI (o i e : E)
  | ex (e : E)
  | ite (c : E) (a b : List S)
  | for_ (tg : Tg) (ik : IK) (its : List E) (b : List S)
  | whl (c : E) (b : List S)
  | ret (e : E)
  | raise (c : Nat)
  | tryN (b : List S) (h : Hd)
  | nev

/-! ### the operations -/
def LIM : Nat := 16777216
mutual
/-- Python's == on data -/
def eqD : D → D → Bool
  | .non, .non => true
  | .bl a, .bl b => a == b
  | .bl a, .int j => (if a then 1 else 0) == j
  | .int i, .bl b => i == (if b then 1 else 0)
  | .int i, .int j => i == j
  | .str x, .str y => x == y
  | .lst xs, .lst ys => eqDs xs ys
  | .tup xs, .tup ys => eqDs xs ys
  | _, _ => false
def eqDs : List D → List D → Bool
  | [], [] => true
  | x :: xs, y :: ys => eqD x y && eqDs xs ys
  | _, _ => false
end
mutual
/-- none, truths, numbers, texts, tuples and lists of such, at most so deep -/
def flat : Nat → D → Bool
  | _, .non | _, .bl _ | _, .int _ | _, .str _ => true
  | n, .lst xs | n, .tup xs => (match n with
    | 0 => false
    | n + 1 => flats n xs)
  | _, _ => false
def flats : Nat → List D → Bool
  | _, [] => true
  | n, x :: xs => flat n x && flats n xs
end
/-- the items of a list -/
def items (S : Store) : D → Option (List D)
  | .lst xs => some xs
  | .loc n => (match S[n]? with
    | some (.lst xs) => some xs
    | _ => none)
  | _ => none
/-- a list told by value, for == and in -/
def byVal (S : Store) : D → D
  | .loc n => (match S[n]? with
    | some (.lst xs) => .lst xs
    | _ => .loc n)
  | d => d
def isFlat (d : D) : Bool := flat 60 d
def isNon : D → Bool
  | .non => true
  | _ => false
/-- x is y, y a None or a truth -/
def isD : D → D → Option Bool
  | .bl a, .bl b => some (a == b)
  | x, .non => some (isNon x)
  | _, _ => none
def ixD (xs : List D) (i : Int) : Option D := L2.atI xs i
def look (f : Str) : List (Str × D) → Option D
  | [] => none
  | (g, d) :: r => if f = g then some d else look f r
def lookD (f : Str) : List Str → List D → Option D
  | g :: ks, d :: ds => if f = g then some d else lookD f ks ds
  | _, _ => none
def putF (f : Str) (d : D) : List (Str × D) → List (Str × D)
  | [] => [(f, d)]
  | (g, e) :: r => if f = g then (g, d) :: r else (g, e) :: putF f d r
/-- a dict's key written: in its place, or at the end -/
def putD (f : Str) (d : D) (kvs : List (Str × D)) : List (Str × D) := if kvs.any (fun kv => decide (kv.1 = f)) = true then kvs.map (fun kv => if kv.1 = f then (kv.1, d) else kv) else kvs ++ [(f, d)]

/-- a list's sum with another list, as the items of the new one -/
def addL (S : Store) (a b : D) : Option (List D) :=
  match items S a, items S b with
  | some xs, some ys => if xs.length + ys.length ≤ LIM then some (xs ++ ys) else none
  | _, _ => none
def mulL (S : Store) (a b : D) : Option (List D) :=
  match items S a, b with
  | some xs, .int k => if k < 2 ^ 62 ∧ -(2 ^ 62) ≤ k ∧ xs.length * k.toNat ≤ LIM then some (List.replicate k.toNat xs).flatten else none
  | _, _ => none

def inT (a : D) (ys : List D) : Option Bool := if flat 0 a && flats 0 ys then some (ys.any fun y => eqD y a) else none
def inL (S : Store) (a b : D) : Option Bool := match items S b with
  | some ys => if flat 15 a && flats 15 ys then some (ys.any fun y => eqD y a) else none
  | none => none
def getC : Option Cell → D → Option D
  | some (.lst xs), .int i => ixD xs i
  | some (.dic kvs), .str f => look f kvs
  | _, _ => none
def op2 (S : Store) : O2 → D → D → Option D
  | .add, .int i, .int j => some (.int (i + j))
  | .add, .str x, .str y => if x.length + y.length ≤ LIM then some (.str (x ++ y)) else none
  | .add, .tup xs, .tup ys => if xs.length + ys.length ≤ LIM then some (.tup (xs ++ ys)) else none
  | .add, a, b => (addL S a b).map .lst
  | .sub, .int i, .int j => some (.int (i - j))
  | .mul, .int i, .int j => if -(2 ^ 64) < i ∧ i < 2 ^ 64 then some (.int (i * j)) else none
  | .mul, a, b => (mulL S a b).map .lst
  | .fdiv, .int i, .int j => if 0 < j ∧ j < 1073741824 then some (.int (i / j)) else none
  | .mod, .int i, .int j => if 0 < j then some (.int (i % j)) else none
  | .pow, .int i, .int j => if 0 ≤ j ∧ j ≤ 1000 ∧ i.natAbs < 1000 then some (.int (i ^ j.toNat)) else none
  | .lt, .int i, .int j => some (.bl (decide (i < j)))
  | .le, .int i, .int j => some (.bl (decide (i ≤ j)))
  | .gt, .int i, .int j => some (.bl (decide (j < i)))
  | .ge, .int i, .int j => some (.bl (decide (j ≤ i)))
  | .mn, .int i, .int j => some (.int (if j < i then j else i))
  | .mx, .int i, .int j => some (.int (if j > i then j else i))
  | .eq, a, b => if isFlat (byVal S a) && isFlat (byVal S b) then some (.bl (eqD (byVal S a) (byVal S b))) else none
  | .ne, a, b => if isFlat (byVal S a) && isFlat (byVal S b) then some (.bl (!eqD (byVal S a) (byVal S b))) else none
  | .is_, a, b => (isD a b).map .bl
  | .isnt, a, b => (isD a b).map fun c => .bl (!c)
  | .in_, .str x, .str y => if x.length = 1 then some (.bl (y.cps.toList.contains (x.cps.getD 0 0))) else none
  | .notin, .str x, .str y => if x.length = 1 then some (.bl (!y.cps.toList.contains (x.cps.getD 0 0))) else none
  | .in_, a, .tup ys => (inT a ys).map .bl
  | .notin, a, .tup ys => (inT a ys).map fun c => .bl (!c)
  | .in_, a, b => (inL S a b).map .bl
  | .notin, a, b => (inL S a b).map fun c => .bl (!c)
  | .get, .tup xs, .int i => ixD xs i
  | .get, .scr ns, .int i => (L2.atI ns i).map .int
  | .get, .str x, .int i => if x.length ≤ LIM then (L2.atI x.cps.toList i).map fun c => .str ⟨#[c]⟩ else none
  | .get, .dic ks vs, .str f => lookD f ks vs
  | .get, .lst xs, .int i => ixD xs i
  | .get, .loc n, d => getC S[n]? d
  | _, _, _ => none

def tyIs (S : Store) : Ty → D → Option Bool
  | t, .non => some false
  | t, .bl _ => some (match t with | .int | .bool => true | _ => false)
  | t, .int _ => some (match t with | .int => true | _ => false)
  | t, .str _ => some (match t with | .str => true | _ => false)
  | t, .scr _ => none
  | t, .tup _ => some (match t with | .tuple => true | _ => false)
  | t, .lst _ => some (match t with | .list => true | _ => false)
  | t, .dic _ _ => some false
  | t, .opq _ => none
  | t, .loc n => (match S[n]? with
    | some (.lst _) => some (match t with | .list => true | _ => false)
    | some (.dic _) => some false
    | _ => none)

def strsOf : List D → Option (List Str)
  | [] => some []
  | .str x :: r => (strsOf r).map (x :: ·)
  | _ => none
/-- ascii small letters: their upper case is known -/
def upperS (x : Str) : Str := ⟨(x.cps.toList.map fun c => if 97 ≤ c ∧ c ≤ 122 then c - 32 else c).toArray⟩
def ascii (x : Str) : Bool := x.cps.toList.all (· < 128)

def strLe (a b : Str) : Bool := !decide (b.cps.toList < a.cps.toList)
def op1 (S : Store) : O1 → D → Option D
  | .len, .str x => if x.length ≤ LIM then some (.int x.length) else none
  | .len, .tup xs => some (.int xs.length)
  | .len, .scr ns => some (.int ns.length)
  | .len, d => (items S d).map fun xs => .int xs.length
  | .tuple, d => (items S d).map fun xs => .tup xs
  | .sorted, d => (match items S d with
    | some xs => (strsOf xs).map fun ss => .lst ((ss.mergeSort strLe).map .str)
    | none => none)
  | .int, .bl b => some (.int (if b then 1 else 0))
  | .int, .str x => if x.length ≤ 640 then (intText? x).map .int else none
  | .str, .int i => if i.natAbs < 2 ^ 128 then some (.str (toString i)) else none
  | .neg, .int i => some (.int (-i))
  | .isi t, d => (tyIs S t d).map .bl
  | .upper, .str x => if ascii x && decide (x.length ≤ 1000) then some (.str (upperS x)) else none
  | _, _ => none

/-- x[lo:hi] of a list -/
def cutG {α : Type} (xs : List α) (lo hi : Option Int) : List α := (xs.drop (HT.sIx xs.length 0 lo)).take (HT.sIx xs.length xs.length hi - HT.sIx xs.length 0 lo)
def cutD (S : Store) (lo hi : Option Int) : D → Option D
  | .str x => if x.length ≤ LIM then some (.str (L2.cutS x lo hi)) else none
  | .tup xs => some (.tup (cutG xs lo hi))
  | .scr ns => some (.lst ((cutG ns lo hi).map .int))
  | d => (items S d).map fun xs => .lst (cutG xs lo hi)

/-! ### lists that may change -/
def alloc (S : Store) (c : Cell) : R D := .ok (.loc S.length) (S ++ [c])
/-- a new list: by value, or as a place of the store -/
def newL (m : Bool) (xs : List D) (S : Store) : R D := if m then alloc S (.lst xs) else .ok (.lst xs) S
def newD (m : Bool) (ks : List Str) (vs : List D) (S : Store) : R D := if m then alloc S (.dic (ks.zip vs)) else .ok (.dic ks vs) S
def ofO (S : Store) : Option D → R D
  | some d => .ok d S
  | none => .stuck
def lofL (S : Store) : D → Option (List D)
  | .tup xs => some xs
  | d => items S d
def lstAt (S : Store) : D → Option (Nat × List D)
  | .loc n => (match S[n]? with
    | some (.lst xs) => some (n, xs)
    | _ => none)
  | _ => none
def idxD : List D → D → Option Nat
  | [], _ => none
  | x :: xs, d => if eqD x d then some 0 else (idxD xs d).map (· + 1)
def cntD (xs : List D) (d : D) : Nat := (xs.filter fun x => eqD x d).length
def rngD (a b : Int) : List D := (List.range (b - a).toNat).map fun (i : Nat) => .int (a + i)
/-- what is walked: its items, and the places that must stay as they are -/
def walkOf (S : Store) : IK → List D → Option (List D × List (Nat × List D))
  | .ex, [.tup xs] => some (xs, [])
  | .ex, [.scr ns] => some (ns.map .int, [])
  | .ex, [.str x] => some (x.cps.toList.map fun c => .str ⟨#[c]⟩, [])
  | .ex, [.lst xs] => some (xs, [])
  | .ex, [.loc n] => (lstAt S (.loc n)).map fun p => (p.2, [p])
  | .rng1, [.int b] => if b < 2 ^ 62 ∧ -(2 ^ 62) ≤ b then some (rngD 0 b, []) else none
  | .rng2, [.int a, .int b] => if (b < 2 ^ 62 ∧ -(2 ^ 62) ≤ b) ∧ (a < 2 ^ 62 ∧ -(2 ^ 62) ≤ a) then some (rngD a b, []) else none
  | .enm, [.tup xs] => some (xs.mapIdx fun i x => .tup [.int i, x], [])
  | .enm, [.lst xs] => some (xs.mapIdx fun i x => .tup [.int i, x], [])
  | .enm, [.loc n] => (lstAt S (.loc n)).map fun p => (p.2.mapIdx fun i x => .tup [.int i, x], [p])
  | .zip, [.lst xs, .lst ys] => some (List.zipWith (fun x y => .tup [x, y]) xs ys, [])
  | _, _ => none
open Classical in
noncomputable def stays (S : Store) (ch : List (Nat × List D)) : Bool := decide (∀ p ∈ ch, S[p.1]? = some (.lst p.2))
def setT : Tg → D → Env → Option Env
  | .nm i, d, δ => some (δ.set i (some d))
  | .pr i j, .tup [x, y], δ => some ((δ.set i (some x)).set j (some y))
  | _, _, _ => none
def wipeE (δ : Env) : List Nat → Env
  | [] => δ
  | v :: vs => (wipeE δ vs).set v none
mutual
/-- no place at or behind n is named -/
def clo (n : Nat) : D → Bool
  | .tup xs | .lst xs | .dic _ xs => clos n xs
  | .loc k => decide (k < n)
  | _ => true
def clos (n : Nat) : List D → Bool
  | [] => true
  | x :: xs => clo n x && clos n xs
end
/-- no error may come out of it -/
def R.bind0 {α β : Type} : R α → (α → Store → R β) → R β
  | .ok a S, f => f a S
  | _, _ => .stuck
open Classical in
/-- a comprehension's turns: f tells of an item whether it is kept, and what is made of it; the list that grows stands behind the store -/
noncomputable def compF (ch : List (Nat × List D)) (f : D → Store → R (Option D)) (S : Store) : List D → List D → R D
  | [], acc => if stays S ch then .ok (.lst acc) S else .stuck
  | x :: xs, acc => if stays S ch then (f x (S ++ [.lst acc])).bind0 fun o S' => if S' = S ++ [.lst acc] ∧ clos S.length o.toList = true then compF ch f S xs (acc ++ o.toList) else .stuck else .stuck
noncomputable def compT (n : Nat) (ch : List (Nat × List D)) (f : D → Store → R (Option D)) : List D → Store → R D
  | [], S => if stays S ch then .ok (.loc n) S else .stuck
  | x :: xs, S => if stays S ch then (f x S).bind0 fun o S' => (match S'[n]? with
    | some (.lst acc) => if acc.length < LIM then compT n ch f xs (S'.set n (.lst (acc ++ o.toList))) else .stuck
    | _ => .stuck) else .stuck
noncomputable def compM (m : Bool) (ch : List (Nat × List D)) (f : D → Store → R (Option D)) (xs : List D) (S : Store) : R D :=
  if xs.length ≤ LIM then (if m then compT S.length ch f xs (S ++ [.lst []]) else compF ch f S xs []) else .stuck
open Classical in
noncomputable def dispM (m : Bool) (ks : List Str) (r : R (List D)) (S : Store) : R D :=
  r.bind fun vs S' => if ks.length = vs.length ∧ ks.Nodup ∧ ks.length ≤ 15 then (if m then (match S'[S.length]? with
    | some (.dic []) => .ok (.loc S.length) (S'.set S.length (.dic (ks.zip vs)))
    | _ => .stuck) else if S' = S ++ [.dic []] ∧ clos S.length vs = true then .ok (.dic ks vs) S else .stuck) else .stuck
noncomputable def forL (ch : List (Nat × List D)) (tg : Tg) (f : Env → Store → RS) : List D → Env → Store → RS
  | [], δ, S => if stays S ch then .nx δ S else .stuck
  | x :: xs, δ, S => if stays S ch then (match setT tg x δ with
    | some δ' => (match f δ' S with
      | .nx δ2 S2 => forL ch tg f xs δ2 S2
      | r => r)
    | none => .stuck) else .stuck
def whlL (c : Env → Store → R D) (f : Env → Store → RS) : Nat → Env → Store → RS
  | 0, _, _ => .stuck
  | n + 1, δ, S => (match c δ S with
    | .ok (.bl true) S1 => (match f δ S1 with
      | .nx δ2 S2 => whlL c f n δ2 S2
      | r => r)
    | .ok (.bl false) S1 => .nx δ S1
    | .exn k S1 => .exn k δ S1
    | _ => .stuck)

/-- what surrounds: calls of defs, of methods, the making of an instance, the constants; whether the class c has no attribute f of its own -/
structure Par where
  cf : Nat → List D → Store → R D
  ini : Nat → Option Nat
  con : Nat → Option D
  atr : Nat → Str → Bool
  wf : Nat

/-- the cell of an instance -/
def insAt (S : Store) : D → Option (Nat × Nat × List (Str × D))
  | .loc n => (match S[n]? with
    | some (.ins c fs) => some (n, c, fs)
    | _ => none)
  | _ => none
/-- it is an instance of that class, without an attribute of that name -/
def insOf (S : Store) (x : D) (c : Nat) (m : Str) : Bool := match insAt S x with
  | some (_, c', fs) => decide (c' = c) && (look m fs).isNone
  | none => false
def attO (atr : Nat → Str → Bool) (S : Store) (x : D) (f : Str) : Option D := match insAt S x with
  | some (_, c, fs) => if atr c f then look f fs else none
  | none => none
def cmp2 (S : Store) (o : O2) (x y : D) : Option Bool := match op2 S o x y with
  | some (.bl b) => some b
  | _ => none

/-- methods of lists and texts -/
def isStr : D → Bool
  | .str _ => true
  | _ => false
def appD (x y : D) (S : Store) : R D := match lstAt S x with
  | some (n, xs) => if xs.length < LIM then .ok .non (S.set n (.lst (xs ++ [y]))) else .stuck
  | none => .stuck
def popD (x : D) (S : Store) : R D := match lstAt S x with
  | some (n, xs) => (match xs.getLast? with
    | some y => .ok y (S.set n (.lst xs.dropLast))
    | none => .stuck)
  | none => .stuck
def popAtD (x y : D) (S : Store) : R D := match lstAt S x, y with
  | some (n, y :: xs), .int 0 => .ok y (S.set n (.lst xs))
  | _, _ => .stuck
def idxO (S : Store) (x y : D) : Option D := match items S x with
  | some xs => if flat 15 y && flats 15 xs then (idxD xs y).map fun (n : Nat) => .int n else none
  | none => none
def cntO (S : Store) (x y : D) : Option D := match items S x with
  | some xs => if flat 0 y && flats 0 xs then some (.int (cntD xs y)) else none
  | none => none
def joinO (S : Store) (x y : D) : Option D := match x, (items S y).bind strsOf with
  | .str z, some xs => if (xs.map Str.length).sum + xs.length * z.length ≤ LIM then some (.str (Str.join z xs)) else none
  | _, _ => none
def splitO : D → D → Option D
  | .str z, .str w => if w.length = 1 ∧ w.cps.all (· < 256) = true ∧ z.length + 2 ≤ LIM then some (.lst ((PySem.Txt.split z w).map .str)) else none
  | _, _ => none

noncomputable section
mutual
def evE (P : Par) : E → Env → Store → R D
  | .var i, δ, S => (match δ[i]? with
    | some (some d) => .ok d S
    | _ => .stuck)
  | .lit d, _, S => .ok d S
  | .con k, _, S => ofO S (P.con k)
  | .op2 o a b, δ, S => (evE P a δ S).bind fun x S => (evE P b δ S).bind fun y S => ofO S (op2 S o x y)
  | .op1 o a, δ, S => (evE P a δ S).bind fun x S => ofO S (op1 S o x)
  | .not a, δ, S => (evE P a δ S).bind fun x S => (match x with
    | .bl b => .ok (.bl (!b)) S
    | _ => .stuck)
  | .and a b, δ, S => (evE P a δ S).bind fun x S => (match x with
    | .bl true => evE P b δ S
    | .bl false => .ok (.bl false) S
    | _ => .stuck)
  | .or a b, δ, S => (evE P a δ S).bind fun x S => (match x with
    | .bl false => evE P b δ S
    | .bl true => .ok (.bl true) S
    | _ => .stuck)
  | .ite c a b, δ, S => (evE P c δ S).bind fun x S => (match x with
    | .bl true => evE P a δ S
    | .bl false => evE P b δ S
    | _ => .stuck)
  | .chn o1 o2 a b c, δ, S => (evE P a δ S).bind fun x S => (evE P b δ S).bind fun y S => (match cmp2 S o1 x y with
    | some true => (evE P c δ S).bind fun z S => ofO S ((cmp2 S o2 y z).map .bl)
    | some false => .ok (.bl false) S
    | none => .stuck)
  | .tup es, δ, S => (evEs P es δ S).bind fun ds S => if ds.length ≤ LIM then .ok (.tup ds) S else .stuck
  | .lst m es, δ, S => (evEs P es δ S).bind fun ds S => if ds.length ≤ LIM then newL m ds S else .stuck
  | .dic m ks es, δ, S => if ks = [] then newD m ks [] S else dispM m ks (evEs P es δ (S ++ [.dic []])) S
  | .add m a b, δ, S => (evE P a δ S).bind fun x S => (evE P b δ S).bind fun y S => (match addL S x y with
    | some xs => newL m xs S
    | none => .stuck)
  | .mul m a b, δ, S => (evE P a δ S).bind fun x S => (evE P b δ S).bind fun y S => (match mulL S x y with
    | some xs => newL m xs S
    | none => .stuck)
  | .lof m a, δ, S => (evE P a δ S).bind fun x S => (match lofL S x with
    | some xs => newL m xs S
    | none => .stuck)
  | .call f es, δ, S => (evEs P es δ S).bind fun ds S => P.cf f ds S
  | .make c es, δ, S => (evEs P es δ S).bind fun ds S => (match P.ini c with
    | some f => (P.cf f (.loc S.length :: ds) (S ++ [.ins c []])).bind fun r S' => (match r with
      | .non => .ok (.loc S.length) S'
      | _ => .stuck)
    | none => .stuck)
  | .meth c f m o es, δ, S => (evE P o δ S).bind fun x S => if insOf S x c m then (evEs P es δ S).bind fun ds S => P.cf f (x :: ds) S else .stuck
  | .att o f, δ, S => (evE P o δ S).bind fun x S => ofO S (attO P.atr S x f)
  | .slf o lo, δ, S => (evE P o δ S).bind fun x S => (evE P lo δ S).bind fun i S => (match i with
    | .int i => ofO S (cutD S (some i) none x)
    | _ => .stuck)
  | .slt o hi, δ, S => (evE P o δ S).bind fun x S => (evE P hi δ S).bind fun i S => (match i with
    | .int i => ofO S (cutD S none (some i) x)
    | _ => .stuck)
  | .rev o, δ, S => (evE P o δ S).bind fun x S => (match x with
    | .tup xs => .ok (.tup xs.reverse) S
    | .scr _ => .stuck
    | x => (match items S x with
      | some xs => .ok (.lst xs.reverse) S
      | none => .stuck))
  | .cmp m elt vs tg ik its ifs, δ, S => (evEs P its δ S).bind fun ds S => (match walkOf S ik ds with
    | some (xs, ch) => compM m ch (fun x S => (match setT tg x (wipeE δ vs) with
        | some δ' => (evIfs P ifs δ' S).bind fun b S => if b then (evE P elt δ' S).bind fun d S => .ok (some d) S else .ok none S
        | none => .stuck)) xs S
    | none => .stuck)
  | .app o e, δ, S => (evE P o δ S).bind fun x S => if (lstAt S x).isSome then (evE P e δ S).bind fun y S => appD x y S else .stuck
  | .pop o, δ, S => (evE P o δ S).bind fun x S => popD x S
  | .popAt o e, δ, S => (evE P o δ S).bind fun x S => if (lstAt S x).isSome then (evE P e δ S).bind fun y S => popAtD x y S else .stuck
  | .idx o e, δ, S => (evE P o δ S).bind fun x S => if (items S x).isSome then (evE P e δ S).bind fun y S => ofO S (idxO S x y) else .stuck
  | .cnt o e, δ, S => (evE P o δ S).bind fun x S => if (items S x).isSome then (evE P e δ S).bind fun y S => ofO S (cntO S x y) else .stuck
  | .join o e, δ, S => (evE P o δ S).bind fun x S => if isStr x then (evE P e δ S).bind fun y S => ofO S (joinO S x y) else .stuck
  | .split o e, δ, S => (evE P o δ S).bind fun x S => if isStr x then (evE P e δ S).bind fun y S => ofO S (splitO x y) else .stuck
  | .upp o, δ, S => (evE P o δ S).bind fun x S => ofO S (op1 S .upper x)
  | .lrg m a b, δ, S => (evE P a δ S).bind fun x S => (evE P b δ S).bind fun y S => (match x, y with
    | .int i, .int j => if 0 ≤ i ∧ i ≤ 100000 ∧ 0 ≤ j ∧ j ≤ 100000 then newL m (rngD i j) S else .stuck
    | _, _ => .stuck)
  | .dof a, δ, S => .stuck
def evEs (P : Par) : List E → Env → Store → R (List D)
  | [], _, S => .ok [] S
  | e :: es, δ, S => (evE P e δ S).bind fun d S => (evEs P es δ S).bind fun ds S => .ok (d :: ds) S
def evIfs (P : Par) : List E → Env → Store → R Bool
  | [], _, S => .ok true S
  | [e], δ, S => (evE P e δ S).bind fun d S => (match d with
    | .bl b => .ok b S
    | _ => .stuck)
  | _, _, _ => .stuck
end

/-- an expression's outcome within a statement -/
def thenS (δ : Env) : R D → (D → Store → RS) → RS
  | .ok d S, f => f d S
  | .exn c S, _ => .exn c δ S
  | .stuck, _ => .stuck

mutual
def evS (P : Par) : S → Env → Store → RS
  | .set i e, δ, S => thenS δ (evE P e δ S) fun d S => .nx (δ.set i (some d)) S
  | .setA o f e, δ, S => thenS δ (evE P e δ S) fun d S => thenS δ (evE P o δ S) fun x S => (match insAt S x with
    | some (n, c, fs) => if P.atr c f = true ∧ fs.length < 100 then .nx δ (S.set n (.ins c (putF f d fs))) else .stuck
    | none => .stuck)
  | .setI o i e, δ, S => thenS δ (evE P e δ S) fun d S => thenS δ (evE P o δ S) fun x S => thenS δ (evE P i δ S) fun k S => (match x with
    | .loc n => (match S[n]?, k with
      | some (.lst xs), .int j => (match L2.ixN xs.length j with
        | some j => .nx δ (S.set n (.lst (xs.set j d)))
        | none => .stuck)
      | some (.dic kvs), .str f => if kvs.length < 1000 then .nx δ (S.set n (.dic (putD f d kvs))) else .stuck
      | _, _ => .stuck)
    | _ => .stuck)
  | .ex e, δ, S => thenS δ (evE P e δ S) fun _ S => .nx δ S
  | .ite c a b, δ, S => thenS δ (evE P c δ S) fun d S => (match d with
    | .bl true => evB P a δ S
    | .bl false => evB P b δ S
    | _ => .stuck)
  | .for_ tg ik its b, δ, S => (match evEs P its δ S with
    | .ok ds S => (match walkOf S ik ds with
      | some (xs, ch) => forL ch tg (fun δ S => evB P b δ S) xs δ S
      | none => .stuck)
    | .exn c S => .exn c δ S
    | .stuck => .stuck)
  | .whl c b, δ, S => whlL (fun δ S => evE P c δ S) (fun δ S => evB P b δ S) P.wf δ S
  | .ret e, δ, S => thenS δ (evE P e δ S) fun d S => .rt d S
  | .raise c, δ, S => .exn c δ S
  | .nev, _, _ => .stuck
  | .tryN b h, δ, S => (match evB P b δ S with
    | .exn c _ S' => if c < 8 then .rt (hdD h c) S' else .stuck
    | r => r)
def evB (P : Par) : List S → Env → Store → RS
  | [], δ, S => .nx δ S
  | s :: r, δ, S => (match evS P s δ S with
    | .nx δ S => evB P r δ S
    | x => x)
end
end
end Ev
namespace Ev
open PySem PySem.Spec PyProof.Rows L2

/-! ### data and values: F what is fixed of the heap, ι where the store's places stand -/
def okStr (x : Str) : Bool := PyData.strOk x
mutual
inductive Rep (K : PySem.W.Frag) (F : Hp) (ι : List Addr) : V → D → Prop
  | non : Rep K F ι .non .non
  | bl (b : Bool) : Rep K F ι (.bl b) (.bl b)
  | int (i : Int) : Rep K F ι (.int i) (.int i)
  | str (x : Str) : okStr x = true → Rep K F ι (.str x) (.str x)
  | scr {a : Addr} {ns : List Int} : SqL K F a (ns.map V.int) → Rep K F ι (.ref a) (.scr ns)
  | tup {a : Addr} {vs : List V} {ds : List D} : SqT K F a vs → Reps K F ι vs ds → Rep K F ι (.ref a) (.tup ds)
  | lst {a : Addr} {vs : List V} {ds : List D} : F a = some (.lst vs) → Reps K F ι vs ds → Rep K F ι (.ref a) (.lst ds)
  | dic {a : Addr} {kvs : List (Key × V)} {ks : List Str} {ds : List D} : F a = some (.dK kvs) → kvs.map (·.1) = ks.map Sum.inr → Reps K F ι (kvs.map (·.2)) ds → Rep K F ι (.ref a) (.dic ks ds)
  | loc {n : Nat} {a : Addr} : ι[n]? = some a → Rep K F ι (.ref a) (.loc n)
  | opq (a : Addr) : Rep K F ι (.ref a) (.opq a)
inductive Reps (K : PySem.W.Frag) (F : Hp) (ι : List Addr) : List V → List D → Prop
  | nil : Reps K F ι [] []
  | cons {v : V} {d : D} {vs : List V} {ds : List D} : Rep K F ι v d → Reps K F ι vs ds → Reps K F ι (v :: vs) (d :: ds)
end

/-- more is fixed, more places stand -/
structure Ext (F : Hp) (ι : List Addr) (F' : Hp) (ι' : List Addr) : Prop where
  fx : ∀ a o, F a = some o → F' a = some o
  pl : ∀ (n : Nat) (a : Addr), ι[n]? = some a → ι'[n]? = some a
theorem Ext.refl (F : Hp) (ι : List Addr) : Ext F ι F ι := ⟨fun _ _ h => h, fun _ _ h => h⟩
theorem Ext.trans {F F1 F2 : Hp} {ι ι1 ι2 : List Addr} (a : Ext F ι F1 ι1) (b : Ext F1 ι1 F2 ι2) : Ext F ι F2 ι2 := ⟨fun c o h => b.fx c o (a.fx c o h), fun n c h => b.pl n c (a.pl n c h)⟩

section
variable {K : PySem.W.Frag} {F F' : Hp} {ι ι' : List Addr} {a : Addr} {vs : List V}
theorem SqL.up (e : ∀ a o, F a = some o → F' a = some o) (h : SqL K F a vs) : SqL K F' a vs := by
  rcases h with (h | ⟨o, h⟩) | h
  · exact .inl (.inl (e _ _ h))
  · exact .inl (.inr ⟨o, e _ _ h⟩)
  · exact .inr h
theorem SqT.up (e : ∀ a o, F a = some o → F' a = some o) (h : SqT K F a vs) : SqT K F' a vs := by
  rcases h with (h | ⟨o, h⟩) | h
  · exact .inl (.inl (e _ _ h))
  · exact .inl (.inr ⟨o, e _ _ h⟩)
  · exact .inr h
mutual
theorem Rep.up (e : Ext F ι F' ι') : ∀ (d : D) (v : V), Rep K F ι v d → Rep K F' ι' v d
  | .non, _, h => by cases h; exact .non
  | .bl _, _, h => by cases h; exact .bl _
  | .int _, _, h => by cases h; exact .int _
  | .str _, _, h => by cases h with | str _ h => exact .str _ h
  | .scr _, _, h => by cases h with | scr h => exact .scr (SqL.up e.fx h)
  | .tup ds, _, h => by cases h with | tup h h2 => exact .tup (SqT.up e.fx h) (Reps.up e ds _ h2)
  | .lst ds, _, h => by cases h with | lst h h2 => exact .lst (e.fx _ _ h) (Reps.up e ds _ h2)
  | .dic _ ds, _, h => by cases h with | dic h h1 h2 => exact .dic (e.fx _ _ h) h1 (Reps.up e ds _ h2)
  | .loc _, _, h => by cases h with | loc h => exact .loc (e.pl _ _ h)
  | .opq _, _, h => by cases h; exact .opq _
theorem Reps.up (e : Ext F ι F' ι') : ∀ (ds : List D) (vs : List V), Reps K F ι vs ds → Reps K F' ι' vs ds
  | [], _, h => by cases h; exact .nil
  | d :: ds, _, h => by cases h with | cons h h2 => exact .cons (Rep.up e d _ h) (Reps.up e ds _ h2)
end
theorem Rep.ext {v : V} {d : D} (h : Rep K F ι v d) (e : Ext F ι F' ι') : Rep K F' ι' v d := Rep.up e d v h
theorem Reps.ext {vs : List V} {ds : List D} (h : Reps K F ι vs ds) (e : Ext F ι F' ι') : Reps K F' ι' vs ds := Reps.up e ds vs h
theorem Reps.len {ds : List D} : ∀ {vs : List V}, Reps K F ι vs ds → vs.length = ds.length := by
  induction ds with
  | nil => intro vs h; cases h; rfl
  | cons d ds ih => intro vs h; cases h with | cons _ h => rw [List.length_cons, List.length_cons, ih h]
theorem Reps.get {ds : List D} : ∀ {vs : List V} {i : Nat} {d : D}, Reps K F ι vs ds → ds[i]? = some d → ∃ v, vs[i]? = some v ∧ Rep K F ι v d := by
  induction ds with
  | nil => intro vs i d h e; simp at e
  | cons x ds ih =>
    intro vs i d h e
    cases h with
    | cons h1 h2 =>
      cases i with
      | zero => simp at e; subst e; exact ⟨_, rfl, h1⟩
      | succ i => obtain ⟨v, e2, r⟩ := ih h2 (by simpa using e); exact ⟨v, by simpa using e2, r⟩
theorem Reps.getV {ds : List D} : ∀ {vs : List V} {i : Nat} {v : V}, Reps K F ι vs ds → vs[i]? = some v → ∃ d, ds[i]? = some d ∧ Rep K F ι v d := by
  induction ds with
  | nil => intro vs i d h e; cases h; simp at e
  | cons x ds ih =>
    intro vs i d h e
    cases h with
    | cons h1 h2 =>
      cases i with
      | zero => simp at e; subst e; exact ⟨_, rfl, h1⟩
      | succ i => obtain ⟨v, e2, r⟩ := ih h2 (by simpa using e); exact ⟨v, by simpa using e2, r⟩
theorem Reps.app {xs : List D} : ∀ {us ws : List V} {ys : List D}, Reps K F ι us xs → Reps K F ι ws ys → Reps K F ι (us ++ ws) (xs ++ ys) := by
  induction xs with
  | nil => intro us ws ys h g; cases h; exact g
  | cons x xs ih => intro us ws ys h g; cases h with | cons h1 h2 => exact .cons h1 (ih h2 g)
theorem Reps.take {xs : List D} : ∀ {us : List V} (n : Nat), Reps K F ι us xs → Reps K F ι (us.take n) (xs.take n) := by
  induction xs with
  | nil => intro us n h; cases h; simp; exact .nil
  | cons x xs ih =>
    intro us n h
    cases h with
    | cons h1 h2 =>
      cases n with
      | zero => simp; exact .nil
      | succ n => simp; exact .cons h1 (ih n h2)
theorem Reps.drop {xs : List D} : ∀ {us : List V} (n : Nat), Reps K F ι us xs → Reps K F ι (us.drop n) (xs.drop n) := by
  induction xs with
  | nil => intro us n h; cases h; simp; exact .nil
  | cons x xs ih =>
    intro us n h
    cases h with
    | cons h1 h2 =>
      cases n with
      | zero => exact .cons h1 h2
      | succ n => simp; exact ih n h2
theorem Reps.rev {xs : List D} : ∀ {us : List V}, Reps K F ι us xs → Reps K F ι us.reverse xs.reverse := by
  induction xs with
  | nil => intro us h; cases h; exact .nil
  | cons x xs ih =>
    intro us h
    cases h with
    | cons h1 h2 => rw [List.reverse_cons, List.reverse_cons]; exact (ih h2).app (.cons h1 .nil)
theorem Reps.set {xs : List D} : ∀ {us : List V} (n : Nat) {v : V} {d : D}, Reps K F ι us xs → Rep K F ι v d → Reps K F ι (us.set n v) (xs.set n d) := by
  induction xs with
  | nil => intro us n v d h r; cases h; exact .nil
  | cons x xs ih =>
    intro us n v d h r
    cases h with
    | cons h1 h2 =>
      cases n with
      | zero => exact .cons r h2
      | succ n => exact .cons h1 (ih n h2 r)
theorem Reps.rep {xs : List D} {us : List V} (h : Reps K F ι us xs) : ∀ n : Nat, Reps K F ι (List.replicate n us).flatten (List.replicate n xs).flatten
  | 0 => .nil
  | n + 1 => by rw [List.replicate_succ, List.replicate_succ, List.flatten_cons, List.flatten_cons]; exact h.app (Reps.rep h n)
theorem Reps.dropLast {xs : List D} {us : List V} (h : Reps K F ι us xs) : Reps K F ι us.dropLast xs.dropLast := by
  rw [List.dropLast_eq_take, List.dropLast_eq_take, h.len]
  exact h.take _
theorem Reps.ints : ∀ (ns : List Int), Reps K F ι (ns.map V.int) (ns.map D.int)
  | [] => .nil
  | n :: ns => .cons (.int n) (Reps.ints ns)
end

/-! ### the store -/
/-- a pair of a dict, of an instance -/
inductive RepK (K : PySem.W.Frag) (F : Hp) (ι : List Addr) : List (Key × V) → List (Str × D) → Prop
  | nil : RepK K F ι [] []
  | cons {f : Str} {v : V} {d : D} {l : List (Key × V)} {r : List (Str × D)} : Rep K F ι v d → RepK K F ι l r → RepK K F ι ((Sum.inr f, v) :: l) ((f, d) :: r)
inductive RepF (K : PySem.W.Frag) (F : Hp) (ι : List Addr) : List (Str × V) → List (Str × D) → Prop
  | nil : RepF K F ι [] []
  | cons {f : Str} {v : V} {d : D} {l : List (Str × V)} {r : List (Str × D)} : Rep K F ι v d → RepF K F ι l r → RepF K F ι ((f, v) :: l) ((f, d) :: r)
def CellAt (cA : Nat → Addr) (K : PySem.W.Frag) (F : Hp) (ι : List Addr) : Cell → Option HO → Prop
  | .lst ds, o => ∃ vs, o = some (.lst vs) ∧ Reps K F ι vs ds
  | .dic kvs, o => ∃ l, o = some (.dK l) ∧ RepK K F ι l kvs
  | .ins c fs, o => ∃ dx l, o = some (.ins (cA c) dx l) ∧ RepF K F ι l fs
  | .dead, _ => True
def live : Cell → Prop
  | .dead => False
  | _ => True
structure Rel (cA : Nat → Addr) (K : PySem.W.Frag) (F : Hp) (ι : List Addr) (S : Store) (H : Hp) : Prop where
  sub : ∀ a o, F a = some o → H a = some o
  len : ι.length = S.length
  cell : ∀ (n : Nat) (c : Cell), S[n]? = some c → live c → ∃ a, ι[n]? = some a ∧ F a = none ∧ CellAt cA K F ι c (H a)
  inj : ∀ (i j : Nat) (a : Addr) (c c' : Cell), ι[i]? = some a → ι[j]? = some a → S[i]? = some c → S[j]? = some c' → live c → live c' → i = j
section
variable {cA : Nat → Addr} {K : PySem.W.Frag} {F F' H H' : Hp} {ι ι' : List Addr} {S S' : Store} {a p : Addr} {o : HO} {c : Cell}
theorem RepK.ext (e : Ext F ι F' ι') {l : List (Key × V)} {r : List (Str × D)} (h : RepK K F ι l r) : RepK K F' ι' l r := by
  induction h with
  | nil => exact .nil
  | cons h _ ih => exact .cons (h.ext e) ih
theorem RepF.ext (e : Ext F ι F' ι') {l : List (Str × V)} {r : List (Str × D)} (h : RepF K F ι l r) : RepF K F' ι' l r := by
  induction h with
  | nil => exact .nil
  | cons h _ ih => exact .cons (h.ext e) ih
theorem CellAt.ext (e : Ext F ι F' ι') : ∀ {c : Cell} {o : Option HO}, CellAt cA K F ι c o → CellAt cA K F' ι' c o
  | .lst _, _, ⟨vs, h1, h2⟩ => ⟨vs, h1, h2.ext e⟩
  | .dic _, _, ⟨l, h1, h2⟩ => ⟨l, h1, h2.ext e⟩
  | .ins _ _, _, ⟨dx, l, h1, h2⟩ => ⟨dx, l, h1, h2.ext e⟩
  | .dead, _, _ => True.intro
theorem CellAt.some {c : Cell} {o : Option HO} (h : CellAt cA K F ι c o) (l : live c) : ∃ u, o = some u := by
  cases c with
  | lst _ => obtain ⟨_, e, _⟩ := h; exact ⟨_, e⟩
  | dic _ => obtain ⟨_, e, _⟩ := h; exact ⟨_, e⟩
  | ins _ _ => obtain ⟨_, _, e, _⟩ := h; exact ⟨_, e⟩
  | dead => exact l.elim
theorem Rel.cellNe (r : Rel cA K F ι S H) (hp : H p = none) {n : Nat} {a : Addr} (hc : S[n]? = some c) (hl : live c) (ha : ι[n]? = some a) : a ≠ p := by
  obtain ⟨a', e, _, q⟩ := r.cell n c hc hl
  rw [ha] at e; cases e
  obtain ⟨u, e⟩ := q.some hl
  exact ne_of_none e hp
theorem Rel.freeF (r : Rel cA K F ι S H) (hp : H p = none) : F p = none := by
  cases e : F p with
  | none => rfl
  | some o => rw [r.sub _ _ e] at hp; cases hp
theorem Ext.fresh (hp : F p = none) (o : HO) : Ext F ι (upd F p o) ι := ⟨fun a u h => by rw [upd_ne (ne_of_none h hp)]; exact h, fun _ _ h => h⟩
/-- something new that never changes -/
theorem Rel.fresh (r : Rel cA K F ι S H) (hp : H p = none) (o : HO) : Rel cA K (upd F p o) ι S (upd H p o) where
  sub := fun a u h => by
    by_cases e : a = p
    · subst e; rw [upd_same] at h ⊢; exact h
    · rw [upd_ne e] at h ⊢; exact r.sub a u h
  len := r.len
  cell := fun n c hc hl => by
    obtain ⟨a, h1, h2, h3⟩ := r.cell n c hc hl
    have ne : a ≠ p := r.cellNe hp hc hl h1
    exact ⟨a, h1, by rw [upd_ne ne]; exact h2, by rw [upd_ne ne]; exact h3.ext (Ext.fresh (r.freeF hp) o)⟩
  inj := r.inj
/-- garbage: a new object that nobody names -/
theorem Rel.junk (r : Rel cA K F ι S H) (k : ∀ a o, H a = some o → H' a = some o) : Rel cA K F ι S H' where
  sub := fun a u h => k _ _ (r.sub a u h)
  len := r.len
  cell := fun n c hc hl => by
    obtain ⟨a, h1, h2, h3⟩ := r.cell n c hc hl
    obtain ⟨u, e⟩ := h3.some hl
    refine ⟨a, h1, h2, ?_⟩
    rw [k _ _ e]
    rw [e] at h3
    exact h3
  inj := r.inj
theorem Ext.more (F : Hp) (ι : List Addr) (l : List Addr) : Ext F ι F (ι ++ l) := ⟨fun _ _ h => h, fun n a h => by
  rw [List.getElem?_append_left (List.getElem?_eq_some_iff.mp h).1]; exact h⟩
/-- a new place -/
theorem Rel.place (r : Rel cA K F ι S H) (hp : H p = none) (c : Cell) (hc : CellAt cA K F ι c (some o)) : Rel cA K F (ι ++ [p]) (S ++ [c]) (upd H p o) where
  sub := fun a u h => by
    have h' := r.sub a u h
    rw [upd_ne (ne_of_none h' hp)]; exact h'
  len := by rw [List.length_append, List.length_append, r.len]; rfl
  cell := fun n c' hc' hl => by
    by_cases hn : n < S.length
    · rw [List.getElem?_append_left hn] at hc'
      obtain ⟨a, h1, h2, h3⟩ := r.cell n c' hc' hl
      have ne : a ≠ p := r.cellNe hp hc' hl h1
      exact ⟨a, (Ext.more F ι [p]).pl _ _ h1, h2, by rw [upd_ne ne]; exact h3.ext (Ext.more F ι [p])⟩
    · have hn2 : n = S.length := by
        have := (List.getElem?_eq_some_iff.mp hc').1
        simp at this; omega
      subst hn2
      simp at hc'
      subst hc'
      refine ⟨p, by rw [← r.len]; simp, r.freeF hp, ?_⟩
      rw [upd_same]
      exact hc.ext (Ext.more F ι [p])
  inj := fun i j a c1 c2 h1 h2 h3 h4 l1 l2 => by
    have key : ∀ (i : Nat) (c1 : Cell), (ι ++ [p])[i]? = some a → (S ++ [c])[i]? = some c1 → live c1 → (i < S.length ∧ ι[i]? = some a ∧ S[i]? = some c1 ∧ a ≠ p) ∨ (i = S.length ∧ a = p) := by
      intro i c1 h1 h3 l1
      by_cases hi : i < S.length
      · rw [List.getElem?_append_left (by rw [r.len]; exact hi)] at h1
        rw [List.getElem?_append_left hi] at h3
        exact .inl ⟨hi, h1, h3, r.cellNe hp h3 l1 h1⟩
      · have hi2 : i = S.length := by
          have := (List.getElem?_eq_some_iff.mp h3).1
          simp at this; omega
        subst hi2
        rw [← r.len] at h1
        simp at h1
        exact .inr ⟨rfl, h1.symm⟩
    rcases key i c1 h1 h3 l1 with ⟨_, x1, x2, x3⟩ | ⟨x1, x2⟩
    · rcases key j c2 h2 h4 l2 with ⟨_, y1, y2, y3⟩ | ⟨y1, y2⟩
      · exact r.inj i j a c1 c2 x1 y1 x2 y2 l1 l2
      · exact absurd y2 x3
    · rcases key j c2 h2 h4 l2 with ⟨_, y1, y2, y3⟩ | ⟨y1, y2⟩
      · exact absurd x2 y3
      · rw [x1, y1]
/-- a place is written -/
theorem Rel.write {n : Nat} {c0 : Cell} (r : Rel cA K F ι S H) (h0 : S[n]? = some c0) (l0 : live c0) (ha : ι[n]? = some a) (c : Cell) (hc : CellAt cA K F ι c (some o)) : Rel cA K F ι (S.set n c) (upd H a o) where
  sub := fun b u h => by
    obtain ⟨a', e, hF, _⟩ := r.cell n c0 h0 l0
    rw [ha] at e; cases e
    have ne : b ≠ a := fun z => by rw [z, hF] at h; cases h
    rw [upd_ne ne]; exact r.sub b u h
  len := by rw [List.length_set, r.len]
  cell := fun m c' hc' hl => by
    have hn : n < S.length := (List.getElem?_eq_some_iff.mp h0).1
    obtain ⟨a', e, hF, _⟩ := r.cell n c0 h0 l0
    rw [ha] at e; cases e
    by_cases hm : m = n
    · subst hm
      rw [List.getElem?_set_self hn] at hc'
      cases hc'
      exact ⟨a, ha, hF, by rw [upd_same]; exact hc⟩
    · rw [List.getElem?_set_ne (Ne.symm hm)] at hc'
      obtain ⟨b, h1, h2, h3⟩ := r.cell m c' hc' hl
      have ne : b ≠ a := fun z => by
        subst z
        exact hm (r.inj m n b c' c0 h1 ha hc' h0 hl l0)
      exact ⟨b, h1, h2, by rw [upd_ne ne]; exact h3⟩
  inj := fun i j b c1 c2 h1 h2 h3 h4 l1 l2 => by
    have hn : n < S.length := (List.getElem?_eq_some_iff.mp h0).1
    have key : ∀ (i : Nat) (c1 : Cell), (S.set n c)[i]? = some c1 → live c1 → ∃ c3, S[i]? = some c3 ∧ live c3 := by
      intro i c1 h l
      by_cases hi : i = n
      · subst hi; exact ⟨c0, h0, l0⟩
      · rw [List.getElem?_set_ne (Ne.symm hi)] at h; exact ⟨c1, h, l⟩
    obtain ⟨c3, q1, q2⟩ := key i c1 h3 l1
    obtain ⟨c4, q3, q4⟩ := key j c2 h4 l2
    exact r.inj i j b c3 c4 h1 h2 q1 q3 q2 q4
end
end Ev
namespace Ev
open PySem PySem.Spec PyProof.Rows L2

theorem LIM_eq : LIM = sizeLine := by rw [sizeLine_eq]; rfl

/-! ### == of data -/
mutual
def toP : D → PyData
  | .bl b => .bool b | .int i => .int i | .str x => .str x
  | .tup xs => .tuple (toPs xs) | .lst xs => .list (toPs xs)
  | _ => .none
def toPs : List D → List PyData
  | [] => []
  | x :: xs => toP x :: toPs xs
end
section
variable {K : PySem.W.Frag} {F H : Hp} {ι : List Addr}
mutual
theorem dp_of (sub : ∀ a o, F a = some o → H a = some o) : ∀ (d : D) (n : Nat) (v : V), flat n d = true → Rep K F ι v d → Dp K H v (toP d)
  | .non, _, _, _, h => by cases h; exact .non
  | .bl _, _, _, _, h => by cases h; exact .bl _
  | .int _, _, _, _, h => by cases h; exact .int _
  | .str _, _, _, _, h => by cases h; exact .str _
  | .scr _, _, _, f, _ => by simp [flat] at f
  | .tup ds, 0, _, f, _ => by simp [flat] at f
  | .tup ds, n + 1, _, f, h => by
    cases h with
    | tup h h2 => rw [toP]; exact .tup (SqT.up sub h) (dps_of sub ds n _ (by simpa [flat] using f) h2)
  | .lst ds, 0, _, f, _ => by simp [flat] at f
  | .lst ds, n + 1, _, f, h => by
    cases h with
    | lst h h2 => rw [toP]; exact .lst (SqL.of (sub _ _ h)) (dps_of sub ds n _ (by simpa [flat] using f) h2)
  | .dic _ _, _, _, f, _ => by simp [flat] at f
  | .loc _, _, _, f, _ => by simp [flat] at f
  | .opq _, _, _, f, _ => by simp [flat] at f
theorem dps_of (sub : ∀ a o, F a = some o → H a = some o) : ∀ (ds : List D) (n : Nat) (vs : List V), flats n ds = true → Reps K F ι vs ds → DpAll K H vs (toPs ds)
  | [], _, _, _, h => by cases h; exact .nil
  | d :: ds, n, _, f, h => by
    cases h with
    | cons h1 h2 =>
      have f2 : flat n d = true ∧ flats n ds = true := by simpa [flats] using f
      rw [toPs]
      exact .cons (dp_of sub d n _ f2.1 h1) (dps_of sub ds n _ f2.2 h2)
end
mutual
theorem lay_of : ∀ (d : D) (n : Nat) (v : V), flat n d = true → Rep K F ι v d → PyData.canLay0 (toP d) = true ∧ (toP d).depth ≤ n
  | .non, _, _, _, h => by simp [toP, PyData.canLay0, PyData.depth]
  | .bl _, _, _, _, h => by simp [toP, PyData.canLay0, PyData.depth]
  | .int _, _, _, _, h => by simp [toP, PyData.canLay0, PyData.depth]
  | .str _, _, _, _, h => by
    cases h with
    | str _ h => simp only [toP, PyData.canLay0, PyData.depth]; exact ⟨h, Nat.zero_le _⟩
  | .scr _, _, _, f, _ => by simp [flat] at f
  | .tup ds, 0, _, f, _ => by simp [flat] at f
  | .tup ds, n + 1, _, f, h => by
    cases h with
    | tup h h2 =>
      obtain ⟨a, b⟩ := lays_of ds n _ (by simpa [flat] using f) h2
      simp only [toP, PyData.canLay0, PyData.depth]
      exact ⟨a, by omega⟩
  | .lst ds, 0, _, f, _ => by simp [flat] at f
  | .lst ds, n + 1, _, f, h => by
    cases h with
    | lst h h2 =>
      obtain ⟨a, b⟩ := lays_of ds n _ (by simpa [flat] using f) h2
      simp only [toP, PyData.canLay0, PyData.depth]
      exact ⟨a, by omega⟩
  | .dic _ _, _, _, f, _ => by simp [flat] at f
  | .loc _, _, _, f, _ => by simp [flat] at f
  | .opq _, _, _, f, _ => by simp [flat] at f
theorem lays_of : ∀ (ds : List D) (n : Nat) (vs : List V), flats n ds = true → Reps K F ι vs ds → PyData.canLayAll0 (toPs ds) = true ∧ PyData.depthAll (toPs ds) ≤ n
  | [], _, _, _, h => by simp [toPs, PyData.canLayAll0, PyData.depthAll]
  | d :: ds, n, _, f, h => by
    cases h with
    | cons h1 h2 =>
      have f2 : flat n d = true ∧ flats n ds = true := by simpa [flats] using f
      obtain ⟨a1, b1⟩ := lay_of d n _ f2.1 h1
      obtain ⟨a2, b2⟩ := lays_of ds n _ f2.2 h2
      simp only [toPs, PyData.canLayAll0, PyData.depthAll, a1, a2, Bool.and_self]
      exact ⟨trivial, by omega⟩
end
theorem shaped_of {d : D} {n : Nat} {v : V} (hn : n ≤ 64) (f : flat n d = true) (h : Rep K F ι v d) : SeqAt.shaped (toP d) = true := by
  obtain ⟨a, b⟩ := lay_of d n v f h
  unfold SeqAt.shaped
  rw [a, decide_eq_true (by omega)]
  rfl
end
mutual
theorem eqv_of : ∀ (a : D) (n m : Nat) (b : D), flat n a = true → flat m b = true → PyData.eqv (toP a) (toP b) = eqD a b
  | .non, n, m, b, f, g => by cases b <;> first | (cases m <;> simp [flat] at g; done) | simp [flat, toP, PyData.eqv, eqD] at *
  | .bl _, n, m, b, f, g => by cases b <;> first | (cases m <;> simp [flat] at g; done) | simp [flat, toP, PyData.eqv, eqD] at *
  | .int _, n, m, b, f, g => by cases b <;> first | (cases m <;> simp [flat] at g; done) | simp [flat, toP, PyData.eqv, eqD] at *
  | .str _, n, m, b, f, g => by cases b <;> first | (cases m <;> simp [flat] at g; done) | simp [flat, toP, PyData.eqv, eqD] at *
  | .scr _, n, _, _, f, _ => by simp [flat] at f
  | .dic _ _, n, _, _, f, _ => by simp [flat] at f
  | .loc _, n, _, _, f, _ => by simp [flat] at f
  | .opq _, n, _, _, f, _ => by simp [flat] at f
  | .tup xs, 0, _, _, f, _ => by simp [flat] at f
  | .tup xs, n + 1, m, b, f, g => by
    have f' : flats n xs = true := by simpa [flat] using f
    cases b with
    | tup ys =>
      cases m with
      | zero => simp [flat] at g
      | succ m =>
        have g' : flats m ys = true := by simpa [flat] using g
        simp only [toP, PyData.eqv, eqD]
        exact eqvs_of xs n m ys f' g'
    | _ => first | (cases m <;> simp [flat] at g; done) | simp [flat, toP, PyData.eqv, eqD] at *
  | .lst xs, 0, _, _, f, _ => by simp [flat] at f
  | .lst xs, n + 1, m, b, f, g => by
    have f' : flats n xs = true := by simpa [flat] using f
    cases b with
    | lst ys =>
      cases m with
      | zero => simp [flat] at g
      | succ m =>
        have g' : flats m ys = true := by simpa [flat] using g
        simp only [toP, PyData.eqv, eqD]
        exact eqvs_of xs n m ys f' g'
    | _ => first | (cases m <;> simp [flat] at g; done) | simp [flat, toP, PyData.eqv, eqD] at *
theorem eqvs_of : ∀ (xs : List D) (n m : Nat) (ys : List D), flats n xs = true → flats m ys = true → PyData.eqvAll (toPs xs) (toPs ys) = eqDs xs ys
  | [], n, m, ys, f, g => by cases ys <;> simp [toPs, PyData.eqvAll, eqDs]
  | x :: xs, n, m, ys, f, g => by
    cases ys with
    | nil => simp [toPs, PyData.eqvAll, eqDs]
    | cons y ys =>
      have f2 : flat n x = true ∧ flats n xs = true := by simpa [flats] using f
      have g2 : flat m y = true ∧ flats m ys = true := by simpa [flats] using g
      simp only [toPs, PyData.eqvAll, eqDs]
      rw [eqv_of x n m y f2.1 g2.1, eqvs_of xs n m ys f2.2 g2.2]
end

/-! ### one operation on two values -/
section
variable {cA : Nat → Addr}
def rOp (cA : Nat → Addr) (K : PySem.W.Frag) (op : Store → D → D → Option D) : R2 := fun x y H Q => ∃ F ι S a b d, Rel cA K F ι S H ∧ Rep K F ι x a ∧ Rep K F ι y b ∧ op S a b = some d ∧
  ∀ F' H' v, Ext F ι F' ι → Rel cA K F' ι S H' → Rep K F' ι v d → Q v H'
variable {K : PySem.W.Frag} {F H : Hp} {ι : List Addr} {S : Store} {a : D} {x : V}
theorem items_at (r : Rel cA K F ι S H) {xs : List D} (h : Rep K F ι x a) (e : items S a = some xs) : ∃ p vs, x = .ref p ∧ H p = some (.lst vs) ∧ Reps K F ι vs xs := by
  cases h with
  | lst h1 h2 => simp [items] at e; subst e; exact ⟨_, _, rfl, r.sub _ _ h1, h2⟩
  | @loc n p h1 =>
    simp only [items] at e
    split at e
    · rename_i ys hy
      simp at e
      subst e
      obtain ⟨q, e1, e2, vs, e3, e4⟩ := r.cell n _ hy trivial
      rw [h1] at e1
      cases e1
      exact ⟨_, vs, rfl, e3, e4⟩
    · cases e
  | _ => simp [items] at e
/-- a list, a place told by value -/
theorem val_at (r : Rel cA K F ι S H) {n : Nat} (h : Rep K F ι x a) (f : flat n (byVal S a) = true) (hn : n ≤ 64) : Dp K H x (toP (byVal S a)) ∧ SeqAt.shaped (toP (byVal S a)) = true := by
  cases a with
  | loc m =>
    simp only [byVal] at f ⊢
    split at f
    · rename_i ys hy
      cases n with
      | zero => simp [flat] at f
      | succ n =>
        have f' : flats n ys = true := by simpa [flat] using f
        cases h with
        | loc h1 =>
          obtain ⟨q, e1, e2, vs, e3, e4⟩ := r.cell m _ hy trivial
          rw [h1] at e1
          cases e1
          obtain ⟨l1, l2⟩ := lays_of ys n _ f' e4
          refine ⟨by rw [toP]; exact .lst (SqL.of e3) (dps_of r.sub ys n _ f' e4), ?_⟩
          unfold SeqAt.shaped
          simp only [toP, PyData.canLay0, PyData.depth, l1]
          rw [decide_eq_true (by omega)]
          rfl
    · simp [flat] at f
  | _ => exact ⟨dp_of r.sub _ n _ f h, shaped_of hn f h⟩
/-- a new list -/
theorem fin_lst {Q : VK} {ds : List D} {vs : List V} {p : Addr} (r : Rel cA K F ι S H) (hp : H p = none) (h : Reps K F ι vs ds) (q : ∀ F' H' v, Ext F ι F' ι → Rel cA K F' ι S H' → Rep K F' ι v (.lst ds) → Q v H') : Q (.ref p) (upd H p (.lst vs)) := by
  have e := Ext.fresh (F := F) (ι := ι) (r.freeF hp) (.lst vs)
  exact q _ _ _ e (r.fresh hp _) (.lst upd_same (h.ext e))
theorem fin_tup {Q : VK} {ds : List D} {vs : List V} {p : Addr} (r : Rel cA K F ι S H) (hp : H p = none) (h : Reps K F ι vs ds) (q : ∀ F' H' v, Ext F ι F' ι → Rel cA K F' ι S H' → Rep K F' ι v (.tup ds) → Q v H') : Q (.ref p) (upd H p (.tup vs)) := by
  have e := Ext.fresh (F := F) (ι := ι) (r.freeF hp) (.tup vs)
  exact q _ _ _ e (r.fresh hp _) (.tup (SqT.of upd_same) (h.ext e))
theorem repStr {z : Str} (h : z.cps.toList.all (· < 0x110000) = true) : Rep K F ι (.str z) (.str z) := .str z (by
  unfold okStr PyData.strOk
  rw [← Array.all_toList]; exact h)
theorem strRep {z : Str} {v : V} (h : Rep K F ι v (.str z)) : v = .str z ∧ z.cps.toList.all (· < 0x110000) = true := by
  cases h with
  | str _ h => exact ⟨rfl, by unfold okStr PyData.strOk at h; rw [← Array.all_toList] at h; exact h⟩

variable {X : Cx}
theorem ok_add : OpR X (binaryOp .Add) (rOp cA X.K fun S => op2 S .add) := by
  intro pins s σ H x y v u Q I rx ry h
  obtain ⟨F, ι, S, a, b, d, r, ra, rb, e, q⟩ := h
  have lists : (addL S a b).map D.lst = some d → wpAny (model X.prog X.w) X.A (binaryOp .Add v u) (EP X pins σ Q) X.xe s := fun e => by
    obtain ⟨zs, e1, rfl⟩ := Option.map_eq_some_iff.mp e
    unfold addL at e1
    split at e1
    · rename_i xs ys h1 h2
      split at e1
      · rename_i hl
        cases e1
        obtain ⟨p, vs, rfl, hp, hv⟩ := items_at r ra h1
        obtain ⟨p', ws, rfl, hp', hw⟩ := items_at r rb h2
        refine op_cat pins s σ H _ _ v u Q I rx ry ⟨p, p', vs, ws, rfl, rfl, hp, hp', by rw [hv.len, hw.len, ← LIM_eq]; exact hl, fun c hc => ?_⟩
        exact fin_lst r hc (hv.app hw) q
      · cases e1
    · cases e1
  cases a with
  | int i =>
    cases b with
    | int j =>
      simp only [op2, Option.some.injEq] at e
      subst e
      cases ra; cases rb
      exact op_add pins s σ H _ _ v u Q I rx ry ⟨i, j, rfl, rfl, q F H _ (Ext.refl ..) r (.int _)⟩
    | _ => exact lists (by simpa only [op2] using e)
  | str z =>
    cases b with
    | str w =>
      simp only [op2] at e
      split at e
      · rename_i hl
        cases e
        obtain ⟨rfl, o1⟩ := strRep ra
        obtain ⟨rfl, o2⟩ := strRep rb
        refine op_add_str pins s σ H _ _ v u Q I rx ry ⟨z, w, rfl, rfl, by rw [← LIM_eq]; exact hl, q F H _ (Ext.refl ..) r (repStr ?_)⟩
        show (z.cps ++ w.cps).toList.all _ = true
        rw [Array.toList_append, List.all_append, o1, o2]; rfl
      · cases e
    | _ => exact lists (by simpa only [op2] using e)
  | tup xs =>
    cases b with
    | tup ys =>
      simp only [op2] at e
      split at e
      · rename_i hl
        cases e
        cases ra with
        | tup h1 h2 =>
          cases rb with
          | tup g1 g2 =>
            refine op_catA pins s σ H _ _ v u Q I rx ry ⟨_, _, _, _, rfl, rfl, SqT.up r.sub h1, SqT.up r.sub g1, by rw [h2.len, g2.len, ← LIM_eq]; exact hl, fun z => ?_, fun z1 z => ?_, fun z1 z2 c hc => ?_⟩
            · subst z
              cases h2
              exact q F H _ (Ext.refl ..) r (.tup g1 g2)
            · subst z
              cases g2
              rw [List.append_nil] at q
              exact q F H _ (Ext.refl ..) r (.tup h1 h2)
            · exact fin_tup r hc (h2.app g2) q
      · cases e
    | _ => exact lists (by simpa only [op2] using e)
  | _ => exact lists (by simpa only [op2] using e)
/-- ints in, a scalar out -/
theorem ok_int {f : Value → Value → Sem Value} {C : Int → Int → Prop} {g : Int → Int → V} {op : Store → D → D → Option D} (h : OpR X f (rI C g))
    (hi : ∀ S a b d, op S a b = some d → ∃ i j, a = .int i ∧ b = .int j ∧ C i j ∧ ∀ F ι, Rep X.K F ι (g i j) d) : OpR X f (rOp cA X.K op) := by
  intro pins s σ H x y v u Q I rx ry q
  obtain ⟨F, ι, S, a, b, d, r, ra, rb, e, q⟩ := q
  obtain ⟨i, j, rfl, rfl, c, hr⟩ := hi _ _ _ _ e
  cases ra; cases rb
  exact h pins s σ H _ _ v u Q I rx ry ⟨i, j, rfl, rfl, c, q F H _ (Ext.refl ..) r (hr ..)⟩
theorem rI0_rI {f : Value → Value → Sem Value} {g : Int → Int → V} (h : OpR X f (rI0 g)) : OpR X f (rI (fun _ _ => True) g) := by
  intro pins s σ H x y v u Q I rx ry q
  obtain ⟨i, j, e1, e2, _, q⟩ := q
  exact h pins s σ H x y v u Q I rx ry ⟨i, j, e1, e2, q⟩
theorem ok_sub : OpR X (binaryOp .Sub) (rOp cA X.K fun S => op2 S .sub) := ok_int (rI0_rI op_sub) fun S a b d e => by
  cases a <;> cases b <;> simp [op2] at e
  subst e; exact ⟨_, _, rfl, rfl, trivial, fun _ _ => .int _⟩
theorem ok_fdiv : OpR X (binaryOp .FloorDiv) (rOp cA X.K fun S => op2 S .fdiv) := ok_int op_fdiv fun S a b d e => by
  cases a <;> cases b <;> simp [op2] at e
  obtain ⟨h, e⟩ := e
  subst e; exact ⟨_, _, rfl, rfl, h, fun _ _ => .int _⟩
theorem ok_mod : OpR X (binaryOp .Mod) (rOp cA X.K fun S => op2 S .mod) := ok_int op_mod fun S a b d e => by
  cases a <;> cases b <;> simp [op2] at e
  obtain ⟨h, e⟩ := e
  subst e; exact ⟨_, _, rfl, rfl, h, fun _ _ => .int _⟩
theorem ok_pow : OpR X (binaryOp .Pow) (rOp cA X.K fun S => op2 S .pow) := ok_int op_pow fun S a b d e => by
  cases a <;> cases b <;> simp [op2] at e
  obtain ⟨⟨h1, h2, h3⟩, e⟩ := e
  subst e; exact ⟨_, _, rfl, rfl, ⟨h1, by omega, Nat.lt_trans h3 (by decide)⟩, fun _ _ => .int _⟩
theorem ok_lt : OpR X (compareOp .Lt) (rOp cA X.K fun S => op2 S .lt) := ok_int (rI0_rI op_lt) fun S a b d e => by
  cases a <;> cases b <;> simp [op2] at e
  subst e; exact ⟨_, _, rfl, rfl, trivial, fun _ _ => .bl _⟩
theorem ok_le : OpR X (compareOp .LtE) (rOp cA X.K fun S => op2 S .le) := ok_int (rI0_rI op_le) fun S a b d e => by
  cases a <;> cases b <;> simp [op2] at e
  subst e; exact ⟨_, _, rfl, rfl, trivial, fun _ _ => .bl _⟩
theorem ok_gt : OpR X (compareOp .Gt) (rOp cA X.K fun S => op2 S .gt) := ok_int (rI0_rI op_gt) fun S a b d e => by
  cases a <;> cases b <;> simp [op2] at e
  subst e; exact ⟨_, _, rfl, rfl, trivial, fun _ _ => .bl _⟩
theorem ok_ge : OpR X (compareOp .GtE) (rOp cA X.K fun S => op2 S .ge) := ok_int (rI0_rI op_ge) fun S a b d e => by
  cases a <;> cases b <;> simp [op2] at e
  subst e; exact ⟨_, _, rfl, rfl, trivial, fun _ _ => .bl _⟩
theorem ok_mul : OpR X (binaryOp .Mult) (rOp cA X.K fun S => op2 S .mul) := by
  intro pins s σ H x y v u Q I rx ry h
  obtain ⟨F, ι, S, a, b, d, r, ra, rb, e, q⟩ := h
  have lists : (mulL S a b).map D.lst = some d → wpAny (model X.prog X.w) X.A (binaryOp .Mult v u) (EP X pins σ Q) X.xe s := fun e => by
    obtain ⟨zs, e1, rfl⟩ := Option.map_eq_some_iff.mp e
    unfold mulL at e1
    split at e1
    · rename_i xs k h1 he
      split at e1
      · rename_i hl
        cases e1
        obtain ⟨p, vs, rfl, hp, hv⟩ := items_at r ra h1
        cases rb
        refine op_rep pins s σ H _ _ v u Q I rx ry ⟨p, k, vs, rfl, rfl, hp, by omega, by omega, by rw [hv.len, ← LIM_eq]; exact hl.2.2, fun c hc => ?_⟩
        exact fin_lst r hc (hv.rep _) q
      · cases e1
    · cases e1
  cases a with
  | int i =>
    cases b with
    | int j =>
      simp only [op2] at e
      split at e
      · rename_i hl
        cases e
        cases ra; cases rb
        exact op_mul pins s σ H _ _ v u Q I rx ry ⟨i, j, rfl, rfl, .inl hl, q F H _ (Ext.refl ..) r (.int _)⟩
      · cases e
    | _ => exact lists (by simpa only [op2] using e)
  | _ => exact lists (by simpa only [op2] using e)
theorem ok_eq (hu : X.A.units + 64 < cLine) : OpR X (compareOp .Eq) (rOp cA X.K fun S => op2 S .eq) := by
  intro pins s σ H x y v u Q I rx ry h
  obtain ⟨F, ι, S, a, b, d, r, ra, rb, e, q⟩ := h
  simp only [op2] at e
  split at e
  · rename_i hf
    obtain ⟨f1, f2⟩ := Bool.and_eq_true_iff.mp hf
    cases e
    obtain ⟨d1, s1⟩ := val_at r ra f1 (by decide)
    obtain ⟨d2, s2⟩ := val_at r rb f2 (by decide)
    refine op_eqD hu pins s σ H _ _ v u Q I rx ry ⟨_, _, d1, d2, s1, s2, ?_⟩
    rw [eqv_of _ _ _ _ f1 f2]
    exact q F H _ (Ext.refl ..) r (.bl _)
  · cases e
theorem ok_ne (hu : X.A.units + 64 < cLine) : OpR X (compareOp .NotEq) (rOp cA X.K fun S => op2 S .ne) := by
  intro pins s σ H x y v u Q I rx ry h
  obtain ⟨F, ι, S, a, b, d, r, ra, rb, e, q⟩ := h
  simp only [op2] at e
  split at e
  · rename_i hf
    obtain ⟨f1, f2⟩ := Bool.and_eq_true_iff.mp hf
    cases e
    obtain ⟨d1, s1⟩ := val_at r ra f1 (by decide)
    obtain ⟨d2, s2⟩ := val_at r rb f2 (by decide)
    refine op_neD hu pins s σ H _ _ v u Q I rx ry ⟨_, _, d1, d2, s1, s2, ?_⟩
    rw [eqv_of _ _ _ _ f1 f2]
    exact q F H _ (Ext.refl ..) r (.bl _)
  · cases e
theorem isNon_of {v : V} {d : D} (h : Rep K F ι v d) : decide (v = .non) = isNon d := by
  cases h <;> simp [isNon]
theorem ok_is : OpR X (compareOp .Is) (rOp cA X.K fun S => op2 S .is_) := by
  intro pins s σ H x y v u Q I rx ry h
  obtain ⟨F, ι, S, a, b, d, r, ra, rb, e, q⟩ := h
  simp only [op2] at e
  obtain ⟨c, e1, rfl⟩ := Option.map_eq_some_iff.mp e
  unfold isD at e1
  split at e1
  · cases e1
    cases ra; cases rb
    refine op_isBl pins s σ H _ _ v u Q I rx ry ⟨_, _, rfl, rfl, ?_⟩
    rw [← Bool.beq_eq_decide_eq]
    exact q F H _ (Ext.refl ..) r (.bl _)
  · cases e1
    cases rb
    refine op_isN pins s σ H _ _ v u Q I rx ry ⟨rfl, ?_⟩
    rw [isNon_of ra]
    exact q F H _ (Ext.refl ..) r (.bl _)
  · cases e1
theorem ok_isnt : OpR X (compareOp .IsNot) (rOp cA X.K fun S => op2 S .isnt) := by
  intro pins s σ H x y v u Q I rx ry h
  obtain ⟨F, ι, S, a, b, d, r, ra, rb, e, q⟩ := h
  simp only [op2] at e
  obtain ⟨c, e1, rfl⟩ := Option.map_eq_some_iff.mp e
  unfold isD at e1
  split at e1
  · cases e1
    cases ra; cases rb
    refine op_notBl pins s σ H _ _ v u Q I rx ry ⟨_, _, rfl, rfl, ?_⟩
    rw [← Bool.beq_eq_decide_eq]
    exact q F H _ (Ext.refl ..) r (.bl _)
  · cases e1
    cases rb
    refine op_notN pins s σ H _ _ v u Q I rx ry ⟨rfl, ?_⟩
    rw [isNon_of ra]
    exact q F H _ (Ext.refl ..) r (.bl _)
  · cases e1
end
end Ev
namespace Ev
open PySem PySem.Spec PyProof.Rows L2
section
variable {cA : Nat → Addr} {K : PySem.W.Frag} {F H : Hp} {ι : List Addr} {S : Store} {a : D} {x : V} {X : Cx}

/-! ### in -/
theorem flat0_V {d : D} {v : V} (f : flat 0 d = true) (h : Rep K F ι v d) : flatV v = true := by
  cases h <;> first | rfl | simp [flat] at f
theorem flats0_V : ∀ {ds : List D} {vs : List V}, flats 0 ds = true → Reps K F ι vs ds → vs.all flatV = true
  | [], _, _, h => by cases h; rfl
  | d :: ds, _, f, h => by
    cases h with
    | cons h1 h2 =>
      have f2 : flat 0 d = true ∧ flats 0 ds = true := by simpa [flats] using f
      rw [List.all_cons, flat0_V f2.1 h1, flats0_V f2.2 h2]
      rfl
theorem eqV_eqD {d e : D} {v w : V} (f : flat 0 d = true) (g : flat 0 e = true) (h : Rep K F ι v d) (h' : Rep K F ι w e) : eqV v w = eqD d e := by
  cases h <;> first | (simp [flat] at f; done) | (cases h' <;> first | (simp [flat] at g; done) | rfl)
theorem any_eqD {e : D} {w : V} (g : flat 0 e = true) (h' : Rep K F ι w e) : ∀ {ds : List D} {vs : List V}, flats 0 ds = true → Reps K F ι vs ds → (vs.any fun v => eqV v w) = ds.any fun d => eqD d e
  | [], _, _, h => by cases h; rfl
  | d :: ds, _, f, h => by
    cases h with
    | cons h1 h2 =>
      have f2 : flat 0 d = true ∧ flats 0 ds = true := by simpa [flats] using f
      rw [List.any_cons, List.any_cons, eqV_eqD f2.1 g h1 h', any_eqD g h' f2.2 h2]
theorem anyP_eqD {e : D} {n m : Nat} (g : flat n e = true) : ∀ {ds : List D}, flats m ds = true → ((toPs ds).any fun z => PyData.eqv z (toP e)) = ds.any fun d => eqD d e
  | [], _ => rfl
  | d :: ds, f => by
    have f2 : flat m d = true ∧ flats m ds = true := by simpa [flats] using f
    rw [toPs, List.any_cons, List.any_cons, eqv_of d m n e f2.1 g, anyP_eqD g f2.2]
theorem items_dp (r : Rel cA K F ι S H) {n : Nat} (hn : n < 64) {xs : List D} (h : Rep K F ι x a) (e : items S a = some xs) (f : flats n xs = true) : Dp K H x (.list (toPs xs)) ∧ SeqAt.shaped (.list (toPs xs)) = true := by
  obtain ⟨p, vs, rfl, hp, hv⟩ := items_at r h e
  obtain ⟨l1, l2⟩ := lays_of xs n _ f hv
  refine ⟨.lst (SqL.of hp) (dps_of r.sub xs n _ f hv), ?_⟩
  show (PyData.canLayAll0 (toPs xs) && decide (PyData.depthAll (toPs xs) + 1 ≤ 64)) = true
  rw [l1, decide_eq_true (by omega)]
  rfl
theorem one_sign {z : Str} (h : z.length = 1) : z = ⟨#[z.cps.getD 0 0]⟩ := by
  obtain ⟨⟨l⟩⟩ := z
  match l, h with
  | [c], _ => rfl
  | [], h => simp [Str.length] at h
  | _ :: _ :: _, h => simp [Str.length] at h
theorem ok_in (hu : X.A.units + 65 < cLine) : OpR X (compareOp .In) (rOp cA X.K fun S => op2 S .in_) := by
  intro pins s σ H x y v u Q I rx ry h
  obtain ⟨F, ι, S, a, b, d, r, ra, rb, e, q⟩ := h
  have lists : (inL S a b).map (D.bl) = some d → wpAny (model X.prog X.w) X.A (compareOp .In v u) (EP X pins σ Q) X.xe s := fun e => by
    obtain ⟨c, e1, rfl⟩ := Option.map_eq_some_iff.mp e
    unfold inL at e1
    split at e1
    · rename_i ys hy
      split at e1
      · rename_i hf
        obtain ⟨f1, f2⟩ := Bool.and_eq_true_iff.mp hf
        cases e1
        obtain ⟨p1, p2⟩ := items_dp r (by decide) rb hy f2
        refine op_inD hu pins s σ H _ _ v u Q I rx ry ⟨_, _, dp_of r.sub a 15 _ f1 ra, p1, shaped_of (by decide) f1 ra, p2, ?_⟩
        rw [anyP_eqD f1 f2]
        exact q F H _ (Ext.refl ..) r (.bl _)
      · cases e1
    · cases e1
  have tups : ∀ ys, b = .tup ys → (inT a ys).map (D.bl) = some d → wpAny (model X.prog X.w) X.A (compareOp .In v u) (EP X pins σ Q) X.xe s := fun ys eb em => by
    subst eb
    obtain ⟨c, e1, rfl⟩ := Option.map_eq_some_iff.mp em
    unfold inT at e1
    split at e1
    · rename_i hf
      obtain ⟨f1, f2⟩ := Bool.and_eq_true_iff.mp hf
      cases e1
      cases rb with
      | tup h1 h2 =>
        refine op_in_seq pins s σ H _ _ v u Q I rx ry ⟨_, _, rfl, .inr (SqT.up r.sub h1), flat0_V f1 ra, flats0_V f2 h2, ?_⟩
        have e1 : inV x _ = _ := any_eqD f1 ra f2 h2
        rw [if_neg Bool.false_ne_true, e1]
        exact q F H _ (Ext.refl ..) r (.bl _)
    · cases e1
  cases b with
  | str w =>
    cases a with
    | str z =>
      simp only [op2] at e
      split at e
      · rename_i hl
        cases e
        obtain ⟨rfl, _⟩ := strRep ra
        obtain ⟨rfl, _⟩ := strRep rb
        refine op_in_sign pins s σ H _ _ v u Q I rx ry ⟨z.cps.getD 0 0, w, congrArg V.str (one_sign hl), rfl, ?_⟩
        rw [← List.contains_eq_mem]
        exact q F H _ (Ext.refl ..) r (.bl _)
      · cases e
    | _ => exact lists e
  | tup ys =>
    cases a <;> exact tups ys rfl e
  | _ => cases a <;> exact lists e
theorem ok_notin (hu : X.A.units + 65 < cLine) : OpR X (compareOp .NotIn) (rOp cA X.K fun S => op2 S .notin) := by
  intro pins s σ H x y v u Q I rx ry h
  obtain ⟨F, ι, S, a, b, d, r, ra, rb, e, q⟩ := h
  have lists : (inL S a b).map (fun c => D.bl (!c)) = some d → wpAny (model X.prog X.w) X.A (compareOp .NotIn v u) (EP X pins σ Q) X.xe s := fun e => by
    obtain ⟨c, e1, rfl⟩ := Option.map_eq_some_iff.mp e
    unfold inL at e1
    split at e1
    · rename_i ys hy
      split at e1
      · rename_i hf
        obtain ⟨f1, f2⟩ := Bool.and_eq_true_iff.mp hf
        cases e1
        obtain ⟨p1, p2⟩ := items_dp r (by decide) rb hy f2
        refine op_notInD hu pins s σ H _ _ v u Q I rx ry ⟨_, _, dp_of r.sub a 15 _ f1 ra, p1, shaped_of (by decide) f1 ra, p2, ?_⟩
        rw [anyP_eqD f1 f2]
        exact q F H _ (Ext.refl ..) r (.bl _)
      · cases e1
    · cases e1
  have tups : ∀ ys, b = .tup ys → (inT a ys).map (fun c => D.bl (!c)) = some d → wpAny (model X.prog X.w) X.A (compareOp .NotIn v u) (EP X pins σ Q) X.xe s := fun ys eb em => by
    subst eb
    obtain ⟨c, e1, rfl⟩ := Option.map_eq_some_iff.mp em
    unfold inT at e1
    split at e1
    · rename_i hf
      obtain ⟨f1, f2⟩ := Bool.and_eq_true_iff.mp hf
      cases e1
      cases rb with
      | tup h1 h2 =>
        refine op_notIn_seq pins s σ H _ _ v u Q I rx ry ⟨_, _, rfl, .inr (SqT.up r.sub h1), flat0_V f1 ra, flats0_V f2 h2, ?_⟩
        have e1 : inV x _ = _ := any_eqD f1 ra f2 h2
        rw [if_pos rfl, e1]
        exact q F H _ (Ext.refl ..) r (.bl _)
    · cases e1
  cases b with
  | str w =>
    cases a with
    | str z =>
      simp only [op2] at e
      split at e
      · rename_i hl
        cases e
        obtain ⟨rfl, _⟩ := strRep ra
        obtain ⟨rfl, _⟩ := strRep rb
        refine op_notIn_sign pins s σ H _ _ v u Q I rx ry ⟨z.cps.getD 0 0, w, congrArg V.str (one_sign hl), rfl, ?_⟩
        rw [← List.contains_eq_mem]
        exact q F H _ (Ext.refl ..) r (.bl _)
      · cases e
    | _ => exact lists e
  | tup ys =>
    cases a <;> exact tups ys rfl e
  | _ => cases a <;> exact lists e

/-! ### o[i] -/
def rIxD : R2 := fun x y H Q => ∃ a v, x = .ref a ∧ DGet H a y (some v) ∧ Q v H
theorem ix_dic (hu : X.A.units + 1 < cLine) : IxR X rIxD := by
  intro value slice pins s σ H x y v u Q I rx ry h hs
  obtain ⟨a, z, rfl, g, q⟩ := h
  cases rx
  have hT := dict_typeIs I g
  unfold subscriptTail
  refine wpAny_bind ?_
  rw [getitemInPython_of_ne hT.not_modules]
  refine wpAny_bind (wpAny_specialOf hT PySem.F.slot_dict_getitem.lookup ?_)
  have fin : wpAny (model X.prog X.w) X.A (subscripted slice false (.ref a) u) (fun r s₃ => wpAny (model X.prog X.w) X.A (letTemporaryGo value (.ref a) r >>= fun _ => pure r) (EP X pins σ Q) X.xe s₃) X.xe s := by
    rw [hs]
    exact wpAny_operating (wpAny_mono (d_getItem (Q := EP X pins σ Q) (E := X.xe) hu I g ry fun w' s3 I3 rw' => ⟨z, H, I3, rw', q⟩) (fun r s₃ h₃ => wpAny_bind (wpAny_letTemporaryGo (wpAny_pure h₃))) fun _ _ x => x)
  first
    | exact wpAny_pure (wpAny_bind fin)
    | exact wpAny_bind (wpAny_pure (wpAny_bind fin))
    | exact wpAny_bind fin
theorem atI_rel {xs : List D} {vs : List V} {i : Int} {d : D} (h : Reps K F ι vs xs) (e : ixD xs i = some d) : ∃ v, atI vs i = some v ∧ Rep K F ι v d := by
  unfold ixD atI at e
  unfold atI
  rw [h.len]
  obtain ⟨j, e1, e2⟩ := Option.bind_eq_some_iff.mp e
  obtain ⟨v, e3, r⟩ := h.get e2
  exact ⟨v, by rw [e1]; exact e3, r⟩
theorem look_K {f : Str} {d : D} : ∀ {l : List (Key × V)} {kvs : List (Str × D)}, RepK K F ι l kvs → look f kvs = some d → ∃ v, valV l (Sum.inr f) = some v ∧ Rep K F ι v d := by
  intro l kvs h
  induction h with
  | nil => intro e; cases e
  | @cons g v e l r h1 h2 ih =>
    intro e'
    simp only [look] at e'
    split at e'
    · rename_i hg
      cases e'
      subst hg
      exact ⟨v, valV_pos rfl, h1⟩
    · rename_i hg
      obtain ⟨w, e2, r2⟩ := ih e'
      exact ⟨w, by rw [valV_neg (by simp; exact fun z => hg z.symm)]; exact e2, r2⟩
theorem lookD_K {f : Str} {d : D} : ∀ {kvs : List (Key × V)} {ks : List Str} {ds : List D}, kvs.map (·.1) = ks.map Sum.inr → Reps K F ι (kvs.map (·.2)) ds → lookD f ks ds = some d → ∃ v, valV kvs (Sum.inr f) = some v ∧ Rep K F ι v d
  | [], [], _, _, _, e => by simp [lookD] at e
  | [], _ :: _, _, h, _, _ => by simp at h
  | _ :: _, [], _, h, _, _ => by simp at h
  | (k, v) :: kvs, g :: ks, ds, h, h2, e => by
    simp at h
    obtain ⟨rfl, h⟩ := h
    cases h2 with
    | cons h3 h4 =>
      simp only [lookD] at e
      split at e
      · rename_i hg
        cases e
        subst hg
        exact ⟨v, valV_pos rfl, h3⟩
      · rename_i hg
        obtain ⟨w, e2, r2⟩ := lookD_K h h4 e
        exact ⟨w, by rw [valV_neg (by simp; exact fun z => hg z.symm)]; exact e2, r2⟩
theorem atI_map {α β : Type} (f : α → β) (xs : List α) (i : Int) : atI (xs.map f) i = (atI xs i).map f := by
  unfold atI
  rw [List.length_map]
  cases ixN xs.length i with
  | none => rfl
  | some j => simp
theorem ok_get (hu : X.A.units + 1 < cLine) : IxR X (rOp cA X.K fun S => op2 S .get) := by
  intro value slice pins s σ H x y v u Q I rx ry h hs
  obtain ⟨F, ι, S, a, b, d, r, ra, rb, e, q⟩ := h
  cases a with
  | tup xs =>
    cases b <;> first | (simp [op2] at e; done) | skip
    rename_i i
    simp only [op2] at e
    cases ra with
    | tup h1 h2 =>
      cases rb
      obtain ⟨w, e1, rw'⟩ := atI_rel h2 e
      exact ix_tup value slice pins s σ H _ _ v u Q I rx ry ⟨_, _, i, w, rfl, rfl, SqT.up r.sub h1, e1, q F H _ (Ext.refl ..) r rw'⟩ hs
  | scr ns =>
    cases b <;> first | (simp [op2] at e; done) | skip
    rename_i i
    simp only [op2] at e
    obtain ⟨n, e1, rfl⟩ := Option.map_eq_some_iff.mp e
    cases ra with
    | scr h1 =>
      cases rb
      exact ix_list value slice pins s σ H _ _ v u Q I rx ry ⟨_, _, i, .int n, rfl, rfl, SqL.up r.sub h1, by rw [atI_map, e1]; rfl, q F H _ (Ext.refl ..) r (.int _)⟩ hs
  | str z =>
    cases b <;> first | (simp [op2] at e; done) | skip
    rename_i i
    simp only [op2] at e
    split at e
    · rename_i hl
      obtain ⟨c, e1, rfl⟩ := Option.map_eq_some_iff.mp e
      obtain ⟨rfl, o1⟩ := strRep ra
      cases rb
      refine ix_str value slice pins s σ H _ _ v u Q I rx ry ⟨z, i, c, rfl, rfl, by rw [← LIM_eq]; exact hl, e1, q F H _ (Ext.refl ..) r (repStr ?_)⟩ hs
      obtain ⟨j, _, e2, _⟩ := atI_get e1
      have := List.all_eq_true.mp o1 c (List.mem_of_getElem? e2)
      simpa using this
    · cases e
  | dic ks vs =>
    cases b <;> first | (simp [op2] at e; done) | skip
    rename_i f
    simp only [op2] at e
    cases ra with
    | dic h1 h2 h3 =>
      obtain ⟨rfl, _⟩ := strRep rb
      obtain ⟨w, e1, rw'⟩ := lookD_K h2 h3 e
      refine ix_dic hu value slice pins s σ H _ _ v u Q I rx ry ⟨_, w, rfl, ?_, q F H _ (Ext.refl ..) r rw'⟩ hs
      rw [← e1]
      exact DGet.k (k := Sum.inr f) (r.sub _ _ h1)
  | lst xs =>
    cases b <;> first | (simp [op2] at e; done) | skip
    rename_i i
    simp only [op2] at e
    cases ra with
    | lst h1 h2 =>
      cases rb
      obtain ⟨w, e1, rw'⟩ := atI_rel h2 e
      exact ix_list value slice pins s σ H _ _ v u Q I rx ry ⟨_, _, i, w, rfl, rfl, SqL.of (r.sub _ _ h1), e1, q F H _ (Ext.refl ..) r rw'⟩ hs
  | loc n =>
    have e' : getC S[n]? b = some d := by cases b <;> exact e
    cases hc : S[n]? with
    | none => rw [hc] at e'; cases e'
    | some c =>
      rw [hc] at e'
      cases ra with
      | loc hl =>
        cases c with
        | lst xs =>
          cases b <;> first | (simp [getC] at e'; done) | skip
          rename_i i
          obtain ⟨p, e1, e2, vs, e3, e4⟩ := r.cell n _ hc trivial
          rw [hl] at e1; cases e1
          cases rb
          obtain ⟨w, e5, rw'⟩ := atI_rel e4 e'
          exact ix_list value slice pins s σ H _ _ v u Q I rx ry ⟨_, _, i, w, rfl, rfl, SqL.of e3, e5, q F H _ (Ext.refl ..) r rw'⟩ hs
        | dic kvs =>
          cases b <;> first | (simp [getC] at e'; done) | skip
          rename_i f
          obtain ⟨p, e1, e2, l, e3, e4⟩ := r.cell n _ hc trivial
          rw [hl] at e1; cases e1
          obtain ⟨rfl, _⟩ := strRep rb
          obtain ⟨w, e5, rw'⟩ := look_K e4 e'
          refine ix_dic hu value slice pins s σ H _ _ v u Q I rx ry ⟨_, w, rfl, ?_, q F H _ (Ext.refl ..) r rw'⟩ hs
          rw [← e5]
          exact DGet.k (k := Sum.inr f) e3
        | _ => cases b <;> simp [getC] at e'
  | _ => cases b <;> simp [op2] at e

/-! ### calls of built-ins with one value -/
def rOp1 (cA : Nat → Addr) (K : PySem.W.Frag) (op : Store → D → Option D) : List V → Hp → VK → Prop := fun xs H Q => ∃ F ι S x a d, xs = [x] ∧ Rel cA K F ι S H ∧ Rep K F ι x a ∧ op S a = some d ∧
  ∀ F' H' v, Ext F ι F' ι → Rel cA K F' ι S H' → Rep K F' ι v d → Q v H'
theorem ok_len : CallR X (.builtin "len") (rOp1 cA X.K fun S => op1 S .len) := by
  intro pins s σ H xs us Q I rs h
  obtain ⟨F, ι, S, x, a, d, rfl, r, ra, e, q⟩ := h
  have lists : (items S a).map (fun xs => D.int xs.length) = some d → wpAny (model X.prog X.w) X.A (call (.builtin "len") us) (EP X pins σ Q) X.xe s := fun e => by
    obtain ⟨ys, e1, rfl⟩ := Option.map_eq_some_iff.mp e
    obtain ⟨p, vs, rfl, hp, hv⟩ := items_at r ra e1
    refine call_len_seq pins s σ H _ us Q I rs ⟨p, vs, rfl, .inl (SqL.of hp), ?_⟩
    rw [hv.len]
    exact q F H _ (Ext.refl ..) r (.int _)
  cases a with
  | str z =>
    simp only [op1] at e
    split at e
    · rename_i hl
      cases e
      obtain ⟨rfl, o1⟩ := strRep ra
      exact call_len_str pins s σ H _ us Q I rs ⟨z, rfl, by rw [← LIM_eq]; exact hl, q F H _ (Ext.refl ..) r (.int _)⟩
    · cases e
  | tup ys =>
    simp only [op1] at e
    cases e
    cases ra with
    | tup h1 h2 =>
      refine call_len_seq pins s σ H _ us Q I rs ⟨_, _, rfl, .inr (SqT.up r.sub h1), ?_⟩
      rw [h2.len]
      exact q F H _ (Ext.refl ..) r (.int _)
  | scr ns =>
    simp only [op1] at e
    cases e
    cases ra with
    | scr h1 =>
      refine call_len_seq pins s σ H _ us Q I rs ⟨_, _, rfl, .inl (SqL.up r.sub h1), ?_⟩
      rw [List.length_map]
      exact q F H _ (Ext.refl ..) r (.int _)
  | _ => exact lists (by simpa only [op1] using e)
theorem ok_tuple : CallR X (.type "tuple") (rOp1 cA X.K fun S => op1 S .tuple) := by
  intro pins s σ H xs us Q I rs h
  obtain ⟨F, ι, S, x, a, d, rfl, r, ra, e, q⟩ := h
  simp only [op1] at e
  obtain ⟨ys, e1, rfl⟩ := Option.map_eq_some_iff.mp e
  obtain ⟨p, vs, rfl, hp, hv⟩ := items_at r ra e1
  exact call_tuple_of pins s σ H _ us Q I rs ⟨p, vs, rfl, .inl ⟨SqL.of hp, fun c hc => fin_tup r hc hv q⟩⟩
theorem toString_ok (n : Int) : (toString n : Str).cps.toList.all (· < 0x110000) = true := by
  rw [Str.ofString_eq_toList]
  rw [List.all_eq_true]
  intro c hc
  simp at hc
  obtain ⟨ch, _, rfl⟩ := hc
  have h := ch.valid
  have e : ch.toNat = ch.val.toNat := rfl
  simp only [UInt32.isValidChar, Nat.isValidChar] at h
  simp
  omega
theorem ok_str : CallR X (.type "str") (rOp1 cA X.K fun S => op1 S .str) := by
  intro pins s σ H xs us Q I rs h
  obtain ⟨F, ι, S, x, a, d, rfl, r, ra, e, q⟩ := h
  cases a <;> simp only [op1] at e <;> first | (cases e; done) | (simp [items] at e; done) | skip
  rename_i i
  split at e
  · rename_i hl
    cases e
    cases ra
    refine call_str_int pins s σ H _ us Q I rs ⟨i, rfl, ?_, q F H _ (Ext.refl ..) r (repStr (toString_ok i))⟩
    by_cases h0 : i.natAbs = 0
    · rw [h0]; decide
    · exact Nat.lt_trans ((Nat.log2_lt h0).mpr hl) (by decide)
  · cases e
theorem ok_int1 : CallR X (.type "int") (rOp1 cA X.K fun S => op1 S .int) := by
  intro pins s σ H xs us Q I rs h
  obtain ⟨F, ι, S, x, a, d, rfl, r, ra, e, q⟩ := h
  cases a <;> simp only [op1] at e <;> first | (cases e; done) | (simp [items] at e; done) | skip
  · cases e
    cases ra
    exact call_int1 pins s σ H _ us Q I rs (.inr ⟨_, rfl, q F H _ (Ext.refl ..) r (.int _)⟩)
  · split at e
    · rename_i hl
      obtain ⟨n, e1, rfl⟩ := Option.map_eq_some_iff.mp e
      obtain ⟨rfl, _⟩ := strRep ra
      exact call_int_str pins s σ H _ us Q I rs ⟨_, n, rfl, e1, hl, q F H _ (Ext.refl ..) r (.int _)⟩
    · cases e
theorem ok_neg : UnR X (unaryOp .USub) (fun x H Q => rOp1 cA X.K (fun S => op1 S .neg) [x] H Q) := by
  intro pins s σ H x v Q I rx h
  obtain ⟨F, ι, S, x', a, d, ex, r, ra, e, q⟩ := h
  cases ex
  cases a <;> simp only [op1] at e <;> first | (cases e; done) | (simp [items] at e; done) | skip
  cases e
  cases ra
  exact un_neg pins s σ H _ v Q I rx ⟨_, rfl, q F H _ (Ext.refl ..) r (.int _)⟩
theorem sqT_ty {a : Addr} {vs : List V} (h : SqT K H a vs) : TyX K H (.ref a) (.type "tuple") := by
  rcases h with (h | ⟨o, h⟩) | ⟨o, its, n, h1, h2, _⟩
  · exact .base (.tup h)
  · exact .fTuple h
  · exact .kTuple h1 h2
def tyNm : Ty → String
  | .int => "int" | .bool => "bool" | .str => "str" | .tuple => "tuple" | .list => "list"
theorem ok_isi (t : Ty) : CallR X (.builtin "isinstance") (fun xs H Q => ∃ x, xs = [x, .ty (tyNm t)] ∧ rOp1 cA X.K (fun S => op1 S (.isi t)) [x] H Q) := by
  intro pins s σ H xs us Q I rs h
  obtain ⟨x, rfl, F, ι, S, x', a, d, ex, r, ra, e, q⟩ := h
  cases ex
  have go : ∀ {ty : String} {b : Bool}, TyX X.K H x (.type ty) → kitB ty (tyNm t) = some b → d = .bl b → wpAny (model X.prog X.w) X.A (call (.builtin "isinstance") us) (EP X pins σ Q) X.xe s := fun {ty b} h1 h2 h3 => by
    subst h3
    exact call_isi pins s σ H _ us Q I rs ⟨x, .ty (tyNm t), .type ty, .type (tyNm t), b, rfl, .ty _, h1, kit_ty h2, q F H _ (Ext.refl ..) r (.bl _)⟩
  have e' : (tyIs S t a).map D.bl = some d := by cases a <;> exact e
  obtain ⟨b, e1, e2⟩ := Option.map_eq_some_iff.mp e'
  cases ra with
  | non => simp only [tyIs, Option.some.injEq] at e1; subst e1; exact go (.base .non) (by cases t <;> decide +kernel) e2.symm
  | bl c => simp only [tyIs, Option.some.injEq] at e1; subst e1; cases t <;> exact go (.base (.bl c)) (by decide +kernel) e2.symm
  | int c => simp only [tyIs, Option.some.injEq] at e1; subst e1; cases t <;> exact go (.base (.int c)) (by decide +kernel) e2.symm
  | str c _ => simp only [tyIs, Option.some.injEq] at e1; subst e1; cases t <;> exact go (.base (.str c)) (by decide +kernel) e2.symm
  | scr h => simp [tyIs] at e1
  | opq _ => simp [tyIs] at e1
  | tup h1 h2 => simp only [tyIs, Option.some.injEq] at e1; subst e1; cases t <;> exact go (sqT_ty (SqT.up r.sub h1)) (by decide +kernel) e2.symm
  | lst h1 h2 => simp only [tyIs, Option.some.injEq] at e1; subst e1; cases t <;> exact go (.base (.lst (r.sub _ _ h1))) (by decide +kernel) e2.symm
  | dic h1 h2 h3 => simp only [tyIs, Option.some.injEq] at e1; subst e1; cases t <;> exact go (.base (.dK (r.sub _ _ h1))) (by decide +kernel) e2.symm
  | @loc n p hl =>
    simp only [tyIs] at e1
    split at e1
    · rename_i ys hy
      cases e1
      obtain ⟨p', e3, e4, vs, e5, e6⟩ := r.cell n _ hy trivial
      rw [hl] at e3; cases e3
      cases t <;> exact go (.base (.lst e5)) (by decide +kernel) e2.symm
    · rename_i ys hy
      cases e1
      obtain ⟨p', e3, e4, l, e5, e6⟩ := r.cell n _ hy trivial
      rw [hl] at e3; cases e3
      cases t <;> exact go (.base (.dK e5)) (by decide +kernel) e2.symm
    · cases e1
end
end Ev
namespace Ev
open PySem PySem.Spec PyProof.Rows L2

/-! ### further operations -/
section
variable {cA : Nat → Addr} {K : PySem.W.Frag} {F H : Hp} {ι : List Addr} {S : Store} {a : D} {x : V} {X : Cx}
theorem strsOf_V {xs : List D} : ∀ {vs : List V} {ss : List Str}, Reps K F ι vs xs → strsOf xs = some ss → vs = ss.map V.str ∧ ∀ s ∈ ss, okStr s = true := by
  induction xs with
  | nil => intro vs ss h e; cases h; simp [strsOf] at e; subst e; exact ⟨rfl, fun _ h => by cases h⟩
  | cons d xs ih =>
    intro vs ss h e
    cases h with
    | cons h1 h2 =>
      cases d <;> simp only [strsOf] at e <;> first | (cases e; done) | skip
      obtain ⟨r, e1, rfl⟩ := Option.map_eq_some_iff.mp e
      obtain ⟨rfl, k⟩ := ih h2 e1
      cases h1 with
      | str _ o =>
        refine ⟨rfl, fun s hs => ?_⟩
        rcases List.mem_cons.mp hs with e | e
        · rw [e]; exact o
        · exact k s e
theorem reps_strs : ∀ {ss : List Str}, (∀ s ∈ ss, okStr s = true) → Reps K F ι (ss.map V.str) (ss.map D.str)
  | [], _ => .nil
  | s :: ss, h => .cons (.str s (h s (List.mem_cons_self ..))) (reps_strs fun t ht => h t (List.mem_cons_of_mem _ ht))
theorem strLe_iff (a b : Str) : strLe a b = true ↔ a.cps.toList ≤ b.cps.toList := by
  unfold strLe
  rw [Bool.not_eq_true', decide_eq_false_iff_not, List.not_lt]
theorem str_ext {a b : Str} (h : a.cps.toList = b.cps.toList) : a = b := by
  obtain ⟨⟨l⟩⟩ := a
  obtain ⟨⟨m⟩⟩ := b
  have h : l = m := h
  rw [h]
theorem ltCps_dec (a b : List Nat) : ltCps a b = decide (a < b) := by
  first
    | rfl
    | (induction a generalizing b with
       | nil => cases b <;> simp [ltCps]
       | cons x a ih => cases b with
         | nil => simp [ltCps]
         | cons y b => simp only [ltCps, List.cons_lt_cons_iff]; by_cases h : x < y <;> by_cases h2 : x = y <;> simp_all <;> omega)
theorem rising_pw : ∀ (l : List Str) (p : Str), risingS p l = true → (∀ x ∈ l, strLe p x = true) ∧ List.Pairwise (fun a b => strLe a b = true) l
  | [], _, _ => ⟨fun _ h => (by cases h), List.Pairwise.nil⟩
  | x :: r, p, h => by
    simp only [risingS, Bool.and_eq_true] at h
    obtain ⟨h1, h2⟩ := h
    obtain ⟨k1, k2⟩ := rising_pw r x h2
    have px : strLe p x = true := by
      unfold strLe
      rw [ltCps_dec] at h1
      exact h1
    refine ⟨fun y hy => ?_, List.Pairwise.cons k1 k2⟩
    rcases List.mem_cons.mp hy with e | e
    · rw [e]; exact px
    · have := k1 y e
      rw [strLe_iff] at *
      exact List.le_trans px this
theorem sorted_is {ss ys : List Str} (hp : ys.Perm ss) (hs : sortedS ys = true) : ys = ss.mergeSort strLe := by
  have pw : ys.Pairwise fun a b => strLe a b = true := by
    cases ys with
    | nil => exact List.Pairwise.nil
    | cons y r => obtain ⟨k1, k2⟩ := rising_pw r y hs; exact List.Pairwise.cons k1 k2
  refine List.Perm.eq_of_pairwise (le := fun a b => strLe a b = true) (fun a b _ _ h1 h2 => ?_) pw (List.pairwise_mergeSort (fun a b c h1 h2 => ?_) (fun a b => ?_) ss) (hp.trans (List.mergeSort_perm ss strLe).symm)
  · rw [strLe_iff] at h1 h2
    exact str_ext (List.le_antisymm h1 h2)
  · rw [strLe_iff] at *
    exact List.le_trans h1 h2
  · rw [Bool.or_eq_true, strLe_iff, strLe_iff]
    exact List.le_total _ _
theorem ok_sorted : CallR X (.builtin "sorted") (rOp1 cA X.K fun S => op1 S .sorted) := by
  intro pins s σ H xs us Q I rs h
  obtain ⟨F, ι, S, x, a, d, rfl, r, ra, e, q⟩ := h
  simp only [op1] at e
  split at e
  · rename_i ys hy
    obtain ⟨ss, e1, rfl⟩ := Option.map_eq_some_iff.mp e
    obtain ⟨p, vs, rfl, hp, hv⟩ := items_at r ra hy
    obtain ⟨rfl, ok⟩ := strsOf_V hv e1
    obtain ⟨its, rv, hl, hz⟩ := I.list (SqL.of hp)
    rw [Vals.ref1 rs]
    have hlen0 := rv.length
    refine sorted_strsAny hl.isList rv.strs (by rw [← hlen0]; exact hz) fun out zs h1 h2 h3 => ?_
    obtain ⟨ep, he'⟩ := PyProof.Rows.sortedAll_at s.heap its out
    have hlen : (zs.map V.str).length ≤ sizeLine := by rw [List.length_map, h2.length_eq, ← List.length_map (f := V.str)]; exact hz
    refine ⟨.ref _, upd H (s.heap.objs.size + 1) (.lst (zs.map V.str)), I.laid (t' := s.toks) (fun _ _ => PyProof.Rows.sortedAll_old) (Nat.le_succ _) ⟨hlen, out.toList, ep, vals_of_strs h1, he'⟩, rfl, ?_⟩
    have e2 := sorted_is h2 h3
    subst e2
    exact fin_lst r (I.hok.fresh (Nat.le_succ _)) (reps_strs fun s hs => ok s ((List.mergeSort_perm ss strLe).mem_iff.mp hs)) q
  · cases e
def rOpA (cA : Nat → Addr) (K : PySem.W.Frag) (op : Store → D → D → Option D) : List V → Hp → VK → Prop := fun xs H Q => ∃ x y, xs = [x, y] ∧ rOp cA K op x y H Q
theorem ok_mn (hc : X.calm = true) : CallR X (.builtin "min") (rOpA cA X.K fun S => op2 S .mn) := by
  intro pins s σ H xs us Q I rs h
  obtain ⟨x, y, rfl, F, ι, S, a, b, d, r, ra, rb, e, q⟩ := h
  cases a <;> cases b <;> simp only [op2] at e <;> first | (cases e; done) | skip
  cases e
  cases ra; cases rb
  exact call_min2 hc pins s σ H _ us Q I rs ⟨_, _, rfl, q F H _ (Ext.refl ..) r (.int _)⟩
theorem ok_mx (hc : X.calm = true) : CallR X (.builtin "max") (rOpA cA X.K fun S => op2 S .mx) := by
  intro pins s σ H xs us Q I rs h
  obtain ⟨x, y, rfl, F, ι, S, a, b, d, r, ra, rb, e, q⟩ := h
  cases a <;> cases b <;> simp only [op2] at e <;> first | (cases e; done) | skip
  cases e
  cases ra; cases rb
  exact call_max2 hc pins s σ H _ us Q I rs ⟨_, _, rfl, q F H _ (Ext.refl ..) r (.int _)⟩
/-- slices -/
def rCut (cA : Nat → Addr) (K : PySem.W.Frag) : V → Option Int → Option Int → Hp → VK → Prop := fun x lo hi H Q => ∃ F ι S a d, Rel cA K F ι S H ∧ Rep K F ι x a ∧ cutD S lo hi a = some d ∧
  ∀ F' H' v, Ext F ι F' ι → Rel cA K F' ι S H' → Rep K F' ι v d → Q v H'
theorem cutV_G (xs : List V) (lo hi : Option Int) : cutV xs lo hi = cutG xs lo hi := rfl
theorem Reps.cut {xs : List D} {vs : List V} (h : Reps K F ι vs xs) (lo hi : Option Int) : Reps K F ι (cutG vs lo hi) (cutG xs lo hi) := by
  unfold cutG
  rw [h.len]
  exact (h.drop _).take _
theorem cutG_map {α β : Type} (f : α → β) (xs : List α) (lo hi : Option Int) : cutG (xs.map f) lo hi = (cutG xs lo hi).map f := by
  unfold cutG
  rw [List.length_map, List.map_take, List.map_drop]
theorem cutS_ok {z : Str} {lo hi : Option Int} (h : z.cps.toList.all (· < 0x110000) = true) : (cutS z lo hi).cps.toList.all (· < 0x110000) = true := by
  unfold cutS
  rw [List.all_eq_true] at *
  intro c hc
  exact h c (List.mem_of_mem_drop (List.mem_of_mem_take hc))
theorem ok_cutL : SlR X (fun x lo hi H Q => ∃ F ι S a d, Rel cA X.K F ι S H ∧ Rep X.K F ι x a ∧ (items S a).map (fun xs => D.lst (cutG xs lo hi)) = some d ∧
    ∀ F' H' v, Ext F ι F' ι → Rel cA X.K F' ι S H' → Rep X.K F' ι v d → Q v H') := by
  intro pins s σ H x v vl vu lo hi sl Q I rx hs pl pu h
  obtain ⟨F, ι, S, a, d, r, ra, e, q⟩ := h
  obtain ⟨ys, e1, rfl⟩ := Option.map_eq_some_iff.mp e
  obtain ⟨p, vs, rfl, hp, hv⟩ := items_at r ra e1
  exact sl_list pins s σ H _ v vl vu lo hi sl Q I rx hs pl pu ⟨p, vs, rfl, SqL.of hp, fun c hc => fin_lst r hc (hv.cut lo hi) q⟩
theorem ok_cut : SlR X (rCut cA X.K) := by
  intro pins s σ H x v vl vu lo hi sl Q I rx hs pl pu h
  obtain ⟨F, ι, S, a, d, r, ra, e, q⟩ := h
  cases a with
  | str z =>
    simp only [cutD] at e
    split at e
    · rename_i hl
      cases e
      obtain ⟨rfl, o1⟩ := strRep ra
      exact sl_str pins s σ H _ v vl vu lo hi sl Q I rx hs pl pu ⟨z, rfl, by rw [← LIM_eq]; exact hl, q F H _ (Ext.refl ..) r (repStr (cutS_ok o1))⟩
    · cases e
  | tup ys =>
    simp only [cutD] at e
    cases e
    cases ra with
    | tup h1 h2 =>
      refine sl_tupA pins s σ H _ v vl vu lo hi sl Q I rx hs pl pu ⟨_, _, rfl, SqT.up r.sub h1, fun hw => ?_, fun _ c hc => fin_tup r hc (h2.cut lo hi) q⟩
      have e1 : cutG ys lo hi = ys := by
        unfold cutG
        rw [h2.len] at hw
        rw [hw.1, hw.2, List.drop_zero, Nat.sub_zero, List.take_length]
      rw [e1] at q
      exact q F H _ (Ext.refl ..) r (.tup h1 h2)
  | scr ns =>
    simp only [cutD] at e
    cases e
    cases ra with
    | scr h1 =>
      refine sl_list pins s σ H _ v vl vu lo hi sl Q I rx hs pl pu ⟨_, _, rfl, SqL.up r.sub h1, fun c hc => ?_⟩
      rw [cutV_G, cutG_map]
      exact fin_lst r hc (Reps.ints _) q
  | _ => exact ok_cutL (cA := cA) pins s σ H _ v vl vu lo hi sl Q I rx hs pl pu ⟨F, ι, S, _, d, r, ra, e, q⟩

/-! ### outcomes -/
abbrev W0 := Value → Option Addr → Hp → Prop
/-- an outcome is good: C holds of what comes, Wx of an error -/
def Good (cA xA : Nat → Addr) (K : PySem.W.Frag) (Wx : W0) {α : Type} (F : Hp) (ι : List Addr) (r : R α) (C : Hp → List Addr → Hp → α → Store → Prop) : Prop := match r with
  | .ok a S => ∀ F' ι' H', Ext F ι F' ι' → Rel cA K F' ι' S H' → C F' ι' H' a S
  | .exn c S => ∀ F' ι' H', Ext F ι F' ι' → Rel cA K F' ι' S H' → Wx (.ref (xA c)) none H'
  | .stuck => False
end
section
variable {cA xA : Nat → Addr} {K : PySem.W.Frag} {Wx : W0} {α β : Type} {F F' : Hp} {ι ι' : List Addr} {r : R α}
theorem Good.ext {C : Hp → List Addr → Hp → α → Store → Prop} (h : Good cA xA K Wx F ι r C) (e : Ext F ι F' ι') : Good cA xA K Wx F' ι' r C := by
  cases r with
  | ok a S => exact fun F2 ι2 H2 e2 r2 => h F2 ι2 H2 (e.trans e2) r2
  | exn c S => exact fun F2 ι2 H2 e2 r2 => h F2 ι2 H2 (e.trans e2) r2
  | stuck => exact h
theorem Good.mono {C C' : Hp → List Addr → Hp → α → Store → Prop} (h : Good cA xA K Wx F ι r C) (k : ∀ F' ι' H' a S', Ext F ι F' ι' → Rel cA K F' ι' S' H' → C F' ι' H' a S' → C' F' ι' H' a S') : Good cA xA K Wx F ι r C' := by
  cases r with
  | ok a S => exact fun F2 ι2 H2 e2 r2 => k _ _ _ _ _ e2 r2 (h F2 ι2 H2 e2 r2)
  | exn c S => exact h
  | stuck => exact h
theorem Good.bind {f : α → Store → R β} {C : Hp → List Addr → Hp → β → Store → Prop} (h : Good cA xA K Wx F ι (r.bind f) C) : Good cA xA K Wx F ι r fun F1 ι1 _ a S1 => Good cA xA K Wx F1 ι1 (f a S1) C := by
  cases r with
  | ok a S => exact fun F2 ι2 H2 e2 r2 => Good.ext h e2
  | exn c S => exact h
  | stuck => exact h
end

/-! ### slots -/
structure Sl (K : PySem.W.Frag) (F : Hp) (ι : List Addr) (σ : L2.St) (δ : Env) : Prop where
  len : σ.length = δ.length
  at_ : ∀ (i : Nat) (d : D), δ[i]? = some (some d) → ∃ v, σ[i]? = some (some v) ∧ Rep K F ι v d
section
variable {K : PySem.W.Frag} {F F' : Hp} {ι ι' : List Addr} {σ : L2.St} {δ : Env}
theorem Sl.ext (h : Sl K F ι σ δ) (e : Ext F ι F' ι') : Sl K F' ι' σ δ := ⟨h.len, fun i d q => let ⟨v, a, b⟩ := h.at_ i d q; ⟨v, a, b.ext e⟩⟩
theorem Sl.set (h : Sl K F ι σ δ) (i : Nat) {v : V} {d : D} (r : Rep K F ι v d) : Sl K F ι (σ.set i (some v)) (δ.set i (some d)) := by
  refine ⟨by rw [List.length_set, List.length_set, h.len], fun j e q => ?_⟩
  by_cases hj : i = j
  · subst hj
    have hi : i < δ.length := by
      have := (List.getElem?_eq_some_iff.mp q).1
      simpa using this
    rw [List.getElem?_set_self hi] at q
    cases q
    exact ⟨v, List.getElem?_set_self (by rw [h.len]; exact hi), r⟩
  · rw [List.getElem?_set_ne hj] at q ⊢
    exact h.at_ j e q
theorem Sl.unset (h : Sl K F ι σ δ) (i : Nat) : Sl K F ι (σ.set i none) (δ.set i none) := by
  refine ⟨by rw [List.length_set, List.length_set, h.len], fun j e q => ?_⟩
  by_cases hj : i = j
  · subst hj
    have hi : i < δ.length := by
      have := (List.getElem?_eq_some_iff.mp q).1
      simpa using this
    rw [List.getElem?_set_self hi] at q
    cases q
  · rw [List.getElem?_set_ne hj] at q ⊢
    exact h.at_ j e q
theorem Sl.wipe (h : Sl K F ι σ δ) : ∀ vs : List Nat, Sl K F ι (L2.wipe σ vs) (wipeE δ vs)
  | [] => h
  | v :: vs => (Sl.wipe h vs).unset v
end

/-! ### readings -/
/-- an expression by what it comes to -/
def TD (cA xA : Nat → Addr) (K : PySem.W.Frag) (W : WX) (f : Env → Store → R D) : TE := fun σ H Q => ∃ F ι S δ, Rel cA K F ι S H ∧ Sl K F ι σ δ ∧
  Good cA xA K (fun c d H => W c d σ H) F ι (f δ S) fun F' ι' H' d _ => ∀ v, Rep K F' ι' v d → Q v H'
def TDs (cA xA : Nat → Addr) (K : PySem.W.Frag) (W : WX) (f : Env → Store → R (List D)) : TA := fun σ H Q => ∃ F ι S δ, Rel cA K F ι S H ∧ Sl K F ι σ δ ∧
  Good cA xA K (fun c d H => W c d σ H) F ι (f δ S) fun F' ι' H' ds _ => ∀ vs, Reps K F' ι' vs ds → Q vs H'
/-- a test -/
def TDb (cA xA : Nat → Addr) (K : PySem.W.Frag) (W : WX) (f : Env → Store → R D) : TT := fun σ H Q => ∃ F ι S δ, Rel cA K F ι S H ∧ Sl K F ι σ δ ∧
  Good cA xA K (fun c d H => W c d σ H) F ι (f δ S) fun F' ι' H' d _ => ∃ b, d = .bl b ∧ Q b H'
def GoodS (cA xA : Nat → Addr) (K : PySem.W.Frag) (W : WX) (F : Hp) (ι : List Addr) (r : RS) (D : Ends) : Prop := match r with
  | .nx δ S => ∀ F' ι' H' σ', Ext F ι F' ι' → Rel cA K F' ι' S H' → Sl K F' ι' σ' δ → D.nx σ' H'
  | .rt d S => ∀ F' ι' H' v, Ext F ι F' ι' → Rel cA K F' ι' S H' → Rep K F' ι' v d → D.rt v H'
  | .exn c δ S => ∀ F' ι' H' σ', Ext F ι F' ι' → Rel cA K F' ι' S H' → Sl K F' ι' σ' δ → W (.ref (xA c)) none σ' H'
  | .stuck => False
def TSd (cA xA : Nat → Addr) (K : PySem.W.Frag) (W : WX) (f : Env → Store → RS) : TS := fun D σ H => ∃ F ι S δ, Rel cA K F ι S H ∧ Sl K F ι σ δ ∧ GoodS cA xA K W F ι (f δ S) D
theorem GoodS.ext {cA xA : Nat → Addr} {K : PySem.W.Frag} {W : WX} {F F' : Hp} {ι ι' : List Addr} {r : RS} {D : Ends} (h : GoodS cA xA K W F ι r D) (e : Ext F ι F' ι') : GoodS cA xA K W F' ι' r D := by
  cases r with
  | nx δ S => exact fun F2 ι2 H2 σ2 e2 r2 s2 => h F2 ι2 H2 σ2 (e.trans e2) r2 s2
  | rt d S => exact fun F2 ι2 H2 v e2 r2 s2 => h F2 ι2 H2 v (e.trans e2) r2 s2
  | exn c δ S => exact fun F2 ι2 H2 σ2 e2 r2 s2 => h F2 ι2 H2 σ2 (e.trans e2) r2 s2
  | stuck => exact h
section
variable {X : Cx} {e : Expr}
theorem PE.weak {t t' : TE} (h : PE X e t) (k : ∀ σ H Q, t' σ H Q → t σ H Q) : PE X e t' := ⟨fun pins s σ H Q I q => h.run pins s σ H Q I (k _ _ _ q)⟩
theorem PT.weak {t t' : TT} (h : PT X e t) (k : ∀ σ H Q, t' σ H Q → t σ H Q) : PT X e t' := ⟨fun pins s σ H Q I q => h.run pins s σ H Q I (k _ _ _ q)⟩
theorem PA.weak {es : List Expr} {t t' : TA} (h : PA X es t) (k : ∀ σ H Q, t' σ H Q → t σ H Q) : PA X es t' := ⟨fun pos pins s σ H Q I q => h.run pos pins s σ H Q I (k _ _ _ q)⟩
theorem PS.weak {st : Stmt} {t t' : TS} (h : PS X st t) (k : ∀ D σ H, t' D σ H → t D σ H) : PS X st t' := ⟨fun pins s σ H D I q => h.run pins s σ H D I (k _ _ _ q)⟩
theorem PSs.weak {st : List Stmt} {t t' : TS} (h : PSs X st t) (k : ∀ D σ H, t' D σ H → t D σ H) : PSs X st t' := ⟨fun pins s σ H D I q => h.run pins s σ H D I (k _ _ _ q)⟩
end
end Ev
namespace Ev
open PySem PySem.Spec PyProof.Rows L2

section
variable {cA xA : Nat → Addr} {K : PySem.W.Frag} {Wx : W0} {F : Hp} {ι : List Addr} {S : Store}
theorem good_ofO {o : Option D} {C : Hp → List Addr → Hp → D → Store → Prop} (h : Good cA xA K Wx F ι (ofO S o) C) : ∃ d, o = some d ∧ ∀ F' ι' H', Ext F ι F' ι' → Rel cA K F' ι' S H' → C F' ι' H' d S := by
  cases o with
  | none => exact h.elim
  | some d => exact ⟨d, rfl, h⟩
/-- an operation's end -/
theorem op_end {op : Store → D → D → Option D} {a b : D} {v u : V} {H : Hp} {Q : VK} (r : Rel cA K F ι S H) (ra : Rep K F ι v a) (rb : Rep K F ι u b)
    (h : Good cA xA K Wx F ι (ofO S (op S a b)) fun F' ι' H' d _ => ∀ v, Rep K F' ι' v d → Q v H') : rOp cA K op v u H Q := by
  obtain ⟨d, e, k⟩ := good_ofO h
  exact ⟨F, ι, S, a, b, d, r, ra, rb, e, fun F' H' w e2 r2 rw' => k F' ι H' e2 r2 w rw'⟩
theorem op_end1 {op : Store → D → Option D} {a : D} {v : V} {H : Hp} {Q : VK} (r : Rel cA K F ι S H) (ra : Rep K F ι v a)
    (h : Good cA xA K Wx F ι (ofO S (op S a)) fun F' ι' H' d _ => ∀ v, Rep K F' ι' v d → Q v H') : rOp1 cA K op [v] H Q := by
  obtain ⟨d, e, k⟩ := good_ofO h
  exact ⟨F, ι, S, v, a, d, rfl, r, ra, e, fun F' H' w e2 r2 rw' => k F' ι H' e2 r2 w rw'⟩
/-- a new list, by value or as a place -/
theorem newL_end {m : Bool} {ds : List D} {vs : List V} {p : Addr} {H : Hp} {Q : VK} (r : Rel cA K F ι S H) (hp : H p = none) (hv : Reps K F ι vs ds)
    (h : Good cA xA K Wx F ι (newL m ds S) fun F' ι' H' d _ => ∀ v, Rep K F' ι' v d → Q v H') : Q (.ref p) (upd H p (.lst vs)) := by
  cases m with
  | false =>
    have e := Ext.fresh (F := F) (ι := ι) (r.freeF hp) (.lst vs)
    exact h _ _ _ e (r.fresh hp _) _ (.lst upd_same (hv.ext e))
  | true =>
    refine h _ _ _ (Ext.more F ι [p]) (r.place hp (.lst ds) ⟨vs, rfl, hv⟩) _ (.loc ?_)
    rw [← r.len]
    simp
end

section
variable {cA xA : Nat → Addr} {X : Cx} {W : WX} {a b c : Expr} {pos : Pos} {f g h : Env → Store → R D}
abbrev TE' (cA xA : Nat → Addr) (X : Cx) (W : WX) (f : Env → Store → R D) : TE := TD cA xA X.K W f
theorem c_var {i : Nat} {x : Str} (hN : X.N[i]? = some x) (hv : Vis X.env.scope x) (hd : (x == ("__debug__" : Str)) = false) (hcd : (x == ("__classdict__" : Str)) = false) :
    PE X (.Name x pos) (TD cA xA X.K W fun δ S => match δ[i]? with
      | some (some d) => .ok d S
      | _ => .stuck) := PE.weak (pe_var hN hv hd hcd) fun σ H Q ⟨F, ι, S, δ, r, sl, gd⟩ => by
  dsimp only at gd
  split at gd
  · rename_i d e
    obtain ⟨v, e2, rv⟩ := sl.at_ i d e
    exact ⟨v, e2, gd F ι H (Ext.refl ..) r v rv⟩
  · exact gd.elim
/-- a value that is the same at every heap -/
theorem c_val {t : TE} {d : D} {v : V} (h : PE X a t) (k : ∀ σ H Q, Q v H → t σ H Q) (hr : ∀ F ι, Rep X.K F ι v d) : PE X a (TD cA xA X.K W fun _ S => .ok d S) := PE.weak h fun σ H Q ⟨F, ι, S, δ, r, sl, gd⟩ => k _ _ _ (gd F ι H (Ext.refl ..) r v (hr ..))
theorem c_op2 {o : Operator} {op : Store → D → D → Option D} (ho : OpR X (binaryOp o) (rOp cA X.K op)) (ha : PE X a (TD cA xA X.K W f)) (hb : PE X b (TD cA xA X.K W g)) :
    PE X (.BinOp a o b pos) (TD cA xA X.K W fun δ S => (f δ S).bind fun x S => (g δ S).bind fun y S => ofO S (op S x y)) :=
  PE.weak (pe_op ho ha hb) fun σ H Q ⟨F, ι, S, δ, r, sl, gd⟩ => ⟨F, ι, S, δ, r, sl, gd.bind.mono fun F1 ι1 H1 d1 S1 e1 r1 g1 v1 rv1 =>
    ⟨F1, ι1, S1, δ, r1, sl.ext e1, g1.bind.mono fun F2 ι2 H2 d2 S2 e2 r2 g2 v2 rv2 => op_end r2 (rv1.ext e2) rv2 g2⟩⟩
theorem c_cmp {o : CmpOp} {op : Store → D → D → Option D} (ho : OpR X (compareOp o) (rOp cA X.K op)) (ha : PE X a (TD cA xA X.K W f)) (hb : PE X b (TD cA xA X.K W g)) (hm : behindInMarks o b = false) :
    PE X (.Compare a [o] [b] pos) (TD cA xA X.K W fun δ S => (f δ S).bind fun x S => (g δ S).bind fun y S => ofO S (op S x y)) :=
  PE.weak (pe_cmpR ho ha hb hm) fun σ H Q ⟨F, ι, S, δ, r, sl, gd⟩ => ⟨F, ι, S, δ, r, sl, gd.bind.mono fun F1 ι1 H1 d1 S1 e1 r1 g1 v1 rv1 =>
    ⟨F1, ι1, S1, δ, r1, sl.ext e1, g1.bind.mono fun F2 ι2 H2 d2 S2 e2 r2 g2 v2 rv2 => op_end r2 (rv1.ext e2) rv2 g2⟩⟩
theorem bl_of {K : PySem.W.Frag} {F : Hp} {ι : List Addr} {v : V} {b : Bool} (h : Rep K F ι v (.bl b)) : v = .bl b := by cases h; rfl
theorem c_cmpT {o : CmpOp} {op : Store → D → D → Option D} (ho : OpR X (compareOp o) (rOp cA X.K op)) (ha : PE X a (TD cA xA X.K W f)) (hb : PE X b (TD cA xA X.K W g)) (hm : behindInMarks o b = false) :
    PT X (.Compare a [o] [b] pos) (TDb cA xA X.K W fun δ S => (f δ S).bind fun x S => (g δ S).bind fun y S => ofO S (op S x y)) :=
  PT.weak (pt_cmpR ho ha hb hm) fun σ H Q ⟨F, ι, S, δ, r, sl, gd⟩ => ⟨F, ι, S, δ, r, sl, gd.bind.mono fun F1 ι1 H1 d1 S1 e1 r1 g1 v1 rv1 =>
    ⟨F1, ι1, S1, δ, r1, sl.ext e1, g1.bind.mono fun F2 ι2 H2 d2 S2 e2 r2 g2 v2 rv2 => op_end (xA := xA) r2 (rv1.ext e2) rv2 (g2.mono fun F3 ι3 H3 d3 S3 e3 r3 ⟨b, eb, q⟩ v3 rv3 => by
      subst eb
      exact ⟨b, bl_of rv3, q⟩)⟩⟩
theorem c_get (hu : X.A.units + 1 < cLine) (ha : PE X a (TD cA xA X.K W f)) (hb : PE X b (TD cA xA X.K W g)) (hs : PlainIx b) :
    PE X (.Subscript a b pos) (TD cA xA X.K W fun δ S => (f δ S).bind fun x S => (g δ S).bind fun y S => ofO S (op2 S .get x y)) :=
  PE.weak (pe_ix (ok_get hu) ha hb hs) fun σ H Q ⟨F, ι, S, δ, r, sl, gd⟩ => ⟨F, ι, S, δ, r, sl, gd.bind.mono fun F1 ι1 H1 d1 S1 e1 r1 g1 v1 rv1 =>
    ⟨F1, ι1, S1, δ, r1, sl.ext e1, g1.bind.mono fun F2 ι2 H2 d2 S2 e2 r2 g2 v2 rv2 => op_end r2 (rv1.ext e2) rv2 g2⟩⟩
theorem c_neg (ha : PE X a (TD cA xA X.K W f)) : PE X (.UnaryOp .USub a pos) (TD cA xA X.K W fun δ S => (f δ S).bind fun x S => ofO S (op1 S .neg x)) :=
  PE.weak (pe_un (ok_neg (cA := cA)) ha) fun σ H Q ⟨F, ι, S, δ, r, sl, gd⟩ => ⟨F, ι, S, δ, r, sl, gd.bind.mono fun F1 ι1 H1 d1 S1 e1 r1 g1 v1 rv1 => op_end1 (op := fun S => op1 S .neg) r1 rv1 g1⟩
def evNot (f : Env → Store → R D) : Env → Store → R D := fun δ S => (f δ S).bind fun x S => (match x with
    | .bl b => .ok (.bl (!b)) S
    | _ => .stuck)
theorem good_not {Wx : W0} {K : PySem.W.Frag} {F : Hp} {ι : List Addr} {x : D} {S : Store} {C : Hp → List Addr → Hp → D → Store → Prop} (h : Good cA xA K Wx F ι (match x with
    | .bl b => (.ok (.bl (!b)) S : R D)
    | _ => .stuck) C) : ∃ b, x = .bl b ∧ ∀ F' ι' H', Ext F ι F' ι' → Rel cA K F' ι' S H' → C F' ι' H' (.bl (!b)) S := by
  cases x <;> first | exact h.elim | skip
  exact ⟨_, rfl, h⟩
theorem c_not (ha : PE X a (TD cA xA X.K W f)) : PE X (.UnaryOp .Not a pos) (TD cA xA X.K W (evNot f)) :=
  PE.weak (pe_not ha) fun σ H Q ⟨F, ι, S, δ, r, sl, gd⟩ => ⟨F, ι, S, δ, r, sl, gd.bind.mono fun F1 ι1 H1 d1 S1 e1 r1 g1 v1 rv1 => by
    obtain ⟨b, rfl, k⟩ := good_not g1
    exact ⟨b, bl_of rv1, k _ _ _ (Ext.refl ..) r1 _ (.bl _)⟩⟩
theorem c_notT (ha : PT X a (TDb cA xA X.K W f)) : PT X (.UnaryOp .Not a pos) (TDb cA xA X.K W (evNot f)) :=
  PT.weak (pt_not ha) fun σ H Q ⟨F, ι, S, δ, r, sl, gd⟩ => ⟨F, ι, S, δ, r, sl, gd.bind.mono fun F1 ι1 H1 d1 S1 e1 r1 g1 => by
    obtain ⟨b, rfl, k⟩ := good_not g1
    obtain ⟨b', eb, q⟩ := k _ _ _ (Ext.refl ..) r1
    cases eb
    exact ⟨b, rfl, q⟩⟩
def evAnd (f g : Env → Store → R D) : Env → Store → R D := fun δ S => (f δ S).bind fun x S => (match x with
    | .bl true => g δ S
    | .bl false => .ok (.bl false) S
    | _ => .stuck)
def evOr (f g : Env → Store → R D) : Env → Store → R D := fun δ S => (f δ S).bind fun x S => (match x with
    | .bl false => g δ S
    | .bl true => .ok (.bl true) S
    | _ => .stuck)
def evIte (h f g : Env → Store → R D) : Env → Store → R D := fun δ S => (h δ S).bind fun x S => (match x with
    | .bl true => f δ S
    | .bl false => g δ S
    | _ => .stuck)
theorem c_and {rest : List Expr} (ha : PE X a (TD cA xA X.K W f)) (hb : PE X (.BoolOp .And (b :: rest) pos) (TD cA xA X.K W g)) : PE X (.BoolOp .And (a :: b :: rest) pos) (TD cA xA X.K W (evAnd f g)) :=
  PE.weak (pe_and ha hb) fun σ H Q ⟨F, ι, S, δ, r, sl, gd⟩ => ⟨F, ι, S, δ, r, sl, gd.bind.mono fun F1 ι1 H1 d1 S1 e1 r1 g1 v1 rv1 => by
    cases d1 <;> first | exact g1.elim | skip
    rename_i c
    refine ⟨c, bl_of rv1, ?_⟩
    cases c with
    | true => exact ⟨F1, ι1, S1, δ, r1, sl.ext e1, g1⟩
    | false => exact g1 _ _ _ (Ext.refl ..) r1 _ (.bl _)⟩
theorem c_or {rest : List Expr} (ha : PE X a (TD cA xA X.K W f)) (hb : PE X (.BoolOp .Or (b :: rest) pos) (TD cA xA X.K W g)) : PE X (.BoolOp .Or (a :: b :: rest) pos) (TD cA xA X.K W (evOr f g)) :=
  PE.weak (pe_or ha hb) fun σ H Q ⟨F, ι, S, δ, r, sl, gd⟩ => ⟨F, ι, S, δ, r, sl, gd.bind.mono fun F1 ι1 H1 d1 S1 e1 r1 g1 v1 rv1 => by
    cases d1 <;> first | exact g1.elim | skip
    rename_i c
    refine ⟨c, bl_of rv1, ?_⟩
    cases c with
    | false => exact ⟨F1, ι1, S1, δ, r1, sl.ext e1, g1⟩
    | true => exact g1 _ _ _ (Ext.refl ..) r1 _ (.bl _)⟩
theorem c_andT {rest : List Expr} (ha : PT X a (TDb cA xA X.K W f)) (hb : PW X (.BoolOp .And (b :: rest) pos) (TDb cA xA X.K W g)) : PW X (.BoolOp .And (a :: b :: rest) pos) (TDb cA xA X.K W (evAnd f g)) :=
  ⟨fun wh pins s σ H Q I ⟨F, ι, S, δ, r, sl, gd⟩ => (pw_and ha hb).run wh pins s σ H Q I ⟨F, ι, S, δ, r, sl, gd.bind.mono fun F1 ι1 H1 d1 S1 e1 r1 g1 => by
    cases d1 <;> first | exact g1.elim | skip
    rename_i c
    refine ⟨c, rfl, ?_⟩
    cases c with
    | true => exact ⟨F1, ι1, S1, δ, r1, sl.ext e1, g1⟩
    | false =>
      obtain ⟨b, eb, q⟩ := g1 _ _ _ (Ext.refl ..) r1
      cases eb
      exact q⟩⟩
theorem c_orT {rest : List Expr} (ha : PT X a (TDb cA xA X.K W f)) (hb : PW X (.BoolOp .Or (b :: rest) pos) (TDb cA xA X.K W g)) : PW X (.BoolOp .Or (a :: b :: rest) pos) (TDb cA xA X.K W (evOr f g)) :=
  ⟨fun wh pins s σ H Q I ⟨F, ι, S, δ, r, sl, gd⟩ => (pw_or ha hb).run wh pins s σ H Q I ⟨F, ι, S, δ, r, sl, gd.bind.mono fun F1 ι1 H1 d1 S1 e1 r1 g1 => by
    cases d1 <;> first | exact g1.elim | skip
    rename_i c
    refine ⟨c, rfl, ?_⟩
    cases c with
    | false => exact ⟨F1, ι1, S1, δ, r1, sl.ext e1, g1⟩
    | true =>
      obtain ⟨b, eb, q⟩ := g1 _ _ _ (Ext.refl ..) r1
      cases eb
      exact q⟩⟩
theorem c_ite (hc : PT X c (TDb cA xA X.K W h)) (ha : PE X a (TD cA xA X.K W f)) (hb : PE X b (TD cA xA X.K W g)) : PE X (.IfExp c a b pos) (TD cA xA X.K W (evIte h f g)) :=
  PE.weak (pe_ifExp hc ha hb) fun σ H Q ⟨F, ι, S, δ, r, sl, gd⟩ => ⟨F, ι, S, δ, r, sl, gd.bind.mono fun F1 ι1 H1 d1 S1 e1 r1 g1 => by
    cases d1 <;> first | exact g1.elim | skip
    rename_i c
    refine ⟨c, rfl, ?_⟩
    cases c with
    | true => exact ⟨F1, ι1, S1, δ, r1, sl.ext e1, g1⟩
    | false => exact ⟨F1, ι1, S1, δ, r1, sl.ext e1, g1⟩⟩
/-- a test by the value -/
theorem c_test (ha : PE X a (TD cA xA X.K W f)) (he : ∀ whole, isTrue a X.env whole = (do let v ← whole; standAt a.pos; holding [v] (truthy v))) : PT X a (TDb cA xA X.K W f) :=
  PT.weak (pt_val ha he) fun σ H Q ⟨F, ι, S, δ, r, sl, gd⟩ => ⟨F, ι, S, δ, r, sl, gd.mono fun F1 ι1 H1 d1 S1 e1 r1 ⟨b, eb, q⟩ v rv => by
    subst eb
    exact ⟨b, bl_of rv, q⟩⟩
theorem cmp2_some {S : Store} {o : O2} {x y : D} {b : Bool} (h : cmp2 S o x y = some b) : op2 S o x y = some (.bl b) := by
  unfold cmp2 at h
  split at h
  · rename_i c e; cases h; exact e
  · cases h
def evChn (o1 o2 : O2) (f g h : Env → Store → R D) : Env → Store → R D := fun δ S => (f δ S).bind fun x S => (g δ S).bind fun y S => (match cmp2 S o1 x y with
    | some true => (h δ S).bind fun z S => ofO S ((cmp2 S o2 y z).map .bl)
    | some false => .ok (.bl false) S
    | none => .stuck)
theorem chn_end {o2 : O2} {K : PySem.W.Frag} {Wx : W0} {F : Hp} {ι : List Addr} {S : Store} {a b : D} {v u : V} {H : Hp} {Q : VK} (r : Rel cA K F ι S H) (ra : Rep K F ι v a) (rb : Rep K F ι u b)
    (h : Good cA xA K Wx F ι (ofO S ((cmp2 S o2 a b).map .bl)) fun F' ι' H' d _ => ∀ v, Rep K F' ι' v d → Q v H') : rOp cA K (fun S => op2 S o2) v u H Q := by
  obtain ⟨d, e, k⟩ := good_ofO h
  obtain ⟨c, e2, rfl⟩ := Option.map_eq_some_iff.mp e
  exact ⟨F, ι, S, a, b, _, r, ra, rb, cmp2_some e2, fun F' H' w e2 r2 rw' => k F' ι H' e2 r2 w rw'⟩
theorem c_chn {o o' : CmpOp} {o1 o2 : O2} (ho : OpR X (compareOp o) (rOp cA X.K fun S => op2 S o1)) (ho' : OpR X (compareOp o') (rOp cA X.K fun S => op2 S o2)) (ha : PE X a (TD cA xA X.K W f)) (hb : PE X b (TD cA xA X.K W g)) (hc : PE X c (TD cA xA X.K W h))
    (hm : lastMarks [o, o'] [b, c] = false := by rfl) (k : PE X (.Compare a [o, o'] [b, c] pos) (tChain (rOp cA X.K fun S => op2 S o1) (rOp cA X.K fun S => op2 S o2) (TD cA xA X.K W f) (TD cA xA X.K W g) (TD cA xA X.K W h))) :
    PE X (.Compare a [o, o'] [b, c] pos) (TD cA xA X.K W (evChn o1 o2 f g h)) :=
  PE.weak k fun σ H Q ⟨F, ι, S, δ, r, sl, gd⟩ => ⟨F, ι, S, δ, r, sl, gd.bind.mono fun F1 ι1 H1 d1 S1 e1 r1 g1 v1 rv1 =>
    ⟨F1, ι1, S1, δ, r1, sl.ext e1, g1.bind.mono fun F2 ι2 H2 d2 S2 e2 r2 g2 v2 rv2 => by
      cases hq : cmp2 S2 o1 d1 d2 with
      | none => rw [hq] at g2; exact g2.elim
      | some b =>
        rw [hq] at g2
        refine ⟨F2, ι2, S2, d1, d2, _, r2, rv1.ext e2, rv2, cmp2_some hq, fun F3 H3 w e3 r3 rw3 => ⟨b, bl_of rw3, ?_⟩⟩
        cases b with
        | false => exact (g2.ext e3) _ _ _ (Ext.refl ..) r3 _ (.bl _)
        | true => exact ⟨F3, ι2, S2, δ, r3, (sl.ext (e1.trans e2)).ext e3, (g2.ext e3).bind.mono fun F4 ι4 H4 d4 S4 e4 r4 g4 v4 rv4 => chn_end r4 ((rv2.ext e3).ext e4) rv4 g4⟩⟩⟩
/-! ### lists of expressions -/
theorem c_nil {W : WX} : PA X [] (TDs cA xA X.K W fun _ S => .ok [] S) := PA.weak pa_nil fun σ H Q ⟨F, ι, S, δ, r, sl, gd⟩ => gd _ _ _ (Ext.refl ..) r _ .nil
def evCons (f : Env → Store → R D) (g : Env → Store → R (List D)) : Env → Store → R (List D) := fun δ S => (f δ S).bind fun d S => (g δ S).bind fun ds S => .ok (d :: ds) S
theorem c_cons {es : List Expr} {gs : Env → Store → R (List D)} (ha : PE X a (TD cA xA X.K W f)) (hr : PA X es (TDs cA xA X.K W gs)) (hs : starEach (a :: es) X.env = (false, eval a X.env) :: starEach es X.env) :
    PA X (a :: es) (TDs cA xA X.K W (evCons f gs)) :=
  PA.weak (pa_cons ha hr hs) fun σ H Q ⟨F, ι, S, δ, r, sl, gd⟩ => ⟨F, ι, S, δ, r, sl, gd.bind.mono fun F1 ι1 H1 d1 S1 e1 r1 g1 v1 rv1 =>
    ⟨F1, ι1, S1, δ, r1, sl.ext e1, g1.bind.mono fun F2 ι2 H2 d2 S2 e2 r2 g2 v2 rv2 => g2 _ _ _ (Ext.refl ..) r2 _ (.cons (rv1.ext e2) rv2)⟩⟩
variable {es : List Expr} {gs : Env → Store → R (List D)}
def evTup (gs : Env → Store → R (List D)) : Env → Store → R D := fun δ S => (gs δ S).bind fun ds S => if ds.length ≤ LIM then .ok (.tup ds) S else .stuck
def evLst (m : Bool) (gs : Env → Store → R (List D)) : Env → Store → R D := fun δ S => (gs δ S).bind fun ds S => if ds.length ≤ LIM then newL m ds S else .stuck
theorem c_tup {x1} (h : PA X es (TDs cA xA X.K W gs)) : PE X (.Tuple es x1 pos) (TD cA xA X.K W (evTup gs)) :=
  PE.weak (pe_tup h) fun σ H Q ⟨F, ι, S, δ, r, sl, gd⟩ => ⟨F, ι, S, δ, r, sl, gd.bind.mono fun F1 ι1 H1 ds S1 e1 r1 g1 vs rvs => by
    split at g1
    · rename_i hl
      refine ⟨by rw [rvs.len, ← LIM_eq]; exact hl, fun p hp => ?_⟩
      have e := Ext.fresh (F := F1) (ι := ι1) (r1.freeF hp) (.tup vs)
      exact g1 _ _ _ e (r1.fresh hp _) _ (.tup (SqT.of upd_same) (rvs.ext e))
    · exact g1.elim⟩
theorem c_lst {m : Bool} (h : PA X es (TDs cA xA X.K W gs)) : PE X (.List es pos) (TD cA xA X.K W (evLst m gs)) :=
  PE.weak (pe_lst h) fun σ H Q ⟨F, ι, S, δ, r, sl, gd⟩ => ⟨F, ι, S, δ, r, sl, gd.bind.mono fun F1 ι1 H1 ds S1 e1 r1 g1 vs rvs => by
    split at g1
    · rename_i hl
      exact ⟨by rw [rvs.len, ← LIM_eq]; exact hl, fun p hp => newL_end r1 hp rvs g1⟩
    · exact g1.elim⟩
end
end Ev
namespace HT
open PySem PySem.Spec PyProof.Rows
section
variable {prog : Program} {w : World} {A : Around} {E : Value → Shared → Prop} {s : Shared}
theorem sliceApplied_rev {sl : Addr} {vs : Value} {n : Nat} {Q : Int × Int × Nat → Shared → Prop} (hs : s.heap.IsSliceOf sl .none .none vs) (ps : IsPart vs (some (-1)))
    (h : Q ((n : Int) - 1, -1, n) s) : wpAny (model prog w) A (Builtin.Slice.sliceApplied (.ref sl) (pure (n : Int))) Q E s := by
  obtain ⟨os, hos, hcs, hds⟩ := id hs
  unfold Builtin.Slice.sliceApplied Builtin.Slice.sliceFields
  refine wpAny_bind (wpAny_bind (wpAny_field hos hds (x := .none) rfl (wpAny_bind (wpAny_field hos hds (x := .none) rfl (wpAny_bind (wpAny_field hos hds (x := vs) rfl (wpAny_pure ?_)))))))
  refine wpAny_bind (slicePart_ ps ?_)
  show wpAny _ _ (if ((-1 : Int) == 0) = true then _ else _) _ _ s
  rw [if_neg (by decide)]
  refine wpAny_bind (slicePart_ .none (wpAny_bind (slicePart_ .none (wpAny_bind (wpAny_pure ?_)))))
  have e1 : Builtin.Slice.sliceAdjust none none (-1) (n : Int) = ((n : Int) - 1, -1) := by
    unfold Builtin.Slice.sliceAdjust
    simp
  have e2 : Builtin.Slice.slicePlaces ((n : Int) - 1) (-1) (-1) = n := by
    unfold Builtin.Slice.slicePlaces
    simp
    omega
  show wpAny _ _ (match Builtin.Slice.sliceAdjust none none (-1) (n : Int) with | (lo, hi) => pure (lo, (-1 : Int), Builtin.Slice.slicePlaces lo hi (-1))) _ _ s
  rw [e1]
  show wpAny _ _ (pure ((n : Int) - 1, (-1 : Int), Builtin.Slice.slicePlaces ((n : Int) - 1) (-1) (-1))) _ _ s
  rw [e2]
  exact wpAny_pure h
end
end HT
namespace HT
open PySem PySem.Spec PyProof.Rows
section
variable {prog : Program} {w : World} {A : Around} {E : Value → Shared → Prop} {s : Shared}
theorem fm_congr {α β : Type} {f g : α → Option β} : ∀ {l : List α}, (∀ a ∈ l, f a = g a) → l.filterMap f = l.filterMap g
  | [], _ => rfl
  | a :: l, h => by
    rw [List.filterMap_cons, List.filterMap_cons, h a (List.mem_cons_self ..), fm_congr fun b hb => h b (List.mem_cons_of_mem _ hb)]
theorem pick_rev (xs : Array Value) : ((List.range xs.size).filterMap fun (m : Nat) => xs[(((xs.size : Int) - 1) + (m : Int) * -1).toNat]?).toArray = xs.toList.reverse.toArray := by
  congr 1
  have : ∀ l : List Value, (List.range l.length).filterMap (fun (m : Nat) => l[(((l.length : Int) - 1) + (m : Int) * -1).toNat]?) = l.reverse := by
    intro l
    have e : (List.range l.length).filterMap (fun (m : Nat) => l[(((l.length : Int) - 1) + (m : Int) * -1).toNat]?) = (List.range l.length).filterMap (fun (m : Nat) => l.reverse[m]?) := by
      refine fm_congr fun m hm => ?_
      have hm := List.mem_range.mp hm
      rw [List.getElem?_reverse hm]
      congr 1
      omega
    rw [e]
    have : ∀ r : List Value, (List.range r.length).filterMap (fun (m : Nat) => r[m]?) = r := by
      intro r
      apply List.ext_getElem?
      intro i
      have h : ∀ k, k ≤ r.length → (List.range k).filterMap (fun (m : Nat) => r[m]?) = r.take k := by
        intro k
        induction k with
        | zero => intro _; simp
        | succ k ih =>
          intro hk
          rw [List.range_succ, List.filterMap_append, ih (by omega), List.take_succ]
          have : r[k]? = some r[k] := by simp [show k < r.length by omega]
          simp [this]
      rw [h _ (Nat.le_refl _), List.take_length]
    have q := this l.reverse
    rwa [List.length_reverse] at q
  have q := this xs.toList
  simpa using q
theorem getItem_tuple_rev {t sl : Addr} {items : Array Value} {vs : Value} {Q : Value → Shared → Prop} (ht : IsTup s.heap t items) (hs : s.heap.IsSliceOf sl .none .none vs) (ps : IsPart vs (some (-1)))
    (h : Q (.ref s.heap.objs.size) { s with heap := s.heap.push { cls := .type "tuple", data := .seq items.toList.reverse.toArray } })
    (hsz : items.size ≤ sizeLine) : wpAny (model prog w) A (getItem (.ref t) (.ref sl)) Q E s := by
  have htake : sizeOk (.seq items.toList.reverse.toArray) := by
    show items.toList.reverse.toArray.size ≤ sizeLine
    rw [List.size_toArray, List.length_reverse, Array.length_toList]
    omega
  obtain ⟨os, hos, hcs, hds⟩ := id hs
  have hTs : s.TypeIs (.ref sl) "slice" := ⟨os, hos, hcs⟩
  unfold getItem
  try with_reducible refine wpAny_holding ?_
  first | refine wpAny_bind (wpAny_pure ?_) | skip
  refine wpAny_bind (wpAny_sequenceKey ht.typeIs (by decide) ?_)
  refine wpAny_bind (wpAny_callSpecial?_slot (name := Str.ofString "__getitem__") ht.typeIs PyProof.Rows.slot_tuple_getitem
    (wpAny_call_entry PyProof.Rows.slot_tuple_getitem ht.typeIs entry_tuple_getitem ?_ (args_tuple_getitem _ _)))
  show wpAny _ _ (Builtin.Tuple.tupleItemsOf (.ref t) >>= _) _ _ s
  refine wpAny_bind (tupleItemsOf_ ht ?_)
  refine wpAny_bind (wpAny_typeOf hTs ?_)
  rw [if_pos (by decide)]
  refine wpAny_bind (sliceApplied_rev hs ps ?_)
  have hno : ¬ ((((items.size : Int) - 1) == 0 && (-1 : Int) == 1 && items.size == items.size) = true) := by simp
  show wpAny _ _ (if (((items.size : Int) - 1) == 0 && (-1 : Int) == 1 && items.size == items.size) = true then _ else _) _ _ s
  rw [if_neg hno, pick_rev]
  first
    | exact wpAny_bind (m := Builtin.Tuple.tupleExact _) (wpAny_newObj_type (wpAny_pure ⟨_, rfl, wpAny_pure h⟩) htake)
    | exact wpAny_bind (m := Builtin.Tuple.tupleExact _) (wpAny_newObj_type (wpAny_bind (wpAny_pure (wpAny_pure ⟨_, rfl, wpAny_pure h⟩))) htake)
    | exact wpAny_bind (wpAny_bind (m := Builtin.Tuple.tupleExact _) (wpAny_newObj_type (wpAny_pure (wpAny_pure ⟨_, rfl, wpAny_pure h⟩)) htake))
    | exact wpAny_bind (wpAny_bind (m := Builtin.Tuple.tupleExact _) (wpAny_newObj_type (wpAny_pure ⟨_, rfl, wpAny_pure h⟩) htake))
end
end HT

namespace Ev
open PySem PySem.Spec PyProof.Rows L2
section
variable {cA xA : Nat → Addr} {X : Cx} {W : WX} {a e : Expr} {pos : Pos} {f : Env → Store → R D}
def tRevB (K : PySem.W.Frag) (te : TE) : TE := fun σ H Q => te σ H fun x H1 => ∃ a xs, x = .ref a ∧ ((SqL K H1 a xs ∧ ∀ p, H1 p = none → Q (.ref p) (upd H1 p (.lst xs.reverse))) ∨ (SqT K H1 a xs ∧ ∀ p, H1 p = none → Q (.ref p) (upd H1 p (.tup xs.reverse))))
theorem pe_revB {te : TE} {k : Nat} {p1 p2 p3 pos : Pos} (he : PE X e te) : PE X (.Subscript e (.Slice none none (some (.UnaryOp .USub (.Constant (.int 1) k p1) p2)) p3) pos) (tRevB X.K te) := by
  refine ⟨fun pins s σ H Q I h => ?_⟩
  refine Subscript_ (thn (he.run pins s σ H _ I h) fun v s1 ⟨x, H1, I1, r1, q1⟩ => ?_)
  obtain ⟨a, xs, ex, hq⟩ := q1
  subst ex
  cases r1
  have hst : PO X (some (.UnaryOp .USub (.Constant (.int 1) k p1) p2)) (tPart (tUn (rU fun i => .int (-i)) (tC (.int 1)))) := po_some (pe_un un_neg pe_int)
  refine wpAny_Slice (thn (po_none.run pins s1 σ H1 (fun o H2 => o = none ∧ H2 = H1 ∧ True) I1 ⟨rfl, rfl, trivial⟩) fun vl s2 ⟨l, H2, I2, pl, el, e2, _⟩ => ?_)
  subst el e2
  refine thn (po_none.run pins s2 σ H2 (fun o H3 => o = none ∧ H3 = H2) I2 ⟨rfl, rfl⟩) fun vu s3 ⟨u, H3, I3, pu, eu, e3⟩ => ?_
  subst eu e3
  refine thn (hst.run pins s3 σ H3 (fun o H4 => o = some (-1) ∧ H4 = H3) I3 ⟨1, rfl, -1, rfl, rfl, rfl⟩) fun vs s4 ⟨o, H4, I4, ps, eo, e4⟩ => ?_
  subst eo e4
  have I5 : Inv X pins σ H4 { s4 with heap := s4.heap.push { cls := .type "slice", data := .fields #[vl, vu, vs] } } := I4.kept (t' := s4.toks) fun b ob q => Heap.get?_push_of_some _ q
  show wpAny (model X.prog X.w) X.A (subscriptTail e (.Slice none none (some (.UnaryOp .USub (.Constant (.int 1) k p1) p2)) p3) (.ref a) (.ref s4.heap.objs.size)) (EP X pins σ Q) X.xe { s4 with heap := s4.heap.push { cls := .type "slice", data := .fields #[vl, vu, vs] } }
  rcases hq with ⟨hx, q⟩ | ⟨hx, q⟩
  · obtain ⟨its, r, ht, hz⟩ := I5.list hx
    have hlen := r.length
    refine tail_any (ops := [.ref a, .ref s4.heap.objs.size]) ht.isList.typeIs (PySem.slot_list_getitem.lookup) ?_ (by with_unfolding_all rfl)
    refine wpAny_getItem_list_slice ht.isList (Heap.IsSliceOf.new _ vl vu vs) pl pu ps (by decide) ?_ (by rw [List.size_toArray]; omega)
    rw [PySem.W.krv_pick]
    refine ⟨.ref _, _, I5.laid (t' := s4.toks) (o := .lst xs.reverse) (fun b ob q => Heap.get?_push_of_some _ q) (Nat.le_refl _) ?_, rfl, q _ (I5.hok.fresh (Nat.le_refl _))⟩
    exact ⟨by rw [List.length_reverse]; exact hz, _, 0, r.reverse, Heap.get?_push_size _ rfl⟩
  · obtain ⟨its, r, ht, hz⟩ := I5.tuple hx
    have hlen := r.length
    cases pl
    cases pu
    refine tail_any (ops := [.ref a, .ref s4.heap.objs.size]) ht.typeIs (PyProof.Rows.slot_tuple_getitem.lookup) ?_ (by with_unfolding_all rfl)
    refine HT.getItem_tuple_rev ht (Heap.IsSliceOf.new _ .none .none vs) ps ?_ (by rw [List.size_toArray]; omega)
    refine ⟨.ref _, _, I5.laid (t' := s4.toks) (o := .tup xs.reverse) (fun b ob q => Heap.get?_push_of_some _ q) (Nat.le_refl _) ?_, rfl, q _ (I5.hok.fresh (Nat.le_refl _))⟩
    exact ⟨by rw [List.length_reverse]; exact hz, _, r.reverse, IsTup.new _ _⟩
end
end Ev
namespace Ev
open PySem PySem.Spec PyProof.Rows L2

/-! ### the forms of expressions -/
def plainE : Expr → Bool
  | .Set .. => false | .Starred .. => false | .Slice .. => false
  | _ => true
theorem star_plain {e : Expr} (h : plainE e = true) (es : List Expr) (env : PySem.Env) : starEach (e :: es) env = (false, eval e env) :: starEach es env := by
  cases e <;> first | (cases h; done) | rfl
theorem ix_plain {e : Expr} (h : plainE e = true) : PlainIx e := by
  intro o i
  cases e <;> first | (cases h; done) | rfl
theorem mark_plain {e : Expr} (h : plainE e = true) (o : CmpOp) : behindInMarks o e = false := by
  cases e <;> first | (cases h; done) | rfl
theorem fold_plain {e : Expr} (h : plainE e = true) (env : PySem.Env) (x : Value) : foldedSetIterable e env x = pure x := by
  cases e <;> first | (cases h; done) | rfl
theorem star_none : ∀ {es : List Expr} (h : es.all plainE = true) (pos : Pos) (env : PySem.Env), (backTo pos (starEach es env)).any (·.1) = false
  | [], _, _, _ => rfl
  | e :: es, h, pos, env => by
    rw [List.all_cons, Bool.and_eq_true] at h
    rw [star_plain h.1]
    show (false || (backTo pos (starEach es env)).any (·.1)) = false
    rw [star_none h.2]
    rfl
def baseOk : Expr → Bool
  | .Call _ [] _ _ => false
  | .Set .. => false | .Starred .. => false | .Slice .. => false
  | _ => true
theorem base_ok {e : Expr} (h : baseOk e = true) (f : Str) (env : PySem.Env) : attributeBase e f env (eval e env) = eval e env := by
  cases e <;> first | (cases h; done) | rfl | skip
  rename_i fn args kw pos
  cases args with
  | nil => cases h
  | cons a as => cases fn <;> rfl
theorem starE_plain {e : Expr} (h : plainE e = true) (env : PySem.Env) : starEach [e] env = [(false, eval e env)] := star_plain h [] env

section
variable {cA xA : Nat → Addr} {X : Cx} {W : WX} {a b c o e : Expr} {es : List Expr} {pos apos p : Pos} {f g : Env → Store → R D} {gs : Env → Store → R (List D)} {x : Str}

/-! ### built-ins by their names -/
def ev1 (op : Store → D → Option D) (f : Env → Store → R D) : Env → Store → R D := fun δ S => (f δ S).bind fun x S => ofO S (op S x)
def ev2 (op : Store → D → D → Option D) (f g : Env → Store → R D) : Env → Store → R D := fun δ S => (f δ S).bind fun x S => (g δ S).bind fun y S => ofO S (op S x y)
theorem c_bf {id : String} {op : Store → D → Option D} (hc : CallR X (.builtin id) (rOp1 cA X.K op)) (hg : Gl X x) (hm : X.mg x = none) (hv : bootBuiltins x = some (.builtin id)) (hn : x ≠ "__name__") (hdb : (x == ("__debug__" : Str)) = false) (pl : plainE a = true)
    (ha : PE X a (TD cA xA X.K W f)) : PE X (.Call (.Name x p) [a] [] pos) (TD cA xA X.K W (ev1 op f)) :=
  PE.weak (pe_callB hc hg hm hv (pa_cons ha pa_nil (starE_plain pl _)) hn hdb (starE_plain pl _) rfl) fun σ H Q ⟨F, ι, S, δ, r, sl, gd⟩ => ⟨F, ι, S, δ, r, sl, gd.bind.mono fun F1 ι1 H1 d1 S1 e1 r1 g1 v1 rv1 => op_end1 r1 rv1 g1⟩
theorem c_bt {T : String} {op : Store → D → Option D} (hc : CallR X (.type T) (rOp1 cA X.K op)) (hg : Gl X x) (hm : X.mg x = none) (hv : bootBuiltins x = some (.type T)) (hn : x ≠ "__name__") (hdb : (x == ("__debug__" : Str)) = false) (pl : plainE a = true)
    (ha : PE X a (TD cA xA X.K W f)) : PE X (.Call (.Name x p) [a] [] pos) (TD cA xA X.K W (ev1 op f)) :=
  PE.weak (pe_callTy hc hg hm hv (pa_cons ha pa_nil (starE_plain pl _)) hn hdb (starE_plain pl _) rfl) fun σ H Q ⟨F, ι, S, δ, r, sl, gd⟩ => ⟨F, ι, S, δ, r, sl, gd.bind.mono fun F1 ι1 H1 d1 S1 e1 r1 g1 v1 rv1 => op_end1 r1 rv1 g1⟩
theorem c_bf2 {id : String} {op : Store → D → D → Option D} (hc : CallR X (.builtin id) (rOpA cA X.K op)) (hg : Gl X x) (hm : X.mg x = none) (hv : bootBuiltins x = some (.builtin id)) (hn : x ≠ "__name__") (hdb : (x == ("__debug__" : Str)) = false) (pl : plainE a = true) (pl2 : plainE b = true)
    (ha : PE X a (TD cA xA X.K W f)) (hb : PE X b (TD cA xA X.K W g)) : PE X (.Call (.Name x p) [a, b] [] pos) (TD cA xA X.K W (ev2 op f g)) :=
  PE.weak (pe_callB hc hg hm hv (pa_cons ha (pa_cons hb pa_nil (starE_plain pl2 _)) (star_plain pl _ _)) hn hdb (star_plain pl _ _) (star_none (by rw [List.all_cons, pl2]; rfl) _ _)) fun σ H Q ⟨F, ι, S, δ, r, sl, gd⟩ =>
    ⟨F, ι, S, δ, r, sl, gd.bind.mono fun F1 ι1 H1 d1 S1 e1 r1 g1 v1 rv1 => ⟨F1, ι1, S1, δ, r1, sl.ext e1, g1.bind.mono fun F2 ι2 H2 d2 S2 e2 r2 g2 v2 rv2 => ⟨v1, v2, rfl, op_end r2 (rv1.ext e2) rv2 g2⟩⟩⟩
/-- isinstance(a, T) -/
theorem c_isi {t : Ty} {y : Str} {p2 : Pos} (hg : Gl X "isinstance") (hm : X.mg "isinstance" = none) (hgy : Gl X y) (hmy : X.mg y = none) (hvy : bootBuiltins y = some (.type (tyNm t))) (hny : y ≠ "__name__") (hdy : (y == ("__debug__" : Str)) = false) (pl : plainE a = true)
    (ha : PE X a (TD cA xA X.K W f)) : PE X (.Call (.Name "isinstance" p) [a, .Name y p2] [] pos) (TD cA xA X.K W (ev1 (fun S => op1 S (.isi t)) f)) :=
  PE.weak (pe_callB (ok_isi (cA := cA) t) hg hm (by decide +kernel) (pa_cons ha (pa_cons (pe_bltn (v := .ty (tyNm t)) hgy hmy hvy rfl hny hdy) pa_nil rfl) (star_plain pl _ _)) (by decide) (by decide) (star_plain pl _ _) rfl) fun σ H Q ⟨F, ι, S, δ, r, sl, gd⟩ =>
    ⟨F, ι, S, δ, r, sl, gd.bind.mono fun F1 ι1 H1 d1 S1 e1 r1 g1 v1 rv1 => ⟨v1, rfl, op_end1 r1 rv1 g1⟩⟩
/-- list(a) -/
def evLof (m : Bool) (f : Env → Store → R D) : Env → Store → R D := fun δ S => (f δ S).bind fun x S => (match lofL S x with
    | some xs => newL m xs S
    | none => .stuck)
theorem lof_at {K : PySem.W.Frag} {F H : Hp} {ι : List Addr} {S : Store} {d : D} {v : V} {xs : List D} (r : Rel cA K F ι S H) (h : Rep K F ι v d) (e : lofL S d = some xs) : ∃ p vs, v = .ref p ∧ (SqL K H p vs ∨ SqT K H p vs) ∧ Reps K F ι vs xs := by
  have lists : items S d = some xs → ∃ p vs, v = .ref p ∧ (SqL K H p vs ∨ SqT K H p vs) ∧ Reps K F ι vs xs := fun e => by
    obtain ⟨p, vs, rfl, hp, hv⟩ := items_at r h e
    exact ⟨p, vs, rfl, .inl (SqL.of hp), hv⟩
  cases d with
  | tup ys =>
    cases h with
    | tup h1 h2 =>
      simp only [lofL, Option.some.injEq] at e
      subst e
      exact ⟨_, _, rfl, .inr (SqT.up r.sub h1), h2⟩
  | _ => exact lists e
theorem c_lof {m : Bool} (hg : Gl X "list") (hm : X.mg "list" = none) (pl : plainE a = true) (ha : PE X a (TD cA xA X.K W f)) : PE X (.Call (.Name "list" p) [a] [] pos) (TD cA xA X.K W (evLof m f)) :=
  PE.weak (pe_callTy call_list_of hg hm (by decide +kernel) (pa_cons ha pa_nil (starE_plain pl _)) (by decide) (by decide) (starE_plain pl _) rfl) fun σ H Q ⟨F, ι, S, δ, r, sl, gd⟩ => ⟨F, ι, S, δ, r, sl, gd.bind.mono fun F1 ι1 H1 d1 S1 e1 r1 g1 v1 rv1 => by
    cases hi : lofL S1 d1 with
    | none => rw [hi] at g1; exact g1.elim
    | some xs =>
      rw [hi] at g1
      obtain ⟨q, vs, rfl, hp, hv⟩ := lof_at r1 rv1 hi
      exact ⟨q, vs, rfl, hp, fun l hl => newL_end r1 hl hv g1⟩⟩
/-- list(range(a, b)) -/
def evLrg (m : Bool) (f g : Env → Store → R D) : Env → Store → R D := fun δ S => (f δ S).bind fun x S => (g δ S).bind fun y S => (match x, y with
    | .int i, .int j => if 0 ≤ i ∧ i ≤ 100000 ∧ 0 ≤ j ∧ j ≤ 100000 then newL m (rngD i j) S else .stuck
    | _, _ => .stuck)
theorem rgV_reps {K : PySem.W.Frag} {F : Hp} {ι : List Addr} (i j : Int) : Reps K F ι (rgV i j) (rngD i j) := by
  unfold rgV rngD
  generalize (List.range (j - i).toNat) = l
  induction l with
  | nil => exact .nil
  | cons n l ih => exact .cons (.int _) ih
theorem c_lrg2 {m : Bool} {p2 pos2 : Pos} (hc : X.calm = true) (hg : Gl X "list") (hm : X.mg "list" = none) (hg2 : Gl X "range") (hm2 : X.mg "range" = none) (pl : plainE a = true) (pl2 : plainE b = true) (ha : PE X a (TD cA xA X.K W f)) (hb : PE X b (TD cA xA X.K W g)) :
    PE X (.Call (.Name "list" p) [.Call (.Name "range" p2) [a, b] [] pos2] [] pos) (TD cA xA X.K W (evLrg m f g)) :=
  PE.weak (pe_listRg hc hg hm (prg_2 hg2 hm2 ha hb (star_plain pl _ _) (starE_plain pl2 _) (star_none (by rw [List.all_cons, pl2]; rfl) _ _)) rfl) fun σ H Q ⟨F, ι, S, δ, r, sl, gd⟩ => ⟨F, ι, S, δ, r, sl, gd.bind.mono fun F1 ι1 H1 d1 S1 e1 r1 g1 v1 rv1 =>
    ⟨F1, ι1, S1, δ, r1, sl.ext e1, g1.bind.mono fun F2 ι2 H2 d2 S2 e2 r2 g2 v2 rv2 => by
      cases d1 <;> first | exact g2.elim | skip
      cases d2 <;> first | exact g2.elim | skip
      dsimp only at g2
      split at g2
      · rename_i i j hl
        cases rv1; cases rv2
        exact ⟨_, _, rfl, rfl, RgOk.of_le hl.1 (by omega) (by omega) hl.2.2.1, fun q hq => newL_end r2 hq (rgV_reps _ _) g2⟩
      · exact g2.elim⟩⟩
theorem c_lrg1 {m : Bool} {p2 pos2 : Pos} (hc : X.calm = true) (hg : Gl X "list") (hm : X.mg "list" = none) (hg2 : Gl X "range") (hm2 : X.mg "range" = none) (pl2 : plainE b = true) (hb : PE X b (TD cA xA X.K W g)) :
    PE X (.Call (.Name "list" p) [.Call (.Name "range" p2) [b] [] pos2] [] pos) (TD cA xA X.K W (evLrg m (fun _ S => .ok (.int 0) S) g)) :=
  PE.weak (pe_listRg hc hg hm (prg_1 hg2 hm2 hb (starE_plain pl2 _)) rfl) fun σ H Q ⟨F, ι, S, δ, r, sl, gd⟩ => by
    have gd' : Good cA xA X.K (fun c d H => W c d σ H) F ι ((g δ S).bind fun y S => (match y with
      | .int j => if 0 ≤ (0 : Int) ∧ (0 : Int) ≤ 100000 ∧ 0 ≤ j ∧ j ≤ 100000 then newL m (rngD 0 j) S else .stuck
      | _ => .stuck)) fun F' ι' H' d _ => ∀ v, Rep X.K F' ι' v d → Q v H' := by
      have e : evLrg m (fun _ S => .ok (.int 0) S) g δ S = ((g δ S).bind fun y S => (match y with
      | .int j => if 0 ≤ (0 : Int) ∧ (0 : Int) ≤ 100000 ∧ 0 ≤ j ∧ j ≤ 100000 then newL m (rngD 0 j) S else .stuck
      | _ => .stuck)) := by
        show ((g δ S).bind _) = _
        congr 1
        funext y S
        cases y <;> rfl
      rw [← e]
      exact gd
    refine ⟨F, ι, S, δ, r, sl, gd'.bind.mono fun F2 ι2 H2 d2 S2 e2 r2 g2 v2 rv2 => ?_⟩
    cases d2 <;> first | exact g2.elim | skip
    dsimp only at g2
    split at g2
    · rename_i j hl
      cases rv2
      exact ⟨_, rfl, RgOk.of_le hl.1 (by omega) (by omega) hl.2.2.1, fun q hq => newL_end r2 hq (rgV_reps _ _) g2⟩
    · exact g2.elim
/-- a + b of lists, by value or as a place -/
def evAdd (m : Bool) (f g : Env → Store → R D) : Env → Store → R D := fun δ S => (f δ S).bind fun x S => (g δ S).bind fun y S => (match addL S x y with
    | some xs => newL m xs S
    | none => .stuck)
theorem c_addL {m : Bool} (ha : PE X a (TD cA xA X.K W f)) (hb : PE X b (TD cA xA X.K W g)) : PE X (.BinOp a .Add b pos) (TD cA xA X.K W (evAdd m f g)) :=
  PE.weak (pe_op op_cat ha hb) fun σ H Q ⟨F, ι, S, δ, r, sl, gd⟩ => ⟨F, ι, S, δ, r, sl, gd.bind.mono fun F1 ι1 H1 d1 S1 e1 r1 g1 v1 rv1 =>
    ⟨F1, ι1, S1, δ, r1, sl.ext e1, g1.bind.mono fun F2 ι2 H2 d2 S2 e2 r2 g2 v2 rv2 => by
      cases hq : addL S2 d1 d2 with
      | none => rw [hq] at g2; exact g2.elim
      | some zs =>
        rw [hq] at g2
        unfold addL at hq
        split at hq
        · rename_i xs ys h1 h2
          split at hq
          · rename_i hl
            cases hq
            obtain ⟨p, vs, rfl, hp, hv⟩ := items_at r2 (rv1.ext e2) h1
            obtain ⟨p', ws, rfl, hp', hw⟩ := items_at r2 rv2 h2
            exact ⟨p, p', vs, ws, rfl, rfl, hp, hp', by rw [hv.len, hw.len, ← LIM_eq]; exact hl, fun c hc => newL_end r2 hc (hv.app hw) g2⟩
          · cases hq
        · cases hq⟩⟩

def evMul (m : Bool) (f g : Env → Store → R D) : Env → Store → R D := fun δ S => (f δ S).bind fun x S => (g δ S).bind fun y S => (match mulL S x y with
    | some xs => newL m xs S
    | none => .stuck)
theorem c_mulL {m : Bool} (ha : PE X a (TD cA xA X.K W f)) (hb : PE X b (TD cA xA X.K W g)) : PE X (.BinOp a .Mult b pos) (TD cA xA X.K W (evMul m f g)) :=
  PE.weak (pe_op op_rep ha hb) fun σ H Q ⟨F, ι, S, δ, r, sl, gd⟩ => ⟨F, ι, S, δ, r, sl, gd.bind.mono fun F1 ι1 H1 d1 S1 e1 r1 g1 v1 rv1 =>
    ⟨F1, ι1, S1, δ, r1, sl.ext e1, g1.bind.mono fun F2 ι2 H2 d2 S2 e2 r2 g2 v2 rv2 => by
      cases hq : mulL S2 d1 d2 with
      | none => rw [hq] at g2; exact g2.elim
      | some zs =>
        rw [hq] at g2
        unfold mulL at hq
        cases h1 : items S2 d1 with
        | none => rw [h1] at hq; cases hq
        | some xs =>
          rw [h1] at hq
          cases d2 <;> first | (cases hq; done) | skip
          rename_i k
          dsimp only at hq
          split at hq
          · rename_i hl
            cases hq
            obtain ⟨p, vs, rfl, hp, hv⟩ := items_at r2 (rv1.ext e2) h1
            cases rv2
            exact ⟨p, k, vs, rfl, rfl, hp, by omega, by omega, by rw [hv.len, ← LIM_eq]; exact hl.2.2, fun c hc => newL_end r2 hc (hv.rep _) g2⟩
          · cases hq⟩⟩
/-! ### slices -/
def evCut (lo hi : Bool) (f g : Env → Store → R D) : Env → Store → R D := fun δ S => (f δ S).bind fun x S => (g δ S).bind fun i S => (match i with
    | .int i => ofO S (cutD S (if lo then some i else none) (if hi then some i else none) x)
    | _ => .stuck)
theorem c_slf {p2 : Pos} (ha : PE X a (TD cA xA X.K W f)) (hb : PE X b (TD cA xA X.K W g)) : PE X (.Subscript a (.Slice (some b) none none p2) pos) (TD cA xA X.K W (evCut true false f g)) :=
  PE.weak (pe_slice (ok_cut (cA := cA)) ha (po_some hb) po_none) fun σ H Q ⟨F, ι, S, δ, r, sl, gd⟩ => ⟨F, ι, S, δ, r, sl, gd.bind.mono fun F1 ι1 H1 d1 S1 e1 r1 g1 v1 rv1 =>
    ⟨F1, ι1, S1, δ, r1, sl.ext e1, g1.bind.mono fun F2 ι2 H2 d2 S2 e2 r2 g2 v2 rv2 => by
      cases d2 <;> first | exact g2.elim | skip
      rename_i i
      cases rv2
      obtain ⟨d, e, k⟩ := good_ofO g2
      exact ⟨i, rfl, F2, ι2, S2, d1, d, r2, rv1.ext e2, e, fun F' H' w e3 r3 rw' => k F' ι2 H' e3 r3 w rw'⟩⟩⟩
theorem c_slt {p2 : Pos} (ha : PE X a (TD cA xA X.K W f)) (hb : PE X b (TD cA xA X.K W g)) : PE X (.Subscript a (.Slice none (some b) none p2) pos) (TD cA xA X.K W (evCut false true f g)) :=
  PE.weak (pe_slice (ok_cut (cA := cA)) ha po_none (po_some hb)) fun σ H Q ⟨F, ι, S, δ, r, sl, gd⟩ => ⟨F, ι, S, δ, r, sl, gd.bind.mono fun F1 ι1 H1 d1 S1 e1 r1 g1 v1 rv1 =>
    ⟨F1, ι1, S1, δ, r1, sl.ext e1, g1.bind.mono fun F2 ι2 H2 d2 S2 e2 r2 g2 v2 rv2 => by
      cases d2 <;> first | exact g2.elim | skip
      rename_i i
      cases rv2
      obtain ⟨d, e, k⟩ := good_ofO g2
      exact ⟨i, rfl, F2, ι2, S2, d1, d, r2, rv1.ext e2, e, fun F' H' w e3 r3 rw' => k F' ι2 H' e3 r3 w rw'⟩⟩⟩
def evRev (f : Env → Store → R D) : Env → Store → R D := fun δ S => (f δ S).bind fun x S => (match x with
    | .tup xs => .ok (.tup xs.reverse) S
    | .scr _ => .stuck
    | x => (match items S x with
      | some xs => .ok (.lst xs.reverse) S
      | none => .stuck))
theorem c_rev {k : Nat} {p1 p2 p3 : Pos} (ha : PE X a (TD cA xA X.K W f)) : PE X (.Subscript a (.Slice none none (some (.UnaryOp .USub (.Constant (.int 1) k p1) p2)) p3) pos) (TD cA xA X.K W (evRev f)) :=
  PE.weak (pe_revB ha) fun σ H Q ⟨F, ι, S, δ, r, sl, gd⟩ => ⟨F, ι, S, δ, r, sl, gd.bind.mono fun F1 ι1 H1 d1 S1 e1 r1 g1 v1 rv1 => by
    have go : ∀ {xs}, items S1 d1 = some xs → Good cA xA X.K (fun c d H => W c d σ H) F1 ι1 (R.ok (D.lst xs.reverse) S1) (fun F' ι' H' d _ => ∀ v, Rep X.K F' ι' v d → Q v H') →
        ∃ a xs, v1 = .ref a ∧ ((SqL X.K H1 a xs ∧ ∀ p, H1 p = none → Q (.ref p) (upd H1 p (.lst xs.reverse))) ∨ (SqT X.K H1 a xs ∧ ∀ p, H1 p = none → Q (.ref p) (upd H1 p (.tup xs.reverse)))) := fun {xs} hi g => by
      obtain ⟨q, vs, rfl, hp, hv⟩ := items_at r1 rv1 hi
      refine ⟨q, vs, rfl, .inl ⟨SqL.of hp, fun p hp2 => ?_⟩⟩
      have e := Ext.fresh (F := F1) (ι := ι1) (r1.freeF hp2) (.lst vs.reverse)
      exact g _ _ _ e (r1.fresh hp2 _) _ (.lst upd_same (hv.rev.ext e))
    cases d1 with
    | lst xs => exact go rfl g1
    | tup ds =>
      cases rv1 with
      | @tup q vs _ h1 h2 =>
        refine ⟨q, vs, rfl, .inr ⟨SqT.up r1.sub h1, fun p hp2 => ?_⟩⟩
        have e := Ext.fresh (F := F1) (ι := ι1) (r1.freeF hp2) (.tup vs.reverse)
        exact g1 _ _ _ e (r1.fresh hp2 _) _ (.tup (SqT.of upd_same) (h2.rev.ext e))
    | loc n =>
      dsimp only at g1
      split at g1
      · rename_i xs hi; exact go hi g1
      · exact g1.elim
    | _ => exact (g1 : False).elim⟩
end
end Ev
namespace Ev
open PySem PySem.Spec PyProof.Rows L2

section
variable {cA xA : Nat → Addr} {K : PySem.W.Frag} {F H : Hp} {ι : List Addr} {S : Store} {x : D} {v : V}
theorem lstAt_items {n : Nat} {xs : List D} (h : lstAt S x = some (n, xs)) : x = .loc n ∧ S[n]? = some (.lst xs) := by
  cases x with
  | loc m =>
    simp only [lstAt] at h
    split at h
    · rename_i ys hy
      cases h
      exact ⟨rfl, hy⟩
    · cases h
  | _ => simp [lstAt] at h
theorem lst_at (r : Rel cA K F ι S H) (h : Rep K F ι v x) {n : Nat} {xs : List D} (e : lstAt S x = some (n, xs)) : ∃ p vs, v = .ref p ∧ ι[n]? = some p ∧ H p = some (.lst vs) ∧ Reps K F ι vs xs ∧ S[n]? = some (.lst xs) := by
  obtain ⟨rfl, hc⟩ := lstAt_items e
  cases h with
  | loc hl =>
    obtain ⟨p, e1, e2, vs, e3, e4⟩ := r.cell n _ hc trivial
    rw [hl] at e1; cases e1
    exact ⟨_, vs, rfl, hl, e3, e4, hc⟩
theorem lst_ty (r : Rel cA K F ι S H) (h : Rep K F ι v x) (e : (lstAt S x).isSome = true) : tyV K "list" v H := by
  obtain ⟨⟨n, xs⟩, e⟩ := Option.isSome_iff_exists.mp e
  obtain ⟨p, vs, rfl, _, h2, _⟩ := lst_at r h e
  exact .inl ⟨rfl, vs, SqL.of h2⟩
theorem items_ty (r : Rel cA K F ι S H) (h : Rep K F ι v x) (e : (items S x).isSome = true) : tyV K "list" v H := by
  obtain ⟨xs, e⟩ := Option.isSome_iff_exists.mp e
  obtain ⟨p, vs, rfl, h2, _⟩ := items_at r h e
  exact .inl ⟨rfl, vs, SqL.of h2⟩
theorem rel_setL (r : Rel cA K F ι S H) {n : Nat} {p : Addr} {xs ys : List D} {vs : List V} (hc : S[n]? = some (.lst xs)) (hl : ι[n]? = some p) (h : Reps K F ι vs ys) : Rel cA K F ι (S.set n (.lst ys)) (upd H p (.lst vs)) :=
  r.write hc trivial hl (.lst ys) ⟨vs, rfl, h⟩

/-- list.append, pop, by values -/
def rMut (cA xA : Nat → Addr) (K : PySem.W.Frag) (op : D → List D → Store → R D) : V → List V → Hp → VK → Prop := fun v vs H Q => ∃ F ι S x ds, Rel cA K F ι S H ∧ Rep K F ι v x ∧ Reps K F ι vs ds ∧
  Good cA xA K (fun _ _ _ => False) F ι (op x ds S) fun F' ι' H' d _ => ∀ v, Rep K F' ι' v d → Q v H'
variable {X : Cx}
theorem ok_app : MtR X "list.append" (rMut cA xA X.K fun x ds S => match ds with
    | [y] => appD x y S
    | _ => .stuck) := by
  intro pins s σ H v vs u us Q I ru rus h
  obtain ⟨F, ι, S, x, ds, r, rx, rd, g⟩ := h
  match ds, rd, g with
  | [], _, g => exact g.elim
  | _ :: _ :: _, _, g => exact g.elim
  | [y], rd, g =>
    cases rd with
    | cons ry rn =>
      cases rn
      dsimp only at g
      unfold appD at g
      split at g
      · rename_i n xs hx
        split at g
        · rename_i hl
          obtain ⟨p, ws, rfl, hp, hH, hv, hc⟩ := lst_at r rx hx
          exact mt_append pins s σ H _ _ u us Q I ru rus ⟨p, ws, _, rfl, rfl, hH, by rw [hv.len, ← LIM_eq]; exact hl, g _ _ _ (Ext.refl ..) (rel_setL r hc hp (hv.app (.cons ry .nil))) _ .non⟩
        · exact g.elim
      · exact g.elim
theorem ok_pop : MtR X "list.pop" (rMut cA xA X.K fun x ds S => match ds with
    | [] => popD x S
    | _ => .stuck) := by
  intro pins s σ H v vs u us Q I ru rus h
  obtain ⟨F, ι, S, x, ds, r, rx, rd, g⟩ := h
  match ds, rd, g with
  | _ :: _, _, g => exact g.elim
  | [], rd, g =>
    cases rd
    dsimp only at g
    unfold popD at g
    split at g
    · rename_i n xs hx
      split at g
      · rename_i y hy
        obtain ⟨p, ws, rfl, hp, hH, hv, hc⟩ := lst_at r rx hx
        rw [List.getLast?_eq_getElem?] at hy
        obtain ⟨w, hw, rw'⟩ := hv.get hy
        exact mt_pop pins s σ H _ _ u us Q I ru rus ⟨p, ws, w, rfl, rfl, hH, by rw [hv.len]; exact hw, g _ _ _ (Ext.refl ..) (rel_setL r hc hp hv.dropLast) _ rw'⟩
      · exact g.elim
    · exact g.elim
theorem ok_popAt : MtR X "list.pop" (rMut cA xA X.K fun x ds S => match ds with
    | [y] => popAtD x y S
    | _ => .stuck) := by
  intro pins s σ H v vs u us Q I ru rus h
  obtain ⟨F, ι, S, x, ds, r, rx, rd, g⟩ := h
  match ds, rd, g with
  | [], _, g => exact g.elim
  | _ :: _ :: _, _, g => exact g.elim
  | [y], rd, g =>
    cases rd with
    | cons ry rn =>
      cases rn
      dsimp only at g
      unfold popAtD at g
      split at g
      · rename_i n y xs hx
        obtain ⟨p, ws, rfl, hp, hH, hv, hc⟩ := lst_at r rx hx
        cases hv with
        | cons h1 h2 =>
          cases ry
          exact mt_popAt pins s σ H _ _ u us Q I ru rus ⟨p, _, 0, 0, _, rfl, rfl, hH, by decide, by decide, by simp [seqIndex?], rfl, g _ _ _ (Ext.refl ..) (rel_setL r hc hp h2) _ h1⟩
      · exact g.elim
theorem idxD_at {d : D} {m : Nat} (fd : flat m d = true) {k : Nat} : ∀ {xs : List D} {j : Nat}, flats k xs = true → idxD xs d = some j → (∃ z, (toPs xs)[j]? = some z ∧ PyData.eqv z (toP d) = true) ∧ ∀ (i : Nat) z', i < j → (toPs xs)[i]? = some z' → PyData.eqv z' (toP d) = false
  | [], j, _, h => by simp [idxD] at h
  | x :: xs, j, f, h => by
    have f2 : flat k x = true ∧ flats k xs = true := by simpa [flats] using f
    simp only [idxD] at h
    split at h
    · rename_i he
      cases h
      exact ⟨⟨toP x, by simp [toPs], by rw [eqv_of x k m d f2.1 fd]; exact he⟩, fun i z' hi => absurd hi (Nat.not_lt_zero _)⟩
    · rename_i he
      obtain ⟨j', h', rfl⟩ := Option.map_eq_some_iff.mp h
      obtain ⟨⟨z, hz, hz2⟩, hn⟩ := idxD_at fd f2.2 h'
      refine ⟨⟨z, by simpa [toPs] using hz, hz2⟩, fun i z' hi hz' => ?_⟩
      cases i with
      | zero =>
        simp [toPs] at hz'
        subst hz'
        rw [eqv_of x k m d f2.1 fd]
        simpa using he
      | succ i => exact hn i z' (by omega) (by simpa [toPs] using hz')
theorem ok_idx (hu : X.A.units + 65 < cLine) : MtR X "list.index" (fun v vs H Q => ∃ w, vs = [w] ∧ rOp cA X.K idxO v w H Q) := by
  intro pins s σ H v vs u us Q I ru rus h
  obtain ⟨w, rfl, F, ι, S, a, b, d, r, ra, rb, e, q⟩ := h
  unfold idxO at e
  split at e
  · rename_i xs hx
    split at e
    · rename_i hf
      obtain ⟨f1, f2⟩ := Bool.and_eq_true_iff.mp hf
      obtain ⟨j, hj, rfl⟩ := Option.map_eq_some_iff.mp e
      obtain ⟨p1, p2⟩ := items_dp r (by decide) ra hx f2
      obtain ⟨p, vs, rfl, hp, hv⟩ := items_at r ra hx
      obtain ⟨⟨z, hz, hz2⟩, hn⟩ := idxD_at f1 f2 hj
      exact mt_indexD hu pins s σ H _ _ u us Q I ru rus ⟨p, w, _, _, j, z, rfl, rfl, p1, dp_of r.sub b 15 _ f1 rb, p2, shaped_of (by decide) f1 rb, hz, hz2, fun i z' hi hz' => hn i z' hi hz', q F H _ (Ext.refl ..) r (.int _)⟩
    · cases e
  · cases e
theorem cnt_eqU {x : V} : ∀ {xs : List V} {us : List Value}, Vals xs us → xs.all flatV = true → us.countP (eqU x) = (xs.filter fun y => eqV y x).length
  | _, _, .nil, _ => rfl
  | y :: xs, u :: us, .cons r t, f => by
    rw [List.all_cons, Bool.and_eq_true] at f
    rw [List.countP_cons, List.filter_cons, eqU_of r f.1, cnt_eqU t f.2]
    split <;> simp [*]
theorem cnt_eqD {e : D} {w : V} (g : flat 0 e = true) (h' : Rep K F ι w e) : ∀ {ds : List D} {vs : List V}, flats 0 ds = true → Reps K F ι vs ds → (vs.filter fun v => eqV v w).length = cntD ds e
  | [], _, _, h => by cases h; rfl
  | d :: ds, _, f, h => by
    cases h with
    | cons h1 h2 =>
      have f2 : flat 0 d = true ∧ flats 0 ds = true := by simpa [flats] using f
      have ih := cnt_eqD g h' f2.2 h2
      unfold cntD at ih ⊢
      rw [List.filter_cons, List.filter_cons, eqV_eqD f2.1 g h1 h']
      split <;> simp [ih]
theorem ok_cnt : MtR X "list.count" (fun v vs H Q => ∃ w, vs = [w] ∧ rOp cA X.K cntO v w H Q) := by
  intro pins s σ H v vs u us Q I ru rus h
  obtain ⟨w, rfl, F, ι, S, a, b, d, r, ra, rb, e, q⟩ := h
  unfold cntO at e
  split at e
  · rename_i xs hx
    split at e
    · rename_i hf
      obtain ⟨f1, f2⟩ := Bool.and_eq_true_iff.mp hf
      cases e
      obtain ⟨p, vs, rfl, hp, hv⟩ := items_at r ra hx
      cases ru
      obtain ⟨u1, rfl, ru1⟩ := rus.one
      obtain ⟨its, rv, ⟨⟨cls, dd, data, sl⟩, n, ho, hc, hdn, hd⟩, hlen⟩ := I.list (SqL.of hp)
      simp only at hc hd
      subst hc hd
      have fx := flat0_V f1 rb
      have fs := flats0_V f2 hv
      refine PySem.call_meets PySem.F.slot_list_count ⟨_, ho, rfl⟩ PySem.F.entry_list_count (PySem.F.args_list_count_2 _ _)
        (SeqAt.list_countAt p its.toArray n dd sl u1 (eqU w)) ⟨ho, fun y hy => mem_eqAt ru1 fx rv fs y (by simpa using hy), ?_⟩
      have ec : its.toArray.toList.countP (eqU w) = cntD xs b := by
        rw [List.toList_toArray, cnt_eqU rv fs, cnt_eqD f1 rb f2 hv]
      refine ⟨.int (cntD xs b : Nat), H, I.tok _, ⟨s.toks, ?_⟩, q F H _ (Ext.refl ..) r (.int _)⟩
      show Value.int ((its.toArray.toList.countP (eqU w) : Nat) : Int) s.toks = _
      rw [ec]
    · cases e
  · cases e
theorem okStr_iff {z : Str} : okStr z = true ↔ ∀ c ∈ z.cps.toList, c < 0x110000 := by
  unfold okStr PyData.strOk
  rw [← Array.all_toList, List.all_eq_true]
  simp
theorem join_okS {z : Str} (hz : okStr z = true) : ∀ {xs : List Str}, (∀ s ∈ xs, okStr s = true) → okStr (Str.join z xs) = true
  | [], _ => by simp [Str.join, Str.empty, okStr, PyData.strOk]
  | [x], h => h x (List.mem_cons_self ..)
  | x :: y :: r, h => by
    have ih := join_okS hz (xs := y :: r) fun s hs => h s (List.mem_cons_of_mem _ hs)
    have hx := h x (List.mem_cons_self ..)
    rw [okStr_iff] at *
    intro c hc
    have hc : c ∈ ((x.cps ++ z.cps) ++ (Str.join z (y :: r)).cps).toList := hc
    rw [Array.toList_append, Array.toList_append, List.mem_append, List.mem_append] at hc
    rcases hc with (hc | hc) | hc
    · exact hx c hc
    · exact hz c hc
    · exact ih c hc
theorem ok_join : MtR X "str.join" (fun v vs H Q => ∃ w, vs = [w] ∧ rOp cA X.K joinO v w H Q) := by
  intro pins s σ H v vs u us Q I ru rus h
  obtain ⟨w, rfl, F, ι, S, a, b, d, r, ra, rb, e, q⟩ := h
  unfold joinO at e
  split at e
  · rename_i z xs hx
    split at e
    · rename_i hl
      cases e
      obtain ⟨ys, h1, h2⟩ := Option.bind_eq_some_iff.mp hx
      obtain ⟨p, vs, rfl, hp, hv⟩ := items_at r rb h1
      obtain ⟨rfl, ok⟩ := strsOf_V hv h2
      cases ra with
      | str _ oz =>
        refine mt_join pins s σ H _ _ u us Q I ru rus ⟨z, p, xs, rfl, rfl, .inl (SqL.of hp), hl, ?_⟩
        rw [TL.join_eq]
        exact q F H _ (Ext.refl ..) r (.str _ (join_okS oz ok))
    · cases e
  · cases e
theorem spl_sub (T : List Nat) : ∀ (L : List Nat) (k : Nat) (acc : List Nat) (q : List Nat), q ∈ TL.spl T k acc L → ∀ c ∈ q, c ∈ acc ∨ c ∈ L
  | [], k, acc, q, h, c, hc => by
    rw [TL.spl_nil] at h
    simp at h
    subst h
    exact .inl hc
  | x :: L, 0, acc, q, h, c, hc => by
    by_cases hp : TL.pre T (x :: L) = true
    · rw [TL.spl_hit hp] at h
      rcases List.mem_cons.mp h with e | e
      · subst e; exact .inl hc
      · rcases spl_sub T L _ [] q e c hc with z | z
        · cases z
        · exact .inr (List.mem_cons_of_mem _ z)
    · have e : TL.spl T 0 acc (x :: L) = TL.spl T 0 (acc ++ [x]) L := by
        show (if TL.pre T (x :: L) = true then _ else _) = _
        rw [if_neg hp]
      rw [e] at h
      rcases spl_sub T L _ _ q h c hc with z | z
      · rcases List.mem_append.mp z with z | z
        · exact .inl z
        · simp at z; subst z; exact .inr (List.mem_cons_self ..)
      · exact .inr (List.mem_cons_of_mem _ z)
  | x :: L, k + 1, acc, q, h, c, hc => by
    have e : TL.spl T (k + 1) acc (x :: L) = TL.spl T k acc L := rfl
    rw [e] at h
    rcases spl_sub T L _ _ q h c hc with z | z
    · exact .inl z
    · exact .inr (List.mem_cons_of_mem _ z)
theorem split_okS {z w : Str} (h1 : w.length = 1) (h2 : w.cps.all (· < 256) = true) (hz : okStr z = true) : ∀ s ∈ PySem.Txt.split z w, okStr s = true := by
  intro s hs
  rw [okStr_iff] at *
  intro c hc
  have hy : TL.tl w ≠ [] := by
    intro e
    have : w.length = 0 := (TL.len0_tl w).mpr e
    omega
  have e := TL.split_spl z w hy (TL.kind_ok h2)
  have hm : TL.tl s ∈ (PySem.Txt.split z w).map TL.tl := List.mem_map.mpr ⟨s, hs, rfl⟩
  rw [e] at hm
  rcases spl_sub _ _ _ _ _ hm c hc with y | y
  · cases y
  · exact hz c y
theorem ok_split : MtR X "str.split" (fun v vs H Q => ∃ w, vs = [w] ∧ rOp cA X.K (fun _ => splitO) v w H Q) := by
  intro pins s σ H v vs u us Q I ru rus h
  obtain ⟨w, rfl, F, ι, S, a, b, d, r, ra, rb, e, q⟩ := h
  dsimp only at e
  unfold splitO at e
  split at e
  · rename_i z w
    split at e
    · rename_i hl
      cases e
      cases ra with
      | str _ oz =>
        cases rb
        refine mt_split pins s σ H _ _ u us Q I ru rus ⟨z, w, rfl, rfl, by rw [hl.1]; rfl, by rw [← LIM_eq]; exact hl.2.2, fun p hp => ?_⟩
        exact fin_lst r hp (reps_strs (split_okS hl.1 hl.2.1 oz)) q
    · cases e
  · cases e
theorem upper_is {z : Str} (h : ascii z = true) : PySem.Txt.upper z = upperS z := by
  unfold ascii at h
  rw [List.all_eq_true] at h
  rw [PyProof.Rows.upper_ascii fun c hc => by simpa using h c hc]
  unfold upperS
  congr 1
  apply Array.ext'
  rw [Array.toList_map]
  rfl
theorem ok_upper : MtR X "str.upper" (fun v vs H Q => vs = [] ∧ rOp1 cA X.K (fun S => op1 S .upper) [v] H Q) := by
  intro pins s σ H v vs u us Q I ru rus h
  obtain ⟨rfl, F, ι, S, x', a, d, ex, r, ra, e, q⟩ := h
  cases ex
  cases a <;> simp only [op1] at e <;> first | (cases e; done) | (simp [items] at e; done) | skip
  rename_i z
  split at e
  · rename_i hf
    obtain ⟨f1, f2⟩ := Bool.and_eq_true_iff.mp hf
    cases e
    cases ra with
    | str _ oz =>
      refine mt_upper pins s σ H _ _ u us Q I ru rus ⟨z, rfl, rfl, Nat.le_trans (of_decide_eq_true f2) (by decide), ?_⟩
      rw [upper_is f1]
      refine q F H _ (Ext.refl ..) r (.str _ ?_)
      rw [okStr_iff]
      intro c hc
      unfold upperS at hc
      simp at hc
      obtain ⟨b, hb, rfl⟩ := hc
      unfold ascii at f1
      have := List.all_eq_true.mp f1 b (by simpa using hb)
      simp at this
      split <;> omega
  · cases e
end
end Ev
namespace Ev
open PySem PySem.Spec PyProof.Rows L2

section
variable {cA xA : Nat → Addr} {X : Cx} {W : WX} {a b c o e : Expr} {es : List Expr} {pos apos p : Pos} {f g : Env → Store → R D} {gs : Env → Store → R (List D)} {x : Str}

/-! ### methods of built-ins -/
theorem few1 {e : Expr} (pl : plainE e = true) (env : PySem.Env) (cpos : Pos) : ((backTo cpos (starEach [e] env)).all (fun x => !x.1) && (backToKw cpos (keywordEach [] env)).all (fun x => x.1.isSome)
      && decide ([e].length + ([] : List Keyword).length + (if ([] : List Keyword).isEmpty then 0 else 1) < 30)) = true := by
  rw [starE_plain pl]
  rfl
def evApp (f g : Env → Store → R D) : Env → Store → R D := fun δ S => (f δ S).bind fun x S => if (lstAt S x).isSome then (g δ S).bind fun y S => appD x y S else .stuck
theorem c_app (pl : plainE b = true) (bo : baseOk o = true) (hl : (apos.endLine == pos.line) = true) (ha : PE X o (TD cA xA X.K W f)) (hb : PE X b (TD cA xA X.K W g)) : PE X (.Call (.Attribute o "append" apos) [b] [] pos) (TD cA xA X.K W (evApp f g)) :=
  PE.weak (pe_bm PySem.F.plainAttrs_list PySem.F.slot_list_append PySem.F.type_list_append (ok_app (cA := cA) (xA := xA)) ha (pa_cons hb pa_nil (starE_plain pl _)) (base_ok bo _ _) (few1 pl _ _) hl (starE_plain pl _) rfl) fun σ H Q ⟨F, ι, S, δ, r, sl, gd⟩ =>
    ⟨F, ι, S, δ, r, sl, gd.bind.mono fun F1 ι1 H1 d1 S1 e1 r1 g1 v1 rv1 => by
      split at g1
      · rename_i hs
        refine ⟨lst_ty r1 rv1 hs, F1, ι1, S1, δ, r1, sl.ext e1, g1.bind.mono fun F2 ι2 H2 d2 S2 e2 r2 g2 v2 rv2 => ?_⟩
        refine ⟨F2, ι2, S2, d1, [d2], r2, rv1.ext e2, .cons rv2 .nil, ?_⟩
        dsimp only
        unfold appD at g2 ⊢
        split at g2
        · split at g2
          · rename_i hl
            rw [if_pos hl]
            exact g2
          · exact g2.elim
        · exact g2.elim
      · exact g1.elim⟩
theorem c_pop (bo : baseOk o = true) (hl : (apos.endLine == pos.line) = true) (ha : PE X o (TD cA xA X.K W f)) : PE X (.Call (.Attribute o "pop" apos) [] [] pos) (TD cA xA X.K W fun δ S => (f δ S).bind fun x S => popD x S) :=
  PE.weak (pe_bm0 PySem.F.plainAttrs_list PySem.F.slot_list_pop PySem.F.type_list_pop (ok_pop (cA := cA) (xA := xA)) ha (base_ok bo _ _) hl) fun σ H Q ⟨F, ι, S, δ, r, sl, gd⟩ =>
    ⟨F, ι, S, δ, r, sl, gd.bind.mono fun F1 ι1 H1 d1 S1 e1 r1 g1 v1 rv1 => by
      have hs : (lstAt S1 d1).isSome = true := by
        unfold popD at g1
        split at g1
        · rename_i hx; rw [hx]; rfl
        · exact g1.elim
      refine ⟨lst_ty r1 rv1 hs, F1, ι1, S1, d1, [], r1, rv1, .nil, ?_⟩
      dsimp only
      unfold popD at g1 ⊢
      split at g1
      · split at g1
        · exact g1
        · exact g1.elim
      · exact g1.elim⟩
def evPopAt (f g : Env → Store → R D) : Env → Store → R D := fun δ S => (f δ S).bind fun x S => if (lstAt S x).isSome then (g δ S).bind fun y S => popAtD x y S else .stuck
theorem c_popAt (pl : plainE b = true) (bo : baseOk o = true) (hl : (apos.endLine == pos.line) = true) (ha : PE X o (TD cA xA X.K W f)) (hb : PE X b (TD cA xA X.K W g)) : PE X (.Call (.Attribute o "pop" apos) [b] [] pos) (TD cA xA X.K W (evPopAt f g)) :=
  PE.weak (pe_bm PySem.F.plainAttrs_list PySem.F.slot_list_pop PySem.F.type_list_pop (ok_popAt (cA := cA) (xA := xA)) ha (pa_cons hb pa_nil (starE_plain pl _)) (base_ok bo _ _) (few1 pl _ _) hl (starE_plain pl _) rfl) fun σ H Q ⟨F, ι, S, δ, r, sl, gd⟩ =>
    ⟨F, ι, S, δ, r, sl, gd.bind.mono fun F1 ι1 H1 d1 S1 e1 r1 g1 v1 rv1 => by
      split at g1
      · rename_i hs
        refine ⟨lst_ty r1 rv1 hs, F1, ι1, S1, δ, r1, sl.ext e1, g1.bind.mono fun F2 ι2 H2 d2 S2 e2 r2 g2 v2 rv2 => ?_⟩
        refine ⟨F2, ι2, S2, d1, [d2], r2, rv1.ext e2, .cons rv2 .nil, ?_⟩
        dsimp only
        unfold popAtD at g2 ⊢
        split at g2
        · exact g2
        · exact g2.elim
      · exact g1.elim⟩
def evIt2 (op : Store → D → D → Option D) (f g : Env → Store → R D) : Env → Store → R D := fun δ S => (f δ S).bind fun x S => if (items S x).isSome then (g δ S).bind fun y S => ofO S (op S x y) else .stuck
theorem c_idx (hu : X.A.units + 65 < cLine) (pl : plainE b = true) (bo : baseOk o = true) (hl : (apos.endLine == pos.line) = true) (ha : PE X o (TD cA xA X.K W f)) (hb : PE X b (TD cA xA X.K W g)) : PE X (.Call (.Attribute o "index" apos) [b] [] pos) (TD cA xA X.K W (evIt2 idxO f g)) :=
  PE.weak (pe_bm PySem.F.plainAttrs_list PySem.F.slot_list_index PySem.F.type_list_index (ok_idx (cA := cA) hu) ha (pa_cons hb pa_nil (starE_plain pl _)) (base_ok bo _ _) (few1 pl _ _) hl (starE_plain pl _) rfl) fun σ H Q ⟨F, ι, S, δ, r, sl, gd⟩ =>
    ⟨F, ι, S, δ, r, sl, gd.bind.mono fun F1 ι1 H1 d1 S1 e1 r1 g1 v1 rv1 => by
      split at g1
      · rename_i hs
        exact ⟨items_ty r1 rv1 hs, F1, ι1, S1, δ, r1, sl.ext e1, g1.bind.mono fun F2 ι2 H2 d2 S2 e2 r2 g2 v2 rv2 => ⟨v2, rfl, op_end r2 (rv1.ext e2) rv2 g2⟩⟩
      · exact g1.elim⟩
theorem c_cnt (pl : plainE b = true) (bo : baseOk o = true) (hl : (apos.endLine == pos.line) = true) (ha : PE X o (TD cA xA X.K W f)) (hb : PE X b (TD cA xA X.K W g)) : PE X (.Call (.Attribute o "count" apos) [b] [] pos) (TD cA xA X.K W (evIt2 cntO f g)) :=
  PE.weak (pe_bm PySem.F.plainAttrs_list PySem.F.slot_list_count PySem.F.type_list_count (ok_cnt (cA := cA)) ha (pa_cons hb pa_nil (starE_plain pl _)) (base_ok bo _ _) (few1 pl _ _) hl (starE_plain pl _) rfl) fun σ H Q ⟨F, ι, S, δ, r, sl, gd⟩ =>
    ⟨F, ι, S, δ, r, sl, gd.bind.mono fun F1 ι1 H1 d1 S1 e1 r1 g1 v1 rv1 => by
      split at g1
      · rename_i hs
        exact ⟨items_ty r1 rv1 hs, F1, ι1, S1, δ, r1, sl.ext e1, g1.bind.mono fun F2 ι2 H2 d2 S2 e2 r2 g2 v2 rv2 => ⟨v2, rfl, op_end r2 (rv1.ext e2) rv2 g2⟩⟩
      · exact g1.elim⟩
/-- methods of texts: the receiver must be a text -/
def evStr (op : Store → D → D → Option D) (f g : Env → Store → R D) : Env → Store → R D := fun δ S => (f δ S).bind fun x S => if isStr x then (g δ S).bind fun y S => ofO S (op S x y) else .stuck
theorem str_ty {K : PySem.W.Frag} {F H : Hp} {ι : List Addr} {d : D} {v : V} (h : Rep K F ι v d) (e : isStr d = true) : tyV K "str" v H := by
  cases h <;> first | (cases e; done) | rfl
theorem c_join (pl : plainE b = true) (bo : baseOk o = true) (hl : (apos.endLine == pos.line) = true) (ha : PE X o (TD cA xA X.K W f)) (hb : PE X b (TD cA xA X.K W g)) : PE X (.Call (.Attribute o "join" apos) [b] [] pos) (TD cA xA X.K W (evStr joinO f g)) :=
  PE.weak (pe_bm PySem.F.plainAttrs_str PySem.F.slot_str_join PySem.F.type_str_join (ok_join (cA := cA)) ha (pa_cons hb pa_nil (starE_plain pl _)) (base_ok bo _ _) (few1 pl _ _) hl (starE_plain pl _) rfl) fun σ H Q ⟨F, ι, S, δ, r, sl, gd⟩ =>
    ⟨F, ι, S, δ, r, sl, gd.bind.mono fun F1 ι1 H1 d1 S1 e1 r1 g1 v1 rv1 => by
      split at g1
      · rename_i hs
        exact ⟨str_ty rv1 hs, F1, ι1, S1, δ, r1, sl.ext e1, g1.bind.mono fun F2 ι2 H2 d2 S2 e2 r2 g2 v2 rv2 => ⟨v2, rfl, op_end r2 (rv1.ext e2) rv2 g2⟩⟩
      · exact g1.elim⟩
theorem c_split (pl : plainE b = true) (bo : baseOk o = true) (hl : (apos.endLine == pos.line) = true) (ha : PE X o (TD cA xA X.K W f)) (hb : PE X b (TD cA xA X.K W g)) : PE X (.Call (.Attribute o "split" apos) [b] [] pos) (TD cA xA X.K W (evStr (fun _ => splitO) f g)) :=
  PE.weak (pe_bm PySem.F.plainAttrs_str PySem.F.slot_str_split PySem.F.type_str_split (ok_split (cA := cA)) ha (pa_cons hb pa_nil (starE_plain pl _)) (base_ok bo _ _) (few1 pl _ _) hl (starE_plain pl _) rfl) fun σ H Q ⟨F, ι, S, δ, r, sl, gd⟩ =>
    ⟨F, ι, S, δ, r, sl, gd.bind.mono fun F1 ι1 H1 d1 S1 e1 r1 g1 v1 rv1 => by
      split at g1
      · rename_i hs
        exact ⟨str_ty rv1 hs, F1, ι1, S1, δ, r1, sl.ext e1, g1.bind.mono fun F2 ι2 H2 d2 S2 e2 r2 g2 v2 rv2 => ⟨v2, rfl, op_end (op := fun _ => splitO) r2 (rv1.ext e2) rv2 g2⟩⟩
      · exact g1.elim⟩
theorem c_upp (bo : baseOk o = true) (hl : (apos.endLine == pos.line) = true) (ha : PE X o (TD cA xA X.K W f)) : PE X (.Call (.Attribute o "upper" apos) [] [] pos) (TD cA xA X.K W (ev1 (fun S => op1 S .upper) f)) :=
  PE.weak (pe_bm0 PySem.F.plainAttrs_str PySem.F.slot_str_upper PySem.F.type_str_upper (ok_upper (cA := cA)) ha (base_ok bo _ _) hl) fun σ H Q ⟨F, ι, S, δ, r, sl, gd⟩ =>
    ⟨F, ι, S, δ, r, sl, gd.bind.mono fun F1 ι1 H1 d1 S1 e1 r1 g1 v1 rv1 => by
      have hs : isStr d1 = true := by
        cases d1 <;> first | rfl | (exfalso; obtain ⟨d, e, _⟩ := good_ofO g1; simp only [op1] at e; first | (cases e; done) | (simp [items] at e; done))
      exact ⟨str_ty rv1 hs, rfl, op_end1 (op := fun S => op1 S .upper) r1 rv1 g1⟩⟩

/-! ### attributes -/
theorem look_F {K : PySem.W.Frag} {F : Hp} {ι : List Addr} {f : Str} {d : D} : ∀ {l : List (Str × V)} {fs : List (Str × D)}, RepF K F ι l fs → look f fs = some d → ∃ v, l.lookup f = some v ∧ Rep K F ι v d := by
  intro l fs h
  induction h with
  | nil => intro e; cases e
  | @cons g v e l r h1 h2 ih =>
    intro e'
    simp only [look] at e'
    split at e'
    · rename_i hg
      cases e'
      subst hg
      exact ⟨v, by rw [List.lookup_cons_self], h1⟩
    · rename_i hg
      obtain ⟨w, e2, r2⟩ := ih e'
      refine ⟨w, ?_, r2⟩
      rw [List.lookup_cons]
      have : (f == g) = false := by simpa using hg
      rw [this]
      exact e2
theorem look_F0 {K : PySem.W.Frag} {F : Hp} {ι : List Addr} {f : Str} : ∀ {l : List (Str × V)} {fs : List (Str × D)}, RepF K F ι l fs → look f fs = none → l.lookup f = none := by
  intro l fs h
  induction h with
  | nil => intro _; rfl
  | @cons g v e l r h1 h2 ih =>
    intro e'
    simp only [look] at e'
    split at e'
    · cases e'
    · rename_i hg
      rw [List.lookup_cons]
      have : (f == g) = false := by simpa using hg
      rw [this]
      exact ih e'
theorem ins_at {K : PySem.W.Frag} {F H : Hp} {ι : List Addr} {S : Store} {x : D} {v : V} (r : Rel cA K F ι S H) (h : Rep K F ι v x) {n c : Nat} {fs : List (Str × D)} (e : insAt S x = some (n, c, fs)) :
    ∃ p dx l, v = .ref p ∧ x = .loc n ∧ ι[n]? = some p ∧ H p = some (.ins (cA c) dx l) ∧ RepF K F ι l fs ∧ S[n]? = some (.ins c fs) := by
  cases x with
  | loc m =>
    simp only [insAt] at e
    split at e
    · rename_i c' fs' hc
      cases e
      cases h with
      | loc hl =>
        obtain ⟨p, e1, e2, dx, l, e3, e4⟩ := r.cell _ _ hc trivial
        rw [hl] at e1; cases e1
        exact ⟨_, dx, l, rfl, rfl, hl, e3, e4, hc⟩
    · cases e
  | _ => simp [insAt] at e
def AtrOk (cA : Nat → Addr) (K : PySem.W.Frag) (atr : Nat → Str → Bool) : Prop := ∀ c f, atr c f = true → Cls K (cA c) ∧ NoAttr K (cA c) f
theorem c_att {atr : Nat → Str → Bool} (hat : AtrOk cA X.K atr) {m : Str} (bo : baseOk o = true) (ha : PE X o (TD cA xA X.K W f)) : PE X (.Attribute o m pos) (TD cA xA X.K W fun δ S => (f δ S).bind fun x S => ofO S (attO atr S x m)) :=
  PE.weak (pe_fld ha (base_ok bo _ _)) fun σ H Q ⟨F, ι, S, δ, r, sl, gd⟩ => ⟨F, ι, S, δ, r, sl, gd.bind.mono fun F1 ι1 H1 d1 S1 e1 r1 g1 v1 rv1 => by
    obtain ⟨d, e, k⟩ := good_ofO g1
    unfold attO at e
    split at e
    · rename_i n c fs hx
      split at e
      · rename_i hc
        obtain ⟨p, dx, l, rfl, rfl, hl, hH, hv, hs⟩ := ins_at r1 rv1 hx
        obtain ⟨w, hw, rw'⟩ := look_F hv e
        exact ⟨p, _, dx, l, w, rfl, hH, (hat _ _ hc).1, (hat _ _ hc).2, hw, k _ _ _ (Ext.refl ..) r1 _ rw'⟩
      · cases e
    · cases e⟩

/-! ### calls of one's own defs -/
/-- what a def promises, by what it comes to -/
def spF (cA xA : Nat → Addr) (K : PySem.W.Frag) (cf : List D → Store → R D) : Sp := fun vs H Q E => ∃ F ι S ds, Rel cA K F ι S H ∧ Reps K F ι vs ds ∧ Good cA xA K E F ι (cf ds S) fun F' ι' H' d _ => ∀ v, Rep K F' ι' v d → Q v H'
variable {k : Nat} {fa : Addr} {fd : FuncData} {ps : List Str} {cf : List D → Store → R D}
theorem c_call (Fk : FnOk X.prog X.w X.K X.mg X.base (L2N.CX X.prog X.w) k fa fd ps (spF cA xA X.K cf)) (hr : Room k X.A) (tk : L2N.Takes X W) (hg : Gl X x) (hm : X.mg x = some (.ref fa)) (hk : PySem.W.keepIn X.K (.ref fa) = true) (hb : Binds X.K fd ps [])
    (hdb : (x == ("__debug__" : Str)) = false) (pl : plainE a = true) (pls : es.all plainE = true) (ha : PA X (a :: es) (TDs cA xA X.K W gs)) : PE X (.Call (.Name x p) (a :: es) [] pos) (TD cA xA X.K W fun δ S => (gs δ S).bind cf) :=
  PE.weak (pe_callS (E := WE W) Fk hr hg hm hk hb (fun σ => L2N.passAt tk σ) ha hdb (star_plain pl _ _) (star_none pls _ _)) fun σ H Q ⟨F, ι, S, δ, r, sl, gd⟩ => ⟨F, ι, S, δ, r, sl, gd.bind.mono fun F1 ι1 H1 ds S1 e1 r1 g1 vs rvs => ⟨F1, ι1, S1, ds, r1, rvs, g1⟩⟩
theorem c_meth {C : Addr} {ci fi : Nat} {m : Str} {pl : Sem Bool} {cf : Nat → List D → Store → R D} (eC : cA ci = C) (Fk : FnOk X.prog X.w X.K X.mg X.base (L2N.CX X.prog X.w) k fa fd ps (spF cA xA X.K (cf fi))) (hr : Room k X.A) (tk : L2N.Takes X W) (cl : Cls X.K C) (hm : Meth X.K C m fa) (hb : Binds X.K fd ps [])
    (ho : PE X o (TD cA xA X.K W f)) (pls : (a :: es).all plainE = true) (ha : PA X (a :: es) (TDs cA xA X.K W gs))
    (ht : eval (.Call (.Attribute o m apos) (a :: es) [] pos) X.env = (do
      let ov ← eval o X.env
      standAt apos.atName
      let (f, first) ← holding [ov] (getMethod ov m pl)
      callWith pos f first (backTo pos (starEach (a :: es) X.env)) (backToKw pos (keywordEach [] X.env)))) :
    PE X (.Call (.Attribute o m apos) (a :: es) [] pos) (TD cA xA X.K W fun δ S => (f δ S).bind fun x S => if insOf S x ci m then (gs δ S).bind fun ds S => cf fi (x :: ds) S else .stuck) := by
  rw [List.all_cons, Bool.and_eq_true] at pls
  refine ⟨fun pins s σ H Q I ⟨F, ι, S, δ, r, sl, gd⟩ => ?_⟩
  refine PySem.W.methodCall_KW (pl := pl) (thn (ho.run pins s σ H _ I ⟨F, ι, S, δ, r, sl, gd.bind.mono (C' := fun F' ι' H' d S' => ∀ v, Rep X.K F' ι' v d → ∃ a dx fs, v = .ref a ∧ H' a = some (.ins C dx fs) ∧ fs.lookup m = none ∧
    TDs cA xA X.K W gs σ H' fun vs H2 => spF cA xA X.K (cf fi) (v :: vs) H2 Q (WE W σ)) fun F1 ι1 H1 d1 S1 e1 r1 g1 v1 rv1 => ?_⟩) fun u s1 ⟨x, H1, I1, rx, ad, dx, fs, ex, ea, l, q⟩ => ?_) ht
  · split at g1
    · rename_i hi
      unfold insOf at hi
      split at hi
      · rename_i n c' fs hx
        rw [Bool.and_eq_true, decide_eq_true_eq, Option.isNone_iff_eq_none] at hi
        obtain ⟨rfl, hn⟩ := hi
        obtain ⟨p, dx, l, rfl, rfl, hl, hH, hv, hs⟩ := ins_at r1 rv1 hx
        rw [eC] at hH
        exact ⟨p, dx, l, rfl, hH, look_F0 hv hn, F1, ι1, S1, δ, r1, sl.ext e1, g1.bind.mono fun F2 ι2 H2 ds S2 e2 r2 g2 vs rvs => ⟨F2, ι2, S2, _, r2, .cons (rv1.ext e2) rvs, g2⟩⟩
      · cases hi
    · exact g1.elim
  · subst ex
    obtain rfl : u = Value.ref ad := rx
    refine getmeth_ok I1 ea cl hm l ?_
    refine PySem.W.callWith_K (first := [.ref ad]) (h₀ := X.base) I.ok.mod.kin hm.kp (thn (ha.run pos pins s1 σ H1 _ I1 q) fun us s2 ⟨vs, H2, I2, r, q2⟩ => ⟨I2.kIn, ?_⟩) (star_plain pls.1 _ _) (star_none pls.2 _ _)
    exact run_fnS (us := .ref ad :: us) (vs := .ref ad :: vs) Fk hr hb (L2N.passAt tk σ) I2 (.cons rfl r) q2
theorem c_meth0 {C : Addr} {ci fi : Nat} {m : Str} {pl : Sem Bool} {cf : Nat → List D → Store → R D} (eC : cA ci = C) (Fk : FnOk X.prog X.w X.K X.mg X.base (L2N.CX X.prog X.w) k fa fd ps (spF cA xA X.K (cf fi))) (hr : Room k X.A) (tk : L2N.Takes X W) (cl : Cls X.K C) (hm : Meth X.K C m fa) (hb : Binds X.K fd ps [])
    (ho : PE X o (TD cA xA X.K W f))
    (ht : eval (.Call (.Attribute o m apos) [] [] pos) X.env = (do
      let ov ← eval o X.env
      standAt apos.atName
      let (f, first) ← holding [ov] (getMethod ov m pl)
      callWith pos f first (backTo pos (starEach [] X.env)) (backToKw pos (keywordEach [] X.env)))) :
    PE X (.Call (.Attribute o m apos) [] [] pos) (TD cA xA X.K W fun δ S => (f δ S).bind fun x S => if insOf S x ci m then (R.ok ([] : List D) S).bind fun ds S => cf fi (x :: ds) S else .stuck) := by
  refine ⟨fun pins s σ H Q I ⟨F, ι, S, δ, r, sl, gd⟩ => ?_⟩
  refine PySem.W.methodCall_KW (pl := pl) (thn (ho.run pins s σ H _ I ⟨F, ι, S, δ, r, sl, gd.bind.mono (C' := fun F' ι' H' d S' => ∀ v, Rep X.K F' ι' v d → ∃ a dx fs, v = .ref a ∧ H' a = some (.ins C dx fs) ∧ fs.lookup m = none ∧
    spF cA xA X.K (cf fi) [v] H' Q (WE W σ)) fun F1 ι1 H1 d1 S1 e1 r1 g1 v1 rv1 => ?_⟩) fun u s1 ⟨x, H1, I1, rx, ad, dx, fs, ex, ea, l, q⟩ => ?_) ht
  · split at g1
    · rename_i hi
      unfold insOf at hi
      split at hi
      · rename_i n c' fs hx
        rw [Bool.and_eq_true, decide_eq_true_eq, Option.isNone_iff_eq_none] at hi
        obtain ⟨rfl, hn⟩ := hi
        obtain ⟨p, dx, l, rfl, rfl, hl, hH, hv, hs⟩ := ins_at r1 rv1 hx
        rw [eC] at hH
        exact ⟨p, dx, l, rfl, hH, look_F0 hv hn, F1, ι1, S1, _, r1, .cons rv1 .nil, g1⟩
      · cases hi
    · exact g1.elim
  · subst ex
    obtain rfl : u = Value.ref ad := rx
    refine getmeth_ok I1 ea cl hm l ?_
    exact PySem.W.callWith_K0 (first := [.ref ad]) I1.kIn hm.kp (run_fnS (us := [.ref ad]) (vs := [.ref ad]) Fk hr hb (L2N.passAt tk σ) I1 (.cons rfl .nil) q)
/-- C(..) -/
theorem run_makeS {C f : Addr} {pins : List (Addr × Obj)} {σ : L2.St} {H : Hp} {s : Shared} {Q : VK} {us : List Value} {vs : List V} {sp : Sp} {E : L2.St → XK} {CX : CXT} (M : Mk X.K C f) (F : FnOk X.prog X.w X.K X.mg X.base CX k f fd ps sp) (hr : Room (k + 1) X.A) (hb : Binds X.K fd ps [])
    (hx : PassesAt CX X σ (E σ)) (I : Inv X pins σ H s) (r : Vals vs us)
    (h : ∀ x dx, H x = none → H dx = none → dx ≠ x → sp (.ref x :: vs) (upd (upd H dx (.own x)) x (.ins C dx [])) (fun v H2 => v = .non ∧ Q (.ref x) H2) (E σ)) :
    wpAny (model X.prog X.w) X.A (call (.ref C) us) (EP X pins σ Q) X.xe s := by
  have hq := h (s.heap.objs.size + 1) s.heap.objs.size (I.hok.fresh (Nat.le_succ _)) (I.hok.fresh (Nat.le_refl _)) (Nat.ne_of_lt (Nat.lt_succ_self _))
  have I2 := Inv.made (C := C) I
  have r2 : Vals (V.ref (s.heap.objs.size + 1) :: vs) (Value.ref (s.heap.objs.size + 1) :: us) := .cons rfl r
  have hl : (Value.ref (s.heap.objs.size + 1) :: us ++ []).length = ps.length := by
    have e := r2.length
    rw [F.len _ _ _ _ hq] at e
    rw [List.append_nil]
    exact e.symm
  have b := hb { s with heap := (s.heap.push PySem.W.emptyDict).push (PySem.W.instObj C s.heap.objs.size) } (Value.ref (s.heap.objs.size + 1) :: us) I2.kIn hl
  rw [List.append_nil] at b
  refine wpAny_call (make_map (f := f) I.kIn M.makes M.init (beq_iff_eq.mp M.fn) (codeAny_mono (F.run _ X.stack _ _ ⟨Value.ref (s.heap.objs.size + 1) :: us, []⟩ (Value.ref (s.heap.objs.size + 1) :: us) _ _ (E σ) (hr.make C us [])
    (I2.env0.make C us []) b r2 hq) fun r s' hq' => ?_))
  cases r with
  | error e => exact hx pins _ _ e s' I2 hq'
  | ok fl =>
    cases fl with
    | ret u =>
      obtain ⟨v, H', I3, rv, ev, q3⟩ := I2.after hq'
      subst ev
      exact ⟨rv, ⟨V.ref (s.heap.objs.size + 1), H', I3, rfl, q3⟩⟩
    | next => exact False.elim hq'
    | brk => exact False.elim hq'
    | cont => exact False.elim hq'
def evMake (ci : Nat) (cf : List D → Store → R D) (gs : Env → Store → R (List D)) : Env → Store → R D := fun δ S => (gs δ S).bind fun ds S => (cf (.loc S.length :: ds) (S ++ [.ins ci []])).bind fun r S' => (match r with
      | .non => .ok (.loc S.length) S'
      | _ => .stuck)
theorem c_make {C : Addr} {ci : Nat} (eC : cA ci = C) (M : Mk X.K C fa) (Fk : FnOk X.prog X.w X.K X.mg X.base (L2N.CX X.prog X.w) k fa fd ps (spF cA xA X.K cf)) (hr : Room (k + 1) X.A) (tk : L2N.Takes X W) (hg : Gl X x) (hm : X.mg x = some (.ref C)) (hb : Binds X.K fd ps [])
    (hdb : (x == ("__debug__" : Str)) = false) (pl : plainE a = true) (pls : es.all plainE = true) (ha : PA X (a :: es) (TDs cA xA X.K W gs)) : PE X (.Call (.Name x p) (a :: es) [] pos) (TD cA xA X.K W (evMake ci cf gs)) := by
  refine ⟨fun pins s σ H Q I ⟨F, ι, S, δ, r, sl, gd⟩ => ?_⟩
  refine wpAny_Call_Name_kw (ld_glob I hg hm ?_ hdb)
  refine PySem.W.callWith_K (h₀ := X.base) I.ok.mod.kin M.kp (thn (ha.run pos pins s σ H (fun vs H1 => ∀ x dx, H1 x = none → H1 dx = none → dx ≠ x → spF cA xA X.K cf (.ref x :: vs) (upd (upd H1 dx (.own x)) x (.ins C dx [])) (fun v H2 => v = .non ∧ Q (.ref x) H2) (WE W σ)) I
    ⟨F, ι, S, δ, r, sl, gd.bind.mono fun F1 ι1 H1 ds S1 e1 r1 g1 vs rvs x dx hx hdx hne => ?_⟩) fun us s1 ⟨vs, H1, I1, r, q⟩ => ⟨I1.kIn, ?_⟩) (star_plain pl _ _) (star_none pls _ _)
  · have r2 : Rel cA X.K F1 ι1 S1 (upd H1 dx (.own x)) := r1.junk fun b u h => by rw [upd_ne (ne_of_none h hdx)]; exact h
    have hx2 : (upd H1 dx (.own x)) x = none := by rw [upd_ne (Ne.symm hne)]; exact hx
    have r3 := r2.place (o := .ins C dx []) hx2 (.ins ci []) ⟨dx, [], by rw [eC], .nil⟩
    have hl : (ι1 ++ [x])[S1.length]? = some x := by rw [← r1.len]; simp
    refine ⟨F1, ι1 ++ [x], _, _, r3, .cons (.loc hl) (rvs.ext (Ext.more F1 ι1 [x])), (g1.ext (Ext.more F1 ι1 [x])).bind.mono fun F2 ι2 H2 d2 S2 e2 r2 g2 v2 rv2 => ?_⟩
    cases d2 <;> first | exact g2.elim | skip
    cases rv2
    exact ⟨rfl, g2 _ _ _ (Ext.refl ..) r2 _ (.loc (e2.pl _ _ hl))⟩
  · exact run_makeS (E := WE W) M Fk hr hb (L2N.passAt tk σ) I1 r q
end
end Ev
namespace Ev
open PySem PySem.Spec PyProof.Rows L2

/-! ### what is walked -/
def GW (cA : Nat → Addr) (K : PySem.W.Frag) (F : Hp) (ι : List Addr) (ch : List (Nat × List D)) (H : Hp) : Prop := ∃ F' ι' S', Ext F ι F' ι' ∧ Rel cA K F' ι' S' H ∧ stays S' ch = true
def YW (cA : Nat → Addr) (K : PySem.W.Frag) (F : Hp) (ι : List Addr) (ch : List (Nat × List D)) (xs : List D) (i : Nat) (H : Hp) (x : V) (H' : Hp) : Prop :=
  ∀ F' ι' S', Ext F ι F' ι' → Rel cA K F' ι' S' H → stays S' ch = true → ∃ F'' d, Ext F' ι' F'' ι' ∧ Rel cA K F'' ι' S' H' ∧ xs[i]? = some d ∧ Rep K F'' ι' x d
abbrev WalkD (cA : Nat → Addr) (K : PySem.W.Frag) (F : Hp) (ι : List Addr) (p : List D × List (Nat × List D)) (J : It) : Prop := Walk J p.1.length (GW cA K F ι p.2) (YW cA K F ι p.2 p.1)
section
variable {cA xA : Nat → Addr} {K : PySem.W.Frag} {F H : Hp} {ι : List Addr} {S : Store}
theorem stays_at {S : Store} {ch : List (Nat × List D)} (h : stays S ch = true) {p : Nat × List D} (hp : p ∈ ch) : S[p.1]? = some (.lst p.2) := by
  unfold stays at h
  classical
  exact (decide_eq_true_iff.mp h) p hp
/-- a list that stands at a, whatever the heap -/
def LstAt (cA : Nat → Addr) (K : PySem.W.Frag) (F : Hp) (ι : List Addr) (ch : List (Nat × List D)) (a : Addr) (xs : List D) : Prop :=
  ∀ F' ι' S' H, Ext F ι F' ι' → Rel cA K F' ι' S' H → stays S' ch = true → ∃ vs, SqL K H a vs ∧ Reps K F' ι' vs xs
theorem walk_L {ch : List (Nat × List D)} {a : Addr} {xs : List D} (h : LstAt cA K F ι ch a xs) : WalkD cA K F ι (xs, ch) (Itl K a) where
  goes := fun i H hi ⟨F', ι', S', e, r, st⟩ => by
    obtain ⟨vs, hq, hv⟩ := h F' ι' S' H e r st
    obtain ⟨v, hv1, _⟩ := hv.get (i := i) (d := xs[i]) (by simp [show i < xs.length from hi])
    exact ⟨vs, v, hq, hv1⟩
  stops := fun H ⟨F', ι', S', e, r, st⟩ => by
    obtain ⟨vs, hq, hv⟩ := h F' ι' S' H e r st
    exact ⟨vs, hq, Nat.le_of_eq hv.len⟩
  yields := fun i H x H' hi _ y F' ι' S' e r st => by
    obtain ⟨vs, hq, hv⟩ := h F' ι' S' H e r st
    obtain ⟨d, hd, rd⟩ := hv.getV (y.2 vs hq)
    obtain ⟨rfl, _⟩ := y
    exact ⟨F', d, Ext.refl .., r, hd, rd⟩
theorem walk_E {ch : List (Nat × List D)} {a : Addr} {xs : List D} (h : LstAt cA K F ι ch a xs) : WalkD cA K F ι (xs.mapIdx (fun i x => .tup [.int i, x]), ch) (Ite K a) where
  goes := fun i H hi ⟨F', ι', S', e, r, st⟩ => by
    obtain ⟨vs, hq, hv⟩ := h F' ι' S' H e r st
    have hi : i < xs.length := by simpa using hi
    obtain ⟨v, hv1, _⟩ := hv.get (i := i) (d := xs[i]) (by simp [hi])
    exact ⟨vs, v, hq, hv1⟩
  stops := fun H ⟨F', ι', S', e, r, st⟩ => by
    obtain ⟨vs, hq, hv⟩ := h F' ι' S' H e r st
    exact ⟨vs, hq, by have := hv.len; simp; omega⟩
  yields := fun i H x H' hi _ y F' ι' S' e r st => by
    obtain ⟨vs, hq, hv⟩ := h F' ι' S' H e r st
    obtain ⟨T, v, rfl, hT, rfl, hx⟩ := y
    obtain ⟨d, hd, rd⟩ := hv.getV (hx vs hq)
    have e2 := Ext.fresh (F := F') (ι := ι') (r.freeF hT) (.tup [.int (i : Nat), v])
    refine ⟨_, .tup [.int i, d], e2, r.fresh hT _, by simp [List.getElem?_mapIdx, hd], .tup (SqT.of upd_same) (.cons (.int _) (.cons (rd.ext e2) .nil))⟩
theorem walk_Z {ch : List (Nat × List D)} {a b : Addr} {xs ys : List D} (h : LstAt cA K F ι ch a xs) (h2 : LstAt cA K F ι ch b ys) : WalkD cA K F ι (List.zipWith (fun x y => .tup [x, y]) xs ys, ch) (Itz K a b) where
  goes := fun i H hi ⟨F', ι', S', e, r, st⟩ => by
    obtain ⟨vs, hq, hv⟩ := h F' ι' S' H e r st
    obtain ⟨ws, hq2, hw⟩ := h2 F' ι' S' H e r st
    have hi : i < xs.length ∧ i < ys.length := by simp at hi; omega
    obtain ⟨v, hv1, _⟩ := hv.get (i := i) (d := xs[i]'hi.1) (by simp [hi.1])
    obtain ⟨w, hw1, _⟩ := hw.get (i := i) (d := ys[i]'hi.2) (by simp [hi.2])
    exact ⟨vs, ws, v, w, hq, hq2, hv1, hw1⟩
  stops := fun H ⟨F', ι', S', e, r, st⟩ => by
    obtain ⟨vs, hq, hv⟩ := h F' ι' S' H e r st
    obtain ⟨ws, hq2, hw⟩ := h2 F' ι' S' H e r st
    refine ⟨vs, ws, hq, hq2, ?_⟩
    have := hv.len
    have := hw.len
    simp
    omega
  yields := fun i H x H' hi _ y F' ι' S' e r st => by
    obtain ⟨vs, hq, hv⟩ := h F' ι' S' H e r st
    obtain ⟨ws, hq2, hw⟩ := h2 F' ι' S' H e r st
    obtain ⟨T, v, w, rfl, hT, rfl, hx, hy⟩ := y
    obtain ⟨d, hd, rd⟩ := hv.getV (hx vs hq)
    obtain ⟨d2, hd2, rd2⟩ := hw.getV (hy ws hq2)
    have e2 := Ext.fresh (F := F') (ι := ι') (r.freeF hT) (.tup [v, w])
    exact ⟨_, .tup [d, d2], e2, r.fresh hT _, by rw [List.getElem?_zipWith, hd, hd2], .tup (SqT.of upd_same) (.cons (rd.ext e2) (.cons (rd2.ext e2) .nil))⟩
theorem walk_T {a : Addr} {xs : List D} {vs : List V} (h1 : SqT K F a vs) (h2 : Reps K F ι vs xs) : WalkD cA K F ι (xs, []) (Itt K a) where
  goes := fun i H hi ⟨F', ι', S', e, r, st⟩ => by
    obtain ⟨v, hv1, _⟩ := h2.get (i := i) (d := xs[i]) (by simp [show i < xs.length from hi])
    exact ⟨vs, v, SqT.up (fun a o q => r.sub _ _ (e.fx a o q)) h1, hv1⟩
  stops := fun H ⟨F', ι', S', e, r, st⟩ => ⟨vs, SqT.up (fun a o q => r.sub _ _ (e.fx a o q)) h1, Nat.le_of_eq h2.len⟩
  yields := fun i H x H' hi _ y F' ι' S' e r st => by
    obtain ⟨d, hd, rd⟩ := h2.getV (y.2 vs (SqT.up (fun a o q => r.sub _ _ (e.fx a o q)) h1))
    obtain ⟨rfl, _⟩ := y
    exact ⟨F', d, Ext.refl .., r, hd, rd.ext e⟩
theorem walk_R {lo hi : Int} : WalkD cA K F ι (rngD lo hi, []) (Itr lo (hi - lo).toNat) where
  goes := fun i H hh _ => by
    show i < (hi - lo).toNat
    have : i < (rngD lo hi).length := hh
    simpa only [rngD, List.length_map, List.length_range] using this
  stops := fun H _ => by
    show (hi - lo).toNat ≤ (rngD lo hi).length
    simp only [rngD, List.length_map, List.length_range]
    exact Nat.le_refl _
  yields := fun i H x H' hi _ y F' ι' S' e r st => by
    obtain ⟨rfl, rfl⟩ := y
    unfold rngD at hi ⊢
    simp at hi
    exact ⟨F', .int (lo + i), Ext.refl .., r, by simp [hi], .int _⟩
theorem walk_S {z : Str} (hz : okStr z = true) : WalkD cA K F ι (z.cps.toList.map (fun c => .str ⟨#[c]⟩), []) (Its z) where
  goes := fun i H hi _ => by
    show i < z.cps.size
    simpa using hi
  stops := fun H _ => by
    show z.cps.size ≤ _
    simp
  yields := fun i H x H' hi _ y F' ι' S' e r st => by
    obtain ⟨rfl, c, hc, rfl⟩ := y
    refine ⟨F', .str ⟨#[c]⟩, Ext.refl .., r, by simp [hc], .str _ ?_⟩
    rw [okStr_iff] at hz ⊢
    intro c' hc'
    simp at hc'
    subst hc'
    exact hz c' (by simpa using Array.mem_of_getElem? hc)
theorem lstAt_F {a : Addr} {vs : List V} {xs : List D} (h1 : F a = some (.lst vs)) (h2 : Reps K F ι vs xs) : LstAt cA K F ι [] a xs := fun F' ι' S' H e r _ => ⟨vs, SqL.of (r.sub _ _ (e.fx _ _ h1)), h2.ext e⟩
theorem lstAt_S {a : Addr} {ns : List Int} (h1 : SqL K F a (ns.map V.int)) : LstAt cA K F ι [] a (ns.map D.int) := fun F' ι' S' H e r _ => ⟨_, SqL.up (fun a o q => r.sub _ _ (e.fx a o q)) h1, Reps.ints ns⟩
theorem lstAt_L {a : Addr} {n : Nat} {xs : List D} (h1 : ι[n]? = some a) : LstAt cA K F ι [(n, xs)] a xs := fun F' ι' S' H e r st => by
  have hc := stays_at st (p := (n, xs)) (List.mem_cons_self ..)
  obtain ⟨p, e1, e2, vs, e3, e4⟩ := r.cell n _ hc trivial
  rw [e.pl _ _ h1] at e1
  cases e1
  exact ⟨vs, SqL.of e3, e4⟩
end
section
variable {X : Cx} {tg : Expr} {pins : List (Addr × Obj)} {σ : L2.St} {H : Hp} {s : Shared} {R : It → Hp → Prop} {E : Value → Shared → Prop}
theorem it_list {a : Addr} (I : Inv X pins σ H s) (hq : ∃ xs, SqL X.K H a xs) (q : R (Itl X.K a) H) : wpAny (model X.prog X.w) X.A (pyIter (.ref a)) (PIE X pins σ tg R) E s := by
  obtain ⟨xs, hq⟩ := hq
  obtain ⟨its, rv, p, hz⟩ := I.list hq
  refine wpAny_pyIter_list p.isList ?_
  refine ⟨s.heap.objs.size, [s.heap.objs.size], _, _, H, rfl, I.kept (t' := s.toks) fun b o e => Heap.get?_push_of_some _ e, turn_list a _, ⟨_, Heap.get?_push_size _ rfl, rfl, rfl⟩, fun b hb => ?_, q⟩
  have e : b = s.heap.objs.size := by simpa using hb
  subst e
  exact I.fpOk (Nat.le_refl _) (I.hok.fresh (Nat.le_refl _))
theorem it_tup {a : Addr} {xs : List V} (I : Inv X pins σ H s) (hq : SqT X.K H a xs) (q : R (Itt X.K a) H) : wpAny (model X.prog X.w) X.A (pyIter (.ref a)) (PIE X pins σ tg R) E s := by
  obtain ⟨its, rv, p, hz⟩ := I.tuple hq
  refine wpAny_pyIter_tuple (show s.heap.IsTuple a its.toArray from p) ?_
  refine ⟨s.heap.objs.size, [s.heap.objs.size], _, _, H, rfl, I.kept (t' := s.toks) fun b o e => Heap.get?_push_of_some _ e, turn_tuple a _, ⟨_, Heap.get?_push_size _ rfl, rfl, rfl⟩, fun b hb => ?_, q⟩
  have e : b = s.heap.objs.size := by simpa using hb
  subst e
  exact I.fpOk (Nat.le_refl _) (I.hok.fresh (Nat.le_refl _))
theorem it_str {x : Str} {t : Tok} (I : Inv X pins σ H s) (q : R (Its x) H) : wpAny (model X.prog X.w) X.A (pyIter (.str x t)) (PIE X pins σ tg R) E s := by
  cases ha : x.cps.all (· < 128)
  · exact wpAny_pyIter_wide ha (pi_one (tk := s.toks) I _ (turn_str _ x t "str_iterator" (.inr rfl)) ⟨_, Heap.get?_push_size _ rfl, rfl, rfl⟩ q)
  · exact wpAny_pyIter_ascii ha (pi_one (tk := s.toks) I _ (turn_str _ x t "str_ascii_iterator" (.inl rfl)) ⟨_, Heap.get?_push_size _ rfl, rfl, rfl⟩ q)
end
/-- what is walked, by what it comes to -/
def TDi (cA xA : Nat → Addr) (K : PySem.W.Frag) (W : WX) (ik : IK) (gs : Env → Store → R (List D)) : TI := fun σ H R => ∃ F ι S δ, Rel cA K F ι S H ∧ Sl K F ι σ δ ∧
  Good cA xA K (fun c d H => W c d σ H) F ι (gs δ S) fun F' ι' H' ds S' => ∃ p, walkOf S' ik ds = some p ∧ ∀ J, WalkD cA K F' ι' p J → R J H'
section
variable {cA xA : Nat → Addr} {X : Cx} {W : WX} {tg a b : Expr} {p pos tpos : Pos} {f g : Env → Store → R D} {elts : List Expr} {kk : Nat}
def ev1s (f : Env → Store → R D) : Env → Store → R (List D) := evCons f fun _ S => .ok [] S
def ev2s (f g : Env → Store → R D) : Env → Store → R (List D) := evCons f (evCons g fun _ S => .ok [] S)
theorem good_1s {K : PySem.W.Frag} {Wx : W0} {F : Hp} {ι : List Addr} {δ : Env} {S : Store} {C : Hp → List Addr → Hp → List D → Store → Prop} (h : Good cA xA K Wx F ι (ev1s f δ S) C) :
    Good cA xA K Wx F ι (f δ S) fun F1 ι1 H1 d S1 => C F1 ι1 H1 [d] S1 := by
  unfold ev1s evCons at h
  exact h.bind.mono fun F1 ι1 H1 d S1 e1 r1 g1 => g1 _ _ _ (Ext.refl ..) r1
theorem c_iex (pl : plainE a = true) (ha : PE X a (TD cA xA X.K W f)) : PI X tg a (TDi cA xA X.K W .ex (ev1s f)) := by
  refine ⟨fun pins s σ H R I ⟨F, ι, S, δ, r, sl, gd⟩ => ?_⟩
  refine thn (ha.run pins s σ H (fun v H1 => ∃ F1 ι1 S1 d p, Rel cA X.K F1 ι1 S1 H1 ∧ Rep X.K F1 ι1 v d ∧ walkOf S1 .ex [d] = some p ∧ ∀ J, WalkD cA X.K F1 ι1 p J → R J H1) I
    ⟨F, ι, S, δ, r, sl, (good_1s gd).mono fun F1 ι1 H1 d S1 e1 r1 ⟨p, hp, k⟩ v rv => ⟨F1, ι1, S1, d, p, r1, rv, hp, k⟩⟩) fun u s1 ⟨v, H1, I1, rv, F1, ι1, S1, d, p, r1, rd, hp, k⟩ => ?_
  cases rd with
  | tup h1 h2 =>
    cases hp
    cases rv
    exact it_tup I1 (SqT.up r1.sub h1) (k _ (walk_T h1 h2))
  | scr h1 =>
    cases hp
    cases rv
    exact it_list I1 ⟨_, SqL.up r1.sub h1⟩ (k _ (walk_L (lstAt_S h1)))
  | str z hz =>
    cases hp
    obtain ⟨t, rfl⟩ := rv
    exact it_str I1 (k _ (walk_S hz))
  | lst h1 h2 =>
    cases hp
    cases rv
    exact it_list I1 ⟨_, SqL.of (r1.sub _ _ h1)⟩ (k _ (walk_L (lstAt_F h1 h2)))
  | @loc n q hl =>
    simp only [walkOf] at hp
    obtain ⟨⟨m, xs⟩, e1, rfl⟩ := Option.map_eq_some_iff.mp hp
    obtain ⟨e2, hc⟩ := lstAt_items e1
    cases e2
    cases rv
    obtain ⟨q', e3, e4, vs, e5, e6⟩ := r1.cell _ _ hc trivial
    rw [hl] at e3; cases e3
    exact it_list I1 ⟨_, SqL.of e5⟩ (k _ (walk_L (lstAt_L hl)))
  | _ => simp [walkOf] at hp
theorem c_irng1 (hg : Gl X "range") (hm : X.mg "range" = none) (pl : plainE a = true) (ha : PE X a (TD cA xA X.K W f)) : PI X tg (.Call (.Name "range" p) [a] [] pos) (TDi cA xA X.K W .rng1 (ev1s f)) := by
  refine ⟨fun pins s σ H R I ⟨F, ι, S, δ, r, sl, gd⟩ => (pi_range1 hg hm (pa_cons ha pa_nil (starE_plain pl _)) (starE_plain pl _)).run pins s σ H R I ⟨F, ι, S, δ, r, sl, (good_1s gd).mono fun F1 ι1 H1 d S1 e1 r1 ⟨p, hp, k⟩ v rv => ?_⟩⟩
  have hd : ∃ j, d = .int j := by cases d <;> first | exact ⟨_, rfl⟩ | simp [walkOf] at hp
  obtain ⟨j, rfl⟩ := hd
  simp only [walkOf] at hp
  split at hp
  · rename_i hl
    cases hp
    cases rv
    have e : Itr 0 j.toNat = Itr 0 (j - 0).toNat := by rw [Int.sub_zero]
    exact ⟨j, rfl, hl.2, hl.1, e ▸ k _ walk_R⟩
  · cases hp
theorem good_2s {K : PySem.W.Frag} {Wx : W0} {F : Hp} {ι : List Addr} {δ : Env} {S : Store} {C : Hp → List Addr → Hp → List D → Store → Prop} (h : Good cA xA K Wx F ι (ev2s f g δ S) C) :
    Good cA xA K Wx F ι (f δ S) fun F1 ι1 H1 d S1 => Good cA xA K Wx F1 ι1 (g δ S1) fun F2 ι2 H2 d2 S2 => C F2 ι2 H2 [d, d2] S2 := by
  unfold ev2s evCons at h
  exact h.bind.mono fun F1 ι1 H1 d S1 e1 r1 g1 => g1.bind.bind.mono fun F2 ι2 H2 d2 S2 e2 r2 g2 => g2 _ _ _ (Ext.refl ..) r2 _ _ _ (Ext.refl ..) r2
theorem c_irng2 (hg : Gl X "range") (hm : X.mg "range" = none) (pl : plainE a = true) (pl2 : plainE b = true) (ha : PE X a (TD cA xA X.K W f)) (hb : PE X b (TD cA xA X.K W g)) : PI X tg (.Call (.Name "range" p) [a, b] [] pos) (TDi cA xA X.K W .rng2 (ev2s f g)) := by
  refine ⟨fun pins s σ H R I ⟨F, ι, S, δ, r, sl, gd⟩ => (pi_range2 hg hm (pa_cons ha (pa_cons hb pa_nil (starE_plain pl2 _)) (star_plain pl _ _)) (by rw [star_plain pl, starE_plain pl2]) (starE_plain pl2 _)).run pins s σ H R I
    ⟨F, ι, S, δ, r, sl, (good_2s gd).mono fun F1 ι1 H1 d S1 e1 r1 g1 v rv => ⟨F1, ι1, S1, δ, r1, sl.ext e1, g1.mono fun F2 ι2 H2 d2 S2 e2 r2 ⟨p, hp, k⟩ v2 rv2 => ?_⟩⟩⟩
  have hd : ∃ i j, d = .int i ∧ d2 = .int j := by cases d <;> cases d2 <;> first | exact ⟨_, _, rfl, rfl⟩ | simp [walkOf] at hp
  obtain ⟨i, j, rfl, rfl⟩ := hd
  simp only [walkOf] at hp
  split at hp
  · rename_i hl
    cases hp
    cases rv; cases rv2
    exact ⟨i, j, rfl, ⟨hl.2.2, hl.2.1, hl.1.2, hl.1.1⟩, k _ walk_R⟩
  · cases hp
theorem c_izip (hg : Gl X "zip") (hm : X.mg "zip" = none) (pl : plainE a = true) (pl2 : plainE b = true) (ha : PE X a (TD cA xA X.K W f)) (hb : PE X b (TD cA xA X.K W g)) : PI X (.Tuple elts kk tpos) (.Call (.Name "zip" p) [a, b] [] pos) (TDi cA xA X.K W .zip (ev2s f g)) := by
  refine ⟨fun pins s σ H R I ⟨F, ι, S, δ, r, sl, gd⟩ => (pi_zip hg hm (pa_cons ha (pa_cons hb pa_nil (starE_plain pl2 _)) (star_plain pl _ _)) (star_plain pl _ _) (star_none (by rw [List.all_cons, pl2]; rfl) _ _)).run pins s σ H R I
    ⟨F, ι, S, δ, r, sl, (good_2s gd).mono fun F1 ι1 H1 d S1 e1 r1 g1 v rv => ⟨F1, ι1, S1, δ, r1, sl.ext e1, g1.mono fun F2 ι2 H2 d2 S2 e2 r2 ⟨p, hp, k⟩ v2 rv2 => ?_⟩⟩⟩
  cases d <;> first | (simp [walkOf] at hp; done) | skip
  cases d2 <;> first | (simp [walkOf] at hp; done) | skip
  simp only [walkOf] at hp
  cases hp
  cases rv with
  | lst h1 h2 =>
    cases rv2 with
    | lst g1 g2 => exact ⟨_, _, _, _, rfl, SqL.of (r2.sub _ _ (e2.fx _ _ h1)), SqL.of (r2.sub _ _ g1), k _ (walk_Z (lstAt_F (e2.fx _ _ h1) (h2.ext e2)) (lstAt_F g1 g2))⟩

/-! ### targets -/
inductive PGd (X : Cx) : Expr → Tg → Prop
  | nm {x : Str} {i : Nat} {pos : Pos} (hi : X.N[i]? = some x) (hx : Loc X.env.scope x) (hf : X.fn x = true ∨ X.env.scope.names.lookup x = some .local) : PGd X (.Name x pos) (.nm i)
  | pr {x y : Str} {i j : Nat} {p1 p2 pos : Pos} {k : Nat} (hi : X.N[i]? = some x) (hx : Loc X.env.scope x) (hf : X.fn x = true ∨ X.env.scope.names.lookup x = some .local)
      (hj : X.N[j]? = some y) (hy : Loc X.env.scope y) (hfy : X.fn y = true ∨ X.env.scope.names.lookup y = some .local) : PGd X (.Tuple [.Name x p1, .Name y p2] k pos) (.pr i j)
def gTg (K : PySem.W.Frag) : Tg → TG
  | .nm i => gName i
  | .pr i j => gTup K 2 (gCons (gName i) (gCons (gName j) gNil))
theorem c_tg {e : Expr} {t : Tg} (hc : X.calm = true) (nd : X.N.Nodup) (h : PGd X e t) : PG X e (gTg X.K t) := by
  cases h with
  | nm hi hx hf => exact pg_name nd hi hx hf
  | pr hi hx hf hj hy hfy => exact pg_tup hc (pgs_cons (pg_name nd hi hx hf) (pgs_cons (pg_name nd hj hy hfy) pgs_nil rfl) rfl) rfl rfl
theorem tg_set {K : PySem.W.Frag} {F H : Hp} {ι : List Addr} {S : Store} {t : Tg} {d : D} {v : V} {δ δ' : Env} {σ : L2.St} (r : Rel cA K F ι S H) (h : setT t d δ = some δ') (rv : Rep K F ι v d) (sl : Sl K F ι σ δ) {Q : L2.St → Hp → Prop}
    (q : ∀ σ', Sl K F ι σ' δ' → (∀ vs : List Nat, (match t with | .nm i => i ∈ vs | .pr i j => i ∈ vs ∧ j ∈ vs) → L2.wipe σ' vs = L2.wipe σ vs) → Q σ' H) : gTg K t v σ H Q := by
  have wp : ∀ (σ : L2.St) (i : Nat) (o : Option V) (vs : List Nat), i ∈ vs → L2.wipe (σ.set i o) vs = L2.wipe σ vs := by
    intro σ i o vs
    induction vs generalizing σ with
    | nil => intro h; cases h
    | cons w ws ih =>
      intro h
      show (L2.wipe (σ.set i o) ws).set w none = (L2.wipe σ ws).set w none
      by_cases hw : i ∈ ws
      · rw [ih σ hw]
      · have e : i = w := (List.mem_cons.mp h).resolve_right hw
        subst e
        have out : ∀ (ws : List Nat) (σ : L2.St), i ∉ ws → L2.wipe (σ.set i o) ws = (L2.wipe σ ws).set i o := by
          intro ws
          induction ws with
          | nil => intro σ _; rfl
          | cons u us ih2 =>
            intro σ hu
            simp only [List.mem_cons, not_or] at hu
            show (L2.wipe (σ.set i o) us).set u none = ((L2.wipe σ us).set u none).set i o
            rw [ih2 σ hu.2, List.set_comm _ _ hu.1]
        rw [out ws σ hw, List.set_set]
  cases t with
  | nm i =>
    cases h
    exact q _ (sl.set i rv) fun vs hm => wp _ _ _ _ hm
  | pr i j =>
    cases d <;> first | (simp [setT] at h; done) | skip
    rename_i xs
    match xs, h with
    | [x, y], h =>
      cases h
      cases rv with
      | tup h1 h2 =>
        cases h2 with
        | cons ra h2 =>
          cases h2 with
          | cons rb h2 =>
            cases h2
            exact ⟨_, _, rfl, SqT.up r.sub h1, rfl, _, _, rfl, _, _, rfl, rfl, q _ ((sl.set i ra).set j rb) fun vs hm => by rw [wp _ _ _ _ hm.2, wp _ _ _ _ hm.1]⟩
    | [], h => simp [setT] at h
    | [_], h => simp [setT] at h
    | _ :: _ :: _ :: _, h => simp [setT] at h
end
end Ev
namespace Ev
open PySem PySem.Spec PyProof.Rows L2
/-! ### enumerate over a tuple -/
def IteT (K : PySem.W.Frag) (a : Addr) : It :=
  ⟨fun i H => ∃ (xs : List V) (x : V), SqT K H a xs ∧ xs[i]? = some x, fun i H v H' => ∃ T x, v = .ref T ∧ H T = none ∧ H' = upd H T (.tup [.int (i : Nat), x]) ∧ ∀ xs, SqT K H a xs → xs[i]? = some x, fun i H => ∃ xs : List V, SqT K H a xs ∧ xs.length ≤ i⟩
theorem draws_end {prog : Program} {w : World} {A : Around} (hh : A.handled = none) (it t : Addr) (items : Array Value) (n : Nat) (hx : items[n]? = none) :
    Draws prog w A it [it, t] n (fun _ _ => False) (fun i h => i = n ∧ h.IsTupleIter it t n ∧ h.IsTuple t items) where
  live := fun _ _ st => let ⟨o, ho, _⟩ := st.2.1; ⟨o, ho⟩
  frame := fun _ _ _ st hk => ⟨st.1, st.2.1.at fun o e => hk it (by simp) o e, st.2.2.at fun o e => hk t (by simp) o e⟩
  item := fun i s Q E hi st _ => absurd st.1 (Nat.ne_of_lt hi)
  done := fun s Q E st hE => wpAny_nextOf_tuple_end hh st.2.1 st.2.2 hx hE
theorem tup_ne_iter {h : Heap} {a it t : Addr} {items : Array Value} {i : Nat} (p : h.IsTuple a items) (q : h.IsTupleIter it t i) : a ≠ it := fun e => by
  obtain ⟨o, e1, c1, n, d1⟩ := p
  obtain ⟨o2, e2, c2, d2⟩ := q
  rw [e, e2] at e1
  cases e1
  rw [d2] at d1
  cases d1
theorem tup_ne_enum {h : Heap} {a e it : Addr} {items : Array Value} {i : Int} {old : Value} (p : h.IsTuple a items) (q : IsEnum h e it i old) : a ≠ e := fun z => by
  obtain ⟨o, e1, c1, n, d1⟩ := p
  have q : h.get? e = some _ := q
  rw [z, q] at e1
  cases e1
  cases d1
theorem turn_enumT {P : Program} {w : World} {K : PySem.W.Frag} {elts : List Expr} {kk : Nat} {tpos : Pos} (a e it : Addr) :
    Turn P w K (.Tuple elts kk tpos) (IteT K a) [e, it] e (fun i h => (∃ old, IsEnum h e it ((i : Nat) : Int) old) ∧ h.IsTupleIter it a i ∧ e ≠ it) where
  mem := by simp
  obj := fun i h st b hb => by
    obtain ⟨⟨old, he⟩, ⟨o, ho, hc, hd⟩, _⟩ := st
    have e' : b = e ∨ b = it := by simpa using hb
    rcases e' with z | z
    · rw [z]; exact ⟨_, he, fun v q => nomatch q⟩
    · rw [z]; exact ⟨o, ho, fun v q => by rw [hd] at q; cases q⟩
  keep := fun i h h' st k => let ⟨⟨old, he⟩, hi, hne⟩ := st; ⟨⟨old, k e (by simp) _ he⟩, hi.at fun o q => k it (by simp) o q, hne⟩
  item := by
    intro X hP hw hK hc i pins s σ H E I hf st hg
    subst hP hw hK
    obtain ⟨⟨old, he⟩, hit, hne⟩ := st
    obtain ⟨xs, x, hq, hx⟩ := hg
    obtain ⟨its, rv, p, hz⟩ := I.tuple hq
    have p : s.heap.IsTuple a its.toArray := p
    obtain ⟨u, hu, ru⟩ := rv.get hx
    have hel : e < s.heap.objs.size := Heap.lt_size he
    have hil : it < s.heap.objs.size := by obtain ⟨_, q, _⟩ := hit; exact Heap.lt_size q
    have na := tup_ne_iter p hit
    have ne := tup_ne_enum p he
    have hlt : i < its.toArray.size := by
      have := (List.getElem?_eq_some_iff.mp hu).1
      simpa using this
    refine wpAny_pyNext_enum_itemC (Draws.tuple (A := X.A.in1) (show X.A.in1.handled = none from I.ok.hd hc) it a na its.toArray) he ⟨hit, p⟩ hlt hne (by simp [hne, Ne.symm ne]) fun x' h' tk Px ho hit' hT hsz hk => ?_
    have ex : x' = u := by
      have Px : its.toArray[i]? = some x' := Px
      rw [List.getElem?_toArray, hu] at Px
      exact (Option.some.inj Px).symm
    subst ex
    refine ⟨_, rfl, wpAny_letOwnedTupleGo_enum (s := { s with heap := h', toks := tk + 1 }) ho fun h'' he' sb => ?_⟩
    have hT2 : h''.get? s.heap.objs.size = some { cls := .type "tuple", data := .seq #[.int i tk, x'] } := (sb.2 _ (Nat.ne_of_gt hel)).trans hT
    have new : ObjOk X.prog X.w (upd H s.heap.objs.size (.tup [.int (i : Nat), x])) h'' s.heap.objs.size (.tup [.int (i : Nat), x]) :=
      ⟨by show 2 ≤ sizeLine; decide, [.int i tk, x'], .cons ⟨_, rfl⟩ (.cons ru .nil), ⟨_, hT2, rfl, _, rfl⟩⟩
    have I1 : Inv X pins σ (upd H s.heap.objs.size (.tup [.int (i : Nat), x])) { s with heap := h'', toks := tk + 1 } :=
      I.turnedNew (ch := [e, it]) (fun b ob hb q => (sb.2 b (fun z => hb (by simp [z]))).trans (hk b ob (fun z => hb (by simp [z])) (fun z => hb (by simp [z])) q)) hf (Nat.le_refl _) new
    refine ⟨.ref s.heap.objs.size, _, I1, rfl, ⟨_, x, rfl, I.hok.fresh (Nat.le_refl _), rfl, fun ys hy => by rw [I.tuple_inj hy hq]; exact hx⟩, ⟨⟨x', ?_⟩, hit'.1.at fun o q => (sb.2 it (Ne.symm hne)).trans q, hne⟩, fun b hb => ?_⟩
    · have e1 : ((i + 1 : Nat) : Int) = (i : Int) + 1 := by omega
      rw [e1]; exact he'
    · have hb' : b < s.heap.objs.size := by
        have e' : b = e ∨ b = it := by simpa using hb
        rcases e' with z | z
        · rw [z]; exact hel
        · rw [z]; exact hil
      rw [upd_ne (Nat.ne_of_lt hb')]
      exact (hf b hb).1
  done := by
    intro X hP hw hK hc i pins s σ H E I hf st hg
    subst hP hw hK
    obtain ⟨⟨old, he⟩, hit, hne⟩ := st
    obtain ⟨xs, hq, hx⟩ := hg
    obtain ⟨its, rv, p, hz⟩ := I.tuple hq
    have p : s.heap.IsTuple a its.toArray := p
    obtain ⟨f0, f1, f2, f3, f4, f5⟩ := hf it (by simp)
    have hl := rv.length
    exact wpAny_pyNext_enum_endD (draws_end (A := X.A.in1) (show X.A.in1.handled = none from I.ok.hd hc) it a its.toArray i (by simp; omega)) he ⟨rfl, hit, p⟩ fun h' eb => ⟨rfl, I.turned (t' := s.toks) (fun b o hb q => eb b o hb q) f0 f1 f3 f4 f5⟩
  self := fun A i s Q E st h => let ⟨⟨_, he⟩, _⟩ := st; wpAny_pyIter_enum he h

theorem meets_enumB1 {v : Value} {o : Obj} {H : Heap → Prop} (B : Begins v o H) :
    Meets (Builtin.«enumerate.__new__» ⟨[.type "enumerate", v], []⟩) (fun _ R s => H s.heap ∧
      R (.ok (.ret (.ref (s.heap.push o).objs.size))) { s with heap := (s.heap.push o).push { cls := .type "enumerate", data := .fields #[.none, .bool false, .ref s.heap.objs.size, rawInt 0, .none, .none] } }) :=
  .of_wp fun prog w A R s h => by
    obtain ⟨hp, g, d, tk, os⟩ := s; obtain ⟨h1, h⟩ := h
    have hsub := sub_enumerate
    have q1 : ∀ {A' : Around} {E : Value → Shared → Prop} {Q : Value → Shared → Prop}, Q (.ref hp.objs.size) ⟨hp.push o, g, d, tk, os⟩ → wpAny (model prog w) A' (pyIter v) Q E ⟨hp, g, d, tk, os⟩ :=
      fun q => B.iter prog w _ _ ⟨hp, g, d, tk, os⟩ _ h1 q
    wp_walk using q1
    refine wpAny_stack_any fun st => wpAny_pure ?_
    split
    · rename_i c _ _ _ _ _
      cases (c == Value.type "enumerate")
      · wp_walk using q1
        exact ⟨_, rfl, h⟩
      · wp_walk using q1
        exact ⟨_, rfl, h⟩
    · wp_walk using q1
      exact ⟨_, rfl, h⟩
theorem enum_begins1 {prog : Program} {w : World} {A : Around} {E : Value → Shared → Prop} {s : Shared} {v : Value} {o : Obj} {H : Heap → Prop} {Q : Value → Shared → Prop} (B : Begins v o H) (h1 : H s.heap)
    (h : ∀ h', IsEnum h' (s.heap.objs.size + 1) s.heap.objs.size 0 .none → h'.get? s.heap.objs.size = some o → h'.objs.size = s.heap.objs.size + 2 →
      (∀ b o, s.heap.get? b = some o → h'.get? b = some o) → Q (.ref (s.heap.objs.size + 1)) { s with heap := h' }) :
    wpAny (model prog w) A (call (.type "enumerate") [v]) Q E s := by
  refine callType_new F.called_enumerate (by decide) (F.typeCall_enumerate_1 _) (F.newCall_enumerate_1 _) (fun obj => F.args_object_init_2 obj _) F.entry_enumerate_new
    (meets_enumB1 B) ⟨h1, ?_⟩
  have hz : (s.heap.push o).objs.size = s.heap.objs.size + 1 := Heap.size_push ..
  show _ ∧ _
  rw [hz]
  have he : IsEnum ((s.heap.push o).push { cls := .type "enumerate", data := .fields #[.none, .bool false, .ref s.heap.objs.size, rawInt 0, .none, .none] }) (s.heap.objs.size + 1) s.heap.objs.size 0 .none := by
    have := Heap.get?_push_size (s.heap.push o) (o := { cls := .type "enumerate", data := .fields #[.none, .bool false, .ref s.heap.objs.size, rawInt 0, .none, .none] }) rfl
    rw [hz] at this; exact this
  refine ⟨⟨_, he, rfl⟩, h _ he (Heap.get?_push_of_some _ (Heap.get?_push_size _ B.free)) (by rw [Heap.size_push, hz]) fun b o x => Heap.get?_push_of_some _ (Heap.get?_push_of_some _ x)⟩
def iEnumB (K : PySem.W.Frag) (ta : TA) : TI := fun σ H R => ta σ H fun vs H1 => ∃ a, vs = [.ref a] ∧ ((∃ xs, SqL K H1 a xs ∧ R (Ite K a) H1) ∨ ∃ xs, SqT K H1 a xs ∧ R (IteT K a) H1)
theorem pi_enumB {X : Cx} {e : Expr} {ta : TA} {p pos tpos : Pos} {elts : List Expr} {kk : Nat} (hg : Gl X "enumerate") (hm : X.mg "enumerate" = none) (ha : PA X [e] ta) (hs : starEach [e] X.env = [(false, eval e X.env)] := by rfl) :
    PI X (.Tuple elts kk tpos) (.Call (.Name "enumerate" p) [e] [] pos) (iEnumB X.K ta) := by
  refine ⟨fun pins s σ H R I h => ?_⟩
  refine Call_ (ld_blt I hg hm boot_enumerate (PyProof.Rows.callWith_type1 (thn (ha.run pos pins s σ H _ I h) fun us s1 ⟨vs, H1, I1, r1, q1⟩ => ?_) hs rfl))
  obtain ⟨a, ex, q⟩ := q1
  subst ex
  cases r1 with
  | cons r rr =>
    cases rr
    cases r
    have low : ∀ b ∈ [s1.heap.objs.size + 1, s1.heap.objs.size], s1.heap.objs.size ≤ b := fun b hb => by
      have e' : b = s1.heap.objs.size + 1 ∨ b = s1.heap.objs.size := by simpa using hb
      rcases e' with z | z
      · rw [z]; exact Nat.le_add_right _ _
      · rw [z]; exact Nat.le_refl _
    rcases q with ⟨xs, hq, q⟩ | ⟨xs, hq, q⟩
    · obtain ⟨its, rv, p', hz⟩ := I1.list hq
      refine call_enumerate_list p'.isList fun h' he hit hsz hk => wpAny_pyIter_enum he ?_
      have I2 : Inv X pins σ H1 { s1 with heap := h' } := I1.kept (t' := s1.toks) hk
      exact ⟨s1.heap.objs.size + 1, [s1.heap.objs.size + 1, s1.heap.objs.size], _, _, H1, rfl, I2, turn_enum a (s1.heap.objs.size + 1) s1.heap.objs.size, ⟨⟨.none, he⟩, hit, Nat.succ_ne_self _⟩, fun b hb => I1.fpOk (low b hb) (I1.hok.fresh (low b hb)), q⟩
    · obtain ⟨its, rv, p', hz⟩ := I1.tuple hq
      have p' : s1.heap.IsTuple a its.toArray := p'
      refine enum_begins1 (begins_tuple a its.toArray) p' fun h' he hit hsz hk => wpAny_pyIter_enum he ?_
      have I2 : Inv X pins σ H1 { s1 with heap := h' } := I1.kept (t' := s1.toks) hk
      exact ⟨s1.heap.objs.size + 1, [s1.heap.objs.size + 1, s1.heap.objs.size], _, _, H1, rfl, I2, turn_enumT a (s1.heap.objs.size + 1) s1.heap.objs.size, ⟨⟨.none, he⟩, ⟨_, hit, rfl, rfl⟩, Nat.succ_ne_self _⟩, fun b hb => I1.fpOk (low b hb) (I1.hok.fresh (low b hb)), q⟩
section
variable {cA xA : Nat → Addr} {K : PySem.W.Frag} {F H : Hp} {ι : List Addr} {S : Store}
theorem walk_ET {a : Addr} {xs : List D} {vs : List V} (h1 : SqT K F a vs) (h2 : Reps K F ι vs xs) : WalkD cA K F ι (xs.mapIdx (fun i x => .tup [.int i, x]), []) (IteT K a) where
  goes := fun i H hi ⟨F', ι', S', e, r, st⟩ => by
    have hi : i < xs.length := by simpa using hi
    obtain ⟨v, hv1, _⟩ := h2.get (i := i) (d := xs[i]) (by simp [hi])
    exact ⟨vs, v, SqT.up (fun a o q => r.sub _ _ (e.fx a o q)) h1, hv1⟩
  stops := fun H ⟨F', ι', S', e, r, st⟩ => ⟨vs, SqT.up (fun a o q => r.sub _ _ (e.fx a o q)) h1, by have := h2.len; simp; omega⟩
  yields := fun i H x H' hi _ y F' ι' S' e r st => by
    obtain ⟨T, v, rfl, hT, rfl, hx⟩ := y
    obtain ⟨d, hd, rd⟩ := h2.getV (hx vs (SqT.up (fun a o q => r.sub _ _ (e.fx a o q)) h1))
    have e2 := Ext.fresh (F := F') (ι := ι') (r.freeF hT) (.tup [.int (i : Nat), v])
    exact ⟨_, .tup [.int i, d], e2, r.fresh hT _, by simp [List.getElem?_mapIdx, hd], .tup (SqT.of upd_same) (.cons (.int _) (.cons ((rd.ext e).ext e2) .nil))⟩
end
section
variable {cA xA : Nat → Addr} {X : Cx} {W : WX} {tg a b : Expr} {p pos tpos : Pos} {f g : Env → Store → R D} {elts : List Expr} {kk : Nat}
theorem c_ienm (hg : Gl X "enumerate") (hm : X.mg "enumerate" = none) (pl : plainE a = true) (ha : PE X a (TD cA xA X.K W f)) : PI X (.Tuple elts kk tpos) (.Call (.Name "enumerate" p) [a] [] pos) (TDi cA xA X.K W .enm (ev1s f)) := by
  refine ⟨fun pins s σ H R I ⟨F, ι, S, δ, r, sl, gd⟩ => (pi_enumB hg hm (pa_cons ha pa_nil (starE_plain pl _)) (starE_plain pl _)).run pins s σ H R I ⟨F, ι, S, δ, r, sl, (good_1s gd).mono fun F1 ι1 H1 d S1 e1 r1 ⟨p, hp, k⟩ v rv => ?_⟩⟩
  cases rv with
  | tup h1 h2 =>
    cases hp
    exact ⟨_, rfl, .inr ⟨_, SqT.up r1.sub h1, k _ (walk_ET h1 h2)⟩⟩
  | lst h1 h2 =>
    cases hp
    exact ⟨_, rfl, .inl ⟨_, SqL.of (r1.sub _ _ h1), k _ (walk_E (lstAt_F h1 h2))⟩⟩
  | @loc n q hl =>
    simp only [walkOf] at hp
    obtain ⟨⟨m, xs⟩, e1, rfl⟩ := Option.map_eq_some_iff.mp hp
    obtain ⟨e2, hc⟩ := lstAt_items e1
    cases e2
    obtain ⟨q', e3, e4, vs, e5, e6⟩ := r1.cell _ _ hc trivial
    rw [hl] at e3; cases e3
    exact ⟨_, rfl, .inl ⟨_, SqL.of e5, k _ (walk_E (lstAt_L hl))⟩⟩
  | _ => simp [walkOf] at hp
end
end Ev
namespace Ev
open PySem PySem.Spec PyProof.Rows L2

/-! ### places forgotten -/
section
variable {cA xA : Nat → Addr} {K : PySem.W.Frag} {F F' H H' : Hp} {ι ι' : List Addr} {S S' : Store}
mutual
theorem Rep.clo : ∀ (d : D) (v : V), Rep K F ι v d → clo ι.length d = true
  | .non, _, h => rfl
  | .bl _, _, h => rfl
  | .int _, _, h => rfl
  | .str _, _, h => rfl
  | .scr _, _, h => rfl
  | .tup ds, _, h => by cases h with | tup h h2 => exact Reps.clo ds _ h2
  | .lst ds, _, h => by cases h with | lst h h2 => exact Reps.clo ds _ h2
  | .dic _ ds, _, h => by cases h with | dic h h1 h2 => exact Reps.clo ds _ h2
  | .loc _, _, h => by cases h with | loc h => exact decide_eq_true (List.getElem?_eq_some_iff.mp h).1
  | .opq _, _, _ => rfl
theorem Reps.clo : ∀ (ds : List D) (vs : List V), Reps K F ι vs ds → clos ι.length ds = true
  | [], _, h => rfl
  | d :: ds, _, h => by
    cases h with
    | cons h h2 => exact Bool.and_eq_true_iff.mpr ⟨Rep.clo d _ h, Reps.clo ds _ h2⟩
end
mutual
theorem Rep.low {n : Nat} (e : ∀ k a, ι'[k]? = some a → k < n → ι[k]? = some a) : ∀ (d : D) (v : V), Ev.clo n d = true → Rep K F ι' v d → Rep K F ι v d
  | .non, _, c, h => by cases h; exact .non
  | .bl _, _, c, h => by cases h; exact .bl _
  | .int _, _, c, h => by cases h; exact .int _
  | .str _, _, c, h => by cases h with | str _ h => exact .str _ h
  | .scr _, _, c, h => by cases h with | scr h => exact .scr h
  | .tup ds, _, c, h => by cases h with | tup h h2 => exact .tup h (Reps.low e ds _ c h2)
  | .lst ds, _, c, h => by cases h with | lst h h2 => exact .lst h (Reps.low e ds _ c h2)
  | .dic _ ds, _, c, h => by cases h with | dic h h1 h2 => exact .dic h h1 (Reps.low e ds _ c h2)
  | .loc _, _, c, h => by cases h with | loc h => exact .loc (e _ _ h (of_decide_eq_true c))
  | .opq _, _, _, h => by cases h; exact .opq _
theorem Reps.low {n : Nat} (e : ∀ k a, ι'[k]? = some a → k < n → ι[k]? = some a) : ∀ (ds : List D) (vs : List V), Ev.clos n ds = true → Reps K F ι' vs ds → Reps K F ι vs ds
  | [], _, c, h => by cases h; exact .nil
  | d :: ds, _, c, h => by
    cases h with
    | cons h h2 =>
      have c := Bool.and_eq_true_iff.mp c
      exact .cons (Rep.low e d _ c.1 h) (Reps.low e ds _ c.2 h2)
end
theorem Ext.low (e : Ext F ι F' ι') : ∀ k a, ι'[k]? = some a → k < ι.length → ι[k]? = some a := fun k a h hk => by
  have h2 : ι[k]? = some ι[k] := by simp [hk]
  have := e.pl _ _ h2
  rw [h] at this
  cases this
  exact h2
theorem RepK.low {n : Nat} (e : ∀ k a, ι'[k]? = some a → k < n → ι[k]? = some a) {l : List (Key × V)} {r : List (Str × D)} (h : RepK K F ι' l r) (c : clos n (r.map (·.2)) = true) : RepK K F ι l r := by
  induction h with
  | nil => exact .nil
  | cons h _ ih =>
    have c := Bool.and_eq_true_iff.mp c
    exact .cons (Rep.low e _ _ c.1 h) (ih c.2)
theorem RepF.low {n : Nat} (e : ∀ k a, ι'[k]? = some a → k < n → ι[k]? = some a) {l : List (Str × V)} {r : List (Str × D)} (h : RepF K F ι' l r) (c : clos n (r.map (·.2)) = true) : RepF K F ι l r := by
  induction h with
  | nil => exact .nil
  | cons h _ ih =>
    have c := Bool.and_eq_true_iff.mp c
    exact .cons (Rep.low e _ _ c.1 h) (ih c.2)
theorem RepK.clo {l : List (Key × V)} {r : List (Str × D)} (h : RepK K F ι l r) : clos ι.length (r.map (·.2)) = true := by
  induction h with
  | nil => rfl
  | cons h _ ih => exact Bool.and_eq_true_iff.mpr ⟨Rep.clo _ _ h, ih⟩
theorem RepF.clo {l : List (Str × V)} {r : List (Str × D)} (h : RepF K F ι l r) : clos ι.length (r.map (·.2)) = true := by
  induction h with
  | nil => rfl
  | cons h _ ih => exact Bool.and_eq_true_iff.mpr ⟨Rep.clo _ _ h, ih⟩
def cloC (n : Nat) : Cell → Bool
  | .lst ds => clos n ds
  | .dic r | .ins _ r => clos n (r.map (·.2))
  | .dead => true
theorem CellAt.clo : ∀ {c : Cell} {o : Option HO}, CellAt cA K F ι c o → cloC ι.length c = true
  | .lst _, _, ⟨vs, _, h2⟩ => Reps.clo _ _ h2
  | .dic _, _, ⟨l, _, h2⟩ => h2.clo
  | .ins _ _, _, ⟨dx, l, _, h2⟩ => h2.clo
  | .dead, _, _ => rfl
theorem CellAt.low {n : Nat} (e : ∀ k a, ι'[k]? = Option.some a → k < n → ι[k]? = Option.some a) : ∀ {c : Cell} {o : Option HO}, CellAt cA K F ι' c o → cloC n c = true → CellAt cA K F ι c o
  | .lst _, _, ⟨vs, h1, h2⟩, c => ⟨vs, h1, Reps.low e _ _ c h2⟩
  | .dic _, _, ⟨l, h1, h2⟩, c => ⟨l, h1, h2.low e c⟩
  | .ins _ _, _, ⟨dx, l, h1, h2⟩, c => ⟨dx, l, h1, h2.low e c⟩
  | .dead, _, _, _ => True.intro
/-- the places behind S forgotten -/
theorem Rel.cut (r : Rel cA K F ι S H) (r' : Rel cA K F' ι' S' H') (e : Ext F ι F' ι') (t : S'.take S.length = S) : Rel cA K F' ι S H' where
  sub := r'.sub
  len := r.len
  cell := fun n c hc hl => by
    obtain ⟨a, h1, _, h3⟩ := r.cell n c hc hl
    have hn : n < S.length := (List.getElem?_eq_some_iff.mp hc).1
    have hc' : S'[n]? = some c := by
      rw [← t, List.getElem?_take_of_lt hn] at hc
      exact hc
    obtain ⟨a', g1, g2, g3⟩ := r'.cell n c hc' hl
    have := e.pl _ _ h1
    rw [this] at g1
    cases g1
    exact ⟨a, h1, g2, g3.low (n := ι.length) e.low h3.clo⟩
  inj := fun i j a c c' h1 h2 h3 h4 => by
    have up : ∀ (i : Nat) (c : Cell), S[i]? = some c → S'[i]? = some c := fun i c h => by
      have hn : i < S.length := (List.getElem?_eq_some_iff.mp h).1
      rw [← t, List.getElem?_take_of_lt hn] at h
      exact h
    exact r'.inj i j a c c' (e.pl _ _ h1) (e.pl _ _ h2) (up _ _ h3) (up _ _ h4)
/-- what is fixed alone grew -/
theorem Ext.fst (e : Ext F ι F' ι') : Ext F ι F' ι := ⟨e.fx, fun _ _ h => h⟩
theorem take_app {S : Store} {T : Store} : (S ++ T).take S.length = S := by simp
/-- a list that has grown is fixed now -/
theorem Rel.freezeL {p : Addr} {ds : List D} (r : Rel cA K F ι S H) (r' : Rel cA K F' ι' (S ++ [.lst ds]) H') (e : Ext F ι F' ι') (hp : ι'[S.length]? = some p) (hc : clos S.length ds = true) :
    ∃ F2, Ext F ι F2 ι ∧ Rel cA K F2 ι S H' ∧ Rep K F2 ι (.ref p) (.lst ds) ∧ (∀ a o, F' a = some o → F2 a = some o) := by
  have r1 : Rel cA K F' ι S H' := r.cut r' e take_app
  have hcell : (S ++ [Cell.lst ds])[S.length]? = some (.lst ds) := by simp
  obtain ⟨a, g1, g2, ws, g3, g4⟩ := r'.cell _ _ hcell trivial
  rw [hp] at g1
  cases g1
  have e2 := Ext.fresh (F := F') (ι := ι) g2 (.lst ws)
  refine ⟨upd F' p (.lst ws), e.fst.trans e2, ⟨fun a o h => ?_, r1.len, fun n c h l => ?_, r1.inj⟩, .lst upd_same ((Reps.low (n := S.length) (by rw [← r.len]; exact e.low) _ _ hc g4).ext e2), e2.fx⟩
  · by_cases ha : a = p
    · subst ha; rw [upd_same] at h; cases h; exact g3
    · rw [upd_ne ha] at h; exact r1.sub a o h
  · obtain ⟨a, h1, h2, h3⟩ := r1.cell n c h l
    have hn : n < S.length := (List.getElem?_eq_some_iff.mp h).1
    refine ⟨a, h1, ?_, h3.ext e2⟩
    rw [upd_ne]
    · exact h2
    · intro ha
      subst ha
      have h' : (S ++ [Cell.lst ds])[n]? = some c := by rw [List.getElem?_append_left hn]; exact h
      have := r'.inj n S.length a c _ (e.pl _ _ h1) hp h' hcell l trivial
      omega
end
theorem Good.bind0 {cA xA : Nat → Addr} {K : PySem.W.Frag} {Wx Wy : W0} {α β : Type} {F : Hp} {ι : List Addr} {r : R α} {f : α → Store → R β} {C : Hp → List Addr → Hp → β → Store → Prop} (h : Good cA xA K Wx F ι (r.bind0 f) C) : Good cA xA K Wy F ι r fun F1 ι1 _ a S1 => Good cA xA K Wx F1 ι1 (f a S1) C := by
  cases r with
  | ok a S => exact fun F2 ι2 H2 e2 r2 => Good.ext h e2
  | exn c S => exact h.elim
  | stuck => exact h
/-! ### comprehensions -/
def nW : WX := fun _ _ _ _ => False
/-- the tests of a comprehension -/
def TDq (cA xA : Nat → Addr) (K : PySem.W.Frag) (W : WX) (f : Env → Store → R Bool) : TT := fun σ H Q => ∃ F ι S δ, Rel cA K F ι S H ∧ Sl K F ι σ δ ∧
  Good cA xA K (fun c d H => W c d σ H) F ι (f δ S) fun F' ι' H' b _ => Q b H'
theorem wipe_idem (σ : L2.St) : ∀ vs : List Nat, L2.wipe (L2.wipe σ vs) vs = L2.wipe σ vs := by
  have out : ∀ (ws : List Nat) (σ : L2.St) (i : Nat), L2.wipe (σ.set i none) ws = (L2.wipe σ ws).set i none := by
    intro ws
    induction ws with
    | nil => intro σ _; rfl
    | cons u us ih2 =>
      intro σ i
      show (L2.wipe (σ.set i none) us).set u none = ((L2.wipe σ us).set u none).set i none
      rw [ih2 σ]
      by_cases h : i = u
      · subst h; rfl
      · rw [List.set_comm _ _ h]
  intro vs
  induction vs generalizing σ with
  | nil => rfl
  | cons v vs ih =>
    show (L2.wipe ((L2.wipe σ vs).set v none) vs).set v none = (L2.wipe σ vs).set v none
    rw [out, ih, List.set_set]
def tgIn : Tg → List Nat → Prop
  | .nm i, vs => i ∈ vs
  | .pr i j, vs => i ∈ vs ∧ j ∈ vs
instance (t : Tg) (vs : List Nat) : Decidable (tgIn t vs) := by cases t <;> unfold tgIn <;> exact inferInstance
noncomputable def turnC (vs : List Nat) (tg : Tg) (ti : Env → Store → R Bool) (fe : Env → Store → R D) (δ : Env) : D → Store → R (Option D) := fun x S => (match setT tg x (wipeE δ vs) with
        | some δ' => (ti δ' S).bind fun b S => if b then (fe δ' S).bind fun d S => .ok (some d) S else .ok none S
        | none => .stuck)
noncomputable def evCmp (m : Bool) (ik : IK) (tg : Tg) (vs : List Nat) (gi : Env → Store → R (List D)) (ti : Env → Store → R Bool) (fe : Env → Store → R D) : Env → Store → R D := fun δ S => (gi δ S).bind fun ds S => (match walkOf S ik ds with
    | some (xs, ch) => compM m ch (turnC vs tg ti fe δ) xs S
    | none => .stuck)
section
variable {cA xA : Nat → Addr} {K : PySem.W.Frag} {Wx : W0} {W : WX} {F H : Hp} {ι : List Addr} {S : Store}
theorem good_if {α : Type} {p : Prop} [Decidable p] {r : R α} {C : Hp → List Addr → Hp → α → Store → Prop} (h : Good cA xA K Wx F ι (if p then r else .stuck) C) : p ∧ Good cA xA K Wx F ι r C := by
  split at h
  · exact ⟨‹p›, h⟩
  · exact h.elim
/-- one turn -/
theorem turn_run {vs : List Nat} {tg : Tg} {ti : Env → Store → R Bool} {fe : Env → Store → R D} {δ : Env} {x : V} {d : D} {σ : L2.St} {P : Hp → List Addr → Option D → Store → Prop} (hv : tgIn tg vs) (r : Rel cA K F ι S H) (rx : Rep K F ι x d) (sl : Sl K F ι σ δ) {D : Addr} {Nx : Hp → Prop}
    (h : Good cA xA K (fun _ _ _ => False) F ι (turnC vs tg ti fe δ d S) fun F' ι' _ o S' => P F' ι' o S')
    (k0 : ∀ F' ι' H' S', Ext F ι F' ι' → Rel cA K F' ι' S' H' → P F' ι' none S' → Nx H')
    (k1 : ∀ F' ι' H' S' y v, Ext F ι F' ι' → Rel cA K F' ι' S' H' → P F' ι' (some y) S' → Rep K F' ι' v y → ∃ acc, H' D = some (HO.lst acc) ∧ acc.length < sizeLine ∧ Nx (upd H' D (HO.lst (acc ++ [v])))) :
    gTg K tg x (L2.wipe σ vs) H fun σ2 H2 => L2.wipe σ2 vs = L2.wipe σ vs ∧ TDq cA xA K nW ti σ2 H2 fun b H3 => if b = true then TD cA xA K nW fe σ2 H3 fun y H4 => ∃ acc, H4 D = some (HO.lst acc) ∧ acc.length < sizeLine ∧ Nx (upd H4 D (HO.lst (acc ++ [y]))) else Nx H3 := by
  unfold turnC at h
  cases hs : setT tg d (wipeE δ vs) with
  | none => rw [hs] at h; exact h.elim
  | some δ' =>
    rw [hs] at h
    refine tg_set r hs rx (sl.wipe vs) fun σ2 sl2 hw => ⟨by rw [hw vs (by cases tg <;> exact hv), wipe_idem], F, ι, S, δ', r, sl2, h.bind.mono fun F1 ι1 H1 b S1 e1 r1 g1 => ?_⟩
    cases b with
    | false => exact k0 _ _ _ _ e1 r1 (g1 _ _ _ (Ext.refl ..) r1)
    | true => exact ⟨F1, ι1, S1, δ', r1, sl2.ext e1, g1.bind.mono fun F2 ι2 H2 y S2 e2 r2 g2 v rv => k1 _ _ _ _ _ _ (e1.trans e2) r2 (g2 _ _ _ (Ext.refl ..) r2) rv⟩
theorem stays_app {S T : Store} {ch : List (Nat × List D)} (h : stays S ch = true) : stays (S ++ T) ch = true := by
  unfold stays
  classical
  refine decide_eq_true fun p hp => ?_
  have := stays_at h hp
  rw [List.getElem?_append_left (List.getElem?_eq_some_iff.mp this).1]
  exact this
theorem sizeL {n : Nat} (h : n < LIM) : n < sizeLine := by rw [← LIM_eq]; exact h
theorem lc_end {m : Bool} {ik : IK} {tg : Tg} {vs : List Nat} {gi : Env → Store → R (List D)} {ti : Env → Store → R Bool} {fe : Env → Store → R D} {σ : L2.St} {Q : VK} (hv : tgIn tg vs)
    (h : TD cA xA K W (evCmp m ik tg vs gi ti fe) σ H Q) : tLc (TDi cA xA K W ik gi) (gTg K tg) (TDq cA xA K nW ti) (TD cA xA K nW fe) vs σ H Q := by
  obtain ⟨F, ι, S, δ, r, sl, gd⟩ := h
  refine ⟨F, ι, S, δ, r, sl, gd.bind.mono fun F1 ι1 H1 ds S1 e1 r1 g1 => ?_⟩
  cases hw : walkOf S1 ik ds with
  | none => rw [hw] at g1; exact g1.elim
  | some p =>
    obtain ⟨xs, ch⟩ := p
    rw [hw] at g1
    dsimp only at g1
    unfold compM at g1
    obtain ⟨hl, g1⟩ := good_if g1
    refine ⟨_, rfl, fun J w D hD => ?_⟩
    have hlen : ι1.length = S1.length := r1.len
    cases m with
    | true =>
      refine lc_it w (fun i H => ∃ F' ι' S', Ext F1 (ι1 ++ [D]) F' ι' ∧ Rel cA K F' ι' S' H ∧ stays S' ch = true ∧
        Good cA xA K (fun c d H => W c d σ H) F' ι' (compT S1.length ch (turnC vs tg ti fe δ) (xs.drop i) S') fun F' ι' H' d _ => ∀ v, Rep K F' ι' v d → Q v H') ?_ ?_ ?_ ?_
      · have g2 : Good cA xA K (fun c d H => W c d σ H) F1 ι1 (compT S1.length ch (turnC vs tg ti fe δ) xs (S1 ++ [.lst []])) fun F' ι' H' d _ => ∀ v, Rep K F' ι' v d → Q v H' := g1
        rw [List.drop_zero]
        refine ⟨F1, ι1 ++ [D], S1 ++ [.lst []], Ext.refl .., r1.place hD (.lst []) ⟨[], rfl, .nil⟩, ?_, g2.ext (Ext.more F1 ι1 [D])⟩
        cases xs with
        | nil => exact (good_if g2).1
        | cons => exact (good_if g2).1
      · intro i H hi ⟨F', ι', S', e, r, st, g⟩
        exact ⟨F', ι', S', (Ext.more F1 ι1 [D]).trans e, r, st⟩
      · intro i x H H' hi ⟨F', ι', S', e, r, st, g⟩ y
        obtain ⟨F2, d, e2, r2, hx, rx⟩ := y F' ι' S' ((Ext.more F1 ι1 [D]).trans e) r st
        have hi : i < xs.length := hi
        rw [List.getElem?_eq_getElem hi] at hx
        cases hx
        rw [List.drop_eq_getElem_cons hi] at g
        unfold compT at g
        have g3 := (good_if g).2
        have hD2 : ∀ {F3 ι3}, Ext F2 ι' F3 ι3 → ι3[S1.length]? = some D := fun e3 => e3.pl _ _ (e2.pl _ _ (e.pl _ _ (by rw [← hlen]; simp)))
        refine turn_run (P := fun F3 ι3 o S3 => Good cA xA K (fun c d H => W c d σ H) F3 ι3 (match S3[S1.length]? with
          | some (.lst acc) => if acc.length < LIM then compT S1.length ch (turnC vs tg ti fe δ) (xs.drop (i + 1)) (S3.set S1.length (.lst (acc ++ o.toList))) else .stuck
          | _ => .stuck) fun F' ι' H' d _ => ∀ v, Rep K F' ι' v d → Q v H') hv r2 rx (sl.ext (e1.trans ((Ext.more F1 ι1 [D]).trans (e.trans e2)))) (((good_if g).2.ext e2).bind0) ?_ ?_
        · intro F3 ι3 H3 S3 e3 r3 g4
          split at g4
          · rename_i acc hc
            have g5 := (good_if g4).2
            have es : S3.set S1.length (.lst (acc ++ (none : Option Ev.D).toList)) = S3 := by
              have hc' := hc
              simp only [Option.toList_none, List.append_nil]
              obtain ⟨hn, hc2⟩ := List.getElem?_eq_some_iff.mp hc
              rw [← hc2]
              exact List.set_getElem_self hn
            rw [es] at g5
            refine ⟨F3, ι3, S3, e.trans (e2.trans e3), r3, ?_, g5⟩
            cases hx : xs.drop (i + 1) with
            | nil => rw [hx] at g5; exact (good_if g5).1
            | cons => rw [hx] at g5; exact (good_if g5).1
          · exact g4.elim
        · intro F3 ι3 H3 S3 y v e3 r3 g4 rv
          split at g4
          · rename_i acc hc
            obtain ⟨hlt, g5⟩ := good_if g4
            obtain ⟨a, c1, c2, ws, c3, c4⟩ := r3.cell _ _ hc trivial
            rw [hD2 e3] at c1
            cases c1
            have r4 := rel_setL r3 hc (hD2 e3) (c4.app (.cons rv .nil))
            refine ⟨ws, c3, sizeL (by rw [c4.len]; exact hlt), F3, ι3, _, e.trans (e2.trans e3), r4, ?_, g5⟩
            cases hx : xs.drop (i + 1) with
            | nil => rw [hx] at g5; exact (good_if g5).1
            | cons => rw [hx] at g5; exact (good_if g5).1
          · exact g4.elim
      · intro H ⟨F', ι', S', e, r, st, g⟩
        rw [List.drop_length] at g
        unfold compT at g
        exact (good_if g).2 F' ι' H (Ext.refl ..) r _ (.loc (e.pl _ _ (by rw [← hlen]; simp)))
    | false =>
      refine lc_it w (fun i H => ∃ F' ι' acc, Ext F1 ι1 F' ι' ∧ ι'[S1.length]? = some D ∧ Rel cA K F' ι' (S1 ++ [.lst acc]) H ∧ acc.length ≤ i ∧ clos S1.length acc = true ∧ stays S1 ch = true ∧
        Good cA xA K (fun c d H => W c d σ H) F1 ι1 (compF ch (turnC vs tg ti fe δ) S1 (xs.drop i) acc) fun F' ι' H' d _ => ∀ v, Rep K F' ι' v d → Q v H') ?_ ?_ ?_ ?_
      · have g2 : Good cA xA K (fun c d H => W c d σ H) F1 ι1 (compF ch (turnC vs tg ti fe δ) S1 xs []) fun F' ι' H' d _ => ∀ v, Rep K F' ι' v d → Q v H' := g1
        refine ⟨F1, ι1 ++ [D], [], Ext.more F1 ι1 [D], by rw [← hlen]; simp, r1.place hD (.lst []) ⟨[], rfl, .nil⟩, Nat.le_refl _, rfl, ?_, g2⟩
        cases xs with
        | nil => exact (good_if g2).1
        | cons => exact (good_if g2).1
      · intro i H hi ⟨F', ι', acc, e, _, r, _, _, st, g⟩
        exact ⟨F', ι', _, e, r, stays_app st⟩
      · intro i x H H' hi ⟨F', ι', acc, e, hD1, r, hacc, hcl, st, g⟩ y
        obtain ⟨F2, d, e2, r2, hx, rx⟩ := y F' ι' _ e r (stays_app st)
        have hi : i < xs.length := hi
        rw [List.getElem?_eq_getElem hi] at hx
        cases hx
        rw [List.drop_eq_getElem_cons hi] at g
        unfold compF at g
        have hD2 : ∀ {F3 ι3}, Ext F2 ι' F3 ι3 → ι3[S1.length]? = some D := fun e3 => e3.pl _ _ (e2.pl _ _ hD1)
        have app : ∀ (a b : List Ev.D), clos S1.length a = true → clos S1.length b = true → clos S1.length (a ++ b) = true := by
          intro a b
          induction a with
          | nil => intro _ h; exact h
          | cons u us ih => intro h h2; have h := Bool.and_eq_true_iff.mp h; exact Bool.and_eq_true_iff.mpr ⟨h.1, ih h.2 h2⟩
        have gg := Good.bind0 (Wy := fun _ _ _ => False) (good_if g).2
        refine turn_run (P := fun F3 ι3 o S3 => S3 = S1 ++ [.lst acc] ∧ clos S1.length o.toList = true ∧ Good cA xA K (fun c d H => W c d σ H) F1 ι1 (compF ch (turnC vs tg ti fe δ) S1 (xs.drop (i + 1)) (acc ++ o.toList)) fun F' ι' H' d _ => ∀ v, Rep K F' ι' v d → Q v H') hv r2 rx (sl.ext (e1.trans (e.trans e2))) ?_ ?_ ?_
        · cases ht : turnC vs tg ti fe δ xs[i] (S1 ++ [.lst acc]) with
          | stuck => rw [ht] at g; exact (good_if g).2.elim
          | exn c S => rw [ht] at g; exact (good_if g).2.elim
          | ok o S3 =>
            rw [ht] at g
            have g5 := (good_if g).2
            simp only [R.bind0] at g5
            classical
            split at g5
            rotate_left 1
            · exact g5.elim
            rename_i hand
            have g2 := And.intro hand g5
            exact fun F3 ι3 H3 e3 r3 => ⟨g2.1.1, g2.1.2, g2.2⟩
        · intro F3 ι3 H3 S3 e3 r3 ⟨es, hcl2, g4⟩
          subst es
          simp only [Option.toList_none, List.append_nil] at g4
          exact ⟨F3, ι3, acc, e.trans (e2.trans e3), hD2 e3, r3, Nat.le_succ_of_le hacc, hcl, st, g4⟩
        · intro F3 ι3 H3 S3 y v e3 r3 ⟨es, hcl2, g4⟩ rv
          subst es
          have hc : (S1 ++ [Cell.lst acc])[S1.length]? = some (.lst acc) := by simp
          obtain ⟨a, c1, c2, ws, c3, c4⟩ := r3.cell _ _ hc trivial
          rw [hD2 e3] at c1
          cases c1
          have r4 := rel_setL r3 hc (hD2 e3) (c4.app (.cons rv .nil))
          have es : (S1 ++ [Cell.lst acc]).set S1.length (.lst (acc ++ [y])) = S1 ++ [.lst (acc ++ [y])] := by simp
          rw [es] at r4
          refine ⟨ws, c3, sizeL (by rw [c4.len]; have := hl; omega), F3, ι3, acc ++ [y], e.trans (e2.trans e3), hD2 e3, r4, by simp; exact hacc, app _ _ hcl hcl2, st, g4⟩
      · intro H ⟨F', ι', acc, e, hD1, r, hacc, hcl, st, g⟩
        rw [List.drop_length] at g
        unfold compF at g
        obtain ⟨F2, e2, r2, rv, _⟩ := r1.freezeL r e hD1 hcl
        exact (good_if g).2 F2 ι1 H e2 r2 _ rv
end
end Ev
namespace Ev
open PySem PySem.Spec PyProof.Rows L2

def notComp : Expr → Bool
  | .ListComp .. => false | .SetComp .. => false | .DictComp .. => false
  | _ => true
theorem swaps_no {e : Expr} (h : notComp e = true) (t : Option Expr) (l : Nat) (env : PySem.Env) : swapsWith e t l env = pure false := by
  cases e <;> first | (cases h; done) | rfl
section
variable {cA xA : Nat → Addr} {X : Cx} {W : WX} {a b c o e : Expr} {pos apos p : Pos} {f g : Env → Store → R D} {x : Str}
/-! ### comprehensions -/
theorem takes_no {X : Cx} : L2N.Takes X nW := fun u s' ⟨a, B, sI, pins, σ, H, cls, d, e, I, nb, up, sky, na, os, ag, w⟩ => w.elim
theorem q_nil {cA xA : Nat → Addr} : PTs X [] (TDq cA xA X.K nW fun _ S => .ok true S) := ⟨fun pins s σ H Q I ⟨F, ι, S, δ, r, sl, gd⟩ => pts_nil.run pins s σ H Q I (gd F ι H (Ext.refl ..) r)⟩
def evIf1 (f : Env → Store → R D) : Env → Store → R Bool := fun δ S => (f δ S).bind fun d S => (match d with
    | .bl b => .ok b S
    | _ => .stuck)
theorem q_one {e : Expr} (h : PT X e (TDb cA xA X.K nW f)) : PTs X [e] (TDq cA xA X.K nW (evIf1 f)) := ⟨fun pins s σ H Q I ⟨F, ι, S, δ, r, sl, gd⟩ => (pts_one h).run pins s σ H Q I
  ⟨F, ι, S, δ, r, sl, gd.bind.mono fun F1 ι1 H1 d S1 e1 r1 g1 => by
    cases d <;> first | exact g1.elim | skip
    exact ⟨_, rfl, g1 _ _ _ (Ext.refl ..) r1⟩⟩⟩
variable {gi : Env → Store → R (List D)} {ti : Env → Store → R Bool} {fe : Env → Store → R D} {elt iter : Expr} {tgE : Expr} {ifs : List Expr} {scope : Scope} {own : List (Str × Nat)} {tg : Tg} {ik : IK} {m : Bool}
theorem c_comp (hc : X.calm = true) (nd : X.N.Nodup) (hi : PI X tgE iter (TDi cA xA X.K W ik gi)) (pl : plainE iter = true) (ok : BlkOk X.N X.env.scope scope own) (hv : tgIn tg (own.map (·.2)))
    (hg : ∀ (s : Shared) (H : Hp) (C : Addr) (cl : List (Str × Addr)) (fp : List Addr), PG (X.blk s H scope (compEnvC scope cl C X.env) fp) tgE (gTg X.K tg))
    (ht : ∀ (s : Shared) (H : Hp) (C : Addr) (cl : List (Str × Addr)) (fp : List Addr), PTs (X.blk s H scope (compEnvC scope cl C X.env) fp) ifs (TDq cA xA X.K nW ti))
    (he : ∀ (s : Shared) (H : Hp) (C : Addr) (cl : List (Str × Addr)) (fp : List Addr), PE (X.blk s H scope (compEnvC scope cl C X.env) fp) elt (TD cA xA X.K nW fe)) :
    PE X (.ListComp elt [⟨tgE, iter, ifs, 0⟩] scope pos) (TD cA xA X.K W (evCmp m ik tg (own.map (·.2)) gi ti fe)) :=
  PE.weak (pe_lc hc nd hi ok hg ht he (fold_plain pl _)) fun σ H Q h => lc_end hv h
theorem c_setComp {i : Nat} {y : Str} {py spos : Pos} (hc : X.calm = true) (nd : X.N.Nodup) (hy : X.N[i]? = some y) (hyl : X.env.scope.names.lookup y = some .local) (hsw : swapsWith (.ListComp elt [⟨tgE, iter, ifs, 0⟩] scope pos) (some (.Name y py)) spos.line X.env = pure true)
    (hi : PI X tgE iter (TDi cA xA X.K W ik gi)) (pl : plainE iter = true) (ok : BlkOk X.N X.env.scope scope own) (hv : tgIn tg (own.map (·.2)))
    (hg : ∀ (s : Shared) (H : Hp) (C : Addr) (cl : List (Str × Addr)) (fp : List Addr), PG (X.blk s H scope (compEnvC scope cl C X.env) fp) tgE (gTg X.K tg))
    (ht : ∀ (s : Shared) (H : Hp) (C : Addr) (cl : List (Str × Addr)) (fp : List Addr), PTs (X.blk s H scope (compEnvC scope cl C X.env) fp) ifs (TDq cA xA X.K nW ti))
    (he : ∀ (s : Shared) (H : Hp) (C : Addr) (cl : List (Str × Addr)) (fp : List Addr), PE (X.blk s H scope (compEnvC scope cl C X.env) fp) elt (TD cA xA X.K nW fe)) :
    PS X (.Assign [.Name y py] (.ListComp elt [⟨tgE, iter, ifs, 0⟩] scope pos) spos) (tAsg (TD cA xA X.K W (evCmp m ik tg (own.map (·.2)) gi ti fe)) (gName i)) :=
  PS.weak (ps_setLc hc nd hy hyl hsw hi ok hg ht he (fold_plain pl _)) fun D σ H h => lc_end hv h
/-! ### statements -/
theorem gs_bind {K : PySem.W.Frag} {F : Hp} {ι : List Addr} {σ : L2.St} {δ : Env} {r : R D} {k : D → Store → RS} {D : Ends} (sl : Sl K F ι σ δ) (h : GoodS cA xA K W F ι (thenS δ r k) D) :
    Good cA xA K (fun c d H => W c d σ H) F ι r fun F1 ι1 _ d S1 => GoodS cA xA K W F1 ι1 (k d S1) D := by
  cases r with
  | ok a S => exact fun F2 ι2 H2 e2 r2 => GoodS.ext h e2
  | exn c S => exact fun F2 ι2 H2 e2 r2 => h F2 ι2 H2 σ e2 r2 (sl.ext e2)
  | stuck => exact h
def sSet (i : Nat) (f : Env → Store → R D) : Env → Store → RS := fun δ S => thenS δ (f δ S) fun d S => .nx (δ.set i (some d)) S
theorem asg_end {K : PySem.W.Frag} {i : Nat} {D : Ends} {σ : L2.St} {H : Hp} (h : TSd cA xA K W (sSet i f) D σ H) : tAsg (TD cA xA K W f) (gName i) D σ H := by
  obtain ⟨F, ι, S, δ, r, sl, gd⟩ := h
  exact ⟨F, ι, S, δ, r, sl, (gs_bind sl gd).mono fun F1 ι1 H1 d S1 e1 r1 g1 v rv => g1 _ _ _ _ (Ext.refl ..) r1 ((sl.ext e1).set i rv)⟩
theorem s_set {i : Nat} {py : Pos} (nd : X.N.Nodup) (hi : X.N[i]? = some x) (hx : Loc X.env.scope x) (hf : X.fn x = true ∨ X.env.scope.names.lookup x = some .local) (nc : notComp e = true) (he : PE X e (TD cA xA X.K W f)) :
    PS X (.Assign [.Name x py] e pos) (TSd cA xA X.K W (sSet i f)) :=
  PS.weak (ps_asg he (pg_name nd hi hx hf) (by cases e <;> first | (cases nc; done) | rfl) (by rfl) (by rfl)) fun D σ H h => asg_end h
theorem s_ret (he : PE X e (TD cA xA X.K W f)) : PS X (.Return (some e) pos) (TSd cA xA X.K W fun δ S => thenS δ (f δ S) fun d S => .rt d S) :=
  PS.weak (ps_ret he) fun D σ H ⟨F, ι, S, δ, r, sl, gd⟩ => ⟨F, ι, S, δ, r, sl, (gs_bind sl gd).mono fun F1 ι1 H1 d S1 e1 r1 g1 v rv => g1 _ _ _ _ (Ext.refl ..) r1 rv⟩
theorem s_ex (nc : notComp e = true) (he : PE X e (TD cA xA X.K W f)) : PS X (.Expr e pos) (TSd cA xA X.K W fun δ S => thenS δ (f δ S) fun _ S => .nx δ S) :=
  PS.weak (ps_expr he (swaps_no nc ..)) fun D σ H ⟨F, ι, S, δ, r, sl, gd⟩ => ⟨F, ι, S, δ, r, sl, (gs_bind sl gd).mono fun F1 ι1 H1 d S1 e1 r1 g1 v rv => g1 _ _ _ _ (Ext.refl ..) r1 (sl.ext e1)⟩
theorem s_nev {st : Stmt} : PS X st (TSd cA xA X.K W fun _ _ => .stuck) := PS.weak ps_never fun D σ H ⟨F, ι, S, δ, r, sl, gd⟩ => gd
theorem s_pass : PS X (.Pass pos) (TSd cA xA X.K W fun δ S => .nx δ S) := PS.weak ps_pass fun D σ H ⟨F, ι, S, δ, r, sl, gd⟩ => gd _ _ _ _ (Ext.refl ..) r sl
abbrev BF := Env → Store → RS
def sIte (f : Env → Store → R D) (u v : BF) : BF := fun δ S => thenS δ (f δ S) fun d S => (match d with
    | .bl true => u δ S
    | .bl false => v δ S
    | _ => .stuck)
variable {u v : BF} {xs ys : List Stmt}
theorem s_if (hc : PT X c (TDb cA xA X.K W f)) (ha : PSs X xs (TSd cA xA X.K W u)) (hb : PSs X ys (TSd cA xA X.K W v)) : PS X (.If c xs ys pos) (TSd cA xA X.K W (sIte f u v)) :=
  PS.weak (ps_if hc ha hb) fun D σ H ⟨F, ι, S, δ, r, sl, gd⟩ => ⟨F, ι, S, δ, r, sl, (gs_bind sl gd).mono fun F1 ι1 H1 d S1 e1 r1 g1 => by
    cases d <;> first | exact g1.elim | skip
    rename_i b
    refine ⟨b, rfl, ?_⟩
    cases b with
    | true => exact ⟨F1, ι1, S1, δ, r1, sl.ext e1, g1⟩
    | false => exact ⟨F1, ι1, S1, δ, r1, sl.ext e1, g1⟩⟩
def sSeq (u v : BF) : BF := fun δ S => (match u δ S with
    | .nx δ S => v δ S
    | x => x)
theorem ss_nil : PSs X [] (TSd cA xA X.K W fun δ S => .nx δ S) := PSs.weak pss_nil fun D σ H ⟨F, ι, S, δ, r, sl, gd⟩ => gd _ _ _ _ (Ext.refl ..) r sl
theorem ss_cons {st : Stmt} (h1 : PS X st (TSd cA xA X.K W u)) (h2 : PSs X xs (TSd cA xA X.K W v)) : PSs X (st :: xs) (TSd cA xA X.K W (sSeq u v)) :=
  PSs.weak (pss_cons h1 h2) fun D σ H ⟨F, ι, S, δ, r, sl, gd⟩ => ⟨F, ι, S, δ, r, sl, by
    unfold sSeq at gd
    cases hu : u δ S with
    | nx δ1 S1 =>
      rw [hu] at gd
      exact fun F2 ι2 H2 σ2 e2 r2 s2 => ⟨F2, ι2, S1, δ1, r2, s2, GoodS.ext gd e2⟩
    | rt d S1 => rw [hu] at gd; exact gd
    | exn c δ1 S1 => rw [hu] at gd; exact gd
    | stuck => rw [hu] at gd; exact gd⟩
noncomputable def sFor (tg : Tg) (ik : IK) (gi : Env → Store → R (List D)) (u : BF) : BF := fun δ S => (match gi δ S with
    | .ok ds S => (match walkOf S ik ds with
      | some (xs, ch) => forL ch tg u xs δ S
      | none => .stuck)
    | .exn c S => .exn c δ S
    | .stuck => .stuck)
theorem gs_if {K : PySem.W.Frag} {F : Hp} {ι : List Addr} {p : Prop} [Decidable p] {r : RS} {D : Ends} (h : GoodS cA xA K W F ι (if p then r else .stuck) D) : p ∧ GoodS cA xA K W F ι r D := by
  split at h
  · exact ⟨‹p›, h⟩
  · exact h.elim
theorem s_for (hp : PassesOwn (model X.prog X.w) X.A X.env X.xe) (hc : X.calm = true) (hi : PI X tgE iter (TDi cA xA X.K W ik gi)) (pl : plainE iter = true) (hg : PG X tgE (gTg X.K tg)) (hb : PSs X xs (TSd cA xA X.K W u)) :
    PS X (.For tgE iter xs [] pos) (TSd cA xA X.K W (sFor tg ik gi u)) :=
  PS.weak (ps_for hp hc hi hg hb (fold_plain pl _)) fun D σ H ⟨F, ι, S, δ, r, sl, gd⟩ => by
    refine ⟨F, ι, S, δ, r, sl, ?_⟩
    unfold sFor at gd
    cases hgi : gi δ S with
    | stuck => rw [hgi] at gd; exact gd.elim
    | exn c S1 => rw [hgi] at gd; exact fun F2 ι2 H2 e2 r2 => gd F2 ι2 H2 σ e2 r2 (sl.ext e2)
    | ok ds S1 =>
      rw [hgi] at gd
      intro F1 ι1 H1 e1 r1
      dsimp only at gd
      cases hw : walkOf S1 ik ds with
      | none => rw [hw] at gd; exact gd.elim
      | some p =>
        obtain ⟨zs, ch⟩ := p
        rw [hw] at gd
        dsimp only at gd
        refine ⟨_, rfl, fun J w => ?_⟩
        have st0 : ∀ {zs δ S F ι}, GoodS cA xA X.K W F ι (forL ch tg u zs δ S) D → stays S ch = true := by
          intro zs δ S F ι g
          cases zs with
          | nil => unfold forL at g; exact (gs_if g).1
          | cons => unfold forL at g; exact (gs_if g).1
        refine for_it w (fun i σ H => ∃ F' ι' S δ, Ext F1 ι1 F' ι' ∧ Rel cA X.K F' ι' S H ∧ Sl X.K F' ι' σ δ ∧ GoodS cA xA X.K W F' ι' (forL ch tg u (zs.drop i) δ S) D) ?_ ?_ ?_ ?_
        · rw [List.drop_zero]
          exact ⟨F1, ι1, S1, δ, Ext.refl .., r1, sl.ext e1, GoodS.ext gd e1⟩
        · intro i σ H hi ⟨F', ι', S, δ, e, r, s, g⟩
          exact ⟨F', ι', S, e, r, st0 g⟩
        · intro i x σ H H' hi ⟨F', ι', S, δ, e, r, s, g⟩ y
          obtain ⟨F2, d, e2, r2, hx, rx⟩ := y F' ι' S e r (st0 g)
          have hi : i < zs.length := hi
          rw [List.getElem?_eq_getElem hi] at hx
          cases hx
          rw [List.drop_eq_getElem_cons hi] at g
          unfold forL at g
          have g2 := (gs_if g).2
          cases hs : setT tg zs[i] δ with
          | none => rw [hs] at g2; exact g2.elim
          | some δ' =>
            rw [hs] at g2
            dsimp only at g2
            refine tg_set r2 hs rx (s.ext e2) fun σ2 sl2 _ => ⟨F2, ι', S, δ', r2, sl2, ?_⟩
            cases hu : u δ' S with
            | nx δ2 S2 =>
              rw [hu] at g2
              exact fun F3 ι3 H3 σ3 e3 r3 s3 => ⟨F3, ι3, S2, δ2, e.trans (e2.trans e3), r3, s3, GoodS.ext g2 (e2.trans e3)⟩
            | rt d S2 => rw [hu] at g2; exact GoodS.ext (r := .rt d S2) g2 e2
            | exn c δ2 S2 => rw [hu] at g2; exact GoodS.ext (r := .exn c δ2 S2) g2 e2
            | stuck => rw [hu] at g2; exact g2
        · intro σ H ⟨F', ι', S, δ, e, r, s, g⟩
          rw [List.drop_length] at g
          unfold forL at g
          exact (gs_if g).2 F' ι' H σ (Ext.refl ..) r s
theorem s_whl (n : Nat) (hp : PassesOwn (model X.prog X.w) X.A X.env X.xe) (hc : PT X c (TDb cA xA X.K W f)) (hb : PSs X xs (TSd cA xA X.K W u)) : PS X (.While c xs [] pos) (TSd cA xA X.K W fun δ S => whlL f u n δ S) :=
  PS.weak (ps_while hp hc hb) fun D σ H ⟨F, ι, S, δ, r, sl, gd⟩ => by
    refine ⟨fun m σ H => ∃ F ι S δ, Rel cA X.K F ι S H ∧ Sl X.K F ι σ δ ∧ GoodS cA xA X.K W F ι (whlL f u m δ S) D, ⟨n, F, ι, S, δ, r, sl, gd⟩, ?_⟩
    intro m σ H ⟨F, ι, S, δ, r, sl, gd⟩
    refine ⟨F, ι, S, δ, r, sl, ?_⟩
    cases m with
    | zero => exact gd.elim
    | succ m =>
      unfold whlL at gd
      cases hf : f δ S with
      | stuck => rw [hf] at gd; exact gd.elim
      | exn c S1 => rw [hf] at gd; exact fun F2 ι2 H2 e2 r2 => gd F2 ι2 H2 σ e2 r2 (sl.ext e2)
      | ok d S1 =>
        rw [hf] at gd
        intro F1 ι1 H1 e1 r1
        cases d <;> first | exact gd.elim | skip
        rename_i b
        refine ⟨b, rfl, ?_⟩
        cases b with
        | false => exact gd F1 ι1 H1 σ e1 r1 (sl.ext e1)
        | true =>
          refine ⟨fun σ H => ∃ F ι S δ, Rel cA X.K F ι S H ∧ Sl X.K F ι σ δ ∧ GoodS cA xA X.K W F ι (whlL f u m δ S) D, fun σ' H' h => ⟨m, Nat.lt_succ_self m, h⟩, F1, ι1, S1, δ, r1, sl.ext e1, ?_⟩
          dsimp only at gd
          cases hu : u δ S1 with
          | nx δ2 S2 =>
            rw [hu] at gd
            exact fun F3 ι3 H3 σ3 e3 r3 s3 => ⟨F3, ι3, S2, δ2, r3, s3, GoodS.ext gd (e1.trans e3)⟩
          | rt d S2 => rw [hu] at gd; exact GoodS.ext (r := .rt d S2) gd e1
          | exn c δ2 S2 => rw [hu] at gd; exact GoodS.ext (r := .exn c δ2 S2) gd e1
          | stuck => rw [hu] at gd; exact gd
end
/-! ### what was new is told by value -/
def seqO : List (Option D) → Option (List D)
  | [] => some []
  | x :: xs => match x, seqO xs with
    | some d, some ds => some (d :: ds)
    | _, _ => none
/-- what was new is told by value -/
def fz (n0 : Nat) (S' : Store) : Nat → D → Option D
  | 0, d => if clo n0 d then some d else none
  | k + 1, d => if clo n0 d then some d else match d with
    | .lst xs => (seqO (xs.map (fz n0 S' k))).map .lst
    | .tup xs => (seqO (xs.map (fz n0 S' k))).map .tup
    | .dic ks xs => (seqO (xs.map (fz n0 S' k))).map (.dic ks)
    | .loc n => (match S'[n]? with
      | some (.lst xs) => (seqO (xs.map (fz n0 S' k))).map .lst
      | some (.dic kvs) => (seqO (kvs.map fun p => fz n0 S' k p.2)).map (.dic (kvs.map (·.1)))
      | _ => none)
    | _ => none
section
variable {cA xA : Nat → Addr} {K : PySem.W.Frag} {F F' H H' : Hp} {ι ι' : List Addr} {S S' : Store}
theorem Rel.freezeAll (r : Rel cA K F ι S H) (r' : Rel cA K F' ι' S' H') (e : Ext F ι F' ι') (t : S'.take S.length = S) : ∃ F2, Ext F ι F2 ι ∧ Rel cA K F2 ι S H' ∧ (∀ a o, F' a = some o → F2 a = some o) ∧
    ∀ n a c, S.length ≤ n → S'[n]? = some c → live c → ι'[n]? = some a → F2 a = H' a := by
  classical
  have r1 : Rel cA K F' ι S H' := r.cut r' e t
  let Z : Addr → Prop := fun a => ∃ n c, S.length ≤ n ∧ S'[n]? = some c ∧ live c ∧ ι'[n]? = some a
  let F2 : Hp := fun a => if Z a then H' a else F' a
  have up : ∀ a o, F' a = some o → F2 a = some o := fun a o h => by
    show (if Z a then H' a else F' a) = some o
    split
    · exact r'.sub _ _ h
    · exact h
  have e2 : Ext F' ι F2 ι := ⟨up, fun _ _ h => h⟩
  refine ⟨F2, e.fst.trans e2, ⟨fun a o h => ?_, r1.len, fun n c hc l => ?_, r1.inj⟩, up, fun n a c h1 h2 h3 h4 => if_pos ⟨n, c, h1, h2, h3, h4⟩⟩
  · have h : (if Z a then H' a else F' a) = some o := h
    split at h
    · exact h
    · exact r'.sub _ _ h
  · obtain ⟨a, h1, h2, h3⟩ := r1.cell n c hc l
    refine ⟨a, h1, ?_, h3.ext e2⟩
    have hn : n < S.length := (List.getElem?_eq_some_iff.mp hc).1
    have hc' : S'[n]? = some c := by
      rw [← t, List.getElem?_take_of_lt hn] at hc
      exact hc
    have nz : ¬ Z a := fun ⟨m, c', q1, q2, q3, q4⟩ => by
      have := r'.inj n m a c c' (e.pl _ _ h1) q4 hc' q2 l q3
      omega
    show (if Z a then H' a else F' a) = none
    rw [if_neg nz]
    exact h2
theorem seqO_ok {F2 : Hp} {f : D → Option D} (hf : ∀ d d' v, f d = some d' → Rep K F' ι' v d → Rep K F2 ι v d') : ∀ {xs ys : List D} {vs : List V}, seqO (xs.map f) = some ys → Reps K F' ι' vs xs → Reps K F2 ι vs ys
  | [], _, _, h, q => by
    cases q
    cases h
    exact .nil
  | x :: xs, ys, _, h, q => by
    cases q with
    | cons q1 q2 =>
      unfold List.map seqO at h
      split at h
      · rename_i d ds e1 e2
        cases h
        exact .cons (hf _ _ _ e1 q1) (seqO_ok hf e2 q2)
      · cases h
theorem fz_ok {F2 : Hp} (r' : Rel cA K F' ι' S' H') (low : ∀ k a, ι'[k]? = some a → k < S.length → ι[k]? = some a) (up : ∀ a o, F' a = some o → F2 a = some o)
    (hN : ∀ n a c, S.length ≤ n → S'[n]? = some c → live c → ι'[n]? = some a → F2 a = H' a) : ∀ (k : Nat) (d d' : D) (v : V), fz S.length S' k d = some d' → Rep K F' ι' v d → Rep K F2 ι v d' := by
  have base : ∀ (d : D) (v : V), clo S.length d = true → Rep K F' ι' v d → Rep K F2 ι v d := fun d v c h => (Rep.low low d v c h).ext ⟨up, fun _ _ h => h⟩
  intro k
  induction k with
  | zero =>
    intro d d' v h q
    unfold fz at h
    split at h
    · cases h; exact base _ _ ‹_› q
    · cases h
  | succ k ih =>
    intro d d' v h q
    unfold fz at h
    split at h
    · cases h; exact base _ _ ‹_› q
    · rename_i nc
      cases q with
      | lst q1 q2 =>
        dsimp only at h
        obtain ⟨ys, e1, rfl⟩ := Option.map_eq_some_iff.mp h
        exact .lst (up _ _ q1) (seqO_ok ih e1 q2)
      | tup q1 q2 =>
        dsimp only at h
        obtain ⟨ys, e1, rfl⟩ := Option.map_eq_some_iff.mp h
        exact .tup (SqT.up up q1) (seqO_ok ih e1 q2)
      | dic q1 q2 q3 =>
        dsimp only at h
        obtain ⟨ys, e1, rfl⟩ := Option.map_eq_some_iff.mp h
        exact .dic (up _ _ q1) q2 (seqO_ok ih e1 q3)
      | @loc n a q1 =>
        have hn : S.length ≤ n := by
          have : ¬ (decide (n < S.length) = true) := nc
          simpa using this
        dsimp only at h
        split at h
        · rename_i xs hc
          obtain ⟨ys, e1, rfl⟩ := Option.map_eq_some_iff.mp h
          obtain ⟨a', c1, c2, vs, c3, c4⟩ := r'.cell n _ hc trivial
          rw [q1] at c1; cases c1
          exact .lst ((hN n a _ hn hc trivial q1).trans c3) (seqO_ok ih e1 c4)
        · rename_i kvs hc
          obtain ⟨ys, e1, rfl⟩ := Option.map_eq_some_iff.mp h
          obtain ⟨a', c1, c2, l, c3, c4⟩ := r'.cell n _ hc trivial
          rw [q1] at c1; cases c1
          have e1' : seqO ((kvs.map (·.2)).map (fz S.length S' k)) = some ys := by rw [List.map_map]; exact e1
          refine .dic ((hN n a _ hn hc trivial q1).trans c3) ?_ (seqO_ok ih e1' ?_)
          · clear c3 e1 e1' h hc
            induction c4 with
            | nil => rfl
            | cons h _ ih2 => simp only [List.map_cons, ih2]
          · clear c3 e1 e1' h hc
            induction c4 with
            | nil => exact .nil
            | cons h _ ih2 => exact .cons h ih2
        · cases h
      | _ => cases h
end

/-! ### dicts, written -/
noncomputable def evDic (m : Bool) (ks : List Str) (gs : Env → Store → R (List D)) : Env → Store → R D := fun δ S => dispM m ks (gs δ (S ++ [.dic []])) S
section
variable {cA xA : Nat → Addr} {X : Cx} {W : WX}
def PairsOk (cA xA : Nat → Addr) (K : PySem.W.Frag) (W : WX) (trs : List (TE × TE)) (ks : List Str) (gs : Env → Store → R (List D)) : Prop :=
  ∀ σ H Q, TDs cA xA K W gs σ H (fun vs H' => vs.length = ks.length → Q ((ks.map V.str).zip vs) H') → tPairs trs σ H Q
theorem seqO_self {n : Nat} {S : Store} : ∀ {ds : List D}, clos n ds = true → seqO (ds.map (fz n S 0)) = some ds
  | [], _ => rfl
  | d :: ds, h => by
    have h := Bool.and_eq_true_iff.mp h
    have ih := seqO_self (S := S) h.2
    have e : fz n S 0 d = some d := by unfold fz; rw [if_pos h.1]
    unfold List.map seqO
    rw [e, ih]
theorem zip_snd {α β : Type} : ∀ {xs : List α} {ys : List β}, xs.length = ys.length → (xs.zip ys).map (·.2) = ys ∧ (xs.zip ys).map (·.1) = xs
  | [], [], _ => ⟨rfl, rfl⟩
  | x :: xs, y :: ys, h => by
    obtain ⟨h1, h2⟩ := zip_snd (xs := xs) (ys := ys) (by simpa using h)
    simp [h1, h2]
theorem merge_new : ∀ {kvs acc : List (Key × V)}, (acc.map (·.1) ++ kvs.map (·.1)).Nodup → mergeK acc kvs = acc ++ kvs
  | [], acc, _ => by simp [mergeK]
  | (k, v) :: r, acc, h => by
    have hv : valV acc k = none := by
      have hn : k ∉ acc.map (·.1) := by
        intro hm
        have := List.nodup_append.mp h
        exact (this.2.2 k hm k (by simp)) rfl
      unfold valV
      rw [List.find?_eq_none.mpr]
      · rfl
      · intro q hq
        have : q.1 ≠ k := fun e => hn (List.mem_map.mpr ⟨q, hq, e⟩)
        simpa using this
    show mergeK (putK acc k v) r = _
    rw [putK_new v hv, merge_new]
    · simp
    · simpa using h
theorem zip_kV : ∀ (ks : List Str) (vs : List V), (ks.map V.str).zip vs = ((ks.map (Sum.inr : Str → Key)).zip vs).map fun kv => (kV kv.1, kv.2)
  | [], _ => rfl
  | _ :: _, [] => rfl
  | k :: ks, v :: vs => by simp [kV, zip_kV ks vs]
theorem repK_zip {K : PySem.W.Frag} {F : Hp} {ι : List Addr} : ∀ {ks : List Str} {vs : List V} {ds : List D}, Reps K F ι vs ds → RepK K F ι ((ks.map (Sum.inr : Str → Key)).zip vs) (ks.zip ds)
  | [], _, _, _ => by simp; exact .nil
  | k :: ks, _, _, h => by
    cases h with
    | nil => exact .nil
    | cons h1 h2 => exact .cons h1 (repK_zip h2)
theorem c_dic {m : Bool} {ks : List Str} {gs : Env → Store → R (List D)} {keys : List (Option Expr)} {values : List Expr} {trs : List (TE × TE)} {pos : Pos} (h : PPs X pos keys values trs) (hall : keys.all (·.isSome) = true) (hl : keys.length = values.length) (h0 : keys ≠ [])
    (h15 : keys.length ≤ 15) (pk : PairsOk cA xA X.K W trs ks gs) : PE X (.Dict keys values pos) (TD cA xA X.K W (evDic m ks gs)) :=
  PE.weak (pe_disp h hall hl h0 h15) fun σ H Q ⟨F, ι, S, δ, r, sl, gd⟩ p hp => by
    have r0 := r.place hp (.dic []) ⟨[], rfl, .nil⟩
    refine pk σ _ _ ⟨F, ι ++ [p], S ++ [.dic []], δ, r0, sl.ext (Ext.more ..), ?_⟩
    unfold evDic dispM at gd
    cases hgs : gs δ (S ++ [.dic []]) with
    | stuck => rw [hgs] at gd; exact gd.elim
    | exn c S1 => rw [hgs] at gd; exact fun F1 ι1 H1 e1 r1 => gd F1 ι1 H1 ((Ext.more F ι [p]).trans e1) r1
    | ok ds S' =>
      rw [hgs] at gd
      simp only [R.bind] at gd
      intro F1 ι1 H1 e1 r1 vs rvs hvl
      have hp1 : ι1[S.length]? = some p := e1.pl _ _ (by rw [← r.len]; simp)
      split at gd
      · rename_i hc
        obtain ⟨hc1, hc2, hc3⟩ := hc
        have hlen : (ks.map (Sum.inr : Str → Key)).length = vs.length := by rw [List.length_map]; exact hvl.symm
        have mk : mergeK [] ((ks.map (Sum.inr : Str → Key)).zip vs) = (ks.map (Sum.inr : Str → Key)).zip vs := by
          rw [merge_new]
          · rfl
          · simp only [List.map_nil, List.nil_append]
            rw [(zip_snd hlen).2]
            exact List.Pairwise.map _ (fun a b hab e => hab (Sum.inr.inj e)) hc2
        have rk : RepK X.K F1 ι1 ((ks.map (Sum.inr : Str → Key)).zip vs) (ks.zip ds) := repK_zip rvs
        have h15' : ((ks.map (Sum.inr : Str → Key)).zip vs).length ≤ 15 := by simp; omega
        have cell : ∀ {S'}, Rel cA X.K F1 ι1 S' H1 → S'[S.length]? = some (.dic []) → H1 p = some (.dK []) := fun r1 hc => by
          obtain ⟨a, c1, c2, l, c3, c4⟩ := r1.cell _ _ hc trivial
          rw [hp1] at c1; cases c1
          cases c4
          exact c3
        cases m with
        | true =>
          simp only [if_true] at gd
          split at gd
          · rename_i hcell
            refine ⟨cell r1 hcell, _, zip_kV ks vs, h15', ?_⟩
            rw [mk]
            exact gd F1 ι1 _ ⟨e1.fx, fun n a h => e1.pl _ _ ((Ext.more F ι [p]).pl _ _ h)⟩ (r1.write hcell trivial hp1 (.dic (ks.zip ds)) ⟨_, rfl, rk⟩) _ (.loc hp1)
          · exact gd.elim
        | false =>
          simp only [Bool.false_eq_true, if_false] at gd
          split at gd
          · rename_i hcc
            obtain ⟨rfl, hcl⟩ := hcc
            have hcell : (S ++ [Cell.dic []])[S.length]? = some (.dic []) := by simp
            refine ⟨cell r1 hcell, _, zip_kV ks vs, h15', ?_⟩
            rw [mk]
            have r2 := r1.write hcell trivial hp1 (.dic (ks.zip ds)) ⟨_, rfl, rk⟩
            have es : (S ++ [Cell.dic []]).set S.length (.dic (ks.zip ds)) = S ++ [.dic (ks.zip ds)] := by simp
            rw [es] at r2
            have e2 : Ext F ι F1 ι1 := (Ext.more F ι [p]).trans e1
            obtain ⟨F2, e3, r3, up, hN⟩ := r.freezeAll r2 e2 take_app
            refine gd F2 ι _ e3 r3 _ (fz_ok r2 (fun k a h hk => e2.low k a h (by rw [r.len]; exact hk)) up hN 1 (.loc S.length) _ _ ?_ (.loc hp1))
            have nc : clo S.length (.loc S.length) = false := by simp [clo]
            have hg : (S ++ [Cell.dic (ks.zip ds)])[S.length]? = some (.dic (ks.zip ds)) := by simp
            unfold fz
            rw [if_neg (by rw [nc]; exact Bool.false_ne_true)]
            simp only [hg]
            have q := seqO_self (n := S.length) (S := S ++ [Cell.dic (ks.zip ds)]) hcl
            have z := zip_snd hc1
            have q2 : seqO ((ks.zip ds).map fun x => fz S.length (S ++ [Cell.dic (ks.zip ds)]) 0 x.2) = some ds := by
              rw [← q]
              congr 1
              conv => rhs; rw [← z.1]
              rw [List.map_map]
              rfl
            rw [q2, z.2]
            rfl
          · exact gd.elim
      · exact gd.elim
end
/-! ### a place of a list or a dict, an attribute, written -/
def sSetI (f g h : Env → Store → R D) : Env → Store → RS := fun δ S => thenS δ (f δ S) fun d S => thenS δ (g δ S) fun x S => thenS δ (h δ S) fun k S => (match x with
    | .loc n => (match S[n]?, k with
      | some (.lst xs), .int j => (match L2.ixN xs.length j with
        | some j => .nx δ (S.set n (.lst (xs.set j d)))
        | none => .stuck)
      | some (.dic kvs), .str f => if kvs.length < 1000 then .nx δ (S.set n (.dic (putD f d kvs))) else .stuck
      | _, _ => .stuck)
    | _ => .stuck)
def sSetA (atr : Nat → Str → Bool) (m : Str) (f g : Env → Store → R D) : Env → Store → RS := fun δ S => thenS δ (f δ S) fun d S => thenS δ (g δ S) fun x S => (match insAt S x with
    | some (n, c, fs) => if atr c m = true ∧ fs.length < 100 then .nx δ (S.set n (.ins c (putF m d fs))) else .stuck
    | none => .stuck)
section
variable {cA xA : Nat → Addr} {X : Cx} {W : WX} {a b o i v : Expr} {pos apos : Pos} {f g h : Env → Store → R D}
theorem repK_put {K : PySem.W.Frag} {F : Hp} {ι : List Addr} {m : Str} {w : V} {d : D} (hw : Rep K F ι w d) {l : List (Key × V)} {r : List (Str × D)} (h : RepK K F ι l r) : RepK K F ι (putK l (Sum.inr m) w) (putD m d r) := by
  have e : (l.any fun kv => decide (kv.1 = Sum.inr m)) = r.any fun kv => decide (kv.1 = m) := by
    induction h with
    | nil => rfl
    | cons _ _ ih => simp only [List.any_cons, ih, Sum.inr.injEq]
  unfold putK putD
  rw [e]
  split
  · clear e
    induction h with
    | nil => exact .nil
    | @cons g u d2 l r h1 h2 ih =>
      simp only [List.map_cons, Sum.inr.injEq]
      rename_i hx
      have ih' : RepK K F ι (l.map fun kv => if kv.1 = Sum.inr m then (kv.1, w) else kv) (r.map fun kv => if kv.1 = m then (kv.1, d) else kv) := by
        clear ih hx h1
        induction h2 with
        | nil => exact .nil
        | @cons g u d2 l r h1 h2 ih2 =>
          simp only [List.map_cons, Sum.inr.injEq]
          by_cases hg : g = m
          · rw [if_pos hg, if_pos hg]; exact .cons hw ih2
          · rw [if_neg hg, if_neg hg]; exact .cons h1 ih2
      by_cases hg : g = m
      · rw [if_pos hg, if_pos hg]; exact .cons hw ih'
      · rw [if_neg hg, if_neg hg]; exact .cons h1 ih'
  · clear e
    induction h with
    | nil => exact .cons hw .nil
    | cons h1 _ ih => exact .cons h1 (ih (by rename_i hx; simp only [List.any_cons, Bool.or_eq_true, not_or] at hx; exact hx.2))
theorem repF_put {K : PySem.W.Frag} {F : Hp} {ι : List Addr} {m : Str} {w : V} {d : D} (hw : Rep K F ι w d) {l : List (Str × V)} {r : List (Str × D)} (h : RepF K F ι l r) : RepF K F ι (L2.putF m w l) (putF m d r) := by
  induction h with
  | nil => exact .cons hw .nil
  | @cons g u d2 l r h1 h2 ih =>
    unfold L2.putF putF
    by_cases hg : m = g
    · rw [if_pos hg, if_pos hg.symm]; exact .cons hw h2
    · rw [if_neg hg, if_neg (Ne.symm hg)]; exact .cons h1 ih
theorem set_both (hu : X.A.units + 1 < cLine) : PSet X fun o i v H Q => rSetL o i v H Q ∨ rSetD o i v H Q := fun pins s σ H o i v ov iv u Q I ro ri rv h => by
  rcases h with h | h
  · exact set_list pins s σ H o i v ov iv u Q I ro ri rv h
  · exact set_dict hu pins s σ H o i v ov iv u Q I ro ri rv h
theorem s_setI (hu : X.A.units + 1 < cLine) (nc : notComp v = true) (pl : plainE i = true) (hv : PE X v (TD cA xA X.K W f)) (ho : PE X o (TD cA xA X.K W g)) (hi : PE X i (TD cA xA X.K W h)) : PS X (.Assign [.Subscript o i apos] v pos) (TSd cA xA X.K W (sSetI f g h)) :=
  PS.weak (ps_asg hv (pg_sub ho hi (set_both hu) (by cases i <;> first | (cases pl; done) | (intro _; rfl))) (by cases v <;> first | (cases nc; done) | rfl) (by rfl) (by rfl)) fun D σ H ⟨F, ι, S, δ, r, sl, gd⟩ => ⟨F, ι, S, δ, r, sl, (gs_bind sl gd).mono fun F1 ι1 H1 d S1 e1 r1 g1 w rw1 =>
    ⟨F1, ι1, S1, δ, r1, sl.ext e1, (gs_bind (sl.ext e1) g1).mono fun F2 ι2 H2 x S2 e2 r2 g2 w2 rw2 => ⟨F2, ι2, S2, δ, r2, sl.ext (e1.trans e2), (gs_bind (sl.ext (e1.trans e2)) g2).mono fun F3 ι3 H3 k S3 e3 r3 g3 w3 rw3 => by
      have rw2 := rw2.ext e3
      have rw1 := (rw1.ext e2).ext e3
      have sl3 := ((sl.ext e1).ext e2).ext e3
      cases rw2 with
      | @loc n q hq =>
        dsimp only at g3
        split at g3
        · rename_i xs j hc
          split at g3
          · rename_i j' hj
            obtain ⟨q', c1, c2, vs, c3, c4⟩ := r3.cell n _ hc trivial
            rw [hq] at c1; cases c1
            cases rw3
            refine .inl ⟨q, vs, j, j', rfl, rfl, c3, by rw [c4.len]; exact hj, ?_⟩
            exact g3 _ _ _ _ (Ext.refl ..) (rel_setL r3 hc hq (c4.set _ rw1)) sl3
          · exact g3.elim
        · rename_i kvs m hc
          split at g3
          · rename_i hl
            obtain ⟨q', c1, c2, l, c3, c4⟩ := r3.cell n _ hc trivial
            rw [hq] at c1; cases c1
            cases rw3
            have len : l.length = kvs.length := by
              clear c3 hl hc g3
              induction c4 with
              | nil => rfl
              | cons _ _ ih => simp [ih]
            refine .inr ⟨q, _, rfl, DPut.k (k := Sum.inr m) c3 (by rw [len]; have := LIM_eq; have h2 : LIM = 16777216 := rfl; omega), ?_⟩
            exact g3 _ _ _ _ (Ext.refl ..) (r3.write hc trivial hq _ ⟨_, rfl, repK_put rw1 c4⟩) sl3
          · exact g3.elim
        · exact g3.elim
      | _ => exact g3.elim⟩⟩⟩
theorem s_setA {atr : Nat → Str → Bool} (hat : AtrOk cA X.K atr) {m : Str} (hv : PE X v (TD cA xA X.K W f)) (ho : PE X o (TD cA xA X.K W g)) : PS X (.Assign [.Attribute o m apos] v pos) (TSd cA xA X.K W (sSetA atr m f g)) :=
  PS.weak (ps_fld ho hv (by cases v <;> rfl)) fun D σ H ⟨F, ι, S, δ, r, sl, gd⟩ => ⟨F, ι, S, δ, r, sl, (gs_bind sl gd).mono fun F1 ι1 H1 d S1 e1 r1 g1 w rw1 =>
    ⟨F1, ι1, S1, δ, r1, sl.ext e1, (gs_bind (sl.ext e1) g1).mono fun F2 ι2 H2 x S2 e2 r2 g2 w2 rw2 => by
      split at g2
      · rename_i n c fs e
        split at g2
        · rename_i hc
          obtain ⟨p, dx, l, h1, h0, h2, h3, h4, h5⟩ := ins_at r2 rw2 e
          have len : l.length = fs.length := by
            clear g2 h2 h3 e hc h5
            induction h4 with
            | nil => rfl
            | cons _ _ ih => simp [ih]
          obtain ⟨cl, na⟩ := hat _ _ hc.1
          refine ⟨p, _, dx, l, h1, h3, cl, na, by omega, ?_⟩
          exact g2 _ _ _ _ (Ext.refl ..) (r2.write h5 trivial h2 _ ⟨dx, _, rfl, repF_put (rw1.ext e2) h4⟩) ((sl.ext e1).ext e2)
        · exact g2.elim
      · exact g2.elim⟩⟩
end
end Ev
namespace Ev
open PySem PySem.Spec PyProof.Rows L2

/-! ### where an exception is handled: isinstance of it, a list comprehension over range -/
theorem call_isP {X : Cx} {p : Addr × Obj} {D : Addr} (C : ExcC X.K D) (hp : p ∈ X.pn) (hz : Zc (.ref D) none p.2) (hf : ∃ vs, p.2.data = .fields vs) : CallR X (.builtin "isinstance") (rIsE X.K D p.1) := by
  intro pins s σ H xs us Q I r h
  obtain ⟨c, cv, b, rfl, hcv, e, q⟩ := h
  cases r with
  | cons rx rr =>
    cases rr with
    | cons rt rr =>
      cases rr
      cases rx
      have ec := hcv _ rt
      subst ec
      obtain ⟨hget, _⟩ := I.pin p (List.mem_append.mpr (.inl hp))
      obtain ⟨vs, hv⟩ := hf
      have J : PySem.W.InstAt s.heap p.1 p.2 D none := by
        obtain ⟨a, oe⟩ := p
        obtain ⟨oc, od, oda, osl⟩ := oe
        obtain ⟨h1, h2⟩ := hz
        dsimp only at h1 h2 hv
        subst h1 h2 hv
        exact ⟨hget, rfl, rfl, trivial⟩
      exact PySem.W.kia_one (PySem.W.handS_kitx_exc C.hg C.hk C.hs C.hd C.ha C.hn C.ht C.hm) I.kIn J e (fun z => nomatch z) fun tk => ⟨.bl b, H, I.kept (t' := tk) fun _ _ z => z, rfl, q⟩
/-- isinstance of the thing at a, known -/
def evIsP (a : Addr) (b : Bool) (f : Env → Store → R D) : Env → Store → R D := fun δ S => (f δ S).bind fun x S => (match x with
    | .opq q => if q = a then .ok (.bl b) S else .stuck
    | _ => .stuck)
section
variable {cA xA : Nat → Addr} {X : Cx} {W : WX} {a e2 : Expr} {pos p0 : Pos} {f : Env → Store → R D} {p : Addr × Obj} {D : Addr}
theorem c_isP {v : V} {cv : Value} {b : Bool} (C : ExcC X.K D) (hp : p ∈ X.pn) (hz : Zc (.ref D) none p.2) (hf : ∃ vs, p.2.data = .fields vs) (hv : ∀ u, RelV v u → u = cv) (hk : PySem.W.kitOne X.K (.ref D) cv = some b) (hg : Gl X "isinstance") (hm : X.mg "isinstance" = none)
    (pl : plainE a = true) (pl2 : plainE e2 = true) (ha : PE X a (TD cA xA X.K W f)) (h2 : PE X e2 (tC v)) : PE X (.Call (.Name "isinstance" p0) [a, e2] [] pos) (TD cA xA X.K W (evIsP p.1 b f)) :=
  PE.weak (pe_callB (call_isP C hp hz hf) hg hm (by decide +kernel) (pa_cons ha (pa_cons h2 pa_nil (starE_plain pl2 _)) (star_plain pl _ _)) (by decide) (by decide) (star_plain pl _ _) (star_none (by simp [pl2]) _ _)) fun σ H Q ⟨F, ι, S, δ, r, sl, gd⟩ =>
    ⟨F, ι, S, δ, r, sl, gd.bind.mono fun F1 ι1 H1 d1 S1 e1 r1 g1 v1 rv1 => by
      cases rv1 <;> first | exact g1.elim | skip
      rename_i q
      dsimp only at g1
      split at g1
      · rename_i hq
        subst hq
        exact ⟨v, cv, b, rfl, hv, hk, g1 _ _ _ (Ext.refl ..) r1 _ (.bl _)⟩
      · exact g1.elim⟩
end
abbrev blkH (X : Cx) (p : Addr × Obj) (s : Shared) (H : Hp) (scope : Scope) (cenv : PySem.Env) (fp : List Addr) : Cx := (X.blk s H scope cenv fp).tr [p] (fun _ _ => False)
section
variable {X : Cx} {pins : List (Addr × Obj)} {σ : L2.St} {H : Hp} {s : Shared} {p : Addr × Obj}
theorem block_startH {scope : Scope} {own : List (Str × Nat)} {fp : List Addr} (I : Inv X pins σ H s) (ok : BlkOk X.N X.env.scope scope own) (hN : X.N.Nodup) (hfp : ∀ b ∈ fp, FpOk X pins H b ∧ b < s.heap.objs.size) (hp : p ∈ X.pn) :
    Inv (blkH X p s H scope (compEnvC scope (cellsFrom (s.heap.objs.size + 1) scope.names (cloFrom X.env.cells scope.names [])) s.heap.objs.size X.env) fp) [] (wipe σ (own.map (·.2))) H { s with heap := pushCells (s.heap.push { cls := .type "dict", data := .dict #[] }) scope.names } := by
  have J := block_start I ok hN hfp
  have P1 := I.pin p (List.mem_append_left _ hp)
  refine ⟨J.ok.toTry _ _, J.os, J.bare, J.base, J.loc, J.cell, J.free, J.freeC, fun q hq => ?_, J.hok, J.len⟩
  have eq : q = p := by simpa using (show q ∈ [p] ++ ([] : List (Addr × Obj)) from hq)
  subst eq
  exact ⟨pushCells_keeps _ _ _ _ (Heap.get?_push_of_some _ P1.1), P1.2.1, Nat.ne_of_lt (Heap.lt_size P1.1), fun hm => (List.mem_cons.mp (I.stkSub q.1 hm)).elim P1.2.2.1 P1.2.2.2.1, P1.2.2.2.2⟩
theorem lc_coreH {Q : VK} {elt tg iter : Expr} {ifs : List Expr} {scope : Scope} {own : List (Str × Nat)} {pos pos' : Pos} {wi : TI} {g : TG} {tt : TT} {te : TE} {use : Option (Value → Sem Unit)} {Qf : Value → Shared → Prop}
    (hot : L2H.Hot1 X.A p) (hp : p ∈ X.pn) (hN : X.N.Nodup) (I : Inv X pins σ H s) (hi : L2H.PIH X tg iter wi) (ok : BlkOk X.N X.env.scope scope own)
    (hg : ∀ (s : Shared) (H : Hp) (C : Addr) (cl : List (Str × Addr)) (fp : List Addr), PG (blkH X p s H scope (compEnvC scope cl C X.env) fp) tg g) (ht : ∀ (s : Shared) (H : Hp) (C : Addr) (cl : List (Str × Addr)) (fp : List Addr), PTs (blkH X p s H scope (compEnvC scope cl C X.env) fp) ifs tt)
    (he : ∀ (s : Shared) (H : Hp) (C : Addr) (cl : List (Str × Addr)) (fp : List Addr), PE (blkH X p s H scope (compEnvC scope cl C X.env) fp) elt te) (hs : ∀ x, foldedSetIterable iter X.env x = pure x)
    (h : tLc wi g tt te (own.map (·.2)) σ H Q)
    (hRR : ∀ D C s' m H', Inv X pins σ H' s' → Q (.ref D) H' → s'.heap.Ns C m → FpOk X pins H' C → compPost (model X.prog X.w) X.A X.xe use Qf (.ref D) C (.ok .next) s') :
    wpAny (model X.prog X.w) X.A (comprehension (.ListComp elt [⟨tg, iter, ifs, 0⟩] scope pos) scope X.env pos' (newList []) false (eval iter X.env) use) Qf X.xe s := by
  have hfree : ∀ y ∈ scope.names, y.2 = .free → ∃ c, X.env.cells.lookup y.1 = some c := fun y hy e => by
    rcases ok.free y hy e with k | k
    · exact I.ok.has _ (.inl k)
    · exact I.ok.has _ (.inr k)
  refine wpAny_comprehension_free (use := use) rfl hs (closure_ok hfree) ok.kind (fun y hy e => by rw [ok.uniq y hy, e])
    (thn (hi.run pins s σ H _ I h) fun xv s1 hx => thn hx fun itv s2 h2 => ?_)
  obtain ⟨it, fp, tn, J, H2, e, I2, T, st2, f2, q⟩ := h2
  subst e
  refine wpAny_newObj_type (newEnv_comp ?_) (by show 0 ≤ sizeLine; decide)
  generalize hD : s2.heap.objs.size = D
  have hDn : H2 D = none := I2.hok.fresh (Nat.le_of_eq hD)
  obtain ⟨W, ⟨m0, w0⟩, turn⟩ := q D hDn
  -- the new list
  generalize hs3 : ({ s2 with heap := s2.heap.push { cls := .type "list", data := .seq ([] : List Value).toArray } } : Shared) = s3
  have I3 : Inv X pins σ (upd H2 D (.lst [])) s3 := by
    rw [← hs3]
    refine I2.laid (t' := s2.toks) (fun b o e => Heap.get?_push_of_some _ e) (Nat.le_of_eq hD) ⟨Nat.zero_le _, [], 0, .nil, ?_⟩
    rw [← hD]
    exact Heap.get?_push_size _ rfl
  have h3 : s3.heap = s2.heap.push { cls := .type "list", data := .seq ([] : List Value).toArray } := by rw [← hs3]
  have sz : ∀ b ∈ fp, b < s2.heap.objs.size := fun b hb => by
    obtain ⟨o, e, _⟩ := T.obj _ _ st2 b hb
    exact Heap.lt_size e
  have f3 : ∀ b ∈ fp, FpOk X pins (upd H2 D (.lst [])) b ∧ b < s3.heap.objs.size := fun b hb => by
    have hlt := sz b hb
    refine ⟨⟨?_, (f2 b hb).2⟩, by rw [h3, Heap.size_push]; exact Nat.lt_succ_of_lt hlt⟩
    rw [upd_ne (by rw [← hD]; exact Nat.ne_of_lt hlt)]
    exact (f2 b hb).1
  have st3 : tn 0 s3.heap := T.keep _ _ _ st2 fun b _ o e => by rw [h3]; exact Heap.get?_push_of_some _ e
  have I4 := block_startH I3 ok hN f3 hp
  have pg := hg s3 (upd H2 D (.lst [])) s3.heap.objs.size (cellsFrom (s3.heap.objs.size + 1) scope.names (cloFrom X.env.cells scope.names [])) fp
  have pt := ht s3 (upd H2 D (.lst [])) s3.heap.objs.size (cellsFrom (s3.heap.objs.size + 1) scope.names (cloFrom X.env.cells scope.names [])) fp
  have pe := he s3 (upd H2 D (.lst [])) s3.heap.objs.size (cellsFrom (s3.heap.objs.size + 1) scope.names (cloFrom X.env.cells scope.names [])) fp
  show codeAny _ _ (.compStart (.ListComp elt [⟨tg, iter, ifs, 0⟩] scope pos) 0 (.ref it) (.ref D) (compEnvC scope (cellsFrom (s3.heap.objs.size + 1) scope.names (cloFrom X.env.cells scope.names [])) s3.heap.objs.size X.env)) (compPost (model X.prog X.w) X.A X.xe use Qf (.ref D) s3.heap.objs.size) { s3 with heap := pushCells (s3.heap.push { cls := .type "dict", data := .dict #[] }) scope.names }
  have nfp : ∀ b ∈ fp, (upd H2 D (.lst [])) b = none := fun b hb => (f3 b hb).1.1
  generalize hce : compEnvC scope (cellsFrom (s3.heap.objs.size + 1) scope.names (cloFrom X.env.cells scope.names [])) s3.heap.objs.size X.env = ce at I4 pg pt pe ⊢
  have cL : ce.locals = s3.heap.objs.size := by subst hce; rfl
  generalize hH3 : upd H2 D (.lst []) = H3 at I3 I4 pg pt pe w0 nfp f3
  generalize hs4 : ({ s3 with heap := pushCells (s3.heap.push { cls := .type "dict", data := .dict #[] }) scope.names } : Shared) = s4 at I4 ⊢
  have st4 : tn 0 s4.heap := T.keep _ _ _ st3 fun b _ o e => by rw [← hs4]; exact pushCells_keeps _ _ _ _ (Heap.get?_push_of_some _ e)
  have hcB : L2H.HotC (blkH X p s3 H3 scope ce fp) := ⟨p, hot, List.mem_singleton.mpr rfl⟩
  have stat : ∀ {σ' : L2.St} {H' : Hp} {s' : Shared}, Inv (blkH X p s3 H3 scope ce fp) [] σ' H' s' → (∀ b ∈ fp, H' b = none) → ∀ b ∈ fp, FpOk (blkH X p s3 H3 scope ce fp) [] H' b := fun {σ' H' s'} I' hn b hb =>
    ⟨hn b hb, (I'.ok.exf b hb).1, I'.ok.exfs b hb, .inl hb, fun x c e => (I'.ok.exf b hb).2 x c e, fun q hq => by
      have eq : q = p := by simpa using (show q ∈ [p] ++ ([] : List (Addr × Obj)) from hq)
      subst eq
      exact (f3 b hb).1.2.2.2.2.2 q (List.mem_append_left _ hp)⟩
  have loop : codeAny (model X.prog X.w) X.A (.compLoop (.ListComp elt [⟨tg, iter, ifs, 0⟩] scope pos) 0 (.ref it) (.ref D) ce) (compPost (model X.prog X.w) X.A X.xe use Qf (.ref D) s3.heap.objs.size) s4 := by
    refine compLoop_any (fun n s' => ∃ i H', Inv (blkH X p s3 H3 scope ce fp) [] (wipe σ (own.map (·.2))) H' s' ∧ tn i s'.heap ∧ (∀ b ∈ fp, H' b = none) ∧ W i n H') ?_ m0 ⟨0, H3, I4, st4, nfp, w0⟩
    rintro n s5 ⟨i, H5, I5, st5, n5, w5⟩
    rcases turn i n H5 w5 with ⟨stop, qq⟩ | ⟨go, Nx, hNx, step⟩
    · have td := T.done (blkH X p s3 H3 scope ce fp) rfl rfl rfl hcB i [] s5 _ H5 (fun _ _ => False) I5 (stat I5 n5) st5 stop
      refine thnF td fun r s6 ⟨hr, I6⟩ => ?_
      subst hr
      -- back in the def's context
      have I7 : Inv X pins σ H5 s6 := I3.call' (ch := fp) I6.os I6.base I6.hok I6.bare fun b hb => ⟨(f3 b hb).1.2.2.2.1, (f3 b hb).1.2.1, (f3 b hb).1.2.2.2.2.1, (f3 b hb).1.2.2.2.2.2⟩
      have nC : H5 s3.heap.objs.size = none := by
        have z : H5 ce.locals = none := I6.free
        rw [cL] at z
        exact z
      obtain ⟨m, hn, _⟩ := I6.loc
      have hn : s6.heap.Ns ce.locals m := hn
      rw [cL] at hn
      exact hRR D s3.heap.objs.size s6 m H5 I7 qq hn (I3.fpOk (Nat.le_refl _) nC)
    · have ti := T.item (blkH X p s3 H3 scope ce fp) rfl rfl rfl hcB i [] s5 _ H5 (fun _ _ => False) I5 (stat I5 n5) st5 go
      refine thnF ti fun r s6 ⟨u, hr, h6⟩ => ?_
      subst hr
      refine thnF h6 fun _ s7 ⟨x, H7, I7, r7, y7, st7, n7⟩ => ?_
      have I7' := I7.pinned (stat I7 n7) (T.obj _ _ st7)
      refine thnF (pg.run _ s7 _ H7 x u _ I7' r7 (step x H7 y7)) fun _ s8 ⟨σ8, H8, I8, hw8, q8⟩ => ?_
      refine thnF (pt.run _ s8 σ8 H8 _ I8 q8) fun b s9 ⟨H9, I9, q9⟩ => ?_
      -- the turn's end
      have fin : ∀ {s' : Shared} {H' : Hp}, Inv (blkH X p s3 H3 scope ce fp) ([] ++ pinsAt fp s7.heap) σ8 H' s' → Nx H' → ∃ m, m < n ∧ ∃ i H', Inv (blkH X p s3 H3 scope ce fp) [] (wipe σ (own.map (·.2))) H' s' ∧ tn i s'.heap ∧ (∀ b ∈ fp, H' b = none) ∧ W i m H' := fun {s' H'} I' nx => by
        obtain ⟨m', hm, w'⟩ := hNx H' nx
        have pin' : ∀ b ∈ fp, ∀ o, s7.heap.get? b = some o → s'.heap.get? b = some o ∧ H' b = none := fun b hb o e =>
          let z := I'.pin (b, o) (List.mem_append_right _ (List.mem_append_right _ (mem_pinsAt hb e)))
          ⟨z.1, z.2.1⟩
        have hl : (wipe σ (own.map (·.2))).length = σ8.length := by rw [← hw8, wipe_length]
        refine ⟨m', hm, i + 1, H', (I'.unpinned (pins := [])).weak hl (fun j v e => ?_), T.keep _ _ _ st7 fun b hb o e => (pin' b hb o e).1, fun b hb => ?_, w'⟩
        · rw [← hw8] at e
          exact (wipe_some e).1
        · obtain ⟨o, e, _⟩ := T.obj _ _ st7 b hb
          exact (pin' b hb o e).2
      cases b with
      | false =>
        simp only [Bool.false_eq_true, if_false] at q9 ⊢
        exact fin I9 q9
      | true =>
        simp only [if_true] at q9 ⊢
        refine thnF (pe.run _ s9 σ8 H9 _ I9 q9) fun z s10 ⟨yv, H10, I10, r10, acc, hD10, hz10, nx⟩ => ?_
        exact app_ok (X := blkH X p s3 H3 scope ce fp) I10 hD10 hz10 r10 fun s11 I11 => fin I11 nx
  exact codeAny_compStart_list loop (T.self X.A 0 _ _ _ st4 loop)
theorem ps_setLcH {i : Nat} {y : Str} {py : Pos} {elt tg iter : Expr} {ifs : List Expr} {scope : Scope} {own : List (Str × Nat)} {pos spos : Pos} {wi : TI} {g : TG} {tt : TT} {te : TE} (hot : L2H.Hot1 X.A p) (hp : p ∈ X.pn) (hN : X.N.Nodup) (hy : X.N[i]? = some y) (hyl : X.env.scope.names.lookup y = some .local)
    (hsw : swapsWith (.ListComp elt [⟨tg, iter, ifs, 0⟩] scope pos) (some (.Name y py)) spos.line X.env = pure true) (hi : L2H.PIH X tg iter wi) (ok : BlkOk X.N X.env.scope scope own)
    (hg : ∀ (s : Shared) (H : Hp) (C : Addr) (cl : List (Str × Addr)) (fp : List Addr), PG (blkH X p s H scope (compEnvC scope cl C X.env) fp) tg g) (ht : ∀ (s : Shared) (H : Hp) (C : Addr) (cl : List (Str × Addr)) (fp : List Addr), PTs (blkH X p s H scope (compEnvC scope cl C X.env) fp) ifs tt)
    (he : ∀ (s : Shared) (H : Hp) (C : Addr) (cl : List (Str × Addr)) (fp : List Addr), PE (blkH X p s H scope (compEnvC scope cl C X.env) fp) elt te) (hs : ∀ x, foldedSetIterable iter X.env x = pure x := by intro _; rfl) :
    PS X (.Assign [.Name y py] (.ListComp elt [⟨tg, iter, ifs, 0⟩] scope pos) spos) (tAsg (tLc wi g tt te (own.map (·.2))) (gName i)) := by
  refine ⟨fun pins s σ H D I h => ?_⟩
  rw [exec_Assign_Name_used _ _ _ _ hsw]
  refine wpAny_bind (wpAny_standAt (wpAny_bind ?_))
  show wpAny _ X.A (do let _ ← comprehension (.ListComp elt [⟨tg, iter, ifs, 0⟩] scope pos) scope X.env (firstIterPos [⟨tg, iter, ifs, 0⟩] pos) (newList []) false (eval iter X.env) (some (assign (.Name y py) X.env))) _ _ s
  have h : tLc wi g tt te (own.map (·.2)) σ H (fun x H1 => gName i x σ H1 D.nx) := h
  refine wpAny_bind (thn (lc_coreH (Qf := fun _ s' => SP X pins D .next s') hot hp hN I hi ok hg ht he hs h fun L C s' m H' I' q hn f => ?_) fun _ s' hq => wpAny_pure (wpAny_pure hq))
  show wpAny _ _ (assign (.Name y py) X.env (.ref L)) _ _ _
  refine wpAny_assign_Name (store_ok2 (v := V.ref L) I' hN hy (.inl hyl) rfl (fun s2 I2 ⟨a, sb, ha⟩ => ?_) (.inr hyl))
  obtain ⟨f0, f1, f2, f3, f4, f5⟩ := f
  have haC : C ≠ a := by
    rcases ha with z | z
    · rw [z]; exact f1
    · exact fun e => f4 y a z e.symm
  refine ⟨m, hn.sameBut sb haC, fun h3 sb3 => ?_⟩
  exact ⟨_, H', I2.turned (t' := s2.toks) (fun b o hb e => (sb3.2 b hb).trans e) f0 f1 f3 f4 f5, q⟩
end
section
variable {cA xA : Nat → Addr} {X : Cx} {W : WX} {tg a : Expr} {p pos : Pos} {f : Env → Store → R D}
theorem c_irng1H (hg : Gl X "range") (hm : X.mg "range" = none) (pl : plainE a = true) (ha : PE X a (TD cA xA X.K W f)) : L2H.PIH X tg (.Call (.Name "range" p) [a] [] pos) (TDi cA xA X.K W .rng1 (ev1s f)) := by
  refine ⟨fun pins s σ H R I ⟨F, ι, S, δ, r, sl, gd⟩ => (L2H.pi_range1H hg hm (pa_cons ha pa_nil (starE_plain pl _)) (starE_plain pl _)).run pins s σ H R I ⟨F, ι, S, δ, r, sl, (good_1s gd).mono fun F1 ι1 H1 d S1 e1 r1 ⟨p, hp, k⟩ v rv => ?_⟩⟩
  have hd : ∃ j, d = .int j := by cases d <;> first | exact ⟨_, rfl⟩ | simp [walkOf] at hp
  obtain ⟨j, rfl⟩ := hd
  simp only [walkOf] at hp
  split at hp
  · rename_i hl
    cases hp
    cases rv
    have e : Itr 0 j.toNat = Itr 0 (j - 0).toNat := by rw [Int.sub_zero]
    exact ⟨j, rfl, hl.2, hl.1, e ▸ k _ walk_R⟩
  · cases hp
end
end Ev
namespace Ev
open PySem PySem.Spec PyProof.Rows L2

/-! ### raise -/
/-- what is told of an exception's class -/
structure ExcK (K : PySem.W.Frag) (C : Addr) : Prop where
  inn : PySem.W.excIn K C [.type "ValueError", .type "Exception", .type "BaseException", .type "object"] "ValueError.__new__" = true
  kp : PySem.W.keepIn K (.ref C) = true
  sub : PySem.W.subIn K (.ref C) (.type "BaseException") = some true
  ty : PySem.W.typeIn K (.ref C) = some (.type "type")
  isx : ExcC K C
section
variable {cA xA : Nat → Addr} {X : Cx} {W : WX}
theorem s_raise {c : Nat} {x m : Str} {j : Nat} {p p2 pos pos' : Pos} (hc : X.calm = true) (tk : L2N.Takes X W) (k : ExcK X.K (xA c)) (gC : X.mg x = some (.ref (xA c))) (hg : Gl X x) (hdb : (x == ("__debug__" : Str)) = false) :
    PS X (.Raise (some (.Call (.Name x p) [.Constant (.str m) j p2] [] pos)) none pos') (TSd cA xA X.K W fun δ S => .exn c δ S) :=
  PS.weak (L2N.ps_raise hc tk (L2N.pmk_own PySem.F.excBase_ValueError k.inn gC k.kp (raises_own k.sub k.ty) hg hdb)) fun D σ H ⟨F, ι, S, δ, r, sl, gd⟩ => gd F ι H σ (Ext.refl ..) r sl
end
/-! ### the def that tells an exception's classes, called where one is handled -/
structure FnK (cA xA : Nat → Addr) (P : Program) (w : World) (K : PySem.W.Frag) (mg : Str → Option Value) (base : Heap) (CX : CXT) (k : Nat) (f : Addr) (fd : FuncData) (ps : List Str) : Prop where
  one : ps.length = 1
  run : ∀ (A : Around) (outer : List PySem.Env) (s : Shared) (H : Hp) (args : Args) (us : List Value) (p : Addr × Obj) (c : Nat) (F : Hp) (ι : List Addr) (S : Store) (Q : VK) (E : XK), L2H.RoomH k A → L2H.Hot1 A p → L2H.PinOk outer H s p → c < 8 → L2N.Zn (.ref (xA c)) none p.2 →
    Env0 P w K mg base A outer s H → BindsTo s fd args (ps.zip us) → Vals [.ref p.1] us → Rel cA K F ι S H → (∀ F' ι' H' v, Ext F ι F' ι' → Rel cA K F' ι' S H' → Rep K F' ι' v (.lst [.int c]) → Q v H') →
    codeAny (model P w) A (.call (.ref f) args) (CR CX outer P w H s Q E) s
theorem run_bodyH {CX : CXT} {P : Program} {w : World} {K : PySem.W.Frag} {mg : Str → Option Value} {base : Heap} {k : Nat} {f : Addr} {name qual : Str} {params : Arguments} {body : List Stmt} {scope : Scope} {dV kV doc pm cdv ct oc : Value} {an od : Option Addr}
    {osl : Array (Option Value)} {N ps : List Str} {A : Around} {outer : List PySem.Env} {s : Shared} {H : Hp} {args : Args} {us : List Value} {vs : List V} {Q : VK} {E : XK} {p : Addr × Obj} (lk : K.lookup f = some ⟨oc, od, .func (PySem.W.fnOf name qual params body scope dV kV doc pm an cdv ct), osl⟩) (hcd : PySem.W.codeIn K cdv qual = true) (S : FnScope N ps scope)
    (hl : vs.length = ps.length) (hr : L2H.RoomH k A) (hot : L2H.Hot1 A p) (hpin : L2H.PinOk outer H s p) (e0 : Env0 P w K mg base A outer s H) (hb : BindsTo s (PySem.W.fnOf name qual params body scope dV kV doc pm an cdv ct) args (ps.zip us)) (r : Vals vs us)
    (hbody : (A.deeper (envOfC qual scope s.heap.objs.size f cdv)).units + 65 < cLine → ∃ t, PSs (L2H.cxH CX P w K mg base N qual scope f cdv A outer s H E p) body t ∧ t { nx := fun _ H' => Q .non H', rt := Q } (L2.start N vs) H) :
    codeAny (model P w) A (.call (.ref f) args) (CR CX outer P w H s Q E) s := by
  have KX : K.In s.heap := e0.mod.kin.keeps fun b o e => (e0.bs b o e).1
  have lim : s.heap.NoLimit := e0.mod.nolimit.keeps fun b o e => (e0.bs b o e).1
  have hkind : ∀ y ∈ ps.zip us, scope.names.lookup y.1 = some .local ∨ (scope.names.lookup y.1 = some .cell ∧ ((cellsFrom (s.heap.objs.size + 1) scope.names []).lookup y.1).isSome = true) := fun ⟨n, v⟩ hy => by
    rcases S.par n (List.of_mem_zip hy).1 with q | q
    · exact .inl q
    · exact .inr ⟨q, PySem.W.cellsFrom_some _ _ _ (.inl q)⟩
  refine codeAny_call_function hr.depth (KX _ _ lk) rfl S.co S.gen rfl (PySem.W.codeRec_of KX hcd) (hb _ _ _ _ ?_)
  refine wpAny_newFunctionEnv_cells S.kind hkind fun env he s1 x => ?_
  subst he
  refine ⟨lim.keeps x.toInCall.keep, codeAny_func ?_⟩
  obtain ⟨t, ht, hq⟩ := hbody (by have := hr.un; show A.units + 3 + 65 < _; omega)
  have I : Inv (L2H.cxH CX P w K mg base N qual scope f cdv A outer s H E p) [] (L2.start N vs) H s1 := L2H.inv_startH S hpin e0 hl r x
  refine wpAny_mono (ht.run [] s1 (L2.start N vs) H _ I hq) (fun fl s' hs => ?_) fun e s' hs => hs
  have fin : ∀ {σ' : L2.St} {H' : Hp} {v : V} {u : Value}, Inv (L2H.cxH CX P w K mg base N qual scope f cdv A outer s H E p) [] σ' H' s' → RelV v u → Q v H' → CE outer P w H s Q u s' :=
    fun {σ' H' v u} J rv q => ⟨v, H', J.os, J.bare, J.base, J.hok, rv, q⟩
  cases fl with
  | ret u =>
    obtain ⟨v, σ', H', J, rv, q⟩ := hs
    exact fin J rv q
  | next =>
    obtain ⟨σ', H', J, q⟩ := hs
    exact fin (v := V.non) (u := Value.none) J rfl q
  | brk =>
    obtain ⟨_, _, _, q⟩ := hs
    exact False.elim q
  | cont =>
    obtain ⟨_, _, _, q⟩ := hs
    exact False.elim q
def evKd (a : Addr) (c : Nat) (f : Env → Store → R D) : Env → Store → R D := fun δ S => (f δ S).bind fun x S => (match x with
    | .opq q => if q = a then .ok (.lst [.int c]) S else .stuck
    | _ => .stuck)
section
variable {cA xA : Nat → Addr} {X : Cx} {W : WX} {x : Str} {a : Expr} {pos q : Pos} {f : Env → Store → R D} {p : Addr × Obj} {k c : Nat} {fa : Addr} {fd : FuncData} {ps : List Str}
theorem c_kinds (Fk : FnK cA xA X.prog X.w X.K X.mg X.base (L2N.CX X.prog X.w) k fa fd ps) (hr : L2H.RoomH k X.A) (hot : L2H.Hot1 X.A p) (hp : p ∈ X.pn) (h8 : c < 8) (hz : L2N.Zn (.ref (xA c)) none p.2) (hg : Gl X x) (hm : X.mg x = some (.ref fa)) (hk : PySem.W.keepIn X.K (.ref fa) = true) (hb : Binds X.K fd ps [])
    (hdb : (x == ("__debug__" : Str)) = false) (pl : plainE a = true) (ha : PE X a (TD cA xA X.K W f)) : PE X (.Call (.Name x q) [a] [] pos) (TD cA xA X.K W (evKd p.1 c f)) := by
  refine ⟨fun pins s σ H Q I ⟨F, ι, S, δ, r, sl, gd⟩ => ?_⟩
  refine wpAny_Call_Name_kw (ld_glob I hg hm ?_ hdb)
  refine PySem.W.callWith_K (h₀ := X.base) I.ok.mod.kin hk (thn ((pa_cons ha pa_nil (starE_plain pl _)).run pos pins s σ H (fun vs H1 => ∃ F1 ι1 S1, Rel cA X.K F1 ι1 S1 H1 ∧ vs = [.ref p.1] ∧ ∀ F' ι' H' v, Ext F1 ι1 F' ι' → Rel cA X.K F' ι' S1 H' → Rep X.K F' ι' v (.lst [.int c]) → Q v H') I
    ⟨F, ι, S, δ, r, sl, gd.bind.mono fun F1 ι1 H1 d1 S1 e1 r1 g1 v1 rv1 => ?_⟩) fun us s1 ⟨vs, H1, I1, rr, q1⟩ => ⟨I1.kIn, ?_⟩) (star_plain pl _ _) (star_none (by rfl) _ _)
  · cases rv1 <;> first | exact g1.elim | skip
    rename_i z
    dsimp only at g1
    split at g1
    · rename_i hz
      subst hz
      exact ⟨F1, ι1, S1, r1, rfl, fun F' ι' H' v e' r' rv => g1 F' ι' H' e' r' v rv⟩
    · exact g1.elim
  · obtain ⟨F1, ι1, S1, r1, rfl, k1⟩ := q1
    have hl : us.length = ps.length := by rw [← rr.length, Fk.one]; rfl
    have b := hb s1 us I1.kIn (by rw [List.append_nil]; exact hl)
    rw [List.append_nil] at b
    have P1 := I1.pin p (List.mem_append_left _ hp)
    have hpin : L2H.PinOk X.stack H1 s1 p := ⟨P1.1, P1.2.1, fun hm => (List.mem_cons.mp (I1.stkSub p.1 hm)).elim P1.2.2.1 P1.2.2.2.1, P1.2.2.2.2⟩
    show wpAny _ _ (call (.ref fa) us) _ _ _
    refine wpAny_call (codeAny_mono (Fk.run X.A X.stack s1 H1 ⟨us, []⟩ us p c F1 ι1 S1 Q (fun _ _ _ => False) hr hot hpin h8 hz I1.env0 b rr r1 k1) fun r s' hq => ?_)
    cases r with
    | error e =>
      obtain ⟨a, B, H', cls, d, h1, h2, h3, h4, h5, h6, h7, h8⟩ := hq
      exact h8.elim
    | ok fl =>
      cases fl with
      | ret u => exact I1.after hq
      | next => exact False.elim hq
      | brk => exact False.elim hq
      | cont => exact False.elim hq
end
/-! ### try, its suite gives back what tells of the exception -/
def sTry (u : BF) (h : Hd) : BF := fun δ S => (match u δ S with
    | .exn c _ S' => if c < 8 then .rt (hdD h c) S' else .stuck
    | r => r)
section
variable {cA xA : Nat → Addr} {X : Cx} {W : WX} {i : Nat} {n x : Str} {body : List Stmt} {e : Expr} {np rp pos pos' : Pos} {u : BF} {h : Hd} {hA : Addr}
theorem s_tryAs (hs : X.stack = X.env :: X.outer) (hf : X.env.frame = some X.env.locals) (hN : X.N.Nodup) (hi : X.N[i]? = some n) (hln : X.env.kindOf n = some .local) (hc : Names X x (.ref hA)) (tk : L2N.Takes X W)
    (hex : ∀ c, c < 8 → PySem.W.exmOne X.K (.ref (xA c)) (.ref hA) = some true)
    (hb : ∀ (W' : WX) (pn : List (Addr × Obj)) (xe : Value → Shared → Prop), L2N.Takes (X.tr pn xe) W' → PassesOwn (model X.prog X.w) X.A X.env xe → PSs (X.tr pn xe) body (TSd cA xA X.K W' u))
    (hsu : ∀ (a : Addr) (oe : Obj) (c : Nat) (pn : List (Addr × Obj)), c < 8 → L2N.Zn (.ref (xA c)) none oe → (∃ vs, oe.data = .fields vs) → ∃ f, PE (X.suite a ((a, oe) :: pn)) e (TD cA xA X.K nW f) ∧ ∀ δ S, δ[i]? = some (some (.opq a)) → f δ S = .ok (hdD h c) S) :
    PS X (.Try body [.ExceptHandler (some (.Name x np)) (some n) [.Return (some e) rp] pos'] [] [] pos) (TSd cA xA X.K W (sTry u h)) := by
  refine PS.weak (L2N.ps_try_as hs hf hN hi hln hc tk (tb := fun W' => TSd cA xA X.K W' u) (ts := fun a cls d D σ H => ∃ c F ι S, c < 8 ∧ cls = .ref (xA c) ∧ d = none ∧ Rel cA X.K F ι S H ∧ (∃ σ0, σ = List.set σ0 i (some (.ref a))) ∧
    ∀ F' ι' H' v, Ext F ι F' ι' → Rel cA X.K F' ι' S H' → Rep X.K F' ι' v (hdD h c) → D.rt v H') hb fun a oe cls d pn hz hv => ?_) fun D σ H ⟨F, ι, S, δ, r, sl, gd⟩ => ⟨F, ι, S, δ, r, sl, ?_⟩
  · refine ⟨fun pins s σ H D I ⟨c, F, ι, S, h8, hcls, hd, r, ⟨σ0, hσ⟩, k⟩ => ?_⟩
    subst hcls hd
    obtain ⟨f, pe, hfv⟩ := hsu a oe c pn h8 hz hv
    have hlt : i < σ.length := by
      have e1 := I.len
      have e2 : i < X.N.length := (List.getElem?_eq_some_iff.mp hi).1
      have e3 : (X.suite a ((a, oe) :: pn)).N.length = X.N.length := rfl
      omega
    have hat : ((List.replicate σ.length (none : Option Ev.D)).set i (some (.opq a)))[i]? = some (some (.opq a)) := List.getElem?_set_self (by simpa using hlt)
    refine (ss_cons (W := nW) (s_ret (pos := rp) pe) ss_nil).run pins s σ H D I ⟨F, ι, S, (List.replicate σ.length none).set i (some (.opq a)), r, ⟨by simp, fun j d hj => ?_⟩, ?_⟩
    · by_cases hij : i = j
      · subst hij
        rw [hat] at hj
        cases hj
        refine ⟨.ref a, ?_, .opq a⟩
        rw [hσ, List.length_set] at hlt
        rw [hσ]
        exact List.getElem?_set_self hlt
      · rw [List.getElem?_set_ne hij, List.getElem?_replicate] at hj
        split at hj <;> cases hj
    · unfold sSeq
      dsimp only
      rw [hfv _ _ hat]
      exact fun F' ι' H' v e r rv => k F' ι' H' v e r rv
  · unfold sTry at gd
    cases hu : u δ S with
    | nx δ1 S1 => rw [hu] at gd; exact gd
    | rt d S1 => rw [hu] at gd; exact gd
    | stuck => rw [hu] at gd; exact gd
    | exn c δ1 S1 =>
      rw [hu] at gd
      dsimp only at gd
      split at gd
      · rename_i h8
        intro F1 ι1 H1 σ1 e1 r1 s1
        exact ⟨true, hex c h8, fun _ a ha => ⟨c, F1, ι1, S1, h8, rfl, rfl, r1, ⟨_, rfl⟩, fun F' ι' H' v e' r' rv => gd F' ι' H' v (e1.trans e') r' rv⟩, fun z => by cases z⟩
      · exact gd.elim
theorem s_tryOnly {d : D} (hs : X.stack = X.env :: X.outer) (hf : X.env.frame = some X.env.locals) (hc : Names X x (.ref hA)) (tk : L2N.Takes X W)
    (hex : ∀ c, c < 8 → PySem.W.exmOne X.K (.ref (xA c)) (.ref hA) = some true)
    (hb : ∀ (W' : WX) (pn : List (Addr × Obj)) (xe : Value → Shared → Prop), L2N.Takes (X.tr pn xe) W' → PassesOwn (model X.prog X.w) X.A X.env xe → PSs (X.tr pn xe) body (TSd cA xA X.K W' u))
    (hsu : ∀ (a : Addr) (pn : List (Addr × Obj)), PE (X.suite a pn) e (TD cA xA X.K nW fun _ S => .ok d S)) :
    PS X (.Try body [.ExceptHandler (some (.Name x np)) none [.Return (some e) rp] pos'] [] [] pos) (TSd cA xA X.K W (sTry u (.ret d))) := by
  refine PS.weak (L2N.ps_try_many hs hf tk (tb := fun W' => TSd cA xA X.K W' u) hb (.cons (ts := fun a cls _ D σ H => ∃ F ι S, Rel cA X.K F ι S H ∧
    ∀ F' ι' H' v, Ext F ι F' ι' → Rel cA X.K F' ι' S H' → Rep X.K F' ι' v d → D.rt v H') hc (fun a oe cls d' pn hz hv => ?_) .nil)) fun D σ H ⟨F, ι, S, δ, r, sl, gd⟩ => ⟨F, ι, S, δ, r, sl, ?_⟩
  · refine ⟨fun pins s σ H D I ⟨F, ι, S, r, k⟩ => ?_⟩
    refine (ss_cons (W := nW) (s_ret (pos := rp) (hsu a ((a, oe) :: pn))) ss_nil).run pins s σ H D I ⟨F, ι, S, List.replicate σ.length none, r, ⟨by simp, fun j d hj => ?_⟩, ?_⟩
    · rw [List.getElem?_replicate] at hj
      split at hj <;> cases hj
    · exact fun F' ι' H' v e r rv => k F' ι' H' v e r rv
  · unfold sTry at gd
    cases hu : u δ S with
    | nx δ1 S1 => rw [hu] at gd; exact gd
    | rt d S1 => rw [hu] at gd; exact gd
    | stuck => rw [hu] at gd; exact gd
    | exn c δ1 S1 =>
      rw [hu] at gd
      dsimp only at gd
      split at gd
      · rename_i h8
        intro F1 ι1 H1 σ1 e1 r1 s1
        exact ⟨true, hex c h8, fun _ a ha => ⟨F1, ι1, S1, r1, fun F' ι' H' v e' r' rv => gd F' ι' H' v (e1.trans e') r' rv⟩, fun z => by cases z⟩
      · exact gd.elim
end
end Ev
namespace Ev
open PySem PySem.Spec PyProof.Rows L2

/-! ### a text and its small tree, compared -/
structure Sg where
  N : List Str
  fns : List (Str × Nat)
  con : List (Str × Nat)
  free : List Str
  /-- the names of the exceptions' classes; of the class that is caught; of the def that tells an exception's classes -/
  exc : List (Str × Nat) := []
  hou : Str := ""
  kd : Str := ""
  /-- the classes that are made, by their names; the methods: class, name, def -/
  mak : List (Str × Nat) := []
  met : List ((Nat × Str) × Nat) := []
def glB (sc : Scope) (x : Str) : Bool := decide (sc.names.lookup x = some .globalImplicit) && !(x == ("__debug__" : Str))
def visB (sc : Scope) (x : Str) : Bool := match sc.names.lookup x with
  | some .local | some .cell | some .free => true
  | _ => false
def locB (sc : Scope) (x : Str) : Bool := match sc.names.lookup x with
  | some .local | some .cell => true
  | _ => false
def blB (sg : Sg) (sc : Scope) (x n : Str) : Bool := decide (x = n) && glB sc n && sg.free.contains n
def binO : Operator → Option O2
  | .Add => some .add | .Sub => some .sub | .Mult => some .mul | .FloorDiv => some .fdiv | .Mod => some .mod | .Pow => some .pow
  | _ => none
def cmpO : CmpOp → Option O2
  | .Eq => some .eq | .NotEq => some .ne | .Lt => some .lt | .LtE => some .le | .Gt => some .gt | .GtE => some .ge | .Is => some .is_ | .IsNot => some .isnt | .In => some .in_ | .NotIn => some .notin
def tyS : Ty → Str
  | .int => "int" | .bool => "bool" | .str => "str" | .tuple => "tuple" | .list => "list"
def testE : Expr → Bool
  | .IfExp .. => false
  | _ => true
abbrev Rc := Scope → Expr → E → Bool
def rawB : Option Scope → Str → Bool
  | none, _ => true
  | some r, x => r.names.lookup x == some .cell
section
variable (sg : Sg) (rec : Rc) (sc : Scope)
def ck2 (a b : E) (x y : Expr) : Bool := plainE x && plainE y && rec sc x a && rec sc y b
def ckT (a : E) (x : Expr) : Bool := testE x && rec sc x a
def ckL : List E → List Expr → Bool
  | [], [] => true
  | a :: as, x :: xs => plainE x && rec sc x a && ckL as xs
  | _, _ => false
def ckLit : D → Expr → Bool
  | .int i, .Constant (.int j) _ _ => decide (i = j)
  | .str x, .Constant (.str y) _ _ => decide (x = y) && okStr x
  | .bl b, .Constant (.bool c) _ _ => b == c
  | .non, .Constant .none _ _ => true
  | _, _ => false
def ckOp2 (o : O2) (a b : E) : Expr → Bool
  | .BinOp x p y _ => decide (binO p = some o) && ck2 rec sc a b x y
  | .Compare x [p] [y] _ => decide (cmpO p = some o) && ck2 rec sc a b x y
  | .Subscript x y _ => decide (o = .get) && ck2 rec sc a b x y
  | .Call (.Name f _) [x, y] [] _ => ((decide (o = .mn) && blB sg sc f "min") || (decide (o = .mx) && blB sg sc f "max")) && ck2 rec sc a b x y
  | _ => false
def o1Nm : O1 → Option Str
  | .len => some "len" | .tuple => some "tuple" | .sorted => some "sorted" | .int => some "int" | .str => some "str"
  | _ => none
def ckOp1 (o : O1) (a : E) : Expr → Bool
  | .UnaryOp .USub x _ => decide (o = .neg) && rec sc x a
  | .Call (.Name f _) [x] [] _ => (match o1Nm o with
    | some n => blB sg sc f n
    | none => false) && plainE x && rec sc x a
  | .Call (.Name f _) [x, .Name y _] [] _ => (match o with
    | .isi t => blB sg sc f "isinstance" && blB sg sc y (tyS t)
    | _ => false) && plainE x && rec sc x a
  | _ => false
def ckNot (a : E) : Expr → Bool
  | .UnaryOp .Not x _ => ckT rec sc a x
  | _ => false
def ckAnd (a b : E) : Expr → Bool
  | .BoolOp .And (x :: y :: r) p => ckT rec sc a x && rec sc (.BoolOp .And (y :: r) p) b
  | _ => false
def ckOr (a b : E) : Expr → Bool
  | .BoolOp .Or (x :: y :: r) p => ckT rec sc a x && rec sc (.BoolOp .Or (y :: r) p) b
  | _ => false
def ckIte (c a b : E) : Expr → Bool
  | .IfExp z x y _ => ckT rec sc c z && rec sc x a && rec sc y b
  | _ => false
def ckChn (o1 o2 : O2) (a b c : E) : Expr → Bool
  | .Compare x [p, q] [y, z] _ => decide (cmpO p = some o1) && decide (cmpO q = some o2) && rec sc x a && rec sc y b && plainE z && rec sc z c
  | _ => false
def ckTup (es : List E) : Expr → Bool
  | .Tuple xs _ _ => ckL rec sc es xs
  | _ => false
def ckLst (es : List E) : Expr → Bool
  | .List xs _ => ckL rec sc es xs
  | _ => false
def ckDic0 : Expr → Bool
  | .Dict [] [] _ => true
  | _ => false
def ckKs : List Str → List (Option Expr) → Bool
  | [], [] => true
  | k :: ks, some (.Constant (.str x) _ _) :: es => decide (k = x) && ckKs ks es
  | _, _ => false
def ckDic (ks : List Str) (es : List E) : Expr → Bool
  | .Dict keys values _ => decide (ks ≠ []) && decide (keys.length ≤ 15) && ckKs ks keys && ckL rec sc es values && decide (keys.length = values.length)
  | _ => false
def ckAdd (a b : E) : Expr → Bool
  | .BinOp x .Add y _ => rec sc x a && rec sc y b
  | _ => false
def ckMul (a b : E) : Expr → Bool
  | .BinOp x .Mult y _ => rec sc x a && rec sc y b
  | _ => false
def ckLof (a : E) : Expr → Bool
  | .Call (.Name f _) [x] [] _ => blB sg sc f "list" && plainE x && rec sc x a
  | _ => false
def ckLrg (a b : E) : Expr → Bool
  | .Call (.Name f _) [.Call (.Name g _) [x, y] [] _] [] _ => blB sg sc f "list" && blB sg sc g "range" && ck2 rec sc a b x y
  | .Call (.Name f _) [.Call (.Name g _) [y] [] _] [] _ => blB sg sc f "list" && blB sg sc g "range" && (match a with
    | .lit (.int i) => decide (i = 0)
    | _ => false) && plainE y && rec sc y b
  | _ => false
def ckCall (i : Nat) (es : List E) : Expr → Bool
  | .Call (.Name f _) (x :: xs) [] _ => glB sc f && decide (sg.fns.lookup f = some i) && ckL rec sc es (x :: xs)
  | _ => false
def ckMake (c : Nat) (es : List E) : Expr → Bool
  | .Call (.Name f _) (x :: xs) [] _ => glB sc f && decide (sg.mak.lookup f = some c) && ckL rec sc es (x :: xs)
  | _ => false
def ckMeth (c f : Nat) (m : Str) (o : E) (es : List E) : Expr → Bool
  | .Call (.Attribute y n apos) xs [] pos => decide (n = m) && (baseOk y && ((apos.endLine == pos.line) && (sg.met.contains ((c, m), f) && (decide (xs.length < 20) && (rec sc y o && ckL rec sc es xs)))))
  | _ => false
def ckAtt (a : E) (f : Str) : Expr → Bool
  | .Attribute y n _ => decide (n = f) && (baseOk y && rec sc y a)
  | _ => false
def ckSlf (a b : E) : Expr → Bool
  | .Subscript x (.Slice (some y) none none _) _ => rec sc x a && rec sc y b
  | _ => false
def ckSlt (a b : E) : Expr → Bool
  | .Subscript x (.Slice none (some y) none _) _ => rec sc x a && rec sc y b
  | _ => false
def ckRev (a : E) : Expr → Bool
  | .Subscript x (.Slice none none (some (.UnaryOp .USub (.Constant (.int i) _ _) _)) _) _ => decide (i = 1) && rec sc x a
  | _ => false
def ckM0 (m : Str) (a : E) : Expr → Bool
  | .Call (.Attribute o n apos) [] [] pos => decide (n = m) && baseOk o && (apos.endLine == pos.line) && rec sc o a
  | _ => false
def ckM1 (m : Str) (a b : E) : Expr → Bool
  | .Call (.Attribute o n apos) [x] [] pos => decide (n = m) && baseOk o && (apos.endLine == pos.line) && plainE x && rec sc o a && rec sc x b
  | _ => false
def ckTg (sc : Scope) (raw : Option Scope) : Tg → Expr → Bool
  | .nm i, .Name x _ => one i x
  | .pr i j, .Tuple [.Name x _, .Name y _] _ _ => one i x && one j y
  | _, _ => false
where one (i : Nat) (x : Str) : Bool := decide (sg.N[i]? = some x) && locB sc x && (rawB raw x || decide (sc.names.lookup x = some .local))
def ckI : IK → List E → Expr → Bool
  | .ex, [a], e => plainE e && rec sc e a
  | .rng1, [a], .Call (.Name f _) [x] [] _ => blB sg sc f "range" && plainE x && rec sc x a
  | .rng2, [a, b], .Call (.Name f _) [x, y] [] _ => blB sg sc f "range" && ck2 rec sc a b x y
  | .enm, [a], .Call (.Name f _) [x] [] _ => blB sg sc f "enumerate" && plainE x && rec sc x a
  | .zip, [a, b], .Call (.Name f _) [x, y] [] _ => blB sg sc f "zip" && ck2 rec sc a b x y
  | _, _, _ => false
def isTupE : Expr → Bool
  | .Tuple .. => true
  | _ => false
def ikT (ik : IK) (tg : Expr) : Bool := match ik with
  | .enm | .zip => isTupE tg
  | _ => true
def ckQ (sc : Scope) : List E → List Expr → Bool
  | [], [] => true
  | [a], [x] => ckT rec sc a x
  | _, _ => false
def ownOf (vs : List Nat) : List (Str × Nat) := vs.map fun i => (sg.N.getD i ("" : Str), i)
def ckCmp (elt : E) (vs : List Nat) (tg : Tg) (ik : IK) (its ifs : List E) : Expr → Bool
  | .ListComp x [⟨t, it, qs, 0⟩] scope _ => ckI sg rec sc ik its it && ikT ik t && plainE it && blkC sg.N sc scope (ownOf sg vs) && decide (tgIn tg vs) && ckTg sg (relS scope sc) (some scope) tg t && ckQ rec (relS scope sc) ifs qs && rec (relS scope sc) x elt
  | _ => false
def ckVar (i : Nat) : Expr → Bool
  | .Name x _ => decide (sg.N[i]? = some x) && visB sc x && !(x == ("__debug__" : Str)) && !(x == ("__classdict__" : Str))
  | _ => false
def ckCon (k : Nat) : Expr → Bool
  | .Name x _ => glB sc x && decide (sg.con.lookup x = some k)
  | _ => false
def ckE1 : E → Expr → Bool
  | .var i => ckVar sg sc i
  | .lit d => ckLit d
  | .con k => ckCon sg sc k
  | .op2 o a b => ckOp2 sg rec sc o a b
  | .op1 o a => ckOp1 sg rec sc o a
  | .not a => ckNot rec sc a
  | .and a b => ckAnd rec sc a b
  | .or a b => ckOr rec sc a b
  | .ite c a b => ckIte rec sc c a b
  | .chn o1 o2 a b c => ckChn rec sc o1 o2 a b c
  | .tup es => ckTup rec sc es
  | .lst _ es => ckLst rec sc es
  | .dic _ [] [] => ckDic0
  | .dic _ ks es => ckDic rec sc ks es
  | .add _ a b => ckAdd rec sc a b
  | .mul _ a b => ckMul rec sc a b
  | .lof _ a => ckLof sg rec sc a
  | .lrg _ a b => ckLrg sg rec sc a b
  | .call f es => ckCall sg rec sc f es
  | .make c es => ckMake sg rec sc c es
  | .meth c f m o es => ckMeth sg rec sc c f m o es
  | .att o f => ckAtt rec sc o f
  | .slf a b => ckSlf rec sc a b
  | .slt a b => ckSlt rec sc a b
  | .rev a => ckRev rec sc a
  | .cmp _ elt vs tg ik its ifs => ckCmp sg rec sc elt vs tg ik its ifs
  | .app o e => ckM1 rec sc "append" o e
  | .pop o => ckM0 rec sc "pop" o
  | .popAt o e => ckM1 rec sc "pop" o e
  | .idx o e => ckM1 rec sc "index" o e
  | .cnt o e => ckM1 rec sc "count" o e
  | .join o e => ckM1 rec sc "join" o e
  | .split o e => ckM1 rec sc "split" o e
  | .upp o => ckM0 rec sc "upper" o
  | _ => fun _ => false
end
def ckE (sg : Sg) : Nat → Rc
  | 0 => fun _ _ _ => false
  | n + 1 => fun sc e E => match e with
    | .BoolOp _ [x] _ => testE x && ckE sg n sc x E
    | e => ckE1 sg (ckE sg n) sc E e

/-! ### what is known around a def -/
structure GOk (cA xA : Nat → Addr) (P : Par) (sg : Sg) (k : Nat) (prog : Program) (w : World) (K : PySem.W.Frag) (mg : Str → Option Value) (base : Heap) : Prop where
  fn : ∀ x i, sg.fns.lookup x = some i → ∃ fa fd ps, FnOk prog w K mg base (L2N.CX prog w) k fa fd ps (spF cA xA K (P.cf i)) ∧ mg x = some (.ref fa) ∧ PySem.W.keepIn K (.ref fa) = true ∧ Binds K fd ps []
  con : ∀ x i, sg.con.lookup x = some i → ∃ v u, mg x = some u ∧ RelV v u ∧ ∀ d, P.con i = some d → ∀ F ι, Rep K F ι v d
  free : ∀ x, sg.free.contains x = true → mg x = none
  exc : ∀ x c, sg.exc.lookup x = some c → ExcK K (xA c) ∧ mg x = some (.ref (xA c))
  hou : sg.hou ≠ "" → ∃ hA, mg sg.hou = some (.ref hA) ∧ ∀ c, c < 8 → PySem.W.exmOne K (.ref (xA c)) (.ref hA) = some true
  kd : sg.kd ≠ "" → ∃ fa fd ps, FnK cA xA prog w K mg base (L2N.CX prog w) k fa fd ps ∧ mg sg.kd = some (.ref fa) ∧ PySem.W.keepIn K (.ref fa) = true ∧ Binds K fd ps []
  atr : AtrOk cA K P.atr
  mak : ∀ x c, sg.mak.lookup x = some c → ∃ f fa fd ps, P.ini c = some f ∧ FnOk prog w K mg base (L2N.CX prog w) k fa fd ps (spF cA xA K (P.cf f)) ∧ Mk K (cA c) fa ∧ mg x = some (.ref (cA c)) ∧ Binds K fd ps []
  met : ∀ c m f, sg.met.contains ((c, m), f) = true → ∃ fa fd ps, FnOk prog w K mg base (L2N.CX prog w) k fa fd ps (spF cA xA K (P.cf f)) ∧ Cls K (cA c) ∧ Meth K (cA c) m fa ∧ Binds K fd ps []
structure Cz (cA xA : Nat → Addr) (P : Par) (sg : Sg) (k : Nat) (X : Cx) (W : WX) (sc : Scope) : Prop where
  calm : X.calm = true
  N : X.N = sg.N
  nd : sg.N.Nodup
  sc : X.env.scope = sc
  tk : L2N.Takes X W
  room : Room (k + 1) X.A
  glob : GOk cA xA P sg k X.prog X.w X.K X.mg X.base
section
variable {cA xA : Nat → Addr} {P : Par} {sg : Sg} {k : Nat} {X : Cx} {W : WX} {sc : Scope} {x n : Str}
theorem Cz.nodup (c : Cz cA xA P sg k X W sc) : X.N.Nodup := by rw [c.N]; exact c.nd
theorem Cz.gl (c : Cz cA xA P sg k X W sc) (h : glB sc x = true) : Gl X x ∧ (x == ("__debug__" : Str)) = false := by
  unfold glB at h
  rw [Bool.and_eq_true, decide_eq_true_eq, Bool.not_eq_true'] at h
  refine ⟨?_, h.2⟩
  show X.env.kindOf x = _
  unfold PySem.Env.kindOf
  rw [c.sc]
  exact h.1
theorem Cz.bl (c : Cz cA xA P sg k X W sc) (h : blB sg sc x n = true) : x = n ∧ Gl X n ∧ X.mg n = none := by
  unfold blB at h
  rw [Bool.and_eq_true, Bool.and_eq_true, decide_eq_true_eq] at h
  exact ⟨h.1.1, (c.gl h.1.2).1, c.glob.free _ h.2⟩
theorem Cz.hu (c : Cz cA xA P sg k X W sc) : X.A.units + 65 < cLine := by have := c.room.un; omega
theorem Cz.vis (c : Cz cA xA P sg k X W sc) (h : visB sc x = true) : Vis X.env.scope x := by
  unfold visB at h
  rw [c.sc]
  unfold Vis
  split at h
  · rename_i e; exact .inl e
  · rename_i e; exact .inr (.inl e)
  · rename_i e; exact .inr (.inr e)
  · cases h
theorem Cz.loc (c : Cz cA xA P sg k X W sc) (h : locB sc x = true) : L2.Loc X.env.scope x := by
  unfold locB at h
  rw [c.sc]
  unfold L2.Loc
  split at h
  · rename_i e; exact .inl e
  · rename_i e; exact .inr e
  · cases h
theorem Cz.blk (c : Cz cA xA P sg k X W sc) (s : Shared) (H : Hp) (scope : Scope) (C : Addr) (cl : List (Str × Addr)) (fp : List Addr) :
    Cz cA xA P sg k (X.blk s H scope (compEnvC scope cl C X.env) fp) nW (relS scope sc) where
  calm := c.calm
  N := c.N
  nd := c.nd
  sc := by rw [← c.sc]; rfl
  tk := takes_no
  room := c.room
  glob := c.glob
end
def SndE (cA xA : Nat → Addr) (P : Par) (sg : Sg) (k : Nat) (sc : Scope) (e : Expr) (E : E) : Prop := ∀ X W, Cz cA xA P sg k X W sc → PE X e (TD cA xA X.K W (evE P E)) ∧ (testE e = true → PT X e (TDb cA xA X.K W (evE P E))) ∧
  (∀ op vs pos, e = .BoolOp op vs pos → PW X e (TDb cA xA X.K W (evE P E)))
def SndL (cA xA : Nat → Addr) (P : Par) (sg : Sg) (k : Nat) (sc : Scope) (es : List Expr) (Es : List E) : Prop := ∀ X W, Cz cA xA P sg k X W sc → PA X es (TDs cA xA X.K W (evEs P Es)) ∧ es.all plainE = true
theorem PE.eq {cA xA : Nat → Addr} {X : Cx} {W : WX} {e : Expr} {f g : Env → Store → R D} (h : PE X e (TD cA xA X.K W f)) (k : g = f) : PE X e (TD cA xA X.K W g) := by rw [k]; exact h
theorem PT.eq {cA xA : Nat → Addr} {X : Cx} {W : WX} {e : Expr} {f g : Env → Store → R D} (h : PT X e (TDb cA xA X.K W f)) (k : g = f) : PT X e (TDb cA xA X.K W g) := by rw [k]; exact h
def plainT (e : Expr) : Prop := (∀ (env : PySem.Env) whole, isTrue e env whole = (do let v ← whole; standAt e.pos; holding [v] (truthy v))) ∧ ∀ op vs pos, e ≠ .BoolOp op vs pos
theorem snd_of {cA xA : Nat → Addr} {P : Par} {sg : Sg} {k : Nat} {sc : Scope} {e : Expr} {E : E} (pt : plainT e) (h : ∀ X W, Cz cA xA P sg k X W sc → PE X e (TD cA xA X.K W (evE P E))) : SndE cA xA P sg k sc e E :=
  fun X W c => ⟨h X W c, fun _ => c_test (h X W c) (pt.1 X.env), fun op vs pos e => absurd e (pt.2 op vs pos)⟩
end Ev
namespace Ev
open PySem PySem.Spec PyProof.Rows L2

section
variable {cA xA : Nat → Addr} {P : Par} {sg : Sg} {k : Nat} {X : Cx} {W : WX} {rec : Rc} {sc : Scope} {e : Expr}
theorem binO_ok {p : Operator} {o : O2} (h : binO p = some o) : OpR X (binaryOp p) (rOp cA X.K fun S => op2 S o) := by
  cases p <;> simp only [binO, reduceCtorEq, Option.some.injEq] at h <;> subst h
  · exact ok_add
  · exact ok_sub
  · exact ok_mul
  · exact ok_mod
  · exact ok_pow
  · exact ok_fdiv
theorem cmpO_ok (hu : X.A.units + 65 < cLine) {p : CmpOp} {o : O2} (h : cmpO p = some o) : OpR X (compareOp p) (rOp cA X.K fun S => op2 S o) := by
  cases p <;> simp only [cmpO, reduceCtorEq, Option.some.injEq] at h <;> subst h
  · exact ok_eq (by omega)
  · exact ok_ne (by omega)
  · exact ok_lt
  · exact ok_le
  · exact ok_gt
  · exact ok_ge
  · exact ok_is
  · exact ok_isnt
  · exact ok_in hu
  · exact ok_notin hu
abbrev RecOk (cA xA : Nat → Addr) (P : Par) (sg : Sg) (k : Nat) (rec : Rc) : Prop := ∀ sc e E, rec sc e E = true → SndE cA xA P sg k sc e E
theorem ck2_ok {a b : E} {x y : Expr} (hr : RecOk cA xA P sg k rec) (h : ck2 rec sc a b x y = true) : plainE x = true ∧ plainE y = true ∧ SndE cA xA P sg k sc x a ∧ SndE cA xA P sg k sc y b := by
  unfold ck2 at h
  simp only [Bool.and_eq_true] at h
  exact ⟨h.1.1.1, h.1.1.2, hr _ _ _ h.1.2, hr _ _ _ h.2⟩
theorem ckT_ok {a : E} {x : Expr} (hr : RecOk cA xA P sg k rec) (h : ckT rec sc a x = true) : testE x = true ∧ SndE cA xA P sg k sc x a := by
  unfold ckT at h
  simp only [Bool.and_eq_true] at h
  exact ⟨h.1, hr _ _ _ h.2⟩
theorem ckL_ok (hr : RecOk cA xA P sg k rec) : ∀ {Es : List E} {es : List Expr}, ckL rec sc Es es = true → SndL cA xA P sg k sc es Es
  | [], [], _ => fun X W c => ⟨PA.weak c_nil fun σ H Q h => h, rfl⟩
  | [], _ :: _, h => by cases h
  | _ :: _, [], h => by cases h
  | a :: as, x :: xs, h => fun X W c => by
    unfold ckL at h
    simp only [Bool.and_eq_true] at h
    obtain ⟨⟨h1, h2⟩, h3⟩ := h
    obtain ⟨g1, g2⟩ := ckL_ok hr h3 X W c
    exact ⟨c_cons (hr _ _ _ h2 X W c).1 g1 (star_plain h1 _ _), by rw [List.all_cons, h1, g2]; rfl⟩
theorem ckVar_ok {i : Nat} (h : ckVar sg sc i e = true) : SndE cA xA P sg k sc e (.var i) := by
  unfold ckVar at h
  split at h
  · simp only [Bool.and_eq_true, decide_eq_true_eq, Bool.not_eq_true'] at h
    obtain ⟨⟨⟨h1, h2⟩, h3⟩, h4⟩ := h
    exact snd_of ⟨fun _ _ => rfl, fun _ _ _ z => by cases z⟩ fun X W c => c_var (by rw [c.N]; exact h1) (c.vis h2) h3 h4
  · cases h
theorem ckLit_ok {d : D} (h : ckLit d e = true) : SndE cA xA P sg k sc e (.lit d) := by
  unfold ckLit at h
  split at h
  · simp only [decide_eq_true_eq] at h
    subst h
    exact snd_of ⟨fun _ _ => rfl, fun _ _ _ z => by cases z⟩ fun X W c => c_val pe_int (fun σ H Q q => q) fun _ _ => .int _
  · simp only [Bool.and_eq_true, decide_eq_true_eq] at h
    obtain ⟨rfl, h2⟩ := h
    exact snd_of ⟨fun _ _ => rfl, fun _ _ _ z => by cases z⟩ fun X W c => c_val pe_str (fun σ H Q q => q) fun _ _ => .str _ h2
  · rename_i b c _ _
    have e : b = c := by simpa using h
    subst e
    exact snd_of ⟨fun _ _ => rfl, fun _ _ _ z => by cases z⟩ fun X W c => c_val pe_bl (fun σ H Q q => q) fun _ _ => .bl _
  · exact snd_of ⟨fun _ _ => rfl, fun _ _ _ z => by cases z⟩ fun X W c => c_val pe_non (fun σ H Q q => q) fun _ _ => .non
  · cases h
theorem c_con {K : PySem.W.Frag} {x : Str} {i : Nat} {p : Pos} {v : V} {u : Value} (hg : Gl X x ∧ (x == ("__debug__" : Str)) = false) (h1 : X.mg x = some u) (h2 : RelV v u) (h3 : ∀ d, P.con i = some d → ∀ F ι, Rep X.K F ι v d) :
    PE X (.Name x p) (TD cA xA X.K W fun _ S => ofO S (P.con i)) := PE.weak (pe_glob hg.1 h1 h2 hg.2) fun σ H Q ⟨F, ι, S, δ, r, sl, gd⟩ => by
  obtain ⟨d, e, q⟩ := good_ofO gd
  exact q F ι H (Ext.refl ..) r v (h3 d e F ι)
theorem ckCon_ok {i : Nat} (h : ckCon sg sc i e = true) : SndE cA xA P sg k sc e (.con i) := by
  unfold ckCon at h
  split at h
  · simp only [Bool.and_eq_true, decide_eq_true_eq] at h
    refine snd_of ⟨fun _ _ => rfl, fun _ _ _ z => by cases z⟩ fun X W c => ?_
    obtain ⟨v, u, h1, h2, h3⟩ := c.glob.con _ _ h.2
    exact c_con (K := X.K) (c.gl h.1) h1 h2 h3
  · cases h
theorem ckOp2_ok {o : O2} {a b : E} (hr : RecOk cA xA P sg k rec) (h : ckOp2 sg rec sc o a b e = true) : SndE cA xA P sg k sc e (.op2 o a b) := by
  unfold ckOp2 at h
  split at h
  · simp only [Bool.and_eq_true, decide_eq_true_eq] at h
    obtain ⟨pl, pl2, ha, hb⟩ := ck2_ok hr h.2
    exact snd_of ⟨fun _ _ => rfl, fun _ _ _ z => by cases z⟩ fun X W c => c_op2 (binO_ok h.1) (ha X W c).1 (hb X W c).1
  · simp only [Bool.and_eq_true, decide_eq_true_eq] at h
    obtain ⟨pl, pl2, ha, hb⟩ := ck2_ok hr h.2
    exact fun X W c => ⟨c_cmp (cmpO_ok c.hu h.1) (ha X W c).1 (hb X W c).1 (mark_plain pl2 _), fun _ => c_cmpT (cmpO_ok c.hu h.1) (ha X W c).1 (hb X W c).1 (mark_plain pl2 _), fun _ _ _ z => by cases z⟩
  · simp only [Bool.and_eq_true, decide_eq_true_eq] at h
    obtain ⟨pl, pl2, ha, hb⟩ := ck2_ok hr h.2
    obtain rfl := h.1
    exact snd_of ⟨fun _ _ => rfl, fun _ _ _ z => by cases z⟩ fun X W c => c_get (by have := c.hu; omega) (ha X W c).1 (hb X W c).1 (ix_plain pl2)
  · simp only [Bool.and_eq_true, decide_eq_true_eq, Bool.or_eq_true] at h
    obtain ⟨pl, pl2, ha, hb⟩ := ck2_ok hr h.2
    refine snd_of ⟨fun _ _ => rfl, fun _ _ _ z => by cases z⟩ fun X W c => ?_
    rcases h.1 with ⟨rfl, h1⟩ | ⟨rfl, h1⟩
    · obtain ⟨rfl, g1, g2⟩ := c.bl h1
      exact c_bf2 (ok_mn c.calm) g1 g2 (by decide +kernel) (by decide) (by decide) pl pl2 (ha X W c).1 (hb X W c).1
    · obtain ⟨rfl, g1, g2⟩ := c.bl h1
      exact c_bf2 (ok_mx c.calm) g1 g2 (by decide +kernel) (by decide) (by decide) pl pl2 (ha X W c).1 (hb X W c).1
  · cases h
theorem ckOp1_ok {o : O1} {a : E} (hr : RecOk cA xA P sg k rec) (h : ckOp1 sg rec sc o a e = true) : SndE cA xA P sg k sc e (.op1 o a) := by
  unfold ckOp1 at h
  split at h
  · simp only [Bool.and_eq_true, decide_eq_true_eq] at h
    obtain ⟨rfl, h2⟩ := h
    exact snd_of ⟨fun _ _ => rfl, fun _ _ _ z => by cases z⟩ fun X W c => c_neg (hr _ _ _ h2 X W c).1
  · simp only [Bool.and_eq_true] at h
    obtain ⟨⟨h1, pl⟩, h2⟩ := h
    refine snd_of ⟨fun _ _ => rfl, fun _ _ _ z => by cases z⟩ fun X W c => ?_
    cases o <;> simp only [o1Nm, Bool.false_eq_true] at h1
    · obtain ⟨rfl, g1, g2⟩ := c.bl h1
      exact c_bf ok_len g1 g2 (by decide +kernel) (by decide) (by decide) pl (hr _ _ _ h2 X W c).1
    · obtain ⟨rfl, g1, g2⟩ := c.bl h1
      exact c_bt ok_tuple g1 g2 (by decide +kernel) (by decide) (by decide) pl (hr _ _ _ h2 X W c).1
    · obtain ⟨rfl, g1, g2⟩ := c.bl h1
      exact c_bf ok_sorted g1 g2 (by decide +kernel) (by decide) (by decide) pl (hr _ _ _ h2 X W c).1
    · obtain ⟨rfl, g1, g2⟩ := c.bl h1
      exact c_bt ok_int1 g1 g2 (by decide +kernel) (by decide) (by decide) pl (hr _ _ _ h2 X W c).1
    · obtain ⟨rfl, g1, g2⟩ := c.bl h1
      exact c_bt ok_str g1 g2 (by decide +kernel) (by decide) (by decide) pl (hr _ _ _ h2 X W c).1
  · simp only [Bool.and_eq_true] at h
    obtain ⟨⟨h1, pl⟩, h2⟩ := h
    refine snd_of ⟨fun _ _ => rfl, fun _ _ _ z => by cases z⟩ fun X W c => ?_
    cases o <;> simp only [Bool.false_eq_true] at h1
    rename_i t
    simp only [Bool.and_eq_true] at h1
    obtain ⟨rfl, g1, g2⟩ := c.bl h1.1
    obtain ⟨rfl, g3, g4⟩ := c.bl h1.2
    exact c_isi g1 g2 g3 g4 (by cases t <;> decide +kernel) (by cases t <;> decide) (by cases t <;> decide) pl (hr _ _ _ h2 X W c).1
  · cases h
theorem ckNot_ok {a : E} (hr : RecOk cA xA P sg k rec) (h : ckNot rec sc a e = true) : SndE cA xA P sg k sc e (.not a) := by
  unfold ckNot at h
  split at h
  · obtain ⟨ht, ha⟩ := ckT_ok hr h
    exact fun X W c => ⟨c_not (ha X W c).1, fun _ => c_notT ((ha X W c).2.1 ht), fun _ _ _ z => by cases z⟩
  · cases h
theorem ckAnd_ok {a b : E} (hr : RecOk cA xA P sg k rec) (h : ckAnd rec sc a b e = true) : SndE cA xA P sg k sc e (.and a b) := by
  unfold ckAnd at h
  split at h
  · simp only [Bool.and_eq_true] at h
    obtain ⟨ht, ha⟩ := ckT_ok hr h.1
    have hb := hr _ _ _ h.2
    refine fun X W c => ⟨c_and (ha X W c).1 (hb X W c).1, fun _ => (c_andT ((ha X W c).2.1 ht) ((hb X W c).2.2 _ _ _ rfl)).pt, fun _ _ _ z => ?_⟩
    exact c_andT ((ha X W c).2.1 ht) ((hb X W c).2.2 _ _ _ rfl)
  · cases h
theorem ckOr_ok {a b : E} (hr : RecOk cA xA P sg k rec) (h : ckOr rec sc a b e = true) : SndE cA xA P sg k sc e (.or a b) := by
  unfold ckOr at h
  split at h
  · simp only [Bool.and_eq_true] at h
    obtain ⟨ht, ha⟩ := ckT_ok hr h.1
    have hb := hr _ _ _ h.2
    refine fun X W c => ⟨c_or (ha X W c).1 (hb X W c).1, fun _ => (c_orT ((ha X W c).2.1 ht) ((hb X W c).2.2 _ _ _ rfl)).pt, fun _ _ _ z => ?_⟩
    exact c_orT ((ha X W c).2.1 ht) ((hb X W c).2.2 _ _ _ rfl)
  · cases h
theorem ckIte_ok {z a b : E} (hr : RecOk cA xA P sg k rec) (h : ckIte rec sc z a b e = true) : SndE cA xA P sg k sc e (.ite z a b) := by
  unfold ckIte at h
  split at h
  · simp only [Bool.and_eq_true] at h
    obtain ⟨ht, hz⟩ := ckT_ok hr h.1.1
    exact fun X W c => ⟨c_ite ((hz X W c).2.1 ht) (hr _ _ _ h.1.2 X W c).1 (hr _ _ _ h.2 X W c).1, fun z => (by cases z), fun _ _ _ z => by cases z⟩
  · cases h
theorem c_chnT {a b c : Expr} {f g h : Env → Store → R D} {pos : Pos} {o o' : CmpOp} {o1 o2 : O2} (k : PT X (.Compare a [o, o'] [b, c] pos) (tTest (tChain (rOp cA X.K fun S => op2 S o1) (rOp cA X.K fun S => op2 S o2) (TD cA xA X.K W f) (TD cA xA X.K W g) (TD cA xA X.K W h)))) :
    PT X (.Compare a [o, o'] [b, c] pos) (TDb cA xA X.K W (evChn o1 o2 f g h)) :=
  PT.weak k fun σ H Q ⟨F, ι, S, δ, r, sl, gd⟩ => ⟨F, ι, S, δ, r, sl, gd.bind.mono fun F1 ι1 H1 d1 S1 e1 r1 g1 v1 rv1 =>
    ⟨F1, ι1, S1, δ, r1, sl.ext e1, g1.bind.mono fun F2 ι2 H2 d2 S2 e2 r2 g2 v2 rv2 => by
      cases hq : cmp2 S2 o1 d1 d2 with
      | none => rw [hq] at g2; exact g2.elim
      | some b =>
        rw [hq] at g2
        refine ⟨F2, ι2, S2, d1, d2, _, r2, rv1.ext e2, rv2, cmp2_some hq, fun F3 H3 w e3 r3 rw3 => ⟨b, bl_of rw3, ?_⟩⟩
        cases b with
        | false =>
          obtain ⟨b, eb, q⟩ := (g2.ext e3) _ _ _ (Ext.refl ..) r3
          cases eb
          exact ⟨_, rfl, q⟩
        | true => exact ⟨F3, ι2, S2, δ, r3, (sl.ext (e1.trans e2)).ext e3, (g2.ext e3).bind.mono fun F4 ι4 H4 d4 S4 e4 r4 g4 v4 rv4 => chn_end (xA := xA) r4 ((rv2.ext e3).ext e4) rv4 (g4.mono fun F5 ι5 H5 d5 S5 e5 r5 ⟨b, eb, q⟩ v5 rv5 => by
            subst eb
            exact ⟨b, bl_of rv5, q⟩)⟩⟩⟩
theorem ckChn_ok {o1 o2 : O2} {a b z : E} (hr : RecOk cA xA P sg k rec) (h : ckChn rec sc o1 o2 a b z e = true) : SndE cA xA P sg k sc e (.chn o1 o2 a b z) := by
  unfold ckChn at h
  split at h
  · simp only [Bool.and_eq_true, decide_eq_true_eq] at h
    obtain ⟨⟨⟨⟨⟨h1, h2⟩, ha⟩, hb⟩, pl⟩, hz⟩ := h
    have hm : ∀ {y z : Expr} {p q : CmpOp}, plainE z = true → lastMarks [p, q] [y, z] = false := fun pl => mark_plain pl _
    exact fun X W c => ⟨c_chn (cmpO_ok c.hu h1) (cmpO_ok c.hu h2) (hr _ _ _ ha X W c).1 (hr _ _ _ hb X W c).1 (hr _ _ _ hz X W c).1 (hm pl)
        (pe_chain (cmpO_ok c.hu h1) (cmpO_ok c.hu h2) (hr _ _ _ ha X W c).1 (hr _ _ _ hb X W c).1 (hr _ _ _ hz X W c).1 (hm pl)),
      fun _ => c_chnT (pt_chain (cmpO_ok c.hu h1) (cmpO_ok c.hu h2) (hr _ _ _ ha X W c).1 (hr _ _ _ hb X W c).1 (hr _ _ _ hz X W c).1 (hm pl)), fun _ _ _ z => by cases z⟩
  · cases h
theorem ckTup_ok {es : List E} (hr : RecOk cA xA P sg k rec) (h : ckTup rec sc es e = true) : SndE cA xA P sg k sc e (.tup es) := by
  unfold ckTup at h
  split at h
  · exact snd_of ⟨fun _ _ => rfl, fun _ _ _ z => by cases z⟩ fun X W c => c_tup (ckL_ok hr h X W c).1
  · cases h
theorem ckLst_ok {m : Bool} {es : List E} (hr : RecOk cA xA P sg k rec) (h : ckLst rec sc es e = true) : SndE cA xA P sg k sc e (.lst m es) := by
  unfold ckLst at h
  split at h
  · exact snd_of ⟨fun _ _ => rfl, fun _ _ _ z => by cases z⟩ fun X W c => c_lst (ckL_ok hr h X W c).1
  · cases h
theorem newD_end {K : PySem.W.Frag} {Wx : W0} {F H : Hp} {ι : List Addr} {S : Store} {m : Bool} {p : Addr} {Q : VK} (r : Rel cA K F ι S H) (hp : H p = none)
    (h : Good cA xA K Wx F ι (newD m [] [] S) fun F' ι' H' d _ => ∀ v, Rep K F' ι' v d → Q v H') : Q (.ref p) (upd H p (.dK [])) := by
  cases m with
  | false =>
    have e := Ext.fresh (F := F) (ι := ι) (r.freeF hp) (.dK [])
    exact h _ _ _ e (r.fresh hp _) _ (.dic upd_same rfl .nil)
  | true =>
    refine h _ _ _ (Ext.more F ι [p]) (r.place hp (.dic []) ⟨[], rfl, .nil⟩) _ (.loc ?_)
    rw [← r.len]
    simp
theorem ckDic0_ok {m : Bool} (h : ckDic0 e = true) : SndE cA xA P sg k sc e (.dic m [] []) := by
  unfold ckDic0 at h
  split at h
  · refine snd_of ⟨fun _ _ => rfl, fun _ _ _ z => by cases z⟩ fun X W c => PE.weak pe_dnewK fun σ H Q ⟨F, ι, S, δ, r, sl, gd⟩ p hp => ?_
    exact newD_end (m := m) (xA := xA) r hp (by simpa only [evE, if_pos] using gd)
  · cases h
theorem pairs_ok (hr : RecOk cA xA P sg k rec) {X : Cx} {W : WX} (c : Cz cA xA P sg k X W sc) (pos : Pos) : ∀ {ks : List Str} {keys : List (Option Expr)} {es : List E} {values : List Expr}, ckKs ks keys = true → ckL rec sc es values = true → keys.length = values.length →
    ∃ trs, PPs X pos keys values trs ∧ PairsOk cA xA X.K W trs ks (evEs P es)
  | [], [], [], [], _, _, _ => ⟨[], pps_nil, fun σ H Q ⟨F, ι, S, δ, r, sl, gd⟩ => gd F ι H (Ext.refl ..) r [] .nil rfl⟩
  | [], [], [], _ :: _, _, _, h => by cases h
  | [], [], _ :: _, [], _, h, _ => by cases h
  | [], [], _ :: _, _ :: _, _, _, h => by cases h
  | [], _ :: _, _, _, h, _, _ => by cases h
  | _ :: _, [], _, _, h, _, _ => by cases h
  | _ :: _, _ :: _, _, [], _, _, h => by cases h
  | _ :: _, _ :: _, [], _ :: _, _, h, _ => by cases h
  | k1 :: ks, key :: keys, a :: as, x :: xs, h1, h2, h3 => by
    unfold ckKs at h1
    split at h1
    · exact absurd ‹k1 :: ks = []› (by simp)
    · rename_i e1 e2
      cases e1
      cases e2
      simp only [Bool.and_eq_true, decide_eq_true_eq] at h1
      obtain ⟨rfl, h1⟩ := h1
      unfold ckL at h2
      simp only [Bool.and_eq_true] at h2
      obtain ⟨⟨_, ha⟩, h2⟩ := h2
      obtain ⟨trs, hp, hq⟩ := pairs_ok hr c pos h1 h2 (by simpa using h3)
      refine ⟨_, pps_cons pe_str (hr _ _ _ ha X W c).1 hp, fun σ H Q ⟨F, ι, S, δ, r, sl, gd⟩ => ?_⟩
      refine ⟨F, ι, S, δ, r, sl, ?_⟩
      have gd : Good cA xA X.K (fun c d H => W c d σ H) F ι ((evE P a δ S).bind fun d S => (evEs P as δ S).bind fun ds S => .ok (d :: ds) S) _ := gd
      refine gd.bind.mono fun F1 ι1 H1 d S1 e1 r1 g1 v rv => hq σ H1 _ ⟨F1, ι1, S1, δ, r1, sl.ext e1, g1.bind.mono fun F2 ι2 H2 ds S2 e2 r2 g2 vs rvs hl => ?_⟩
      exact g2 F2 ι2 H2 (Ext.refl ..) r2 (v :: vs) (.cons (rv.ext e2) rvs) (by simp [hl])
    · cases h1
theorem ckDic_ok {m : Bool} {ks : List Str} {es : List E} (hr : RecOk cA xA P sg k rec) (h : ckDic rec sc ks es e = true) : SndE cA xA P sg k sc e (.dic m ks es) := by
  unfold ckDic at h
  split at h
  · simp only [Bool.and_eq_true, decide_eq_true_eq] at h
    obtain ⟨⟨⟨⟨h1, h2⟩, h3⟩, h4⟩, h5⟩ := h
    refine snd_of ⟨fun _ _ => rfl, fun _ _ _ z => by cases z⟩ fun X W c => ?_
    obtain ⟨trs, hp, hq⟩ := pairs_ok hr c _ h3 h4 h5
    have hall : ∀ {ks : List Str} {keys : List (Option Expr)}, ckKs ks keys = true → keys.all (·.isSome) = true ∧ keys.length = ks.length := by
      intro ks
      induction ks with
      | nil => intro keys h; cases keys <;> first | exact ⟨rfl, rfl⟩ | cases h
      | cons k ks ih =>
        intro keys h
        unfold ckKs at h
        split at h
        · exact absurd ‹k :: ks = []› (by simp)
        · rename_i e1
          cases e1
          simp only [Bool.and_eq_true] at h
          obtain ⟨g1, g2⟩ := ih h.2
          exact ⟨by simpa using g1, by simp [g2]⟩
        · cases h
    obtain ⟨g1, g2⟩ := hall h3
    refine PE.eq (c_dic (m := m) hp g1 h5 (fun z => ?_) h2 hq) ?_
    · rw [z] at g2
      exact h1 (List.length_eq_zero_iff.mp g2.symm)
    · funext δ S
      show (if ks = [] then _ else _) = _
      rw [if_neg h1]
      rfl
  · cases h
theorem ckAdd_ok {m : Bool} {a b : E} (hr : RecOk cA xA P sg k rec) (h : ckAdd rec sc a b e = true) : SndE cA xA P sg k sc e (.add m a b) := by
  unfold ckAdd at h
  split at h
  · simp only [Bool.and_eq_true] at h
    exact snd_of ⟨fun _ _ => rfl, fun _ _ _ z => by cases z⟩ fun X W c => c_addL (hr _ _ _ h.1 X W c).1 (hr _ _ _ h.2 X W c).1
  · cases h
theorem ckMul_ok {m : Bool} {a b : E} (hr : RecOk cA xA P sg k rec) (h : ckMul rec sc a b e = true) : SndE cA xA P sg k sc e (.mul m a b) := by
  unfold ckMul at h
  split at h
  · simp only [Bool.and_eq_true] at h
    exact snd_of ⟨fun _ _ => rfl, fun _ _ _ z => by cases z⟩ fun X W c => c_mulL (hr _ _ _ h.1 X W c).1 (hr _ _ _ h.2 X W c).1
  · cases h
theorem ckLof_ok {m : Bool} {a : E} (hr : RecOk cA xA P sg k rec) (h : ckLof sg rec sc a e = true) : SndE cA xA P sg k sc e (.lof m a) := by
  unfold ckLof at h
  split at h
  · simp only [Bool.and_eq_true] at h
    refine snd_of ⟨fun _ _ => rfl, fun _ _ _ z => by cases z⟩ fun X W c => ?_
    obtain ⟨rfl, g1, g2⟩ := c.bl h.1.1
    exact c_lof g1 g2 h.1.2 (hr _ _ _ h.2 X W c).1
  · cases h
theorem ckLrg_ok {m : Bool} {a b : E} (hr : RecOk cA xA P sg k rec) (h : ckLrg sg rec sc a b e = true) : SndE cA xA P sg k sc e (.lrg m a b) := by
  unfold ckLrg at h
  split at h
  · simp only [Bool.and_eq_true] at h
    obtain ⟨pl, pl2, ha, hb⟩ := ck2_ok hr h.2
    refine snd_of ⟨fun _ _ => rfl, fun _ _ _ z => by cases z⟩ fun X W c => ?_
    obtain ⟨rfl, g1, g2⟩ := c.bl h.1.1
    obtain ⟨rfl, g3, g4⟩ := c.bl h.1.2
    exact c_lrg2 c.calm g1 g2 g3 g4 pl pl2 (ha X W c).1 (hb X W c).1
  · simp only [Bool.and_eq_true] at h
    obtain ⟨⟨⟨⟨h1, h2⟩, h3⟩, pl⟩, hb⟩ := h
    split at h3
    · simp only [decide_eq_true_eq] at h3
      subst h3
      refine snd_of ⟨fun _ _ => rfl, fun _ _ _ z => by cases z⟩ fun X W c => ?_
      obtain ⟨rfl, g1, g2⟩ := c.bl h1
      obtain ⟨rfl, g3, g4⟩ := c.bl h2
      exact c_lrg1 c.calm g1 g2 g3 g4 pl (hr _ _ _ hb X W c).1
    · cases h3
  · cases h
theorem ckCall_ok {i : Nat} {es : List E} (hr : RecOk cA xA P sg k rec) (h : ckCall sg rec sc i es e = true) : SndE cA xA P sg k sc e (.call i es) := by
  unfold ckCall at h
  split at h
  · simp only [Bool.and_eq_true, decide_eq_true_eq] at h
    refine snd_of ⟨fun _ _ => rfl, fun _ _ _ z => by cases z⟩ fun X W c => ?_
    obtain ⟨fa, fd, ps, h1, h2, h3, h4⟩ := c.glob.fn _ _ h.1.2
    obtain ⟨g1, g2⟩ := ckL_ok hr h.2 X W c
    rw [List.all_cons, Bool.and_eq_true] at g2
    obtain ⟨g3, g4⟩ := c.gl h.1.1
    exact c_call h1 (c.room.mono (Nat.le_succ _)) c.tk g3 h2 h3 h4 g4 g2.1 g2.2 g1
  · cases h
theorem ckSlf_ok {a b : E} (hr : RecOk cA xA P sg k rec) (h : ckSlf rec sc a b e = true) : SndE cA xA P sg k sc e (.slf a b) := by
  unfold ckSlf at h
  split at h
  · simp only [Bool.and_eq_true] at h
    exact snd_of ⟨fun _ _ => rfl, fun _ _ _ z => by cases z⟩ fun X W c => c_slf (hr _ _ _ h.1 X W c).1 (hr _ _ _ h.2 X W c).1
  · cases h
theorem ckSlt_ok {a b : E} (hr : RecOk cA xA P sg k rec) (h : ckSlt rec sc a b e = true) : SndE cA xA P sg k sc e (.slt a b) := by
  unfold ckSlt at h
  split at h
  · simp only [Bool.and_eq_true] at h
    exact snd_of ⟨fun _ _ => rfl, fun _ _ _ z => by cases z⟩ fun X W c => c_slt (hr _ _ _ h.1 X W c).1 (hr _ _ _ h.2 X W c).1
  · cases h
theorem ckRev_ok {a : E} (hr : RecOk cA xA P sg k rec) (h : ckRev rec sc a e = true) : SndE cA xA P sg k sc e (.rev a) := by
  unfold ckRev at h
  split at h
  · simp only [Bool.and_eq_true, decide_eq_true_eq] at h
    obtain ⟨rfl, h⟩ := h
    exact snd_of ⟨fun _ _ => rfl, fun _ _ _ z => by cases z⟩ fun X W c => PE.eq (c_rev (hr _ _ _ h X W c).1) (by funext δ S; rfl)
  · cases h
end
end Ev
namespace Ev
open PySem PySem.Spec PyProof.Rows L2

section
variable {cA xA : Nat → Addr} {P : Par} {sg : Sg} {k : Nat} {X : Cx} {W : WX} {rec : Rc} {sc : Scope} {e : Expr}
theorem ckM0_ok {m : Str} {a : E} {B : E} (hr : RecOk cA xA P sg k rec)
    (hx : ∀ X W o apos pos, baseOk o = true → (apos.endLine == pos.line) = true → PE X o (TD cA xA X.K W (evE P a)) → PE X (.Call (.Attribute o m apos) [] [] pos) (TD cA xA X.K W (evE P B))) (h : ckM0 rec sc m a e = true) : SndE cA xA P sg k sc e B := by
  unfold ckM0 at h
  split at h
  · simp only [Bool.and_eq_true, decide_eq_true_eq] at h
    obtain ⟨⟨⟨rfl, bo⟩, hl⟩, ha⟩ := h
    exact snd_of ⟨fun _ _ => rfl, fun _ _ _ z => by cases z⟩ fun X W c => hx X W _ _ _ bo hl (hr _ _ _ ha X W c).1
  · cases h
theorem ckM1_ok {m : Str} {a b : E} {B : E} (hr : RecOk cA xA P sg k rec)
    (hx : ∀ X W o x apos pos, X.A.units + 65 < cLine → plainE x = true → baseOk o = true → (apos.endLine == pos.line) = true → PE X o (TD cA xA X.K W (evE P a)) → PE X x (TD cA xA X.K W (evE P b)) → PE X (.Call (.Attribute o m apos) [x] [] pos) (TD cA xA X.K W (evE P B)))
    (h : ckM1 rec sc m a b e = true) : SndE cA xA P sg k sc e B := by
  unfold ckM1 at h
  split at h
  · simp only [Bool.and_eq_true, decide_eq_true_eq] at h
    obtain ⟨⟨⟨⟨⟨rfl, bo⟩, hl⟩, pl⟩, ha⟩, hb⟩ := h
    exact snd_of ⟨fun _ _ => rfl, fun _ _ _ z => by cases z⟩ fun X W c => hx X W _ _ _ _ c.hu pl bo hl (hr _ _ _ ha X W c).1 (hr _ _ _ hb X W c).1
  · cases h
theorem ckTg_ok {raw : Option Scope} {tg : Tg} {t : Expr} (c : Cz cA xA P sg k X W sc) (hf : ∀ x, rawB raw x = true → X.fn x = true) (h : ckTg sg sc raw tg t = true) : PGd X t tg := by
  have one : ∀ {i x}, ckTg.one sg sc raw i x = true → X.N[i]? = some x ∧ L2.Loc X.env.scope x ∧ (X.fn x = true ∨ X.env.scope.names.lookup x = some .local) := by
    intro i x h
    unfold ckTg.one at h
    simp only [Bool.and_eq_true, decide_eq_true_eq, Bool.or_eq_true] at h
    refine ⟨by rw [c.N]; exact h.1.1, c.loc h.1.2, ?_⟩
    rcases h.2 with h | h
    · exact .inl (hf _ h)
    · exact .inr (by rw [c.sc]; exact h)
  unfold ckTg at h
  split at h
  · obtain ⟨h1, h2, h3⟩ := one h
    exact .nm h1 h2 h3
  · rw [Bool.and_eq_true] at h
    obtain ⟨h1, h2, h3⟩ := one h.1
    obtain ⟨g1, g2, g3⟩ := one h.2
    exact .pr h1 h2 h3 g1 g2 g3
  · cases h
theorem ckI_ok {ik : IK} {its : List E} {it t : Expr} (hr : RecOk cA xA P sg k rec) (c : Cz cA xA P sg k X W sc) (h : ckI sg rec sc ik its it = true) (ht : ikT ik t = true) : PI X t it (TDi cA xA X.K W ik (evEs P its)) := by
  unfold ckI at h
  split at h
  · simp only [Bool.and_eq_true] at h
    exact c_iex h.1 (hr _ _ _ h.2 X W c).1
  · simp only [Bool.and_eq_true] at h
    obtain ⟨rfl, g1, g2⟩ := c.bl h.1.1
    exact c_irng1 g1 g2 h.1.2 (hr _ _ _ h.2 X W c).1
  · simp only [Bool.and_eq_true] at h
    obtain ⟨rfl, g1, g2⟩ := c.bl h.1
    obtain ⟨pl, pl2, ha, hb⟩ := ck2_ok hr h.2
    exact c_irng2 g1 g2 pl pl2 (ha X W c).1 (hb X W c).1
  · simp only [Bool.and_eq_true] at h
    obtain ⟨rfl, g1, g2⟩ := c.bl h.1.1
    unfold ikT isTupE at ht
    dsimp only at ht
    split at ht
    · exact c_ienm g1 g2 h.1.2 (hr _ _ _ h.2 X W c).1
    · cases ht
  · simp only [Bool.and_eq_true] at h
    obtain ⟨rfl, g1, g2⟩ := c.bl h.1
    obtain ⟨pl, pl2, ha, hb⟩ := ck2_ok hr h.2
    unfold ikT isTupE at ht
    dsimp only at ht
    split at ht
    · exact c_izip g1 g2 pl pl2 (ha X W c).1 (hb X W c).1
    · cases ht
  · cases h
theorem ckQ_ok {ifs : List E} {qs : List Expr} (hr : RecOk cA xA P sg k rec) (c : Cz cA xA P sg k X nW sc) (h : ckQ rec sc ifs qs = true) : PTs X qs (TDq cA xA X.K nW (evIfs P ifs)) := by
  unfold ckQ at h
  split at h
  · exact q_nil
  · obtain ⟨ht, ha⟩ := ckT_ok hr h
    exact q_one ((ha X nW c).2.1 ht)
  · cases h
theorem own_snd (vs : List Nat) : (ownOf sg vs).map (·.2) = vs := by
  unfold ownOf
  rw [List.map_map]
  exact List.map_id' vs
theorem evCmp_is {m : Bool} {elt : E} {vs : List Nat} {tg : Tg} {ik : IK} {its ifs : List E} : evE P (.cmp m elt vs tg ik its ifs) = evCmp m ik tg vs (evEs P its) (evIfs P ifs) (evE P elt) := by
  funext δ S
  rfl
theorem raw_fn {s : Shared} {H : Hp} {scope : Scope} {cenv : PySem.Env} {fp : List Addr} : ∀ x, rawB (some scope) x = true → (X.blk s H scope cenv fp).fn x = true := fun x h => h
theorem ckCmp_ok {m : Bool} {elt : E} {vs : List Nat} {tg : Tg} {ik : IK} {its ifs : List E} (hr : RecOk cA xA P sg k rec) (h : ckCmp sg rec sc elt vs tg ik its ifs e = true) :
    SndE cA xA P sg k sc e (.cmp m elt vs tg ik its ifs) ∧ ∀ (X : Cx) (W : WX) (i : Nat) (y : Str) (py spos : Pos), Cz cA xA P sg k X W sc → X.env.scope.kind = .function → X.N[i]? = some y → X.env.scope.names.lookup y = some .local →
      swapsWith e (some (.Name y py)) spos.line X.env = pure true → PS X (.Assign [.Name y py] e spos) (TSd cA xA X.K W (sSet i (evE P (.cmp m elt vs tg ik its ifs)))) := by
  unfold ckCmp at h
  split at h
  · rename_i cpos
    simp only [Bool.and_eq_true, decide_eq_true_eq] at h
    obtain ⟨⟨⟨⟨⟨⟨⟨h1, h2⟩, h3⟩, h4⟩, h5⟩, h6⟩, h7⟩, h8⟩ := h
    refine ⟨snd_of ⟨fun _ _ => rfl, fun _ _ _ z => by cases z⟩ fun X W c => ?_, fun X W i y py spos c hk hi hy hsw => ?_⟩
    · have q := c_comp (pos := cpos) (m := m) (own := ownOf sg vs) c.calm c.nodup (ckI_ok hr c h1 h2) h3 (blkOk_by (by rw [c.N, c.sc]; exact h4)) (by rw [own_snd]; exact h5) (fun s H C cl fp => c_tg c.calm c.nodup (ckTg_ok (c.blk s H _ C cl fp) raw_fn h6))
        (fun s H C cl fp => ckQ_ok hr (c.blk s H _ C cl fp) h7) (fun s H C cl fp => (hr _ _ _ h8 _ _ (c.blk s H _ C cl fp)).1)
      rw [own_snd] at q
      exact PE.eq q evCmp_is
    · have q := c_setComp (pos := cpos) (m := m) (own := ownOf sg vs) c.calm c.nodup hi hy hsw (ckI_ok hr c h1 h2) h3 (blkOk_by (by rw [c.N, c.sc]; exact h4)) (by rw [own_snd]; exact h5) (fun s H C cl fp => c_tg c.calm c.nodup (ckTg_ok (c.blk s H _ C cl fp) raw_fn h6))
        (fun s H C cl fp => ckQ_ok hr (c.blk s H _ C cl fp) h7) (fun s H C cl fp => (hr _ _ _ h8 _ _ (c.blk s H _ C cl fp)).1)
      rw [own_snd] at q
      rw [evCmp_is]
      exact PS.weak q fun D σ H h => asg_end h
  · cases h
theorem ckMake_ok {i : Nat} {es : List E} (hr : RecOk cA xA P sg k rec) (h : ckMake sg rec sc i es e = true) : SndE cA xA P sg k sc e (.make i es) := by
  unfold ckMake at h
  split at h
  · simp only [Bool.and_eq_true, decide_eq_true_eq] at h
    refine snd_of ⟨fun _ _ => rfl, fun _ _ _ z => by cases z⟩ fun X W c => ?_
    obtain ⟨fi, fa, fd, ps, h0, h1, h2, h3, h4⟩ := c.glob.mak _ _ h.1.2
    obtain ⟨g1, g2⟩ := ckL_ok hr h.2 X W c
    rw [List.all_cons, Bool.and_eq_true] at g2
    obtain ⟨g3, g4⟩ := c.gl h.1.1
    refine PE.eq (c_make rfl h2 h1 c.room c.tk g3 h3 h4 g4 g2.1 g2.2 g1) ?_
    funext δ S
    unfold evMake
    show evE P (.make i es) δ S = _
    conv => lhs; unfold evE
    first
      | (rw [h0]; done)
      | (rw [h0]
         refine congrArg (R.bind (evEs P es δ S)) ?_
         funext ds S
         refine congrArg (R.bind _) ?_
         funext r S'
         cases r <;> rfl)
  · cases h
theorem meth_eq {o : Expr} {m : Str} {apos pos : Pos} {args : List Expr} {env : PySem.Env} (bo : baseOk o = true) (hl : (apos.endLine == pos.line) = true) (pl : args.all plainE = true) (few : args.length < 20) :
    eval (.Call (.Attribute o m apos) args [] pos) env = (do
      let ov ← eval o env
      standAt apos.atName
      let (f, first) ← holding [ov] (getMethod ov m (do return (← importBound o env).getD true))
      callWith pos f first (backTo pos (starEach args env)) (backToKw pos (keywordEach [] env))) := by
  have hform : methodCallForm (args.length + ([] : List Keyword).length) (backTo pos (starEach args env)) (backToKw pos (keywordEach [] env)) = true := by
    unfold methodCallForm
    have h1 : (backTo pos (starEach args env)).all (fun x => !x.1) = true := by
      have := star_none pl pos env
      rw [← Bool.not_eq_true, List.any_eq_true] at this
      rw [List.all_eq_true]
      intro x hx
      cases hb : x.1
      · rfl
      · exact absurd ⟨x, hx, hb⟩ this
    rw [h1]
    simp only [Bool.true_and]
    show (true && decide (args.length + 0 + 0 < 30)) = true
    rw [Bool.true_and, decide_eq_true_eq]
    omega
  rw [arm_eval_Call, base_ok bo]
  unfold methodCall
  rw [hform]
  have hpos : methodCallPos true o env apos pos = pure pos := by unfold methodCallPos; simp [hl]
  rw [hpos]
  rfl
theorem ckMeth_ok {ci fi : Nat} {m : Str} {o : E} {es : List E} (hr : RecOk cA xA P sg k rec) (h : ckMeth sg rec sc ci fi m o es e = true) : SndE cA xA P sg k sc e (.meth ci fi m o es) := by
  unfold ckMeth at h
  split at h
  · rename_i y n apos xs pos
    simp only [Bool.and_eq_true, decide_eq_true_eq] at h
    obtain ⟨rfl, bo, hl, hm, hf, ho, he⟩ := h
    refine snd_of ⟨fun _ _ => rfl, fun _ _ _ z => by cases z⟩ fun X W c => ?_
    obtain ⟨fa, fd, ps, h1, h2, h3, h4⟩ := c.glob.met _ _ _ hm
    obtain ⟨g1, g2⟩ := ckL_ok hr he X W c
    cases xs with
    | nil =>
      cases es with
      | nil => exact c_meth0 (cf := P.cf) rfl h1 (c.room.mono (Nat.le_succ _)) c.tk h2 h3 h4 (hr _ _ _ ho X W c).1 (meth_eq bo hl g2 hf)
      | cons a as => unfold ckL at he; cases he
    | cons x xs => exact c_meth (cf := P.cf) rfl h1 (c.room.mono (Nat.le_succ _)) c.tk h2 h3 h4 (hr _ _ _ ho X W c).1 g2 g1 (meth_eq bo hl g2 hf)
  · cases h
theorem ckAtt_ok {o : E} {f : Str} (hr : RecOk cA xA P sg k rec) (h : ckAtt rec sc o f e = true) : SndE cA xA P sg k sc e (.att o f) := by
  unfold ckAtt at h
  split at h
  · simp only [Bool.and_eq_true, decide_eq_true_eq] at h
    obtain ⟨rfl, bo, ho⟩ := h
    exact snd_of ⟨fun _ _ => rfl, fun _ _ _ z => by cases z⟩ fun X W c => c_att c.glob.atr bo (hr _ _ _ ho X W c).1
  · cases h
theorem ckE1_ok (hr : RecOk cA xA P sg k rec) {E : E} (h : ckE1 sg rec sc E e = true) : SndE cA xA P sg k sc e E := by
  unfold ckE1 at h
  split at h
  · exact ckVar_ok h
  · exact ckLit_ok h
  · exact ckCon_ok h
  · exact ckOp2_ok hr h
  · exact ckOp1_ok hr h
  · exact ckNot_ok hr h
  · exact ckAnd_ok hr h
  · exact ckOr_ok hr h
  · exact ckIte_ok hr h
  · exact ckChn_ok hr h
  · exact ckTup_ok hr h
  · exact ckLst_ok hr h
  · exact ckDic0_ok h
  · exact ckDic_ok hr h
  · exact ckAdd_ok hr h
  · exact ckMul_ok hr h
  · exact ckLof_ok hr h
  · exact ckLrg_ok hr h
  · exact ckCall_ok hr h
  · exact ckMake_ok hr h
  · exact ckMeth_ok hr h
  · exact ckAtt_ok hr h
  · exact ckSlf_ok hr h
  · exact ckSlt_ok hr h
  · exact ckRev_ok hr h
  · exact (ckCmp_ok hr h).1
  · exact ckM1_ok hr (fun X W o x apos pos hu pl bo hl ha hb => c_app pl bo hl ha hb) h
  · exact ckM0_ok hr (fun X W o apos pos bo hl ha => c_pop bo hl ha) h
  · exact ckM1_ok hr (fun X W o x apos pos hu pl bo hl ha hb => c_popAt pl bo hl ha hb) h
  · exact ckM1_ok hr (fun X W o x apos pos hu pl bo hl ha hb => c_idx hu pl bo hl ha hb) h
  · exact ckM1_ok hr (fun X W o x apos pos hu pl bo hl ha hb => c_cnt pl bo hl ha hb) h
  · exact ckM1_ok hr (fun X W o x apos pos hu pl bo hl ha hb => c_join pl bo hl ha hb) h
  · exact ckM1_ok hr (fun X W o x apos pos hu pl bo hl ha hb => c_split pl bo hl ha hb) h
  · exact ckM0_ok hr (fun X W o apos pos bo hl ha => c_upp bo hl ha) h
  · cases h
theorem ckE_ok : ∀ n : Nat, RecOk cA xA P sg k (ckE sg n)
  | 0 => fun _ _ _ h => by cases h
  | n + 1 => fun sc e E h => by
    unfold ckE at h
    split at h
    · rw [Bool.and_eq_true] at h
      have q := ckE_ok n sc _ E h.2
      have pw : ∀ X W (c : Cz cA xA P sg k X W sc) (op : BoolOp) (pos : Pos), PW X (.BoolOp op [_] pos) (TDb cA xA X.K W (evE P E)) := fun X W c op pos => by
        cases op
        · exact pw_and1 ((q X W c).2.1 h.1)
        · exact pw_or1 ((q X W c).2.1 h.1)
      exact fun X W c => ⟨pe_one (q X W c).1, fun _ => (pw X W c _ _).pt, fun op vs pos z => by cases z; exact pw X W c _ _⟩
    · exact ckE1_ok (ckE_ok n) h
end

/-! ### statements -/
structure Cs (cA xA : Nat → Addr) (P : Par) (sg : Sg) (k : Nat) (X : Cx) (W : WX) (sc : Scope) : Prop extends Cz cA xA P sg k X W sc where
  hp : PassesOwn (model X.prog X.w) X.A X.env X.xe
  fn : ∀ x, X.fn x = true
  kind : X.env.scope.kind = .function
  hs : X.stack = X.env :: X.outer
  hf : X.env.frame = some X.env.locals
section
variable (sg : Sg) (rec : Rc) (recB : Scope → List S → List Stmt → Bool) (sc : Scope)
def ckRaise (c : Nat) : Stmt → Bool
  | .Raise (some (.Call (.Name x _) [.Constant (.str _) _ _] [] _)) none _ => glB sc x && decide (sg.exc.lookup x = some c)
  | _ => false
def ckKd (n : Str) : Expr → Bool
  | .Call (.Name f _) [.Name x _] [] _ => decide (f = sg.kd) && (glB sc f && (decide (x = n) && !(sg.kd == "")))
  | _ => false
def ckH (n : Str) : Hd → Expr → Bool
  | .eqK k, .Compare e [.Eq] [.List [.Constant (.int j) _ _] _] _ => decide (j = (k : Int)) && ckKd sg sc n e
  | .kinds, e => ckKd sg sc n e
  | _, _ => false
def ckAsN (n : Str) : Bool := sg.N.contains n && (decide (sc.names.lookup n = some .local) && (!(n == ("__debug__" : Str)) && !(n == ("__classdict__" : Str))))
def ckTry (b : List S) (h : Hd) : Stmt → Bool
  | .Try body [.ExceptHandler (some (.Name x _)) (some n) [.Return (some e) _] _] [] [] _ => recB sc b body && (decide (x = sg.hou) && (glB sc x && (!(sg.hou == "") && (ckAsN sg sc n && ckH sg sc n h e))))
  | .Try body [.ExceptHandler (some (.Name x _)) none [.Return (some e) _] _] [] [] _ => recB sc b body && (decide (x = sg.hou) && (glB sc x && (!(sg.hou == "") && (match h with
    | .ret d => ckLit d e
    | _ => false))))
  | _ => false
def swB (sc : Scope) (y : Str) (py : Pos) : Expr → Bool
  | .ListComp _ _ scope pos => decide (sc.names.lookup y = some .local) && (py.line == pos.line) && !(scope.names.any fun x => match x with
              | (n, k) => n == y && (k == NameKind.local || k == NameKind.cell))
  | _ => false
def nsB (sc : Scope) (y : Str) (v : Expr) : Bool := notComp v || (decide (sc.names.lookup y = some .cell) && (match v with
  | .ListComp .. => true
  | _ => false))
def ckSet (i : Nat) (e : E) : Stmt → Bool
  | .Assign [.Name y py] v _ => ckTg sg sc none (.nm i) (.Name y py) && ((nsB sc y v && rec sc v e) || (swB sc y py v && (match e with
    | .cmp _ elt vs tg ik its ifs => ckCmp sg rec sc elt vs tg ik its ifs v
    | _ => false)))
  | _ => false
def ckS1 : S → Stmt → Bool
  | .set i e, st => ckSet sg rec sc i e st
  | .setI o i e, .Assign [.Subscript x y _] v _ => notComp v && plainE y && rec sc v e && rec sc x o && rec sc y i
  | .setA o f e, .Assign [.Attribute y n _] v _ => decide (n = f) && (rec sc v e && rec sc y o)
  | .ex e, .Expr v _ => notComp v && rec sc v e
  | .ite c a b, .If z xs ys _ => ckT rec sc c z && recB sc a xs && recB sc b ys
  | .for_ tg ik its b, .For t it xs [] _ => ckI sg rec sc ik its it && ikT ik t && plainE it && ckTg sg sc none tg t && recB sc b xs
  | .whl c b, .While z xs [] _ => ckT rec sc c z && recB sc b xs
  | .ret e, .Return (some v) _ => rec sc v e
  | .raise c, st => ckRaise sg sc c st
  | .tryN b h, st => ckTry sg recB sc b h st
  | .nev, _ => true
  | _, _ => false
end
def ckB (sg : Sg) (m : Nat) : Nat → Scope → List S → List Stmt → Bool
  | 0, _, _, _ => false
  | n + 1, _, [], [] => true
  | n + 1, sc, s :: ss, t :: ts => ckS1 sg (ckE sg m) (ckB sg m n) sc s t && ckB sg m n sc ss ts
  | _, _, _, _ => false
def SndS (cA xA : Nat → Addr) (P : Par) (sg : Sg) (k : Nat) (sc : Scope) (st : Stmt) (s : S) : Prop := ∀ X W, Cs cA xA P sg k X W sc → PS X st (TSd cA xA X.K W (evS P s))
def SndB (cA xA : Nat → Addr) (P : Par) (sg : Sg) (k : Nat) (sc : Scope) (st : List Stmt) (s : List S) : Prop := ∀ X W, Cs cA xA P sg k X W sc → PSs X st (TSd cA xA X.K W (evB P s))
section
variable {cA xA : Nat → Addr} {P : Par} {sg : Sg} {k : Nat} {X : Cx} {W : WX} {rec : Rc} {recB : Scope → List S → List Stmt → Bool} {sc : Scope} {st : Stmt}
theorem PS.eq {X : Cx} {W : WX} {e : Stmt} {f g : Env → Store → RS} (h : PS X e (TSd cA xA X.K W f)) (k : g = f) : PS X e (TSd cA xA X.K W g) := by rw [k]; exact h
theorem ckSet_ok {i : Nat} {e : E} (hr : RecOk cA xA P sg k rec) (h : ckSet sg rec sc i e st = true) : SndS cA xA P sg k sc st (.set i e) := by
  unfold ckSet at h
  split at h
  · rename_i y py v spos
    simp only [Bool.and_eq_true, Bool.or_eq_true] at h
    intro X W c
    have tg : X.N[i]? = some y ∧ L2.Loc X.env.scope y ∧ (X.fn y = true ∨ X.env.scope.names.lookup y = some .local) := by
      cases ckTg_ok c.toCz (fun x _ => c.fn x) h.1 with
      | nm a b c => exact ⟨a, b, c⟩
    rcases h.2 with ⟨h1, h2⟩ | ⟨h1, h2⟩
    · have sw : swapsWith v (some (.Name y py)) spos.line X.env = pure false := by
        unfold nsB at h1
        rw [Bool.or_eq_true] at h1
        rcases h1 with h1 | h1
        · exact swaps_no h1 ..
        · simp only [Bool.and_eq_true, decide_eq_true_eq] at h1
          obtain ⟨h1, h3⟩ := h1
          split at h3
          · unfold swapsWith
            have e : (X.env.kindOf y == some NameKind.local) = false := by
              unfold PySem.Env.kindOf
              rw [c.sc, h1]
              rfl
            simp only [e, Bool.and_false, Bool.false_and]
          · cases h3
      exact PS.weak (ps_asg (hr _ _ _ h2 X W c.toCz).1 (pg_name c.nodup tg.1 tg.2.1 tg.2.2) (by simpa only [swapsWithSole] using sw) (by rfl) (by rfl)) fun D σ H h => asg_end h
    · split at h2
      · unfold swB at h1
        split at h1
        · simp only [Bool.and_eq_true, decide_eq_true_eq, Bool.not_eq_true'] at h1
          have l : X.env.scope.names.lookup y = some .local := by rw [c.sc]; exact h1.1.1
          exact (ckCmp_ok hr h2).2 X W i y py spos c.toCz c.kind tg.1 l (sw_true c.kind l h1.1.2 h1.2)
        · cases h1
      · cases h2
  · cases h
theorem ckRaise_ok {c : Nat} (h : ckRaise sg sc c st = true) : SndS cA xA P sg k sc st (.raise c) := by
  unfold ckRaise at h
  split at h
  · simp only [Bool.and_eq_true, decide_eq_true_eq] at h
    intro X W z
    obtain ⟨g1, g2⟩ := z.gl h.1
    obtain ⟨k1, k2⟩ := z.glob.exc _ _ h.2
    exact s_raise z.calm z.tk k1 k2 g1 g2
  · cases h
theorem ckKd_ok {n : Str} {e : Expr} {i : Nat} (z : Cs cA xA P sg k X W sc) (hi : X.N[i]? = some n) (hn : ckAsN sg sc n = true) (h : ckKd sg sc n e = true) {a : Addr} {oe : Obj} {c : Nat} {pn : List (Addr × Obj)} (h8 : c < 8) (hz : L2N.Zn (.ref (xA c)) none oe) (hv : ∃ vs, oe.data = .fields vs) :
    PE (X.suite a ((a, oe) :: pn)) e (TD cA xA X.K nW (evKd a c fun δ S => match δ[i]? with
      | some (some d) => .ok d S
      | _ => .stuck)) := by
  unfold ckKd at h
  split at h
  · simp only [Bool.and_eq_true, decide_eq_true_eq, Bool.not_eq_true'] at h
    obtain ⟨rfl, h2, rfl, h4⟩ := h
    unfold ckAsN at hn
    simp only [Bool.and_eq_true, decide_eq_true_eq, Bool.not_eq_true'] at hn
    obtain ⟨n1, n2, n3, n4⟩ := hn
    obtain ⟨g1, g2⟩ := z.gl h2
    obtain ⟨fa, fd, ps, Fk, hm, hk, hb⟩ := z.glob.kd (fun e => by rw [e] at h4; simp at h4)
    obtain ⟨vs, hv⟩ := hv
    exact c_kinds (X := X.suite a ((a, oe) :: pn)) (p := (a, oe)) (k := k) Fk ⟨(by have := z.room.dp; show X.A.depth + 3 * k + 5 < _; omega), (by have := z.room.un; show X.A.units + 16 * k + 200 < _; omega)⟩ ⟨rfl, vs, hv, hz.2.2 vs hv⟩ List.mem_cons_self h8 hz g1 hm hk hb g2 rfl
      (c_var (X := X.suite a ((a, oe) :: pn)) hi (.inl (by show X.env.scope.names.lookup _ = _; rw [z.sc]; exact n2)) n3 n4)
  · cases h
theorem eq_kind (S : Store) (c k : Nat) : op2 S .eq (.lst [.int (c : Int)]) (.lst [.int (k : Int)]) = some (.bl (decide (c = k))) := by
  have e : op2 S .eq (.lst [.int (c : Int)]) (.lst [.int (k : Int)]) = some (.bl (((c : Int) == (k : Int)) && true)) := rfl
  rw [e, Bool.and_true]
  by_cases h : c = k
  · subst h; simp
  · have h2 : ¬ (c : Int) = (k : Int) := by omega
    simp [h, h2]
theorem lit_pe {X : Cx} {W : WX} {d : D} {e : Expr} (h : ckLit d e = true) : PE X e (TD cA xA X.K W fun _ S => .ok d S) := by
  unfold ckLit at h
  split at h
  · simp only [decide_eq_true_eq] at h
    subst h
    exact c_val pe_int (fun σ H Q q => q) fun _ _ => .int _
  · simp only [Bool.and_eq_true, decide_eq_true_eq] at h
    obtain ⟨rfl, h2⟩ := h
    exact c_val pe_str (fun σ H Q q => q) fun _ _ => .str _ h2
  · rename_i b c _ _
    have e : b = c := by simpa using h
    subst e
    exact c_val pe_bl (fun σ H Q q => q) fun _ _ => .bl _
  · exact c_val pe_non (fun σ H Q q => q) fun _ _ => .non
  · cases h
theorem ckTry_ok {b : List S} {h : Hd} (hb : ∀ sc ss sts, recB sc ss sts = true → SndB cA xA P sg k sc sts ss) (hh : ckTry sg recB sc b h st = true) : SndS cA xA P sg k sc st (.tryN b h) := by
  have body : ∀ {X : Cx} {W : WX} {body : List Stmt}, Cs cA xA P sg k X W sc → recB sc b body = true → ∀ (W' : WX) (pn : List (Addr × Obj)) (xe : Value → Shared → Prop), L2N.Takes (X.tr pn xe) W' → PassesOwn (model X.prog X.w) X.A X.env xe → PSs (X.tr pn xe) body (TSd cA xA X.K W' (evB P b)) :=
    fun {X W body} z h1 W' pn xe tk hp => hb _ _ _ h1 (X.tr pn xe) W' { calm := z.calm, N := z.N, nd := z.nd, sc := z.sc, tk := tk, room := z.room, glob := z.glob, hp := hp, fn := z.fn, kind := z.kind, hs := z.hs, hf := z.hf }
  have sem : evS P (.tryN b h) = sTry (evB P b) h := by
    funext δ S
    rfl
  unfold ckTry at hh
  split at hh
  · rename_i body0 x np n e rp p1 p2
    simp only [Bool.and_eq_true, decide_eq_true_eq, Bool.not_eq_true'] at hh
    obtain ⟨h1, rfl, h3, h4, h5, h6⟩ := hh
    intro X W z
    obtain ⟨g1, g2⟩ := z.gl h3
    obtain ⟨hA, m1, m2⟩ := z.glob.hou (fun e => by rw [e] at h4; simp at h4)
    have h5' := h5
    unfold ckAsN at h5'
    simp only [Bool.and_eq_true, decide_eq_true_eq] at h5'
    obtain ⟨i, hi⟩ := List.mem_iff_getElem?.mp (List.contains_iff_mem.mp h5'.1)
    have hiX : X.N[i]? = some n := by rw [z.N]; exact hi
    have hln : X.env.kindOf n = some .local := by
      unfold PySem.Env.kindOf
      rw [z.sc]
      exact h5'.2.1
    rw [show evS P (.tryN b h) = sTry (evB P b) h from sem]
    refine s_tryAs z.hs z.hf z.nodup hiX hln ⟨g1, g2, .inl m1⟩ z.tk m2 (body z h1) fun a oe c pn h8 hz hv => ?_
    unfold ckH at h6
    split at h6
    · rename_i kk e' j q1 q2 q3 q4
      simp only [Bool.and_eq_true, decide_eq_true_eq] at h6
      obtain ⟨rfl, h6⟩ := h6
      have pk := ckKd_ok (a := a) (pn := pn) z hiX h5 h6 h8 hz hv
      have hu : (X.suite a ((a, oe) :: pn)).A.units + 65 < cLine := z.hu
      refine ⟨_, c_cmp (X := X.suite a ((a, oe) :: pn)) (cmpO_ok (o := .eq) hu rfl) pk (c_lst (m := false) (c_cons (c_val (d := .int (kk : Int)) pe_int (fun σ H Q q => q) fun _ _ => .int _) c_nil rfl)) rfl, fun δ S hδ => ?_⟩
      simp only [evKd, hδ, R.bind, if_true, evLst, evCons, List.length_cons, List.length_nil, newL]
      rw [if_pos (by decide)]
      simp only [Bool.false_eq_true, if_false, eq_kind, ofO, hdD]
    · have pk := ckKd_ok (a := a) (pn := pn) z hiX h5 h6 h8 hz hv
      refine ⟨_, pk, fun δ S hδ => ?_⟩
      simp only [evKd, hδ, R.bind, if_true, hdD]
    · cases h6
  · rename_i body0 x np e rp p1 p2
    simp only [Bool.and_eq_true, decide_eq_true_eq, Bool.not_eq_true'] at hh
    obtain ⟨h1, rfl, h3, h4, h5⟩ := hh
    intro X W z
    obtain ⟨g1, g2⟩ := z.gl h3
    obtain ⟨hA, m1, m2⟩ := z.glob.hou (fun e => by rw [e] at h4; simp at h4)
    rw [show evS P (.tryN b h) = sTry (evB P b) h from sem]
    split at h5
    · refine s_tryOnly z.hs z.hf ⟨g1, g2, .inl m1⟩ z.tk m2 (body z h1) fun a pn => lit_pe h5
    · cases h5
  · cases hh
theorem ckS1_ok (hr : RecOk cA xA P sg k rec) (hb : ∀ sc ss sts, recB sc ss sts = true → SndB cA xA P sg k sc sts ss) {s : S} (h : ckS1 sg rec recB sc s st = true) : SndS cA xA P sg k sc st s := by
  unfold ckS1 at h
  split at h
  · exact ckSet_ok hr h
  · simp only [Bool.and_eq_true] at h
    obtain ⟨⟨⟨⟨h1, h2⟩, h3⟩, h4⟩, h5⟩ := h
    exact fun X W c => s_setI (by have := c.hu; omega) h1 h2 (hr _ _ _ h3 X W c.toCz).1 (hr _ _ _ h4 X W c.toCz).1 (hr _ _ _ h5 X W c.toCz).1
  · simp only [Bool.and_eq_true, decide_eq_true_eq] at h
    obtain ⟨rfl, h1, h2⟩ := h
    exact fun X W c => PS.eq (s_setA c.glob.atr (hr _ _ _ h1 X W c.toCz).1 (hr _ _ _ h2 X W c.toCz).1) rfl
  · simp only [Bool.and_eq_true] at h
    exact fun X W c => s_ex h.1 (hr _ _ _ h.2 X W c.toCz).1
  · simp only [Bool.and_eq_true] at h
    obtain ⟨ht, hz⟩ := ckT_ok hr h.1.1
    exact fun X W c => s_if ((hz X W c.toCz).2.1 ht) (hb _ _ _ h.1.2 X W c) (hb _ _ _ h.2 X W c)
  · simp only [Bool.and_eq_true] at h
    obtain ⟨⟨⟨⟨h1, h2⟩, h3⟩, h4⟩, h5⟩ := h
    exact fun X W c => s_for c.hp c.calm (ckI_ok hr c.toCz h1 h2) h3 (c_tg c.calm c.nodup (ckTg_ok c.toCz (fun x _ => c.fn x) h4)) (hb _ _ _ h5 X W c)
  · simp only [Bool.and_eq_true] at h
    obtain ⟨ht, hz⟩ := ckT_ok hr h.1
    exact fun X W c => s_whl P.wf c.hp ((hz X W c.toCz).2.1 ht) (hb _ _ _ h.2 X W c)
  · exact fun X W c => s_ret (hr _ _ _ h X W c.toCz).1
  · exact ckRaise_ok h
  · exact ckTry_ok hb h
  · exact fun X W c => s_nev
  · cases h
theorem ckB_ok {m : Nat} : ∀ (n : Nat) sc ss sts, ckB sg m n sc ss sts = true → SndB cA xA P sg k sc sts ss
  | 0, _, _, _, h => by cases h
  | n + 1, sc, [], [], _ => fun X W c => ss_nil
  | n + 1, sc, s :: ss, t :: ts, h => fun X W c => by
    unfold ckB at h
    rw [Bool.and_eq_true] at h
    exact ss_cons (ckS1_ok (ckE_ok m) (ckB_ok n) h.1 X W c) (ckB_ok n _ _ _ h.2 X W c)
  | n + 1, _, [], _ :: _, h => by cases h
  | n + 1, _, _ :: _, [], h => by cases h
end
end Ev
namespace Ev
open PySem PySem.Spec PyProof.Rows L2

/-! ### the def that tells an exception's classes -/
def evVar (i : Nat) : Env → Store → R D := fun δ S => match δ[i]? with
  | some (some d) => .ok d S
  | _ => .stuck
def kIs (a : Addr) (c i : Nat) : Env → Store → R D := evIsP a (decide (c = i)) (evVar 0)
def k4 (a : Addr) (c i : Nat) : Env → Store → R (List D) := evCons (kIs a c i) (evCons (kIs a c (i + 1)) (evCons (kIs a c (i + 2)) (evCons (kIs a c (i + 3)) fun _ S => .ok [] S)))
def kNx : BF := fun δ S => .nx δ S
def kRt (f : Env → Store → R D) : BF := fun δ S => thenS δ (f δ S) fun d S => .rt d S
def kGet : Env → Store → R D := fun δ S => (evVar 1 δ S).bind fun x S => (evVar 3 δ S).bind fun y S => ofO S (op2 S .get x y)
noncomputable def kFound : Env → Store → R D := evCmp false .rng1 (.nm 3) [3] (ev1s fun _ S => .ok (.int 8) S) (evIf1 kGet) (evVar 3)
noncomputable def kBF (a : Addr) (c : Nat) : BF := sSeq (sSet 1 (evLst false (k4 a c 0))) (sSeq (sSet 1 (evAdd false (evVar 1) (evLst false (k4 a c 4)))) (sSeq (sSet 2 kFound)
  (sSeq (sIte (evNot (evIsP a true (evVar 0))) (sSeq (kRt (evLst false fun _ S => .ok [] S)) kNx) kNx) (sSeq (kRt (evVar 2)) kNx))))
def kN : List Str := ["_law_e", "_law_marks", "_law_found", "_law_k"]
def kCls : List Str := ["BadPlan", "BadLetter", "Stranger", "Gone", "Nothing", "Closed", "BadHistory", "BadText"]
section
variable (sc : Scope)
def ckNm (y : Str) (x : Str) : Bool := decide (x = y) && visB sc x
def ckIsN (y : Str) : Expr → Bool
  | .Call (.Name f _) [.Name x _, .Name z _] [] _ => decide (f = "isinstance") && (glB sc f && (ckNm sc "_law_e" x && (decide (z = y) && glB sc z)))
  | _ => false
def ckK : List Stmt → Bool
  | [.Assign [.Name m1 _] (.List [a0, a1, a2, a3] _) _, .Assign [.Name m2 _] (.BinOp (.Name m3 _) .Add (.List [a4, a5, a6, a7] _) _) _,
     .Assign [.Name f1 py] (.ListComp (.Name k1 _) [⟨.Name k2 _, .Call (.Name rg _) [.Constant (.int i8) _ _] [] _, [.Subscript (.Name m4 _) (.Name k3 _) _], 0⟩] scope lpos) _,
     .If (.UnaryOp .Not q _) [.Return (some (.List [] _)) _] [] _, .Return (some (.Name f2 _)) _] =>
    (decide (m1 = "_law_marks") && (decide (m2 = "_law_marks") && (locB sc "_law_marks" && (ckNm sc "_law_marks" m3 && (decide (f1 = "_law_found") && (ckNm sc "_law_found" f2 && (decide (rg = "range") && (glB sc rg && decide (i8 = 8))))))))) &&
    ((ckIsN sc "BadPlan" a0 && (ckIsN sc "BadLetter" a1 && (ckIsN sc "Stranger" a2 && ckIsN sc "Gone" a3))) && ((ckIsN sc "Nothing" a4 && (ckIsN sc "Closed" a5 && (ckIsN sc "BadHistory" a6 && ckIsN sc "BadText" a7))) &&
    (ckIsN sc "ValueError" q && (decide (sc.names.lookup ("_law_found" : Str) = some .local) && ((py.line == lpos.line) && (!(scope.names.any fun x => match x with
              | (n, k) => n == "_law_found" && (k == NameKind.local || k == NameKind.cell)) && (blkC kN sc scope [("_law_k", 3)] && (ckNm (relS scope sc) "_law_k" k1 && (decide (k2 = "_law_k") && (decide ((relS scope sc).names.lookup ("_law_k" : Str) = some .local) && (ckNm (relS scope sc) "_law_marks" m4 && ckNm (relS scope sc) "_law_k" k3)))))))))))
  | _ => false
end
section
variable {cA xA : Nat → Addr} {X : Cx} {W : WX} {p : Addr × Obj} {c : Nat} {sc : Scope} {body : List Stmt}
theorem nm_of {sc : Scope} {y x : Str} (h : ckNm sc y x = true) : x = y := by
  unfold ckNm at h
  rw [Bool.and_eq_true, decide_eq_true_eq] at h
  exact h.1
theorem vis_of {X : Cx} {sc : Scope} (hs : X.env.scope = sc) {y x : Str} (h : ckNm sc y x = true) : x = y ∧ Vis X.env.scope y := by
  unfold ckNm at h
  rw [Bool.and_eq_true, decide_eq_true_eq] at h
  obtain ⟨rfl, h⟩ := h
  refine ⟨rfl, ?_⟩
  unfold visB at h
  rw [hs]
  unfold Vis
  split at h
  · rename_i e; exact .inl e
  · rename_i e; exact .inr (.inl e)
  · rename_i e; exact .inr (.inr e)
  · cases h
theorem gl_of {X : Cx} {sc : Scope} (hs : X.env.scope = sc) {x : Str} (h : glB sc x = true) : Gl X x ∧ (x == ("__debug__" : Str)) = false := by
  unfold glB at h
  rw [Bool.and_eq_true, decide_eq_true_eq, Bool.not_eq_true'] at h
  refine ⟨?_, h.2⟩
  show X.env.kindOf x = _
  unfold PySem.Env.kindOf
  rw [hs]
  exact h.1
theorem kvar {X : Cx} {W : WX} (hN : X.N = kN) {i : Nat} {x : Str} {pos : Pos} (hi : kN[i]? = some x) (hv : Vis X.env.scope x) (h1 : (x == ("__debug__" : Str)) = false) (h2 : (x == ("__classdict__" : Str)) = false) : PE X (.Name x pos) (TD cA xA X.K W (evVar i)) :=
  c_var (by rw [hN]; exact hi) hv h1 h2
theorem kinds_body (hN : X.N = kN) (hsc : X.env.scope = sc) (hk : X.env.scope.kind = .function) (hot : L2H.Hot1 X.A p) (hp : p ∈ X.pn) (h8 : c < 8) (hz : Zc (.ref (xA c)) none p.2) (hu : X.A.units + 65 < cLine) (fn : ∀ x, X.fn x = true)
    (h1 : X.mg "isinstance" = none) (h2 : X.mg "range" = none) (h3 : X.mg "ValueError" = none) (hex : ∀ i y, kCls[i]? = some y → X.mg y = some (.ref (xA i)) ∧ PySem.W.kitOne X.K (.ref (xA c)) (.ref (xA i)) = some (decide (c = i)))
    (hve : PySem.W.kitOne X.K (.ref (xA c)) (.type "ValueError") = some true) (isx : ExcC X.K (xA c)) (h : ckK sc body = true) : PSs X body (TSd cA xA X.K W (kBF p.1 c)) := by
  have nd : X.N.Nodup := by rw [hN]; decide
  have hf : ∃ vs, p.2.data = .fields vs := hot.2.imp fun _ h => h.1
  have is_ : ∀ {y : Str} {i : Nat} {e : Expr}, kCls[i]? = some y → ckIsN sc y e = true → PE X e (TD cA xA X.K W (kIs p.1 c i)) ∧ plainE e = true := fun {y i e} hi h => by
    unfold ckIsN at h
    split at h
    · simp only [Bool.and_eq_true, decide_eq_true_eq] at h
      obtain ⟨rfl, g, hx, rfl, gz⟩ := h
      obtain ⟨rfl, hv⟩ := vis_of hsc hx
      obtain ⟨m1, m2⟩ := hex i _ hi
      exact ⟨c_isP isx hp hz hf (v := .ref (xA i)) (fun u r => r) m2 (gl_of hsc g).1 h1 rfl rfl (kvar hN (i := 0) rfl hv rfl rfl) (pe_glob (gl_of hsc gz).1 m1 rfl (gl_of hsc gz).2), rfl⟩
    · cases h
  unfold ckK at h
  split at h
  · rename_i m1 q1 a0 a1 a2 a3 q2 q3 m2 q4 m3 q5 a4 a5 a6 a7 q6 q7 q8 f1 py k1 q9 k2 q10 rg q11 i8 q12 q13 q14 m4 q15 k3 q16 q17 scope lpos q18 q q19 q20 q21 q22 f2 q23 q24
    simp only [Bool.and_eq_true, decide_eq_true_eq, Bool.not_eq_true'] at h
    obtain ⟨⟨rfl, rfl, hm, hm3, rfl, hf2, rfl, hr, rfl⟩, ⟨i0, i1, i2, i3⟩, ⟨i4, i5, i6, i7⟩, iv, hfl, hln, hsw, hb, hk1, rfl, hk2, hm4, hk3⟩ := h
    obtain ⟨rfl, vm⟩ := vis_of hsc hm3
    obtain ⟨rfl, vf⟩ := vis_of hsc hf2
    have lm : L2.Loc X.env.scope "_law_marks" := by
      unfold locB at hm
      rw [hsc]
      unfold L2.Loc
      split at hm
      · rename_i e; exact .inl e
      · rename_i e; exact .inr e
      · cases hm
    have L4 : ∀ {b0 b1 b2 b3 : Expr} {j : Nat} {y0 y1 y2 y3 : Str}, kCls[j]? = some y0 → kCls[j + 1]? = some y1 → kCls[j + 2]? = some y2 → kCls[j + 3]? = some y3 → ckIsN sc y0 b0 = true → ckIsN sc y1 b1 = true → ckIsN sc y2 b2 = true → ckIsN sc y3 b3 = true →
        PA X [b0, b1, b2, b3] (TDs cA xA X.K W (k4 p.1 c j)) := fun {b0 b1 b2 b3 j y0 y1 y2 y3} e0 e1 e2 e3 c0 c1 c2 c3 =>
      c_cons (is_ e0 c0).1 (c_cons (is_ e1 c1).1 (c_cons (is_ e2 c2).1 (c_cons (is_ e3 c3).1 c_nil (star_plain (is_ e3 c3).2 _ _)) (star_plain (is_ e2 c2).2 _ _)) (star_plain (is_ e1 c1).2 _ _)) (star_plain (is_ e0 c0).2 _ _)
    have s1 := fun (pos py : Pos) => s_set (cA := cA) (xA := xA) (W := W) (X := X) (i := 1) (x := "_law_marks") (py := py) (pos := pos) nd (by rw [hN]; rfl) lm (.inl (fn _)) (e := .List [a0, a1, a2, a3] q2) rfl (c_lst (m := false) (L4 (j := 0) rfl rfl rfl rfl i0 i1 i2 i3))
    have s2 := fun (pos py : Pos) => s_set (cA := cA) (xA := xA) (W := W) (X := X) (i := 1) (x := "_law_marks") (py := py) (pos := pos) nd (by rw [hN]; rfl) lm (.inl (fn _)) (e := .BinOp (.Name "_law_marks" q5) .Add (.List [a4, a5, a6, a7] q6) q7) rfl
      (c_addL (m := false) (kvar hN (i := 1) rfl vm rfl rfl) (c_lst (m := false) (L4 (j := 4) rfl rfl rfl rfl i4 i5 i6 i7)))
    have bs : ∀ (s : Shared) (H : Hp) (C : Addr) (cl : List (Str × Addr)) (fp : List Addr), (blkH X p s H scope (compEnvC scope cl C X.env) fp).env.scope = relS scope sc := fun s H C cl fp => by rw [← hsc]; rfl
    have s3 : PS X (.Assign [.Name "_law_found" py] (.ListComp (.Name k1 q9) [⟨.Name "_law_k" q10, .Call (.Name "range" q11) [.Constant (.int 8) q12 q13] [] q14, [.Subscript (.Name m4 q15) (.Name k3 q16) q17], 0⟩] scope lpos) q18) (TSd cA xA X.K W (sSet 2 kFound)) := by
      obtain rfl := nm_of hk1
      obtain rfl := nm_of hm4
      obtain rfl := nm_of hk3
      have hfl' : X.env.scope.names.lookup ("_law_found" : Str) = some .local := by rw [hsc]; exact hfl
      refine PS.weak (ps_setLcH (own := [("_law_k", 3)]) hot hp nd (i := 2) (by rw [hN]; rfl) hfl' (sw_true hk hfl' hln hsw) (c_irng1H (cA := cA) (xA := xA) (W := W) (gl_of hsc hr).1 h2 rfl (c_val (d := .int 8) pe_int (fun σ H Q q => q) fun _ _ => .int _)) (blkOk_by (by rw [hN, hsc]; exact hb))
        (g := gTg X.K (.nm 3)) (tt := TDq cA xA X.K nW (evIf1 kGet)) (te := TD cA xA X.K nW (evVar 3)) (fun s H C cl fp => ?_) (fun s H C cl fp => ?_) (fun s H C cl fp => ?_) (fold_plain rfl _)) fun D σ H h => lc_end (m := false) (by decide) (asg_end h)
      · exact pg_name nd (by show X.N[3]? = _; rw [hN]; rfl) (.inl (by rw [bs]; exact hk2)) (.inr (by rw [bs]; exact hk2))
      · exact q_one (c_test (c_get (by show X.A.units + 1 < cLine; omega) (kvar (X := blkH X p s H scope (compEnvC scope cl C X.env) fp) hN (i := 1) rfl (vis_of (bs s H C cl fp) hm4).2 rfl rfl) (kvar (X := blkH X p s H scope (compEnvC scope cl C X.env) fp) hN (i := 3) rfl (vis_of (bs s H C cl fp) hk3).2 rfl rfl) (ix_plain rfl)) (fun _ => rfl))
      · exact kvar (X := blkH X p s H scope (compEnvC scope cl C X.env) fp) hN (i := 3) rfl (vis_of (bs s H C cl fp) hk1).2 rfl rfl
    have s4 : ∀ (r1 r2 r3 r4 : Pos), PS X (.If (.UnaryOp .Not q r1) [.Return (some (.List [] r2)) r3] [] r4) (TSd cA xA X.K W (sIte (evNot (evIsP p.1 true (evVar 0))) (sSeq (kRt (evLst false fun _ S => .ok [] S)) kNx) kNx)) := fun r1 r2 r3 r4 => by
      have pq : PT X q (TDb cA xA X.K W (evIsP p.1 true (evVar 0))) := by
        unfold ckIsN at iv
        split at iv
        · simp only [Bool.and_eq_true, decide_eq_true_eq] at iv
          obtain ⟨rfl, g, hx, rfl, gz⟩ := iv
          obtain ⟨rfl, hv⟩ := vis_of hsc hx
          exact c_test (c_isP isx hp hz hf (v := .ty "ValueError") (fun u r => r) hve (gl_of hsc g).1 h1 rfl rfl (kvar hN (i := 0) rfl hv rfl rfl) (pe_bltn (gl_of hsc gz).1 h3 (by decide +kernel) rfl (by decide) (gl_of hsc gz).2)) (fun _ => rfl)
        · cases iv
      exact s_if (c_notT pq) (ss_cons (s_ret (c_lst (m := false) c_nil)) ss_nil) ss_nil
    exact ss_cons (s1 _ _) (ss_cons (s2 _ _) (ss_cons s3 (ss_cons (s4 _ _ _ _) (ss_cons (s_ret (kvar hN (i := 2) rfl vf rfl rfl)) ss_nil))))
  · cases h
end
end Ev
namespace Ev
open PySem PySem.Spec PyProof.Rows L2
theorem stays0 {S : Store} : stays S [] = true := by
  unfold stays
  classical
  exact decide_eq_true fun p hp => by cases hp
theorem compF_run0 {f : D → Store → R (Option D)} {S : Store} {g : D → Option D} : ∀ {xs acc : List D}, (∀ x ∈ xs, ∀ acc, f x (S ++ [.lst acc]) = .ok (g x) (S ++ [.lst acc])) → (∀ x ∈ xs, clos S.length (g x).toList = true) → compF [] f S xs acc = .ok (.lst (acc ++ xs.filterMap g)) S
  | [], acc, _, _ => by simp [compF, stays0]
  | x :: xs, acc, h, hc => by
    unfold compF
    rw [if_pos stays0, h x (List.mem_cons_self ..) acc, R.bind0, if_pos ⟨rfl, hc x (List.mem_cons_self ..)⟩, compF_run0 (fun y hy => h y (List.mem_cons_of_mem _ hy)) fun y hy => hc y (List.mem_cons_of_mem _ hy)]
    cases hg : g x <;> simp [hg]
def kM (c : Nat) : List D := [.bl (decide (c = 0)), .bl (decide (c = 1)), .bl (decide (c = 2)), .bl (decide (c = 3)), .bl (decide (c = 4)), .bl (decide (c = 5)), .bl (decide (c = 6)), .bl (decide (c = 7))]
def kKeep (c : Nat) : D → Option D
  | .int i => if (c : Int) = i then some (.int i) else none
  | _ => none
theorem kFound_is {c : Nat} (h8 : c < 8) (a : D) (o2 : Option D) (S : Store) : kFound [some a, some (.lst (kM c)), o2, none] S = .ok (.lst [.int (c : Int)]) S := by
  have xs8 : walkOf S .rng1 [.int 8] = some ([.int 0, .int 1, .int 2, .int 3, .int 4, .int 5, .int 6, .int 7], []) := by
    simp [walkOf, rngD, List.range, List.range.loop]
  have turn : ∀ x ∈ ([.int 0, .int 1, .int 2, .int 3, .int 4, .int 5, .int 6, .int 7] : List D), ∀ acc, turnC [3] (.nm 3) (evIf1 kGet) (evVar 3) [some a, some (.lst (kM c)), o2, none] x (S ++ [.lst acc]) = .ok (kKeep c x) (S ++ [.lst acc]) := by
    intro x hx acc
    have hx : ∃ i : Nat, i < 8 ∧ x = .int (i : Int) := by
      simp only [List.mem_cons, List.not_mem_nil, or_false] at hx
      rcases hx with rfl | rfl | rfl | rfl | rfl | rfl | rfl | rfl
      · exact ⟨0, by decide, rfl⟩
      · exact ⟨1, by decide, rfl⟩
      · exact ⟨2, by decide, rfl⟩
      · exact ⟨3, by decide, rfl⟩
      · exact ⟨4, by decide, rfl⟩
      · exact ⟨5, by decide, rfl⟩
      · exact ⟨6, by decide, rfl⟩
      · exact ⟨7, by decide, rfl⟩
    obtain ⟨i, hi, rfl⟩ := hx
    have hg : op2 (S ++ [.lst acc]) .get (.lst (kM c)) (.int (i : Int)) = some (.bl (decide (c = i))) := by
      have e : op2 (S ++ [.lst acc]) .get (.lst (kM c)) (.int (i : Int)) = ixD (kM c) (i : Int) := rfl
      rw [e]
      have h8 : i = 0 ∨ i = 1 ∨ i = 2 ∨ i = 3 ∨ i = 4 ∨ i = 5 ∨ i = 6 ∨ i = 7 := by omega
      rcases h8 with rfl | rfl | rfl | rfl | rfl | rfl | rfl | rfl <;> rfl
    have ti : evIf1 kGet [some a, some (.lst (kM c)), o2, some (.int (i : Int))] (S ++ [.lst acc]) = .ok (decide (c = i)) (S ++ [.lst acc]) := by
      show (kGet _ _).bind _ = _
      have e : kGet [some a, some (.lst (kM c)), o2, some (.int (i : Int))] (S ++ [.lst acc]) = .ok (.bl (decide (c = i))) (S ++ [.lst acc]) := by
        show ofO _ (op2 (S ++ [.lst acc]) .get (.lst (kM c)) (.int (i : Int))) = _
        rw [hg]
        rfl
      rw [e]
      rfl
    show (evIf1 kGet [some a, some (.lst (kM c)), o2, some (.int (i : Int))] (S ++ [.lst acc])).bind _ = _
    rw [ti]
    show (if decide (c = i) = true then _ else _) = _
    unfold kKeep
    by_cases h : c = i
    · subst h
      simp [evVar, R.bind, wipeE]
    · have h2 : ¬ (c : Int) = (i : Int) := by omega
      simp [h, h2]
  have un : kFound [some a, some (.lst (kM c)), o2, none] S = compM false [] (turnC [3] (.nm 3) (evIf1 kGet) (evVar 3) [some a, some (.lst (kM c)), o2, none]) [.int 0, .int 1, .int 2, .int 3, .int 4, .int 5, .int 6, .int 7] S := by
    unfold kFound evCmp ev1s evCons
    simp only [R.bind]
    rw [xs8]
  rw [un]
  unfold compM
  rw [if_pos (by decide), if_neg (by simp), compF_run0 (g := kKeep c) turn (fun x hx => ?_)]
  · have h8' : c = 0 ∨ c = 1 ∨ c = 2 ∨ c = 3 ∨ c = 4 ∨ c = 5 ∨ c = 6 ∨ c = 7 := by omega
    rcases h8' with rfl | rfl | rfl | rfl | rfl | rfl | rfl | rfl <;> simp [kKeep]
  · cases x <;> simp only [kKeep] <;> first | rfl | skip
    split <;> rfl
theorem kBF_is {c : Nat} (h8 : c < 8) (a : Addr) (S : Store) : kBF a c [some (.opq a), none, none, none] S = .rt (.lst [.int (c : Int)]) S := by
  have e1 : sSet 1 (evLst false (k4 a c 0)) [some (.opq a), none, none, none] S = .nx [some (.opq a), some (.lst ((kM c).take 4)), none, none] S := by
    simp [sSet, evLst, k4, evCons, kIs, evIsP, evVar, R.bind, thenS, newL, kM, LIM]
  have e2 : sSet 1 (evAdd false (evVar 1) (evLst false (k4 a c 4))) [some (.opq a), some (.lst ((kM c).take 4)), none, none] S = .nx [some (.opq a), some (.lst (kM c)), none, none] S := by
    simp [sSet, evLst, evAdd, addL, items, k4, evCons, kIs, evIsP, evVar, R.bind, thenS, newL, kM, LIM]
  have e3 : sSet 2 kFound [some (.opq a), some (.lst (kM c)), none, none] S = .nx [some (.opq a), some (.lst (kM c)), some (.lst [.int (c : Int)]), none] S := by
    simp [sSet, kFound_is h8, thenS]
  have e4 : sIte (evNot (evIsP a true (evVar 0))) (sSeq (kRt (evLst false fun _ S => .ok [] S)) kNx) kNx [some (.opq a), some (.lst (kM c)), some (.lst [.int (c : Int)]), none] S = .nx [some (.opq a), some (.lst (kM c)), some (.lst [.int (c : Int)]), none] S := by
    simp [sIte, evNot, evIsP, evVar, R.bind, thenS, kNx]
  have sq : ∀ {u v : BF} {δ δ' : Env} {S S' : Store}, u δ S = .nx δ' S' → sSeq u v δ S = v δ' S' := fun h => by
    unfold sSeq
    rw [h]
  unfold kBF
  rw [sq e1, sq e2, sq e3, sq e4]
  rfl
/-- the def keeps its promise -/
theorem fnK_of {cA xA : Nat → Addr} {P : Program} {w : World} {K : PySem.W.Frag} {mg : Str → Option Value} {base : Heap} {k : Nat} {x : Str} {st : Stmt} {fa : Addr} {fdt : FuncData} (Fd : FunD K x x (defArgs st) (defBody st) (defScope st) [] [] fa fdt) (hsc : C8.scC kN ["_law_e"] (defScope st) = true) (ck : ckK (defScope st) (defBody st) = true)
    (h1 : mg "isinstance" = none) (h2 : mg "range" = none) (h3 : mg "ValueError" = none) (hex : ∀ c, c < 8 → ∀ i y, kCls[i]? = some y → mg y = some (.ref (xA i)) ∧ PySem.W.kitOne K (.ref (xA c)) (.ref (xA i)) = some (decide (c = i)))
    (hve : ∀ c, c < 8 → PySem.W.kitOne K (.ref (xA c)) (.type "ValueError") = some true) (isx : ∀ c, c < 8 → ExcC K (xA c)) : FnK cA xA P w K mg base (L2N.CX P w) k fa fdt ["_law_e"] := by
  have S0 := C8.fnScope_by hsc
  obtain ⟨oc, od, dV, kV, doc, pm, an, cdv, ct, osl, rfl, lk, hcd, _, _⟩ := Fd.ex
  refine ⟨rfl, fun A outer s H args us p c F ι S Q E hr hot hpin h8 hz e0 hb r rl kk => ?_⟩
  refine run_bodyH lk hcd S0 rfl hr hot hpin e0 hb r fun hu => ⟨TSd cA xA K nW (kBF p.1 c), kinds_body (X := L2H.cxH (L2N.CX P w) P w K mg base kN x (defScope st) fa cdv A outer s H E p) rfl rfl S0.kind hot (List.mem_singleton.mpr rfl) h8 hz.zc hu (fun _ => rfl) h1 h2 h3 (hex c h8) (hve c h8) (isx c h8) ck,
    F, ι, S, [some (.opq p.1), none, none, none], rl, ⟨rfl, fun i d hi => ?_⟩, ?_⟩
  · match i with
    | 0 =>
      have hi : some (some (Ev.D.opq p.1)) = some (some d) := hi
      cases hi
      exact ⟨.ref p.1, rfl, .opq p.1⟩
    | 1 => cases hi
    | 2 => cases hi
    | 3 => cases hi
    | i + 4 => simp at hi
  · rw [kBF_is h8]
    exact fun F' ι' H' v e r rv => kk F' ι' H' v e r rv
end Ev
namespace Ev
open PySem PySem.Spec PyProof.Rows L2

/-! ### functions -/
open Classical in
noncomputable def fin (b : Bool) (S : Store) (d : D) (S' : Store) : R D := if b then (if S'.take S.length = S then (match fz S.length S' 20 d with
  | some d' => .ok d' S
  | none => .stuck) else .stuck) else .ok d S'
open Classical in
noncomputable def endF (b : Bool) (S : Store) : RS → R D
  | .nx _ S' => fin b S .non S'
  | .rt d S' => fin b S d S'
  | .exn c _ S' => if b then (if S'.take S.length = S then .exn c S else .stuck) else .exn c S'
  | .stuck => .stuck
structure Fd where
  ps : List Str
  N : List Str
  body : List S
  frz : Bool
structure Tb where
  fns : List Fd
  ini : Nat → Option Nat
  con : Nat → Option D
  atr : Nat → Str → Bool
  wf : Nat
def env0 (fd : Fd) (args : List D) : Env := args.map some ++ List.replicate (fd.N.length - fd.ps.length) none
noncomputable def callF (T : Tb) : Nat → Nat → List D → Store → R D
  | 0 => fun _ _ _ => .stuck
  | n + 1 => fun f args S => match T.fns[f]? with
    | some fd => if args.length = fd.ps.length then endF fd.frz S (evB ⟨callF T n, T.ini, T.con, T.atr, T.wf⟩ fd.body (env0 fd args) S) else .stuck
    | none => .stuck
noncomputable def parOf (T : Tb) (n : Nat) : Par := ⟨callF T n, T.ini, T.con, T.atr, T.wf⟩

/-! ### a def keeps its promise -/
def sgOf (g : Sg) (N : List Str) : Sg := { g with N := N }
/-- what is told of a def: its object, its text -/
structure DefOk (K : PySem.W.Frag) (g : Sg) (fd : Fd) (x q : Str) (st : Stmt) (fa : Addr) (fdt : FuncData) : Prop where
  fn : FunD K x q (defArgs st) (defBody st) (defScope st) [] [] fa fdt
  binds : Binds K fdt fd.ps []
  sc : C8.scC fd.N fd.ps (defScope st) = true
  ck : ∃ m n, ckB (sgOf g fd.N) m n (defScope st) fd.body (defBody st) = true
theorem sl_start {K : PySem.W.Frag} {F : Hp} {ι : List Addr} {fd : Fd} {vs : List V} {ds : List D} (h : Reps K F ι vs ds) (hl : ds.length = fd.ps.length) : Sl K F ι (L2.start fd.N vs) (env0 fd ds) := by
  have e := h.len
  unfold L2.start env0
  refine ⟨by simp [e, hl], fun i d q => ?_⟩
  by_cases hi : i < ds.length
  · rw [List.getElem?_append_left (by simpa using hi)] at q
    rw [List.getElem?_append_left (by simpa [e] using hi)]
    rw [List.getElem?_map] at q ⊢
    obtain ⟨d', q1, q2⟩ := Option.map_eq_some_iff.mp q
    cases q2
    obtain ⟨v, v1, v2⟩ := h.get q1
    exact ⟨v, by rw [v1]; rfl, v2⟩
  · rw [List.getElem?_append_right (by simpa using hi)] at q
    rw [List.getElem?_replicate] at q
    split at q <;> cases q
section
variable {cA xA : Nat → Addr} {P : Program} {w : World} {K : PySem.W.Frag} {mg : Str → Option Value} {base : Heap} {T : Tb} {g : Sg} {fd : Fd} {x q : Str} {st : Stmt} {fa : Addr} {fdt : FuncData}
theorem fin_ends {Q : VK} {E : XK} {F H : Hp} {ι : List Addr} {S : Store} {W : WX} {b : Bool} {r : RS} (rl : Rel cA K F ι S H) (hW : ∀ c d σ H, E c d H → W c d σ H)
    (h : Good cA xA K E F ι (endF b S r) fun F' ι' H' d _ => ∀ v, Rep K F' ι' v d → Q v H') : GoodS cA xA K W F ι r { nx := fun _ H' => Q .non H', rt := Q } := by
  have go : ∀ {d S'}, Good cA xA K E F ι (fin b S d S') (fun F' ι' H' d _ => ∀ v, Rep K F' ι' v d → Q v H') → ∀ F' ι' H' v, Ext F ι F' ι' → Rel cA K F' ι' S' H' → Rep K F' ι' v d → Q v H' := by
    intro d S' g F' ι' H' v e r' rv
    unfold fin at g
    cases b with
    | false => exact g F' ι' H' e r' v rv
    | true =>
      rw [if_pos rfl] at g
      split at g
      · rename_i t
        split at g
        · rename_i d' hz
          obtain ⟨F2, e2, r2, up, hN⟩ := rl.freezeAll r' e t
          exact g F2 ι H' e2 r2 v (fz_ok r' (fun k a h hk => e.low k a h (by rw [rl.len]; exact hk)) up hN _ _ _ _ hz rv)
        · exact g.elim
      · exact g.elim
  cases r with
  | nx δ S' => exact fun F' ι' H' σ e r' sl => go (d := .non) h F' ι' H' .non e r' .non
  | rt d S' => exact fun F' ι' H' v e r' rv => go h F' ι' H' v e r' rv
  | exn c δ S' =>
    intro F' ι' H' σ e r' sl
    unfold endF at h
    cases b with
    | false => exact hW _ _ _ _ (h F' ι' H' e r')
    | true =>
      dsimp only at h
      rw [if_pos rfl] at h
      split at h
      · rename_i t
        exact hW _ _ _ _ (h F' ι H' e.fst (rl.cut r' e t))
      · exact h.elim
  | stuck => exact h
theorem fn_body {k n f : Nat} (dk : DefOk K g fd x q st fa fdt) (hf : T.fns[f]? = some fd) (G : GOk cA xA (parOf T n) (sgOf g fd.N) k P w K mg base) :
    FnOk P w K mg base (L2N.CX P w) (k + 2) fa fdt fd.ps (spF cA xA K (callF T (n + 1) f)) := by
  have S0 := C8.fnScope_by dk.sc
  have unf : ∀ args S, callF T (n + 1) f args S = if args.length = fd.ps.length then endF fd.frz S (evB (parOf T n) fd.body (env0 fd args) S) else .stuck := fun args S => by
    conv => lhs; unfold callF
    rw [hf]
    rfl
  refine FunD.ok (CX := L2N.CX P w) dk.fn S0 (fun vs H Q E h => ?_) fun cdv A outer s H vs Q E hr h => ?_
  · obtain ⟨F, ι, S, ds, r, hv, g⟩ := h
    rw [unf] at g
    rw [hv.len]
    exact (good_if g).1
  · obtain ⟨F, ι, S, ds, r, hv, g⟩ := h
    rw [unf] at g
    obtain ⟨hl, g⟩ := good_if g
    obtain ⟨m, n2, hck⟩ := dk.ck
    refine ⟨TSd cA xA K (fun cls d _ H => E cls d H) (evB (parOf T n) fd.body), ckB_ok (cA := cA) (xA := xA) (P := parOf T n) (k := k) n2 _ _ _ hck _ _ ?_, F, ι, S, env0 fd ds, r, sl_start hv hl, fin_ends r (fun _ _ _ _ h => h) g⟩
    exact { calm := rfl, N := rfl, nd := S0.nd, sc := rfl, tk := L2N.takes_of rfl rfl rfl rfl, room := hr, glob := G, hp := passes_of rfl, fn := fun _ => rfl, kind := S0.kind, hs := rfl, hf := rfl }
theorem fn_zero {f : Nat} : FnOk P w K mg base (L2N.CX P w) 0 fa fdt fd.ps (spF cA xA K (callF T 0 f)) :=
  ⟨fun vs H Q E ⟨F, ι, S, ds, r, hv, g⟩ => g.elim, fun A outer s H args us vs Q E _ _ _ _ ⟨F, ι, S, ds, r, hv, g⟩ => g.elim⟩
/-- what is told of the exceptions' classes, of the class that is caught, of the def that tells the classes -/
structure XOk (xA : Nat → Addr) (K : PySem.W.Frag) (mg : Str → Option Value) (exc : List (Str × Nat)) (hou kd : Str) : Prop where
  exc : ∀ x c, exc.lookup x = some c → ExcK K (xA c) ∧ mg x = some (.ref (xA c))
  hou : hou ≠ "" → ∃ hA, mg hou = some (.ref hA) ∧ ∀ c, c < 8 → PySem.W.exmOne K (.ref (xA c)) (.ref hA) = some true
  kd : kd ≠ "" → ∃ st fa fdt, FunD K kd kd (defArgs st) (defBody st) (defScope st) [] [] fa fdt ∧ mg kd = some (.ref fa) ∧ Binds K fdt ["_law_e"] [] ∧ C8.scC kN ["_law_e"] (defScope st) = true ∧ ckK (defScope st) (defBody st) = true ∧
    mg "isinstance" = none ∧ mg "range" = none ∧ mg "ValueError" = none ∧ (∀ c, c < 8 → ∀ i y, kCls[i]? = some y → mg y = some (.ref (xA i)) ∧ PySem.W.kitOne K (.ref (xA c)) (.ref (xA i)) = some (decide (c = i))) ∧
    (∀ c, c < 8 → PySem.W.kitOne K (.ref (xA c)) (.type "ValueError") = some true) ∧ ∀ c, c < 8 → ExcC K (xA c)
theorem xok_no {xA : Nat → Addr} {K : PySem.W.Frag} {mg : Str → Option Value} : XOk xA K mg [] "" "" := ⟨fun _ _ h => (by cases h), fun h => absurd rfl h, fun h => absurd rfl h⟩
/-- what is told of the whole: its defs by their names, the constants, the names that are free, the classes, the methods -/
structure TOk (cA xA : Nat → Addr) (K : PySem.W.Frag) (mg : Str → Option Value) (T : Tb) (g : Sg) : Prop where
  fn : ∀ x i, g.fns.lookup x = some i → ∃ fd st fa fdt, T.fns[i]? = some fd ∧ DefOk K g fd x x st fa fdt ∧ mg x = some (.ref fa)
  con : ∀ x i, g.con.lookup x = some i → ∃ v u, mg x = some u ∧ RelV v u ∧ ∀ d, T.con i = some d → ∀ F ι, Rep K F ι v d
  free : ∀ x, g.free.contains x = true → mg x = none
  xok : XOk xA K mg g.exc g.hou g.kd
  atr : AtrOk cA K T.atr
  mak : ∀ x c, g.mak.lookup x = some c → ∃ f fd y q st fa fdt, T.ini c = some f ∧ T.fns[f]? = some fd ∧ DefOk K g fd y q st fa fdt ∧ Mk K (cA c) fa ∧ mg x = some (.ref (cA c))
  met : ∀ c m f, g.met.contains ((c, m), f) = true → ∃ fd y q st fa fdt, T.fns[f]? = some fd ∧ DefOk K g fd y q st fa fdt ∧ Cls K (cA c) ∧ Meth K (cA c) m fa
theorem xok_g {k : Nat} {sgN : Sg} (x : XOk xA K mg sgN.exc sgN.hou sgN.kd) : (∀ x c, sgN.exc.lookup x = some c → ExcK K (xA c) ∧ mg x = some (.ref (xA c))) ∧ (sgN.hou ≠ "" → ∃ hA, mg sgN.hou = some (.ref hA) ∧ ∀ c, c < 8 → PySem.W.exmOne K (.ref (xA c)) (.ref hA) = some true) ∧
    (sgN.kd ≠ "" → ∃ fa fd ps, FnK cA xA P w K mg base (L2N.CX P w) k fa fd ps ∧ mg sgN.kd = some (.ref fa) ∧ PySem.W.keepIn K (.ref fa) = true ∧ Binds K fd ps []) :=
  ⟨x.exc, x.hou, fun h => by
    obtain ⟨st, fa, fdt, Fd, m, b, s, ck, h1, h2, h3, h4, h5, h6⟩ := x.kd h
    exact ⟨fa, fdt, _, fnK_of Fd s ck h1 h2 h3 h4 h5 h6, m, Fd.kp, b⟩⟩
theorem gok_of {n k : Nat} (t : TOk cA xA K mg T g) (N : List Str) (hf : ∀ f fd y q st fa fdt, T.fns[f]? = some fd → DefOk K g fd y q st fa fdt → FnOk P w K mg base (L2N.CX P w) k fa fdt fd.ps (spF cA xA K (callF T n f))) : GOk cA xA (parOf T n) (sgOf g N) k P w K mg base :=
  have x := xok_g (cA := cA) (P := P) (w := w) (base := base) (k := k) (sgN := sgOf g N) t.xok
  { fn := fun x i h => by
      obtain ⟨fd, st, fa, fdt, hi, dk, hm⟩ := t.fn x i h
      exact ⟨fa, fdt, fd.ps, hf _ _ _ _ _ _ _ hi dk, hm, dk.fn.kp, dk.binds⟩
    con := t.con, free := t.free, exc := x.1, hou := x.2.1, kd := x.2.2, atr := t.atr
    mak := fun x c h => by
      obtain ⟨f, fd, y, q, st, fa, fdt, h1, hi, dk, h2, h3⟩ := t.mak x c h
      exact ⟨f, fa, fdt, fd.ps, h1, hf _ _ _ _ _ _ _ hi dk, h2, h3, dk.binds⟩
    met := fun c m f h => by
      obtain ⟨fd, y, q, st, fa, fdt, hi, dk, h2, h3⟩ := t.met c m f h
      exact ⟨fa, fdt, fd.ps, hf _ _ _ _ _ _ _ hi dk, h2, h3, dk.binds⟩ }
theorem gok_all (t : TOk cA xA K mg T g) : ∀ (n : Nat) (N : List Str), GOk cA xA (parOf T n) (sgOf g N) (2 * n) P w K mg base
  | 0, N => gok_of t N fun f fd y q st fa fdt _ _ => fn_zero (T := T) (f := f)
  | n + 1, N => gok_of t N fun f fd y q st fa fdt hi dk => fn_body (n := n) (k := 2 * n) dk hi (gok_all t n fd.N)
end
end Ev
namespace Ev
open PySem PySem.Spec PyProof.Rows L2
theorem lookup_mem {x : Str} {i : Nat} : ∀ {l : List (Str × Nat)}, l.lookup x = some i → (x, i) ∈ l
  | [], h => by cases h
  | (y, j) :: l, h => by
    unfold List.lookup at h
    split at h
    · rename_i e
      cases h
      have := eq_of_beq e
      subst this
      exact List.mem_cons_self ..
    · exact List.mem_cons_of_mem _ (lookup_mem h)
/-- the law's def, called with the script -/
theorem law_ends {cA xA : Nat → Addr} {K : PySem.W.Frag} {T : Tb} {n f : Nat} {H : Hp} {a : Addr} {ns : List Int} (hS : SqL K H a (ns.map V.int)) {S' : Store} (h : callF T n f [.scr ns] [] = .ok (.bl true) S') :
    spF cA xA K (callF T n f) [.ref a] H (fun v _ => v = .bl true) fun _ _ _ => False := by
  refine ⟨H, [], [], [.scr ns], ⟨fun _ _ h => h, rfl, fun n c h => by simp at h, fun i j a c c' h => by simp at h⟩, .cons (.scr hS) .nil, ?_⟩
  rw [h]
  exact fun F' ι' H' e r v rv => bl_of rv
/-- what a law's def may let out, at whatever world -/
def CXm (P : Program) : CXT := fun outer H s E u s' => ∃ w, L2N.CX P w outer H s E u s'
theorem fn_cx {P : Program} {w : World} {K : PySem.W.Frag} {mg : Str → Option Value} {base : Heap} {k : Nat} {f : Addr} {fd : FuncData} {ps : List Str} {sp : Sp} (F : FnOk P w K mg base (L2N.CX P w) k f fd ps sp) : FnOk P w K mg base (CXm P) k f fd ps sp :=
  ⟨F.len, fun A outer s H args us vs Q E hr he hb hv hs => codeAny_mono (F.run A outer s H args us vs Q E hr he hb hv hs) fun r s' h => by
    unfold CR at h ⊢
    split at h
    · exact h
    · exact h
    · exact ⟨w, h⟩⟩
theorem cxm_no {P : Program} (H : Hp) (s : Shared) (e : Value) (s' : Shared) (h : CXm P [] H s (fun _ _ _ => False) e s') : False := by
  obtain ⟨w, a, B, H', cls, d, h1, h2, h3, h4, h5, h6, h7, h8⟩ := h
  exact h8
end Ev
namespace Ev
open PySem PySem.Spec PyProof.Rows L2
/-! ### equations to compute by -/
def ifB {α : Type} (d : D) (x y z : α) : α := match d with
  | .bl true => x
  | .bl false => y
  | _ => z
@[simp] theorem ifB_bl {α : Type} (b : Bool) (x y z : α) : ifB (.bl b) x y z = if b = true then x else y := by cases b <;> rfl
def ofV (S : Store) : Option (Option D) → R D
  | some (some d) => .ok d S
  | _ => .stuck
@[simp] theorem ofV_some (S : Store) (d : D) : ofV S (some (some d)) = .ok d S := rfl
@[simp] theorem ofO_some (S : Store) (d : D) : ofO S (some d) = .ok d S := rfl
@[simp] theorem bind_ok {α β : Type} (a : α) (S : Store) (f : α → Store → R β) : (R.ok a S).bind f = f a S := rfl
@[simp] theorem bind_exn {α β : Type} (c : Nat) (S : Store) (f : α → Store → R β) : (R.exn c S).bind f = .exn c S := rfl
@[simp] theorem bind_stuck {α β : Type} (f : α → Store → R β) : (R.stuck).bind f = .stuck := rfl
@[simp] theorem bind_ite {α β : Type} (p : Prop) [Decidable p] (x y : R α) (f : α → Store → R β) : (if p then x else y).bind f = if p then x.bind f else y.bind f := by split <;> rfl
@[simp] theorem bind0_ok {α β : Type} (a : α) (S : Store) (f : α → Store → R β) : (R.ok a S).bind0 f = f a S := rfl
@[simp] theorem bind0_ite {α β : Type} (p : Prop) [Decidable p] (x y : R α) (f : α → Store → R β) : (if p then x else y).bind0 f = if p then x.bind0 f else y.bind0 f := by split <;> rfl
@[simp] theorem thenS_ok (δ : Env) (d : D) (S : Store) (f : D → Store → RS) : thenS δ (.ok d S) f = f d S := rfl
@[simp] theorem thenS_exn (δ : Env) (c : Nat) (S : Store) (f : D → Store → RS) : thenS δ (.exn c S) f = .exn c δ S := rfl
@[simp] theorem thenS_ite (δ : Env) (p : Prop) [Decidable p] (x y : R D) (f : D → Store → RS) : thenS δ (if p then x else y) f = if p then thenS δ x f else thenS δ y f := by split <;> rfl
def RS.seq (r : RS) (f : Env → Store → RS) : RS := match r with
  | .nx δ S => f δ S
  | x => x
@[simp] theorem seq_nx (δ : Env) (S : Store) (f : Env → Store → RS) : (RS.nx δ S).seq f = f δ S := rfl
@[simp] theorem seq_rt (d : D) (S : Store) (f : Env → Store → RS) : (RS.rt d S).seq f = .rt d S := rfl
@[simp] theorem seq_exn (c : Nat) (δ : Env) (S : Store) (f : Env → Store → RS) : (RS.exn c δ S).seq f = .exn c δ S := rfl
@[simp] theorem seq_ite (p : Prop) [Decidable p] (x y : RS) (f : Env → Store → RS) : (if p then x else y).seq f = if p then x.seq f else y.seq f := by split <;> rfl
section
variable (P : Par) (δ : Env) (S : Store)
@[simp] theorem evE_var (i : Nat) : evE P (.var i) δ S = ofV S δ[i]? := rfl
@[simp] theorem evE_lit (d : D) : evE P (.lit d) δ S = .ok d S := rfl
@[simp] theorem evE_con (k : Nat) : evE P (.con k) δ S = ofO S (P.con k) := rfl
@[simp] theorem evE_op2 (o : O2) (a b : E) : evE P (.op2 o a b) δ S = (evE P a δ S).bind fun x S => (evE P b δ S).bind fun y S => ofO S (op2 S o x y) := rfl
@[simp] theorem evE_op1 (o : O1) (a : E) : evE P (.op1 o a) δ S = (evE P a δ S).bind fun x S => ofO S (op1 S o x) := rfl
theorem notEq : evNot = fun (f : Env → Store → R D) δ S => (f δ S).bind fun x S => ifB x (.ok (.bl false) S) (.ok (.bl true) S) .stuck := by
  funext f δ S
  unfold evNot
  congr
  funext x S
  cases x <;> first | rfl | skip
  rename_i b
  cases b <;> rfl
@[simp] theorem evE_not (a : E) : evE P (.not a) δ S = (evE P a δ S).bind fun x S => ifB x (.ok (.bl false) S) (.ok (.bl true) S) .stuck := congrFun (congrFun (congrFun notEq (evE P a)) δ) S
@[simp] theorem evE_and (a b : E) : evE P (.and a b) δ S = (evE P a δ S).bind fun x S => ifB x (evE P b δ S) (.ok (.bl false) S) .stuck := rfl
@[simp] theorem evE_or (a b : E) : evE P (.or a b) δ S = (evE P a δ S).bind fun x S => ifB x (.ok (.bl true) S) (evE P b δ S) .stuck := by
  show evOr _ _ δ S = _
  unfold evOr
  congr
  funext x S
  cases x <;> first | rfl | skip
  rename_i b
  cases b <;> rfl
@[simp] theorem evE_ite (c a b : E) : evE P (.ite c a b) δ S = (evE P c δ S).bind fun x S => ifB x (evE P a δ S) (evE P b δ S) .stuck := rfl
def ifO (o : Option Bool) {α : Type} (x y z : α) : α := match o with
  | some true => x
  | some false => y
  | none => z
@[simp] theorem ifO_some {α : Type} (b : Bool) (x y z : α) : ifO (some b) x y z = if b = true then x else y := by cases b <;> rfl
@[simp] theorem evE_chn (o1 o2 : O2) (a b c : E) : evE P (.chn o1 o2 a b c) δ S = (evE P a δ S).bind fun x S => (evE P b δ S).bind fun y S => ifO (cmp2 S o1 x y) ((evE P c δ S).bind fun z S => ofO S ((cmp2 S o2 y z).map .bl)) (.ok (.bl false) S) .stuck := rfl
@[simp] theorem evE_tup (es : List E) : evE P (.tup es) δ S = (evEs P es δ S).bind fun ds S => if ds.length ≤ LIM then .ok (.tup ds) S else .stuck := rfl
@[simp] theorem evE_lst (m : Bool) (es : List E) : evE P (.lst m es) δ S = (evEs P es δ S).bind fun ds S => if ds.length ≤ LIM then newL m ds S else .stuck := rfl
def ofL (m : Bool) (S : Store) : Option (List D) → R D
  | some xs => newL m xs S
  | none => .stuck
@[simp] theorem ofL_some (m : Bool) (S : Store) (xs : List D) : ofL m S (some xs) = newL m xs S := rfl
@[simp] theorem evE_add (m : Bool) (a b : E) : evE P (.add m a b) δ S = (evE P a δ S).bind fun x S => (evE P b δ S).bind fun y S => ofL m S (addL S x y) := rfl
@[simp] theorem evE_mul (m : Bool) (a b : E) : evE P (.mul m a b) δ S = (evE P a δ S).bind fun x S => (evE P b δ S).bind fun y S => ofL m S (mulL S x y) := rfl
@[simp] theorem evE_lof (m : Bool) (a : E) : evE P (.lof m a) δ S = (evE P a δ S).bind fun x S => ofL m S (lofL S x) := rfl
@[simp] theorem evE_call (f : Nat) (es : List E) : evE P (.call f es) δ S = (evEs P es δ S).bind fun ds S => P.cf f ds S := rfl
@[simp] theorem evEs_nil : evEs P [] δ S = .ok [] S := rfl
@[simp] theorem evEs_cons (e : E) (es : List E) : evEs P (e :: es) δ S = (evE P e δ S).bind fun d S => (evEs P es δ S).bind fun ds S => .ok (d :: ds) S := rfl
@[simp] theorem evE_app (o e : E) : evE P (.app o e) δ S = (evE P o δ S).bind fun x S => if (lstAt S x).isSome then (evE P e δ S).bind fun y S => appD x y S else .stuck := rfl
@[simp] theorem evE_pop (o : E) : evE P (.pop o) δ S = (evE P o δ S).bind fun x S => popD x S := rfl
@[simp] theorem evE_popAt (o e : E) : evE P (.popAt o e) δ S = (evE P o δ S).bind fun x S => if (lstAt S x).isSome then (evE P e δ S).bind fun y S => popAtD x y S else .stuck := rfl
@[simp] theorem evE_idx (o e : E) : evE P (.idx o e) δ S = (evE P o δ S).bind fun x S => if (items S x).isSome then (evE P e δ S).bind fun y S => ofO S (idxO S x y) else .stuck := rfl
@[simp] theorem evE_cnt (o e : E) : evE P (.cnt o e) δ S = (evE P o δ S).bind fun x S => if (items S x).isSome then (evE P e δ S).bind fun y S => ofO S (cntO S x y) else .stuck := rfl
@[simp] theorem evE_join (o e : E) : evE P (.join o e) δ S = (evE P o δ S).bind fun x S => if isStr x then (evE P e δ S).bind fun y S => ofO S (joinO S x y) else .stuck := rfl
@[simp] theorem evE_split (o e : E) : evE P (.split o e) δ S = (evE P o δ S).bind fun x S => if isStr x then (evE P e δ S).bind fun y S => ofO S (splitO x y) else .stuck := rfl
@[simp] theorem evE_upp (o : E) : evE P (.upp o) δ S = (evE P o δ S).bind fun x S => ofO S (op1 S .upper x) := rfl
def ofI : D → (Int → R D) → R D
  | .int i, f => f i
  | _, _ => .stuck
@[simp] theorem ofI_int (i : Int) (f : Int → R D) : ofI (.int i) f = f i := rfl
@[simp] theorem evE_dic (m : Bool) (ks : List Str) (es : List E) : evE P (.dic m ks es) δ S = if ks = [] then newD m ks [] S else dispM m ks (evEs P es δ (S ++ [.dic []])) S := rfl
@[simp] theorem evE_slf (a b : E) : evE P (.slf a b) δ S = (evE P a δ S).bind fun x S => (evE P b δ S).bind fun i S => ofI i fun i => ofO S (cutD S (some i) none x) := by
  have h : evE P (.slf a b) δ S = (evE P a δ S).bind fun x S => (evE P b δ S).bind fun i S => (match i with
    | .int i => ofO S (cutD S (some i) none x)
    | _ => .stuck) := rfl
  rw [h]
  congr
  funext x S
  congr
  funext y S
  cases y <;> rfl
@[simp] theorem evE_slt (a b : E) : evE P (.slt a b) δ S = (evE P a δ S).bind fun x S => (evE P b δ S).bind fun i S => ofI i fun i => ofO S (cutD S none (some i) x) := by
  have h : evE P (.slt a b) δ S = (evE P a δ S).bind fun x S => (evE P b δ S).bind fun i S => (match i with
    | .int i => ofO S (cutD S none (some i) x)
    | _ => .stuck) := rfl
  rw [h]
  congr
  funext x S
  congr
  funext y S
  cases y <;> rfl
@[simp] theorem evE_lrg (m : Bool) (a b : E) : evE P (.lrg m a b) δ S = (evE P a δ S).bind fun x S => (evE P b δ S).bind fun y S => ofI x fun i => ofI y fun j => if 0 ≤ i ∧ i ≤ 100000 ∧ 0 ≤ j ∧ j ≤ 100000 then newL m (rngD i j) S else .stuck := by
  show evLrg _ _ _ δ S = _
  unfold evLrg
  congr
  funext x S
  congr
  funext y S
  cases x <;> cases y <;> rfl
@[simp] theorem evE_cmp (m : Bool) (elt : E) (vs : List Nat) (tg : Tg) (ik : IK) (its ifs : List E) : evE P (.cmp m elt vs tg ik its ifs) δ S = evCmp m ik tg vs (evEs P its) (evIfs P ifs) (evE P elt) δ S := rfl
@[simp] theorem evIfs_nil : evIfs P [] δ S = .ok true S := rfl
@[simp] theorem evIfs_one (e : E) : evIfs P [e] δ S = (evE P e δ S).bind fun d S => ifB d (.ok true S) (.ok false S) .stuck := by
  show evIf1 _ δ S = _
  unfold evIf1
  congr
  funext x S
  cases x <;> first | rfl | skip
  rename_i b
  cases b <;> rfl
@[simp] theorem evS_set (i : Nat) (e : E) : evS P (.set i e) δ S = thenS δ (evE P e δ S) fun d S => .nx (δ.set i (some d)) S := rfl
@[simp] theorem evS_ex (e : E) : evS P (.ex e) δ S = thenS δ (evE P e δ S) fun _ S => .nx δ S := rfl
@[simp] theorem evS_ret (e : E) : evS P (.ret e) δ S = thenS δ (evE P e δ S) fun d S => .rt d S := rfl
@[simp] theorem evS_ite (c : E) (a b : List Ev.S) : evS P (.ite c a b) δ S = thenS δ (evE P c δ S) fun d S => ifB d (evB P a δ S) (evB P b δ S) .stuck := rfl
@[simp] theorem evB_nil : evB P [] δ S = .nx δ S := rfl
@[simp] theorem evB_cons (s : Ev.S) (r : List Ev.S) : evB P (s :: r) δ S = (evS P s δ S).seq fun δ S => evB P r δ S := rfl
@[simp] theorem evS_for (tg : Tg) (ik : IK) (its : List E) (b : List Ev.S) : evS P (.for_ tg ik its b) δ S = sFor tg ik (evEs P its) (fun δ S => evB P b δ S) δ S := rfl
end
@[simp] theorem endF_rt (b : Bool) (S S' : Store) (d : D) : endF b S (.rt d S') = fin b S d S' := rfl
@[simp] theorem endF_nx (b : Bool) (S S' : Store) (δ : Env) : endF b S (.nx δ S') = fin b S .non S' := rfl
@[simp] theorem endF_ite (b : Bool) (S : Store) (p : Prop) [Decidable p] (x y : RS) : endF b S (if p then x else y) = if p then endF b S x else endF b S y := by split <;> rfl
@[simp] theorem fin_false (S S' : Store) (d : D) : fin false S d S' = .ok d S' := rfl
theorem fz_clo {n : Nat} {S : Store} {k : Nat} {d : D} (h : clo n d = true) : fz n S k d = some d := by
  cases k <;> (unfold fz; rw [if_pos h])
theorem fin_app {S T : Store} {d : D} (h : clo S.length d = true) : fin true S d (S ++ T) = .ok d S := by
  unfold fin
  rw [if_pos rfl, if_pos take_app, fz_clo h]
theorem fin_self {S : Store} {d : D} (h : clo S.length d = true) : fin true S d S = .ok d S := by
  have := fin_app (T := []) h
  rwa [List.append_nil] at this
@[simp] theorem fin_int (S : Store) (i : Int) : fin true S (.int i) S = .ok (.int i) S := fin_self rfl
@[simp] theorem fin_bl (S : Store) (i : Bool) : fin true S (.bl i) S = .ok (.bl i) S := fin_self rfl
@[simp] theorem fin_non (S : Store) : fin true S .non S = .ok .non S := fin_self rfl
@[simp] theorem fin_str (S : Store) (x : Str) : fin true S (.str x) S = .ok (.str x) S := fin_self rfl
@[simp] theorem fin_int' (S T : Store) (i : Int) : fin true S (.int i) (S ++ T) = .ok (.int i) S := fin_app rfl
@[simp] theorem fin_bl' (S T : Store) (i : Bool) : fin true S (.bl i) (S ++ T) = .ok (.bl i) S := fin_app rfl
theorem callF_is {T : Tb} {n f : Nat} {args : List D} {S : Store} {fd : Fd} (h : T.fns[f]? = some fd) (hl : args.length = fd.ps.length) : callF T (n + 1) f args S = endF fd.frz S (evB (parOf T n) fd.body (env0 fd args) S) := by
  conv => lhs; unfold callF
  rw [h]
  show (if _ then _ else _) = _
  rw [if_pos hl]
  rfl
@[simp] theorem parOf_cf (T : Tb) (n : Nat) : (parOf T n).cf = callF T n := rfl
@[simp] theorem parOf_con (T : Tb) (n : Nat) : (parOf T n).con = T.con := rfl
@[simp] theorem ofO_ite (S : Store) (p : Prop) [Decidable p] (a b : Option D) : ofO S (if p then a else b) = if p then ofO S a else ofO S b := by split <;> rfl
@[simp] theorem ofO_none (S : Store) : ofO S none = .stuck := rfl
section
variable (S : Store) (i j : Int) (x y : Str) (a b : Bool) (xs ys : List D)
@[simp] theorem o_add : op2 S .add (.int i) (.int j) = some (.int (i + j)) := rfl
@[simp] theorem o_sub : op2 S .sub (.int i) (.int j) = some (.int (i - j)) := rfl
@[simp] theorem o_lt : op2 S .lt (.int i) (.int j) = some (.bl (decide (i < j))) := rfl
@[simp] theorem o_le : op2 S .le (.int i) (.int j) = some (.bl (decide (i ≤ j))) := rfl
@[simp] theorem o_gt : op2 S .gt (.int i) (.int j) = some (.bl (decide (j < i))) := rfl
@[simp] theorem o_ge : op2 S .ge (.int i) (.int j) = some (.bl (decide (j ≤ i))) := rfl
@[simp] theorem o_mn : op2 S .mn (.int i) (.int j) = some (.int (if j < i then j else i)) := rfl
@[simp] theorem o_mx : op2 S .mx (.int i) (.int j) = some (.int (if j > i then j else i)) := rfl
@[simp] theorem c_lt : cmp2 S .lt (.int i) (.int j) = some (decide (i < j)) := rfl
@[simp] theorem c_le : cmp2 S .le (.int i) (.int j) = some (decide (i ≤ j)) := rfl
@[simp] theorem c_gt : cmp2 S .gt (.int i) (.int j) = some (decide (j < i)) := rfl
@[simp] theorem c_ge : cmp2 S .ge (.int i) (.int j) = some (decide (j ≤ i)) := rfl
@[simp] theorem o_mod (h : 0 < j) : op2 S .mod (.int i) (.int j) = some (.int (i % j)) := by simp only [op2]; rw [if_pos h]
@[simp] theorem o_fdiv (h : 0 < j) (h2 : j < 1073741824) : op2 S .fdiv (.int i) (.int j) = some (.int (i / j)) := by simp only [op2]; rw [if_pos ⟨h, h2⟩]
@[simp] theorem o_mul (h : -(2 ^ 64) < i) (h2 : i < 2 ^ 64) : op2 S .mul (.int i) (.int j) = some (.int (i * j)) := by simp only [op2]; rw [if_pos ⟨h, h2⟩]
@[simp] theorem o_pow9 : op2 S .pow (.int 10) (.int 9) = some (.int 1000000000) := rfl
@[simp] theorem o_pow30 : op2 S .pow (.int 10) (.int 30) = some (.int 1000000000000000000000000000000) := rfl
@[simp] theorem o_pow18 : op2 S .pow (.int 10) (.int 18) = some (.int 1000000000000000000) := rfl
@[simp] theorem o_addS (h : x.length + y.length ≤ LIM) : op2 S .add (.str x) (.str y) = some (.str (x ++ y)) := by simp only [op2]; rw [if_pos h]
@[simp] theorem o_addT (h : xs.length + ys.length ≤ LIM) : op2 S .add (.tup xs) (.tup ys) = some (.tup (xs ++ ys)) := by simp only [op2]; rw [if_pos h]
@[simp] theorem o_addL (h : xs.length + ys.length ≤ LIM) : op2 S .add (.lst xs) (.lst ys) = some (.lst (xs ++ ys)) := by simp only [op2, addL, items]; rw [if_pos h]; rfl
@[simp] theorem o_eqI : op2 S .eq (.int i) (.int j) = some (.bl (decide (i = j))) := by
  have e : op2 S .eq (.int i) (.int j) = some (.bl (i == j)) := rfl
  rw [e]
  by_cases h : i = j <;> simp [h]
@[simp] theorem o_neI : op2 S .ne (.int i) (.int j) = some (.bl (!decide (i = j))) := by
  have e : op2 S .ne (.int i) (.int j) = some (.bl (!(i == j))) := rfl
  rw [e]
  by_cases h : i = j <;> simp [h]
@[simp] theorem o_eqS : op2 S .eq (.str x) (.str y) = some (.bl (x == y)) := rfl
@[simp] theorem o_neS : op2 S .ne (.str x) (.str y) = some (.bl (!(x == y))) := rfl
@[simp] theorem o_eqB : op2 S .eq (.bl a) (.bl b) = some (.bl (a == b)) := rfl
@[simp] theorem o_neB : op2 S .ne (.bl a) (.bl b) = some (.bl (!(a == b))) := rfl
@[simp] theorem o_getL : op2 S .get (.lst xs) (.int i) = ixD xs i := rfl
@[simp] theorem o_getT : op2 S .get (.tup xs) (.int i) = ixD xs i := rfl
@[simp] theorem o_lenL : op1 S .len (.lst xs) = some (.int xs.length) := rfl
@[simp] theorem o_lenT : op1 S .len (.tup xs) = some (.int xs.length) := rfl
@[simp] theorem o_lenR (ns : List Int) : op1 S .len (.scr ns) = some (.int ns.length) := rfl
@[simp] theorem o_lenS (h : x.length ≤ LIM) : op1 S .len (.str x) = some (.int x.length) := by simp only [op1]; rw [if_pos h]
@[simp] theorem o_neg : op1 S .neg (.int i) = some (.int (-i)) := rfl
@[simp] theorem o_intB : op1 S .int (.bl a) = some (.int (if a then 1 else 0)) := rfl
@[simp] theorem o_isi (t : Ty) (d : D) : op1 S (.isi t) d = (tyIs S t d).map .bl := rfl
end
@[simp] theorem newL_t (xs : List D) (S : Store) : newL true xs S = .ok (.loc S.length) (S ++ [.lst xs]) := rfl
@[simp] theorem newL_f (xs : List D) (S : Store) : newL false xs S = .ok (.lst xs) S := rfl
@[simp] theorem LIM_nat : LIM = 16777216 := by decide
/-! ### instances, exceptions -/
def ifNon (r : D) (x : R D) : R D := match r with
  | .non => x
  | _ => .stuck
@[simp] theorem ifNon_non (x : R D) : ifNon .non x = x := rfl
theorem evE_make {P : Par} {c f : Nat} (h : P.ini c = some f) (es : List E) (δ : Env) (S : Store) : evE P (.make c es) δ S = (evEs P es δ S).bind fun ds S => (P.cf f (.loc S.length :: ds) (S ++ [.ins c []])).bind fun r S' => ifNon r (.ok (.loc S.length) S') := by
  conv => lhs; unfold evE
  rw [h]
  refine congrArg (R.bind (evEs P es δ S)) ?_
  funext ds S
  refine congrArg (R.bind _) ?_
  funext r S'
  cases r <;> rfl
theorem insAt_is {S : Store} {n c : Nat} {fs : List (Str × D)} (h : S[n]? = some (.ins c fs)) : insAt S (.loc n) = some (n, c, fs) := by
  unfold insAt
  dsimp only
  rw [h]
section
variable (P : Par) (δ : Env) (S : Store)
@[simp] theorem evE_meth (c f : Nat) (m : Str) (o : E) (es : List E) : evE P (.meth c f m o es) δ S = (evE P o δ S).bind fun x S => if insOf S x c m then (evEs P es δ S).bind fun ds S => P.cf f (x :: ds) S else .stuck := rfl
@[simp] theorem evE_att (o : E) (f : Str) : evE P (.att o f) δ S = (evE P o δ S).bind fun x S => ofO S (attO P.atr S x f) := rfl
def setAt (atr : Nat → Str → Bool) (δ : Env) (f : Str) (d x : D) (S : Store) : RS := match insAt S x with
  | some (n, c, fs) => if atr c f = true ∧ fs.length < 100 then .nx δ (S.set n (.ins c (putF f d fs))) else .stuck
  | none => .stuck
theorem setAt_is {atr : Nat → Str → Bool} {n c : Nat} {fs : List (Str × D)} {f : Str} {d : D} {S : Store} (h : S[n]? = some (.ins c fs)) (h2 : atr c f = true) (h3 : fs.length < 100) : setAt atr δ f d (.loc n) S = .nx δ (S.set n (.ins c (putF f d fs))) := by
  unfold setAt
  rw [insAt_is h]
  dsimp only
  rw [if_pos ⟨h2, h3⟩]
@[simp] theorem evS_setA (o : E) (f : Str) (e : E) : evS P (.setA o f e) δ S = thenS δ (evE P e δ S) fun d S => thenS δ (evE P o δ S) fun x S => setAt P.atr δ f d x S := rfl
@[simp] theorem evS_raise (c : Nat) : evS P (.raise c) δ S = .exn c δ S := rfl
def tryR (h : Hd) (r : RS) : RS := match r with
  | .exn c _ S' => if c < 8 then .rt (hdD h c) S' else .stuck
  | r => r
@[simp] theorem evS_try (b : List Ev.S) (h : Hd) : evS P (.tryN b h) δ S = tryR h (evB P b δ S) := rfl
@[simp] theorem tryR_nx (h : Hd) : tryR h (.nx δ S) = .nx δ S := rfl
@[simp] theorem tryR_rt (h : Hd) (d : D) : tryR h (.rt d S) = .rt d S := rfl
theorem tryR_exn (h : Hd) {c : Nat} (hc : c < 8) : tryR h (.exn c δ S) = .rt (hdD h c) S := by
  show (if c < 8 then _ else _) = _
  rw [if_pos hc]
end
theorem attO_is {atr : Nat → Str → Bool} {S : Store} {n c : Nat} {fs : List (Str × D)} {f : Str} (h : S[n]? = some (.ins c fs)) (h2 : atr c f = true) : attO atr S (.loc n) f = look f fs := by
  unfold attO
  rw [insAt_is h]
  dsimp only
  rw [if_pos h2]
theorem insOf_is {S : Store} {n c : Nat} {fs : List (Str × D)} {m : Str} (h : S[n]? = some (.ins c fs)) (h2 : look m fs = none) : insOf S (.loc n) c m = true := by
  unfold insOf
  rw [insAt_is h]
  simp [h2]
@[simp] theorem endF_exnF (S S' : Store) (c : Nat) (δ : Env) : endF false S (.exn c δ S') = .exn c S' := rfl
theorem endF_exnT {S S' : Store} (h : S'.take S.length = S) (c : Nat) (δ : Env) : endF true S (.exn c δ S') = .exn c S := by
  unfold endF
  dsimp only
  rw [if_pos rfl, if_pos h]
@[simp] theorem parOf_ini (T : Tb) (n : Nat) : (parOf T n).ini = T.ini := rfl
@[simp] theorem parOf_atr (T : Tb) (n : Nat) : (parOf T n).atr = T.atr := rfl
end Ev
namespace Ev
open PySem PySem.Spec PyProof.Rows L2
/-! ### laws of the small operations -/
theorem seq_seq (r : RS) (f g : Env → Store → RS) : (r.seq f).seq g = r.seq fun δ S => (f δ S).seq g := by cases r <;> rfl
theorem atI_nat {α : Type} (xs : List α) (i : Nat) (h : i < xs.length) : L2.atI xs (i : Int) = some xs[i] := by
  unfold L2.atI L2.ixN
  simp [h]
theorem atI_neg {α : Type} (xs : List α) (i : Nat) (h : i < xs.length) : L2.atI xs (-((i : Int) + 1)) = some (xs[xs.length - 1 - i]'(by omega)) := by
  unfold L2.atI L2.ixN
  have h1 : ¬ (0 ≤ -((i : Int) + 1)) := by omega
  have h2 : -((i : Int) + 1) + xs.length = ((xs.length - 1 - i : Nat) : Int) := by omega
  have h3 : xs.length - 1 - i < xs.length := by omega
  rw [if_neg h1, if_pos (by omega), Option.bind_some, h2]
  simp [h3]
theorem stays_nil {S : Store} : stays S [] = true := by
  unfold stays
  classical
  exact decide_eq_true fun p hp => by cases hp
theorem stays_one {S : Store} {n : Nat} {xs : List D} (h : S[n]? = some (.lst xs)) : stays S [(n, xs)] = true := by
  unfold stays
  classical
  refine decide_eq_true fun p hp => ?_
  cases List.mem_singleton.mp hp
  exact h
/-! ### comprehensions that run through -/
section
variable {ch : List (Nat × List D)} {f : D → Store → R (Option D)} {S : Store} {g : D → Option D}
theorem compF_run (hs : stays S ch = true) : ∀ {xs acc : List D}, (∀ x ∈ xs, ∀ acc, f x (S ++ [.lst acc]) = .ok (g x) (S ++ [.lst acc])) → (∀ x ∈ xs, clos S.length (g x).toList = true) → compF ch f S xs acc = .ok (.lst (acc ++ xs.filterMap g)) S
  | [], acc, _, _ => by simp [compF, hs]
  | x :: xs, acc, h, hc => by
    unfold compF
    rw [if_pos hs, h x (List.mem_cons_self ..) acc, bind0_ok, if_pos ⟨rfl, hc x (List.mem_cons_self ..)⟩, compF_run hs (fun y hy => h y (List.mem_cons_of_mem _ hy)) fun y hy => hc y (List.mem_cons_of_mem _ hy)]
    cases hg : g x <;> simp [hg]
theorem compT_run (hs : stays S ch = true) : ∀ {xs acc : List D}, (∀ x ∈ xs, ∀ acc, f x (S ++ [.lst acc]) = .ok (g x) (S ++ [.lst acc])) → acc.length + xs.length ≤ LIM → compT S.length ch f xs (S ++ [.lst acc]) = .ok (.loc S.length) (S ++ [.lst (acc ++ xs.filterMap g)])
  | [], acc, _, _ => by simp [compT, stays_app hs]
  | x :: xs, acc, h, hl => by
    unfold compT
    have hlt : acc.length < LIM := by simp only [List.length_cons] at hl; omega
    rw [if_pos (stays_app hs), h x (List.mem_cons_self ..) acc, bind0_ok]
    have e : (S ++ [Cell.lst acc])[S.length]? = some (.lst acc) := by simp
    rw [e]
    dsimp only
    rw [if_pos hlt]
    have e2 : (S ++ [Cell.lst acc]).set S.length (.lst (acc ++ (g x).toList)) = S ++ [.lst (acc ++ (g x).toList)] := by simp
    rw [e2, compT_run hs (fun y hy => h y (List.mem_cons_of_mem _ hy))]
    · cases hg : g x <;> simp [hg]
    · have : (g x).toList.length ≤ 1 := by cases g x <;> simp
      simp only [List.length_cons, List.length_append] at hl ⊢
      omega
end
theorem evCmp_F {ik : IK} {tg : Tg} {vs : List Nat} {gi : Env → Store → R (List D)} {ti : Env → Store → R Bool} {fe : Env → Store → R D} {δ : Env} {S S1 : Store} {ds xs : List D} {ch : List (Nat × List D)} (g : D → Option D)
    (h1 : gi δ S = .ok ds S1) (h2 : walkOf S1 ik ds = some (xs, ch)) (hs : stays S1 ch = true) (hl : xs.length ≤ LIM) (h : ∀ x ∈ xs, ∀ acc, turnC vs tg ti fe δ x (S1 ++ [.lst acc]) = .ok (g x) (S1 ++ [.lst acc])) (hc : ∀ x ∈ xs, clos S1.length (g x).toList = true) :
    evCmp false ik tg vs gi ti fe δ S = .ok (.lst (xs.filterMap g)) S1 := by
  unfold evCmp compM
  rw [h1, bind_ok, h2]
  dsimp only
  rw [if_pos hl]
  have := compF_run (acc := []) hs h hc
  simpa using this
theorem evCmp_T {ik : IK} {tg : Tg} {vs : List Nat} {gi : Env → Store → R (List D)} {ti : Env → Store → R Bool} {fe : Env → Store → R D} {δ : Env} {S S1 : Store} {ds xs : List D} {ch : List (Nat × List D)} (g : D → Option D)
    (h1 : gi δ S = .ok ds S1) (h2 : walkOf S1 ik ds = some (xs, ch)) (hs : stays S1 ch = true) (hl : xs.length ≤ LIM) (h : ∀ x ∈ xs, ∀ acc, turnC vs tg ti fe δ x (S1 ++ [.lst acc]) = .ok (g x) (S1 ++ [.lst acc])) :
    evCmp true ik tg vs gi ti fe δ S = .ok (.loc S1.length) (S1 ++ [.lst (xs.filterMap g)]) := by
  unfold evCmp compM
  rw [h1, bind_ok, h2]
  dsimp only
  rw [if_pos hl]
  have := compT_run (acc := []) hs h (by simpa using hl)
  simpa using this
/-- a loop by what stays true at its turns -/
theorem forL_run {ch : List (Nat × List D)} {tg : Tg} {f : Env → Store → RS} (I : Nat → Env → Store → Prop) : ∀ {xs : List D} {k : Nat} {δ : Env} {S : Store}, I k δ S → (∀ i δ S, I i δ S → stays S ch = true) →
    (∀ i x δ S, xs[i]? = some x → I (k + i) δ S → ∃ δ1, setT tg x δ = some δ1 ∧ ∃ δ2 S2, f δ1 S = .nx δ2 S2 ∧ I (k + i + 1) δ2 S2) → ∃ δ' S', forL ch tg f xs δ S = .nx δ' S' ∧ I (k + xs.length) δ' S'
  | [], k, δ, S, h0, hs, _ => ⟨δ, S, by simp [forL, hs _ _ _ h0], h0⟩
  | x :: xs, k, δ, S, h0, hs, h => by
    obtain ⟨δ1, e1, δ2, S2, e2, h1⟩ := h 0 x δ S rfl h0
    obtain ⟨δ', S', e3, h2⟩ := forL_run I (xs := xs) (k := k + 1) h1 hs fun i y δ S hy hi => by
      have := h (i + 1) y δ S hy (by rw [show k + (i + 1) = k + 1 + i by omega]; exact hi)
      rw [show k + (i + 1) + 1 = k + 1 + i + 1 by omega] at this
      exact this
    refine ⟨δ', S', ?_, by rw [List.length_cons, show k + (xs.length + 1) = k + 1 + xs.length by omega]; exact h2⟩
    unfold forL
    rw [if_pos (hs _ _ _ h0), e1]
    dsimp only
    rw [e2]
    exact e3
mutual
theorem clo_mono {n : Nat} : ∀ d : D, clo 0 d = true → clo n d = true
  | .tup xs, h => clos_mono xs h
  | .lst xs, h => clos_mono xs h
  | .dic _ xs, h => clos_mono xs h
  | .loc _, h => by simp [clo] at h
  | .opq _, _ => rfl
  | .non, _ | .bl _, _ | .int _, _ | .str _, _ | .scr _, _ => rfl
theorem clos_mono {n : Nat} : ∀ xs : List D, clos 0 xs = true → clos n xs = true
  | [], _ => rfl
  | x :: xs, h => by
    have h := Bool.and_eq_true_iff.mp h
    exact Bool.and_eq_true_iff.mpr ⟨clo_mono x h.1, clos_mono xs h.2⟩
end
theorem fin_clo {S : Store} {d : D} (h : clo 0 d = true) : fin true S d S = .ok d S := fin_self (clo_mono d h)
theorem dic_F {ks : List Str} {vs : List D} {S : Store} (h1 : ks.length = vs.length) (h2 : ks.Nodup) (h3 : ks.length ≤ 15) (h4 : clos 0 vs = true) : dispM false ks (.ok vs (S ++ [.dic []])) S = .ok (.dic ks vs) S := by
  unfold dispM
  rw [bind_ok, if_pos ⟨h1, h2, h3⟩, if_neg (by simp), if_pos ⟨rfl, clos_mono vs h4⟩]
/-- a loop that looks for a bad one -/
theorem forL_find {ch : List (Nat × List D)} {i : Nat} {f : Env → Store → RS} {S : Store} {r : D} {bad : D → Bool} (hs : stays S ch = true) : ∀ {xs : List D} {δ : Env}, (∀ x ∈ xs, f (δ.set i (some x)) S = if bad x then .rt r S else .nx (δ.set i (some x)) S) →
    ∃ δ', (δ' = δ ∨ ∃ x, δ' = δ.set i (some x)) ∧ forL ch (.nm i) f xs δ S = if xs.any bad then .rt r S else .nx δ' S
  | [], δ, _ => ⟨δ, .inl rfl, by simp [forL, hs]⟩
  | x :: xs, δ, h => by
    have h1 := h x (List.mem_cons_self ..)
    obtain ⟨δ', e1, e2⟩ := forL_find hs (xs := xs) (δ := δ.set i (some x)) fun y hy => by rw [List.set_set]; exact h y (List.mem_cons_of_mem _ hy)
    refine ⟨δ', .inr ?_, ?_⟩
    · rcases e1 with e1 | ⟨y, e1⟩
      · exact ⟨x, e1⟩
      · exact ⟨y, by rw [e1, List.set_set]⟩
    · unfold forL
      rw [if_pos hs]
      simp only [setT]
      rw [h1, List.any_cons]
      cases hb : bad x
      · simp only [Bool.false_eq_true, if_false, Bool.false_or]
        exact e2
      · simp
@[simp] theorem ixD_zero (a : D) (as : List D) : ixD (a :: as) 0 = some a := atI_nat (a :: as) 0 (by simp)
theorem pick {xs : List D} {i : Int} (h : 0 ≤ i ∧ i < xs.length) : ∃ d ∈ xs, ixD xs i = some d := by
  obtain ⟨k, rfl⟩ := Int.eq_ofNat_of_zero_le h.1
  have hk : k < xs.length := by omega
  exact ⟨xs[k], List.getElem_mem hk, atI_nat xs k hk⟩
theorem flats_of {n : Nat} : ∀ {l : List D}, (∀ x ∈ l, flat n x = true) → flats n l = true
  | [], _ => rfl
  | x :: l, h => Bool.and_eq_true_iff.mpr ⟨h x (List.mem_cons_self ..), flats_of fun y hy => h y (List.mem_cons_of_mem _ hy)⟩
theorem clos_of {n : Nat} : ∀ {l : List D}, (∀ x ∈ l, clo n x = true) → clos n l = true
  | [], _ => rfl
  | x :: l, h => Bool.and_eq_true_iff.mpr ⟨h x (List.mem_cons_self ..), clos_of fun y hy => h y (List.mem_cons_of_mem _ hy)⟩
theorem eq_nil {S : Store} {l : List D} (h : flats 59 l = true) : op2 S .eq (.lst l) (.lst []) = some (.bl l.isEmpty) := by
  have f1 : isFlat (.lst l) = true := h
  have f2 : isFlat (.lst []) = true := rfl
  rw [show op2 S .eq (.lst l) (.lst []) = if isFlat (.lst l) && isFlat (.lst []) then some (.bl (eqD (.lst l) (.lst []))) else none from rfl, f1, f2]
  cases l <;> rfl
/-! ### lists of numbers -/
def intsD (ns : List Int) : List D := ns.map .int
@[simp] theorem ints_len (ns : List Int) : (intsD ns).length = ns.length := List.length_map _
theorem eqDs_ints : ∀ (xs ys : List Int), eqDs (intsD xs) (intsD ys) = decide (xs = ys)
  | [], [] => rfl
  | [], _ :: _ => rfl
  | _ :: _, [] => rfl
  | x :: xs, y :: ys => by
    have ih := eqDs_ints xs ys
    unfold intsD at ih ⊢
    simp only [List.map_cons, eqDs, ih, eqD]
    by_cases h : x = y <;> simp [h]
theorem flats_ints (n : Nat) : ∀ xs : List Int, flats n (intsD xs) = true
  | [] => rfl
  | x :: xs => by
    have := flats_ints n xs
    unfold intsD at this ⊢
    simp [flats, this, flat]
theorem clos_ints (n : Nat) : ∀ xs : List Int, clos n (intsD xs) = true
  | [] => rfl
  | x :: xs => by
    have := clos_ints n xs
    unfold intsD at this ⊢
    simp [clos, this, clo]
theorem byVal_items {S : Store} {d : D} {xs : List D} (h : items S d = some xs) : byVal S d = .lst xs := by
  cases d <;> simp only [items, reduceCtorEq, Option.some.injEq] at h
  · subst h; rfl
  · rename_i n
    simp only [byVal]
    split at h
    · cases h
      rfl
    · cases h
theorem op2_eq (S : Store) (a b : D) : op2 S .eq a b = if isFlat (byVal S a) && isFlat (byVal S b) then some (.bl (eqD (byVal S a) (byVal S b))) else none := rfl
theorem op2_ne (S : Store) (a b : D) : op2 S .ne a b = if isFlat (byVal S a) && isFlat (byVal S b) then some (.bl (!eqD (byVal S a) (byVal S b))) else none := rfl
theorem items_app {S T : Store} {d : D} {xs : List D} (h : items S d = some xs) : items (S ++ T) d = some xs := by
  cases d <;> simp only [items, reduceCtorEq, Option.some.injEq] at h ⊢
  · exact h
  · rename_i n
    split at h
    · rename_i ys e
      rw [List.getElem?_append_left (List.getElem?_eq_some_iff.mp e).1, e]
      exact h
    · cases h
theorem walk_items {S : Store} {d : D} {xs : List D} (h : items S d = some xs) : ∃ ch, walkOf S .ex [d] = some (xs, ch) ∧ stays S ch = true := by
  cases d <;> simp only [items, reduceCtorEq, Option.some.injEq] at h
  · subst h; exact ⟨[], rfl, stays_nil⟩
  · rename_i n
    split at h
    · rename_i ys e
      cases h
      exact ⟨[(n, xs)], by simp [walkOf, lstAt, e], stays_one e⟩
    · cases h
theorem eq_items {S : Store} {a b : D} {xs ys : List Int} (ha : items S a = some (intsD xs)) (hb : items S b = some (intsD ys)) : op2 S .eq a b = some (.bl (decide (xs = ys))) := by
  have f : ∀ xs, isFlat (.lst (intsD xs)) = true := fun xs => by
    unfold isFlat flat
    exact flats_ints _ _
  rw [op2_eq, byVal_items ha, byVal_items hb, f, f]
  simp [eqD, eqDs_ints]
theorem ne_items {S : Store} {a b : D} {xs ys : List Int} (ha : items S a = some (intsD xs)) (hb : items S b = some (intsD ys)) : op2 S .ne a b = some (.bl (!decide (xs = ys))) := by
  have f : ∀ xs, isFlat (.lst (intsD xs)) = true := fun xs => by
    unfold isFlat flat
    exact flats_ints _ _
  rw [op2_ne, byVal_items ha, byVal_items hb, f, f]
  simp [eqD, eqDs_ints]
theorem rngD_ints (a b : Int) : rngD a b = intsD ((List.range (b - a).toNat).map fun (i : Nat) => a + i) := by
  unfold rngD intsD
  rw [List.map_map]
  rfl
theorem rng_get {b : Int} {i : Nat} {x : D} (h : (rngD 0 b)[i]? = some x) : (i : Int) < b ∧ x = .int (i : Nat) := by
  unfold rngD at h
  rw [List.getElem?_map] at h
  obtain ⟨j, h1, h2⟩ := Option.map_eq_some_iff.mp h
  obtain ⟨h3, h4⟩ := List.getElem?_eq_some_iff.mp h1
  simp at h3 h4
  subst h4
  exact ⟨by omega, by simpa using h2.symm⟩
theorem seqO_clo {n : Nat} {S : Store} {k : Nat} : ∀ {ds : List D}, clos n ds = true → seqO (ds.map (fz n S k)) = some ds
  | [], _ => rfl
  | d :: ds, h => by
    have h := Bool.and_eq_true_iff.mp h
    have ih := seqO_clo (S := S) (k := k) h.2
    unfold List.map seqO
    rw [fz_clo h.1, ih]
/-- a new list, given out and told by value -/
theorem fin_new {S : Store} {xs : List D} (h : clos 0 xs = true) : fin true S (.loc S.length) (S ++ [.lst xs]) = .ok (.lst xs) S := by
  unfold fin
  rw [if_pos rfl, if_pos take_app]
  have nc : clo S.length (.loc S.length) = false := by simp [clo]
  have hg : (S ++ [Cell.lst xs])[S.length]? = some (.lst xs) := by simp
  have e : fz S.length (S ++ [.lst xs]) 20 (.loc S.length) = some (.lst xs) := by
    unfold fz
    rw [if_neg (by rw [nc]; exact Bool.false_ne_true)]
    simp only [hg]
    rw [seqO_clo (clos_mono _ h)]
    rfl
  rw [e]
theorem at_new (S : Store) (xs : List D) : lstAt (S ++ [.lst xs]) (.loc S.length) = some (S.length, xs) := by simp [lstAt]
theorem app_new (S : Store) (xs : List D) (y : D) (h : xs.length ≤ 10000000) : appD (.loc S.length) y (S ++ [.lst xs]) = .ok .non (S ++ [.lst (xs ++ [y])]) := by
  unfold appD
  rw [at_new]
  simp
  omega
theorem ne_nil {S : Store} {l : List D} (h : flats 59 l = true) : op2 S .ne (.lst l) (.lst []) = some (.bl (!l.isEmpty)) := by
  have f1 : isFlat (.lst l) = true := h
  have f2 : isFlat (.lst []) = true := rfl
  rw [show op2 S .ne (.lst l) (.lst []) = if isFlat (.lst l) && isFlat (.lst []) then some (.bl (!eqD (.lst l) (.lst []))) else none from rfl, f1, f2]
  cases l <;> rfl
/-- [e for k in range(n)] -/
theorem rng_cmp {P : Par} {δ : Env} {S : Store} {elt e : E} {j : Nat} {N : Int} {g : Nat → D} (hN : evE P e δ S = .ok (.int N) S) (h0 : 0 ≤ N ∧ N ≤ 100000) (hc : ∀ i, clo 0 (g i) = true)
    (h : ∀ i : Nat, (i : Int) < N → ∀ T, evE P elt (δ.set j (some (.int i))) (S ++ T) = .ok (g i) (S ++ T)) : evE P (.cmp false elt [j] (.nm j) .rng1 [e] []) δ S = .ok (.lst ((List.range N.toNat).map g)) S := by
  rw [evE_cmp]
  have lr : (rngD 0 N).length = N.toNat := by simp [rngD]
  rw [evCmp_F (S1 := S) (ds := [.int N]) (xs := rngD 0 N) (ch := []) (g := fun d => match d with
    | .int i => if (i : Int) < N then some (g i.toNat) else none
    | _ => none) (by simp [hN]) (by simp [walkOf]; omega) stays_nil (by rw [lr, LIM_nat]; omega) (fun x hx acc => ?_) (fun x hx => ?_)]
  · congr 2
    unfold rngD
    rw [List.filterMap_map, show (N - 0).toNat = N.toNat by omega]
    have : ∀ l : List Nat, (∀ i ∈ l, (i : Int) < N) → l.filterMap ((fun d => match d with
      | D.int i => if (i : Int) < N then some (g i.toNat) else none
      | _ => none) ∘ fun (i : Nat) => D.int (0 + i)) = l.map g := by
      intro l
      induction l with
      | nil => intro _; rfl
      | cons a l ih =>
        intro hl
        have ha := hl a (List.mem_cons_self ..)
        have e : ((fun d => match d with
          | D.int i => if (i : Int) < N then some (g i.toNat) else none
          | _ => none) ∘ fun (i : Nat) => D.int (0 + i)) a = some (g a) := by
          simp [ha]
        rw [List.filterMap_cons, e, List.map_cons, ih fun i hi => hl i (List.mem_cons_of_mem _ hi)]
    exact this _ fun i hi => by have := List.mem_range.mp hi; omega
  · obtain ⟨i, hi⟩ := List.mem_iff_getElem?.mp hx
    obtain ⟨h1, rfl⟩ := rng_get hi
    have := h i h1 [.lst acc]
    simp [turnC, setT, wipeE, this, h1]
  · obtain ⟨i, hi⟩ := List.mem_iff_getElem?.mp hx
    obtain ⟨h1, rfl⟩ := rng_get hi
    simp [h1, clos, clo_mono _ (hc i)]
/-- a comprehension whose results are known one by one -/
theorem compT_all {ch : List (Nat × List D)} {f : D → Store → R (Option D)} {S : Store} (hs : stays S ch = true) : ∀ {xs ys acc : List D}, xs.length = ys.length → (∀ (i : Nat) x y, xs[i]? = some x → ys[i]? = some y → ∀ acc, f x (S ++ [.lst acc]) = .ok (some y) (S ++ [.lst acc])) → acc.length + xs.length ≤ LIM →
    compT S.length ch f xs (S ++ [.lst acc]) = .ok (.loc S.length) (S ++ [.lst (acc ++ ys)])
  | [], [], acc, _, _, _ => by simp [compT, stays_app hs]
  | [], _ :: _, _, h, _, _ => by cases h
  | _ :: _, [], _, h, _, _ => by cases h
  | x :: xs, y :: ys, acc, he, h, hl => by
    unfold compT
    have hlt : acc.length < LIM := by simp only [List.length_cons] at hl; omega
    rw [if_pos (stays_app hs), h 0 x y rfl rfl acc, bind0_ok]
    have e : (S ++ [Cell.lst acc])[S.length]? = some (.lst acc) := by simp
    rw [e]
    dsimp only
    rw [if_pos hlt]
    have e2 : (S ++ [Cell.lst acc]).set S.length (.lst (acc ++ (some y).toList)) = S ++ [.lst (acc ++ [y])] := by simp
    rw [e2, compT_all hs (by simpa using he) (fun i x' y' hx hy => h (i + 1) x' y' (by simpa using hx) (by simpa using hy))]
    · simp
    · simp only [List.length_cons, List.length_append, List.length_nil] at hl ⊢
      omega
theorem evCmp_T2 {ik : IK} {tg : Tg} {vs : List Nat} {gi : Env → Store → R (List D)} {ti : Env → Store → R Bool} {fe : Env → Store → R D} {δ : Env} {S S1 : Store} {ds xs ys : List D} {ch : List (Nat × List D)}
    (h1 : gi δ S = .ok ds S1) (h2 : walkOf S1 ik ds = some (xs, ch)) (hs : stays S1 ch = true) (hl : xs.length ≤ LIM) (he : xs.length = ys.length) (h : ∀ (i : Nat) x y, xs[i]? = some x → ys[i]? = some y → ∀ acc, turnC vs tg ti fe δ x (S1 ++ [.lst acc]) = .ok (some y) (S1 ++ [.lst acc])) :
    evCmp true ik tg vs gi ti fe δ S = .ok (.loc S1.length) (S1 ++ [.lst ys]) := by
  unfold evCmp compM
  rw [h1, bind_ok, h2]
  dsimp only
  rw [if_pos hl]
  have := compT_all (acc := []) hs he h (by simpa using hl)
  simpa using this
mutual
theorem eqD_refl : ∀ (n : Nat) (d : D), flat n d = true → eqD d d = true
  | _, .non, _ => rfl
  | _, .bl b, _ => by cases b <;> rfl
  | _, .int i, _ => by simp [eqD]
  | _, .str s, _ => by simp [eqD]
  | _, .scr _, h => by simp [flat] at h
  | 0, .tup xs, h => by simp [flat] at h
  | n + 1, .tup xs, h => by
    simp only [flat] at h
    simp only [eqD]
    exact eqDs_refl n xs h
  | 0, .lst xs, h => by simp [flat] at h
  | n + 1, .lst xs, h => by
    simp only [flat] at h
    simp only [eqD]
    exact eqDs_refl n xs h
  | _, .dic _ _, h => by simp [flat] at h
  | _, .loc _, h => by simp [flat] at h
  | _, .opq _, h => by simp [flat] at h
theorem eqDs_refl : ∀ (n : Nat) (xs : List D), flats n xs = true → eqDs xs xs = true
  | _, [], _ => rfl
  | n, x :: xs, h => by
    have h := Bool.and_eq_true_iff.mp h
    simp only [eqDs, eqD_refl n x h.1, eqDs_refl n xs h.2, Bool.and_self]
end
theorem eq_self {S : Store} {a b : D} {xs : List D} (ha : items S a = some xs) (hb : items S b = some xs) (h : flats 59 xs = true) : op2 S .eq a b = some (.bl true) ∧ op2 S .ne a b = some (.bl false) := by
  have f : isFlat (.lst xs) = true := h
  have e : eqD (.lst xs) (.lst xs) = true := eqD_refl 60 _ h
  rw [op2_eq, op2_ne, byVal_items ha, byVal_items hb, f, e]
  exact ⟨rfl, rfl⟩
def keepI (p : Int → Bool) : D → Option D
  | .int i => if p i then some (.int i) else none
  | _ => none
theorem filterMap_ints (p : Int → Bool) : ∀ xs : List Int, (intsD xs).filterMap (keepI p) = intsD (xs.filter p)
  | [] => rfl
  | x :: xs => by
    have := filterMap_ints p xs
    unfold intsD at this ⊢
    cases h : p x <;> simp [h, this, keepI]
theorem mem_ints {xs : List Int} {d : D} (h : d ∈ intsD xs) : ∃ i, d = .int i ∧ i ∈ xs := by
  obtain ⟨i, h1, h2⟩ := List.mem_map.mp h
  exact ⟨i, h2.symm, h1⟩
end Ev
namespace Ev
open PySem PySem.Spec PyProof.Rows L2
/-! ### the head's facts of the exceptions' classes -/
def excB (K : PySem.W.Frag) (C : Addr) : Bool :=
  decide (PySem.W.findIn K (.ref C) "__getattribute__" = some (some (.builtin "BaseException.__getattribute__"))) && (decide (PySem.W.findIn K (.ref C) "__getattr__" = some none) && (decide (PySem.W.subIn K (.ref C) (.type "BaseException") = some true) &&
  (PySem.W.hasDictIn K C && (decide (PySem.W.findIn K (.ref C) "__class__" = some (some (.builtin "object.__class__"))) && (decide (PySem.W.specialIn K (.builtin "object.__class__") "__get__" = some (some (.builtin "getset_descriptor.__get__"))) &&
  (decide (PySem.W.takesIn K (.builtin "object.__class__") = some true) && decide (PySem.W.mroIn K C (.type "object") = some true)))))))
theorem excB_ok {K : PySem.W.Frag} {C : Addr} (h : excB K C = true) : ExcC K C := by
  unfold excB at h
  simp only [Bool.and_eq_true, decide_eq_true_eq] at h
  obtain ⟨h1, h2, h3, h4, h5, h6, h7, h8⟩ := h
  exact ⟨h1, h2, h3, h4, h5, h6, h7, h8⟩
def kA (K : PySem.W.Frag) (c : Nat) : Addr := He.ga K (kCls.getD c "")
def kitsB (K : PySem.W.Frag) : Bool := (List.range 8).all fun c => decide (PySem.W.kitOne K (.ref (kA K c)) (.type "ValueError") = some true) && (excB K (kA K c) && (List.range 8).all fun i => decide (PySem.W.kitOne K (.ref (kA K c)) (.ref (kA K i)) = some (decide (c = i))))
theorem kitsB_ok {K : PySem.W.Frag} (h : kitsB K = true) {c : Nat} (hc : c < 8) : PySem.W.kitOne K (.ref (kA K c)) (.type "ValueError") = some true ∧ ExcC K (kA K c) ∧ ∀ i, i < 8 → PySem.W.kitOne K (.ref (kA K c)) (.ref (kA K i)) = some (decide (c = i)) := by
  unfold kitsB at h
  rw [List.all_eq_true] at h
  have := h c (List.mem_range.mpr hc)
  rw [Bool.and_eq_true, Bool.and_eq_true, decide_eq_true_eq, List.all_eq_true] at this
  exact ⟨this.1, excB_ok this.2.1, fun i hi => of_decide_eq_true (this.2.2 i (List.mem_range.mpr hi))⟩
def hookM (n : Nat) (fa : List He.Fa) (fn : List He.DefD) : PySem.W.Hook where
  α := He.AlD × Bool
  obs := fun s => (He.obsDG n fa fn s.heap.get?, kitsB (He.frG s.heap.get? (He.asD s.heap.get? n)))
  val := fun _ => (He.valD fn, true)
  says := fun _ h => ∃ K : PySem.W.Frag, K.In h ∧ He.SaysD fa fn K ∧ kitsB K = true
  of := fun _ _ e => ⟨_, He.frG_in, congrArg (fun z : He.AlD × Bool => z.1) e, congrArg (fun z : He.AlD × Bool => z.2) e⟩
  keeps := fun _ _ _ ⟨K, hK, c⟩ k => ⟨K, PySem.W.Frag.In.keeps hK k, c⟩
def obM (n : Nat) (fa : List He.Fa) (fn : List He.DefD) (g : Addr → Option Obj) : He.AlD × Bool := (He.obsDG n fa fn g, kitsB (He.frG g (He.asD g n)))
theorem obM_eq {n : Nat} {fa : List He.Fa} {fn : List He.DefD} {g : Addr → Option Obj} {s : Shared} (h : ∀ a, g a = s.heap.get? a) : obM n fa fn g = (hookM n fa fn).obs s := by
  have e : g = s.heap.get? := funext h
  rw [e] <;> rfl
/-- no class of instances has an attribute of its own by these names -/
def atrOf (fs : List (Nat × List Str)) (c : Nat) (f : Str) : Bool := match fs.lookup c with
  | some l => l.contains f
  | none => false
theorem atr_mem {fs : List (Nat × List Str)} {l : List (Nat × Str)} {c : Nat} {f : Str} (h : (fs.flatMap fun p => p.2.map fun x => (p.1, x)) = l) (k : atrOf fs c f = true) : (c, f) ∈ l := by
  subst h
  unfold atrOf at k
  cases e : fs.lookup c with
  | none => rw [e] at k; cases k
  | some xs =>
    rw [e] at k
    have hm : (c, xs) ∈ fs := by
      induction fs with
      | nil => cases e
      | cons p r ih =>
        obtain ⟨d, ys⟩ := p
        rw [List.lookup_cons] at e
        split at e
        · rename_i q
          cases e
          rw [eq_of_beq q]
          exact List.mem_cons_self ..
        · exact List.mem_cons_of_mem _ (ih e)
    exact List.mem_flatMap.mpr ⟨_, hm, List.mem_map.mpr ⟨f, List.contains_iff_mem.mp k, rfl⟩⟩
/-- the instances' classes, by their names -/
def iA (K : PySem.W.Frag) (cs : List Str) (c : Nat) : Addr := He.ga K (cs.getD c "")
def kExc : List (Str × Nat) := [("BadPlan", 0), ("BadLetter", 1), ("Stranger", 2), ("Gone", 3), ("Nothing", 4), ("Closed", 5), ("BadHistory", 6), ("BadText", 7)]
theorem xok_mk {K : PySem.W.Frag} {h : Heap} {mg : Str → Option Value} (X : K.In h) (G : h.Ns mainGlobals mg) (hc : ∀ c, c < 8 → (He.Fa.glo (kCls.getD c "")).ok K = true ∧ (He.Fa.exc (kCls.getD c "")).ok K = true ∧ (He.Fa.exm (kCls.getD c "") "HouseError" true).ok K = true)
    (hh : (He.Fa.glo "HouseError").ok K = true) (h1 : mg "isinstance" = none) (h2 : mg "range" = none) (h3 : mg "ValueError" = none) (kb : kitsB K = true)
    (kd : ∃ st fa fdt, FunD K "_law_kinds" "_law_kinds" (defArgs st) (defBody st) (defScope st) [] [] fa fdt ∧ mg "_law_kinds" = some (.ref fa) ∧ Binds K fdt ["_law_e"] [] ∧ C8.scC kN ["_law_e"] (defScope st) = true ∧ ckK (defScope st) (defBody st) = true) :
    XOk (kA K) K mg kExc "HouseError" "_law_kinds" where
  exc := fun x c hl => by
    have hm := lookup_mem hl
    have go : ∀ c, c < 8 → ExcK K (kA K c) ∧ mg (kCls.getD c "") = some (.ref (kA K c)) := fun c h8 => by
      obtain ⟨g1, g2, g3⟩ := hc c h8
      obtain ⟨e1, e2, e3, e4⟩ := He.exc_ok g2
      exact ⟨⟨e1, e2, e3, e4, (kitsB_ok kb h8).2.1⟩, He.glo_ok X G g1⟩
    simp only [kExc, List.mem_cons, Prod.mk.injEq, List.not_mem_nil, or_false] at hm
    rcases hm with ⟨rfl, rfl⟩ | ⟨rfl, rfl⟩ | ⟨rfl, rfl⟩ | ⟨rfl, rfl⟩ | ⟨rfl, rfl⟩ | ⟨rfl, rfl⟩ | ⟨rfl, rfl⟩ | ⟨rfl, rfl⟩
    · exact go 0 (by decide)
    · exact go 1 (by decide)
    · exact go 2 (by decide)
    · exact go 3 (by decide)
    · exact go 4 (by decide)
    · exact go 5 (by decide)
    · exact go 6 (by decide)
    · exact go 7 (by decide)
  hou := fun _ => ⟨_, He.glo_ok X G hh, fun c h8 => He.exm_ok (hc c h8).2.2⟩
  kd := fun _ => by
    obtain ⟨st, fa, fdt, k1, k2, k3, k4, k5⟩ := kd
    refine ⟨st, fa, fdt, k1, k2, k3, k4, k5, h1, h2, h3, fun c h8 i y hy => ?_, fun c h8 => (kitsB_ok kb h8).1, fun c h8 => (kitsB_ok kb h8).2.1⟩
    have hi : i < 8 := (List.getElem?_eq_some_iff.mp hy).1
    have hy2 : kCls.getD i "" = y := by rw [List.getD_eq_getElem?_getD, hy]; rfl
    refine ⟨?_, (kitsB_ok kb h8).2.2 i hi⟩
    rw [← hy2]
    exact He.glo_ok X G (hc i hi).1
end Ev
namespace LawK
open PySem PySem.Spec PyProof.Rows L2 Ev
abbrev pw : Program := PySem.Challenge.pw_wardhouse_k04_houses_made
/-- (0 thing, 1 least, 2 most) -/
def f_is_number : Fd := ⟨["thing", "least", "most"], ["thing", "least", "most"], [.ret (.and (.op1 (.isi .int) (.var 0)) (.and (.not (.op1 (.isi .bool) (.var 0))) (.chn .le .le (.var 1) (.var 0) (.var 2))))], true⟩
def s_is_name_0 : Ev.S := .ite (.or (.not (.op1 (.isi .str) (.var 0))) (.not (.chn .le .le (.lit (.int 1)) (.op1 .len (.var 0)) (.con 1)))) [.ret (.lit (.bl false))] []
def b_is_name_1 : List Ev.S := [.ite (.op2 .notin (.var 1) (.con 0)) [.ret (.lit (.bl false))] []]
def s_is_name_1 : Ev.S := .for_ (.nm 1) .ex [.var 0] b_is_name_1
def s_is_name_2 : Ev.S := .ret (.lit (.bl true))
/-- (0 thing, 1 sign) -/
def f_is_name : Fd := ⟨["thing"], ["thing", "sign"], [s_is_name_0, s_is_name_1, s_is_name_2], true⟩
/-- (0 thing, 1 words) -/
def f_is_word_of : Fd := ⟨["thing", "words"], ["thing", "words"], [.ret (.and (.op1 (.isi .str) (.var 0)) (.op2 .in_ (.var 0) (.var 1)))], true⟩
/-- (0 thing, 1 word, 2 size) -/
def f_is_row : Fd := ⟨["thing", "word", "size"], ["thing", "word", "size"], [.ret (.and (.op1 (.isi .tuple) (.var 0)) (.and (.op2 .eq (.op1 .len (.var 0)) (.var 2)) (.call 2 [.op2 .get (.var 0) (.lit (.int 0)), .tup [.var 1]])))], true⟩
def s_is_worker_0 : Ev.S := .ite (.not (.call 3 [.var 0, .lit (.str "worker"), .lit (.int 3)])) [.ret (.lit (.bl false))] []
def s_is_worker_1 : Ev.S := .ret (.and (.call 1 [.op2 .get (.var 0) (.lit (.int 1))]) (.call 2 [.op2 .get (.var 0) (.lit (.int 2)), .tup [.lit (.str "always"), .lit (.str "faulted"), .lit (.str "never")]]))
/-- (0 thing) -/
def f_is_worker : Fd := ⟨["thing"], ["thing"], [s_is_worker_0, s_is_worker_1], true⟩
def s_is_warden_0 : Ev.S := .ite (.or (.op2 .ge (.var 1) (.con 5)) (.or (.not (.call 3 [.var 0, .lit (.str "warden"), .lit (.int 6)])) (.not (.call 1 [.op2 .get (.var 0) (.lit (.int 1))])))) [.ret (.lit (.bl false))] []
def s_is_warden_1 : Ev.S := .ite (.or (.not (.call 2 [.op2 .get (.var 0) (.lit (.int 2)), .tup [.lit (.str "one"), .lit (.str "rest"), .lit (.str "all")]])) (.not (.call 0 [.op2 .get (.var 0) (.lit (.int 3)), .lit (.int 0), .con 2]))) [.ret (.lit (.bl false))] []
def s_is_warden_2 : Ev.S := .ite (.or (.not (.call 0 [.op2 .get (.var 0) (.lit (.int 4)), .lit (.int 1), .con 2])) (.or (.not (.op1 (.isi .tuple) (.op2 .get (.var 0) (.lit (.int 5))))) (.not (.chn .le .le (.lit (.int 1)) (.op1 .len (.op2 .get (.var 0) (.lit (.int 5)))) (.con 4))))) [.ret (.lit (.bl false))] []
def b_is_warden_3 : List Ev.S := [.ite (.and (.not (.call 4 [.var 2])) (.not (.call 5 [.var 2, .op2 .add (.var 1) (.lit (.int 1))]))) [.ret (.lit (.bl false))] []]
def s_is_warden_3 : Ev.S := .for_ (.nm 2) .ex [.op2 .get (.var 0) (.lit (.int 5))] b_is_warden_3
def s_is_warden_4 : Ev.S := .ret (.lit (.bl true))
/-- (0 thing, 1 above, 2 part) -/
def f_is_warden : Fd := ⟨["thing", "above"], ["thing", "above", "part"], [s_is_warden_0, s_is_warden_1, s_is_warden_2, s_is_warden_3, s_is_warden_4], true⟩
def s_names_of_0 : Ev.S := .set 1 (.lst false [.op2 .get (.var 0) (.lit (.int 1))])
def s_names_of_1 : Ev.S := .ite (.op2 .eq (.op2 .get (.var 0) (.lit (.int 0))) (.lit (.str "warden"))) [.for_ (.nm 2) .ex [.op2 .get (.var 0) (.lit (.int 5))] [.set 1 (.op2 .add (.var 1) (.call 6 [.var 2]))]] []
def s_names_of_2 : Ev.S := .ret (.var 1)
/-- (0 plan, 1 found, 2 part) -/
def f_names_of : Fd := ⟨["plan"], ["plan", "found", "part"], [s_names_of_0, s_names_of_1, s_names_of_2], true⟩
def s_is_plan_0 : Ev.S := .ite (.not (.call 5 [.var 0, .lit (.int 0)])) [.ret (.lit (.bl false))] []
def s_is_plan_1 : Ev.S := .set 1 (.op1 .sorted (.call 6 [.var 0]))
def b_is_plan_2 : List Ev.S := [.ite (.op2 .eq (.var 2) (.var 3)) [.ret (.lit (.bl false))] []]
def s_is_plan_2 : Ev.S := .for_ (.pr 2 3) .zip [.var 1, .slf (.var 1) (.lit (.int 1))] b_is_plan_2
def s_is_plan_3 : Ev.S := .ret (.op2 .le (.op1 .len (.var 1)) (.con 3))
/-- (0 thing, 1 names, 2 name, 3 following) -/
def f_is_plan : Fd := ⟨["thing"], ["thing", "names", "name", "following"], [s_is_plan_0, s_is_plan_1, s_is_plan_2, s_is_plan_3], true⟩
def s_law_cell_at_0 : Ev.S := .ite (.op2 .lt (.var 1) (.op1 .len (.var 0))) [.ret (.op2 .get (.var 0) (.var 1))] []
def s_law_cell_at_1 : Ev.S := .ret (.lit (.int 0))
/-- (0 _law_script, 1 _law_k) -/
def f_law_cell_at : Fd := ⟨["_law_script", "_law_k"], ["_law_script", "_law_k"], [s_law_cell_at_0, s_law_cell_at_1], true⟩
/-- (0 _law_found) -/
def f_law_whole : Fd := ⟨["_law_found"], ["_law_found"], [.ret (.and (.op1 (.isi .int) (.var 0)) (.not (.op1 (.isi .bool) (.var 0))))], true⟩
def s_law_names_0 : Ev.S := .set 2 (.lit (.str "abcdefghijklmnopqrstuvwxyz"))
def s_law_names_1 : Ev.S := .set 3 (.lit (.str ""))
def s_law_names_2 : Ev.S := .set 4 (.op2 .fdiv (.var 0) (.lit (.int 48)))
def b_law_names_3 : List Ev.S := [.set 3 (.op2 .add (.var 3) (.op2 .get (.var 2) (.op2 .mod (.var 4) (.lit (.int 26))))),
    .set 4 (.op2 .fdiv (.var 4) (.lit (.int 26)))]
def s_law_names_3 : Ev.S := .for_ (.nm 5) .rng1 [.lit (.int 8)] b_law_names_3
def s_law_names_4 : Ev.S := .set 6 (.op2 .mod (.var 0) (.lit (.int 6)))
def s_law_names_5 : Ev.S := .ite (.and (.op2 .eq (.var 6) (.lit (.int 0))) (.op2 .lt (.var 1) (.lit (.int 9)))) [.ret (.cmp false (.slt (.var 3) (.op2 .add (.var 5) (.lit (.int 1)))) [5] (.nm 5) .rng1 [.var 1] [])] []
def s_law_names_6 : Ev.S := .ite (.and (.op2 .eq (.var 6) (.lit (.int 1))) (.op2 .lt (.var 1) (.lit (.int 9)))) [.ret (.cmp false (.slf (.var 3) (.op2 .sub (.lit (.int 7)) (.var 5))) [5] (.nm 5) .rng1 [.var 1] [])] []
def s_law_names_7 : Ev.S := .set 3 (.slt (.var 3) (.op2 .mod (.op2 .fdiv (.var 0) (.lit (.int 6))) (.lit (.int 7))))
def s_law_names_8 : Ev.S := .ite (.and (.op2 .lt (.var 6) (.lit (.int 4))) (.op2 .lt (.var 1) (.lit (.int 27)))) [.set 7 (.slt (.var 3) (.op2 .mod (.op2 .fdiv (.var 0) (.lit (.int 5))) (.op2 .add (.op1 .len (.var 3)) (.lit (.int 1))))),
    .set 8 (.slf (.var 3) (.op1 .len (.var 7))),
    .ret (.cmp false (.op2 .add (.op2 .add (.var 7) (.op2 .get (.var 2) (.op2 .mod (.op2 .add (.op2 .fdiv (.var 0) (.lit (.int 7))) (.op2 .mul (.lit (.int 7)) (.var 5))) (.lit (.int 26))))) (.var 8)) [5] (.nm 5) .rng1 [.var 1] [])] []
def s_law_names_9 : Ev.S := .ret (.cmp false (.op2 .add (.op2 .add (.var 3) (.op2 .get (.var 2) (.op2 .fdiv (.var 5) (.lit (.int 26))))) (.op2 .get (.var 2) (.op2 .mod (.var 5) (.lit (.int 26))))) [5] (.nm 5) .rng1 [.var 1] [])
/-- (0 _law_cell, 1 _law_many, 2 _law_some, 3 _law_head, 4 _law_rest, 5 _law_k, 6 _law_way, 7 _law_left, 8 _law_right) -/
def f_law_names : Fd := ⟨["_law_cell", "_law_many"], ["_law_cell", "_law_many", "_law_some", "_law_head", "_law_rest", "_law_k", "_law_way", "_law_left", "_law_right"], [s_law_names_0, s_law_names_1, s_law_names_2, s_law_names_3, s_law_names_4, s_law_names_5, s_law_names_6, s_law_names_7, s_law_names_8, s_law_names_9], true⟩
def s_law_nodes_0 : Ev.S := .set 2 (.lst true [.dic true ["up", "warden", "deep", "inner", "cell"] [.op1 .neg (.lit (.int 1)), .lit (.bl true), .lit (.int 1), .lst true [], .call 8 [.var 0, .lit (.int 2)]]])
def b_law_nodes_1 : List Ev.S := [.set 4 (.op2 .add (.call 8 [.var 0, .op2 .add (.lit (.int 3)) (.op2 .mod (.var 3) (.lit (.int 10)))]) (.op2 .mul (.lit (.int 11)) (.op2 .fdiv (.var 3) (.lit (.int 10))))),
    .set 5 (.cmp false (.var 9) [9] (.nm 9) .rng1 [.op1 .len (.var 2)] [.and (.op2 .get (.op2 .get (.var 2) (.var 9)) (.lit (.str "warden"))) (.op2 .lt (.op1 .len (.op2 .get (.op2 .get (.var 2) (.var 9)) (.lit (.str "inner")))) (.lit (.int 8)))]),
    .ite (.op2 .ne (.var 5) (.lst false [])) [.set 6 (.op2 .get (.var 5) (.op2 .mod (.op2 .fdiv (.var 4) (.lit (.int 4))) (.op1 .len (.var 5)))),
    .set 7 (.and (.op2 .eq (.op2 .mod (.var 4) (.lit (.int 4))) (.lit (.int 3))) (.op2 .lt (.op2 .get (.op2 .get (.var 2) (.var 6)) (.lit (.str "deep"))) (.lit (.int 6)))),
    .ex (.app (.op2 .get (.op2 .get (.var 2) (.var 6)) (.lit (.str "inner"))) (.op1 .len (.var 2))),
    .set 8 (.op2 .add (.op2 .get (.op2 .get (.var 2) (.var 6)) (.lit (.str "deep"))) (.lit (.int 1))),
    .ex (.app (.var 2) (.dic true ["up", "warden", "deep", "inner", "cell"] [.var 6, .var 7, .var 8, .lst true [], .op2 .fdiv (.var 4) (.lit (.int 32))]))] []]
def s_law_nodes_1 : Ev.S := .for_ (.nm 3) .rng2 [.lit (.int 1), .var 1] b_law_nodes_1
def b_law_nodes_2 : List Ev.S := [.ite (.and (.op2 .get (.op2 .get (.var 2) (.var 3)) (.lit (.str "warden"))) (.op2 .eq (.op2 .get (.op2 .get (.var 2) (.var 3)) (.lit (.str "inner"))) (.lst false []))) [.ex (.app (.op2 .get (.op2 .get (.var 2) (.var 3)) (.lit (.str "inner"))) (.op1 .len (.var 2))),
    .set 8 (.op2 .add (.op2 .get (.op2 .get (.var 2) (.var 3)) (.lit (.str "deep"))) (.lit (.int 1))),
    .ex (.app (.var 2) (.dic true ["up", "warden", "deep", "inner", "cell"] [.var 3, .lit (.bl false), .var 8, .lst true [], .op2 .fdiv (.op2 .get (.op2 .get (.var 2) (.var 3)) (.lit (.str "cell"))) (.lit (.int 7))]))] []]
def s_law_nodes_2 : Ev.S := .for_ (.nm 3) .rng1 [.op1 .len (.var 2)] b_law_nodes_2
def s_law_nodes_3 : Ev.S := .ret (.var 2)
/-- (0 _law_script, 1 _law_many, 2 _law_nodes_here, 3 _law_k, 4 _law_cell, 5 _law_free, 6 _law_up, 7 _law_warden, 8 _law_deep, 9 _law_j) -/
def f_law_nodes : Fd := ⟨["_law_script", "_law_many"], ["_law_script", "_law_many", "_law_nodes_here", "_law_k", "_law_cell", "_law_free", "_law_up", "_law_warden", "_law_deep", "_law_j"], [s_law_nodes_0, s_law_nodes_1, s_law_nodes_2, s_law_nodes_3], false⟩
def s_law_under_0 : Ev.S := .set 2 (.lst true [])
def s_law_under_1 : Ev.S := .set 3 (.lst false [.var 1])
def b_law_under_2 : List Ev.S := [.set 4 (.op2 .get (.var 3) (.lit (.int 0))),
    .ex (.app (.var 2) (.var 4)),
    .set 3 (.op2 .add (.op2 .get (.op2 .get (.var 0) (.var 4)) (.lit (.str "inner"))) (.slf (.var 3) (.lit (.int 1))))]
def s_law_under_2 : Ev.S := .whl (.op2 .ne (.var 3) (.lst false [])) b_law_under_2
def s_law_under_3 : Ev.S := .ret (.var 2)
/-- (0 _law_nodes_here, 1 _law_k, 2 _law_found, 3 _law_waiting, 4 _law_one) -/
def f_law_under : Fd := ⟨["_law_nodes_here", "_law_k"], ["_law_nodes_here", "_law_k", "_law_found", "_law_waiting", "_law_one"], [s_law_under_0, s_law_under_1, s_law_under_2, s_law_under_3], true⟩
/-- (0 _law_cell) -/
def f_law_many_by : Fd := ⟨["_law_cell"], ["_law_cell"], [.ret (.op2 .get (.lst false [.lit (.int 0), .lit (.int 1), .lit (.int 2), .lit (.int 1), .lit (.int 3), .op2 .pow (.lit (.int 10)) (.lit (.int 9)), .op2 .mod (.op2 .fdiv (.var 0) (.lit (.int 6))) (.lit (.int 9)), .op2 .mod (.op2 .fdiv (.var 0) (.lit (.int 6))) (.op2 .add (.op2 .pow (.lit (.int 10)) (.lit (.int 9))) (.lit (.int 1)))]) (.op2 .mod (.var 0) (.lit (.int 8))))], true⟩
/-- (0 _law_cell) -/
def f_law_span_by : Fd := ⟨["_law_cell"], ["_law_cell"], [.ret (.op2 .get (.lst false [.lit (.int 3), .lit (.int 1), .op2 .pow (.lit (.int 10)) (.lit (.int 9)), .lit (.int 2), .op2 .add (.lit (.int 1)) (.op2 .mod (.op2 .fdiv (.var 0) (.lit (.int 6))) (.lit (.int 12))), .op2 .add (.lit (.int 1)) (.op2 .mod (.op2 .fdiv (.var 0) (.lit (.int 6))) (.op2 .pow (.lit (.int 10)) (.lit (.int 9))))]) (.op2 .mod (.var 0) (.lit (.int 6))))], true⟩
def s_law_part_0 : Ev.S := .set 3 (.op2 .get (.op2 .get (.var 0) (.var 2)) (.lit (.str "cell")))
def s_law_part_1 : Ev.S := .ite (.not (.op2 .get (.op2 .get (.var 0) (.var 2)) (.lit (.str "warden")))) [.ret (.tup [.lit (.str "worker"), .op2 .get (.var 1) (.var 2), .op2 .get (.lst false [.lit (.str "always"), .lit (.str "faulted"), .lit (.str "never"), .lit (.str "faulted")]) (.op2 .mod (.var 3) (.lit (.int 4)))])] []
def s_law_part_2 : Ev.S := .set 4 (.op2 .get (.lst false [.lit (.str "one"), .lit (.str "rest"), .lit (.str "all")]) (.op2 .mod (.var 3) (.lit (.int 3))))
def s_law_part_3 : Ev.S := .set 5 (.tup [])
def b_law_part_4 : List Ev.S := [.set 5 (.op2 .add (.var 5) (.tup [.call 15 [.var 0, .var 1, .var 6]]))]
def s_law_part_4 : Ev.S := .for_ (.nm 6) .ex [.op2 .get (.op2 .get (.var 0) (.var 2)) (.lit (.str "inner"))] b_law_part_4
def s_law_part_5 : Ev.S := .set 7 (.call 13 [.op2 .fdiv (.var 3) (.lit (.int 3))])
def s_law_part_6 : Ev.S := .ite (.and (.op2 .eq (.var 2) (.lit (.int 0))) (.op2 .gt (.op2 .mod (.op2 .fdiv (.var 3) (.lit (.int 3))) (.lit (.int 4))) (.lit (.int 0)))) [.set 7 (.op2 .mn (.op2 .pow (.lit (.int 10)) (.lit (.int 9))) (.op2 .add (.var 7) (.lit (.int 4))))] []
def s_law_part_7 : Ev.S := .ret (.tup [.lit (.str "warden"), .op2 .get (.var 1) (.var 2), .var 4, .var 7, .call 14 [.op2 .fdiv (.var 3) (.lit (.int 24))], .var 5])
/-- (0 _law_nodes_here, 1 _law_names_here, 2 _law_k, 3 _law_cell, 4 _law_rule, 5 _law_parts, 6 _law_one, 7 _law_many) -/
def f_law_part : Fd := ⟨["_law_nodes_here", "_law_names_here", "_law_k"], ["_law_nodes_here", "_law_names_here", "_law_k", "_law_cell", "_law_rule", "_law_parts", "_law_one", "_law_many"], [s_law_part_0, s_law_part_1, s_law_part_2, s_law_part_3, s_law_part_4, s_law_part_5, s_law_part_6, s_law_part_7], true⟩
def s_law_house_0 : Ev.S := .set 1 (.call 8 [.var 0, .lit (.int 0)])
def s_law_house_1 : Ev.S := .set 2 (.op2 .add (.lit (.int 2)) (.op2 .mod (.var 1) (.lit (.int 9))))
def s_law_house_2 : Ev.S := .ite (.op2 .eq (.op2 .mod (.op2 .fdiv (.var 1) (.lit (.int 9))) (.lit (.int 12))) (.lit (.int 1))) [.set 2 (.lit (.int 30))] []
def s_law_house_3 : Ev.S := .set 3 (.call 11 [.var 0, .var 2])
def s_law_house_4 : Ev.S := .set 4 (.call 10 [.call 8 [.var 0, .lit (.int 1)], .op1 .len (.var 3)])
def s_law_house_5 : Ev.S := .set 5 (.cmp false (.call 15 [.var 3, .var 4, .var 6]) [6] (.nm 6) .rng1 [.op1 .len (.var 3)] [])
def s_law_house_6 : Ev.S := .ret (.dic false ["nodes", "names", "parts", "plan", "order"] [.var 3, .var 4, .var 5, .op2 .get (.var 5) (.lit (.int 0)), .call 12 [.var 3, .lit (.int 0)]])
/-- (0 _law_script, 1 _law_cell, 2 _law_many, 3 _law_nodes_here, 4 _law_names_here, 5 _law_parts, 6 _law_k) -/
def f_law_house : Fd := ⟨["_law_script"], ["_law_script", "_law_cell", "_law_many", "_law_nodes_here", "_law_names_here", "_law_parts", "_law_k"], [s_law_house_0, s_law_house_1, s_law_house_2, s_law_house_3, s_law_house_4, s_law_house_5, s_law_house_6], false⟩
def s_law_is_name_0 : Ev.S := .ite (.or (.not (.op1 (.isi .str) (.var 0))) (.or (.op2 .lt (.op1 .len (.var 0)) (.lit (.int 1))) (.op2 .gt (.op1 .len (.var 0)) (.lit (.int 8))))) [.ret (.lit (.bl false))] []
def s_law_is_name_1 : Ev.S := .ret (.op2 .eq (.cmp false (.var 1) [1] (.nm 1) .ex [.var 0] [.op2 .notin (.var 1) (.lit (.str "abcdefghijklmnopqrstuvwxyz"))]) (.lst false []))
/-- (0 _law_thing, 1 _law_sign) -/
def f_law_is_name : Fd := ⟨["_law_thing"], ["_law_thing", "_law_sign"], [s_law_is_name_0, s_law_is_name_1], true⟩
def s_law_is_part_0 : Ev.S := .ite (.or (.not (.op1 (.isi .tuple) (.var 0))) (.or (.op2 .lt (.op1 .len (.var 0)) (.lit (.int 3))) (.or (.not (.op1 (.isi .str) (.op2 .get (.var 0) (.lit (.int 0))))) (.not (.call 17 [.op2 .get (.var 0) (.lit (.int 1))]))))) [.ret (.lit (.bl false))] []
def s_law_is_part_1 : Ev.S := .ite (.not (.op1 (.isi .str) (.op2 .get (.var 0) (.lit (.int 2))))) [.ret (.lit (.bl false))] []
def s_law_is_part_2 : Ev.S := .ite (.op2 .eq (.op2 .get (.var 0) (.lit (.int 0))) (.lit (.str "worker"))) [.ret (.and (.op2 .eq (.op1 .len (.var 0)) (.lit (.int 3))) (.op2 .in_ (.op2 .get (.var 0) (.lit (.int 2))) (.lst false [.lit (.str "always"), .lit (.str "faulted"), .lit (.str "never")])))] []
def s_law_is_part_3 : Ev.S := .ite (.or (.op2 .ne (.op2 .get (.var 0) (.lit (.int 0))) (.lit (.str "warden"))) (.or (.op2 .ne (.op1 .len (.var 0)) (.lit (.int 6))) (.or (.op2 .gt (.var 1) (.lit (.int 5))) (.op2 .notin (.op2 .get (.var 0) (.lit (.int 2))) (.lst false [.lit (.str "one"), .lit (.str "rest"), .lit (.str "all")]))))) [.ret (.lit (.bl false))] []
def s_law_is_part_4 : Ev.S := .ite (.or (.not (.call 9 [.op2 .get (.var 0) (.lit (.int 3))])) (.not (.chn .le .le (.lit (.int 0)) (.op2 .get (.var 0) (.lit (.int 3))) (.op2 .pow (.lit (.int 10)) (.lit (.int 9)))))) [.ret (.lit (.bl false))] []
def s_law_is_part_5 : Ev.S := .ite (.or (.not (.call 9 [.op2 .get (.var 0) (.lit (.int 4))])) (.not (.chn .le .le (.lit (.int 1)) (.op2 .get (.var 0) (.lit (.int 4))) (.op2 .pow (.lit (.int 10)) (.lit (.int 9)))))) [.ret (.lit (.bl false))] []
def s_law_is_part_6 : Ev.S := .ite (.or (.not (.op1 (.isi .tuple) (.op2 .get (.var 0) (.lit (.int 5))))) (.not (.chn .le .le (.lit (.int 1)) (.op1 .len (.op2 .get (.var 0) (.lit (.int 5)))) (.lit (.int 8))))) [.ret (.lit (.bl false))] []
def s_law_is_part_7 : Ev.S := .ret (.op2 .eq (.cmp false (.var 2) [2] (.nm 2) .ex [.op2 .get (.var 0) (.lit (.int 5))] [.not (.call 18 [.var 2, .op2 .add (.var 1) (.lit (.int 1))])]) (.lst false []))
/-- (0 _law_thing, 1 _law_above, 2 _law_part_here) -/
def f_law_is_part : Fd := ⟨["_law_thing", "_law_above"], ["_law_thing", "_law_above", "_law_part_here"], [s_law_is_part_0, s_law_is_part_1, s_law_is_part_2, s_law_is_part_3, s_law_is_part_4, s_law_is_part_5, s_law_is_part_6, s_law_is_part_7], true⟩
def s_law_all_names_0 : Ev.S := .set 1 (.lst true [])
def s_law_all_names_1 : Ev.S := .set 2 (.lst false [.var 0])
def b_law_all_names_2 : List Ev.S := [.set 3 (.op2 .get (.var 2) (.lit (.int 0))),
    .ex (.app (.var 1) (.op2 .get (.var 3) (.lit (.int 1)))),
    .set 2 (.slf (.var 2) (.lit (.int 1))),
    .ite (.op2 .eq (.op2 .get (.var 3) (.lit (.int 0))) (.lit (.str "warden"))) [.set 2 (.op2 .add (.lof false (.op2 .get (.var 3) (.lit (.int 5)))) (.var 2))] []]
def s_law_all_names_2 : Ev.S := .whl (.op2 .ne (.var 2) (.lst false [])) b_law_all_names_2
def s_law_all_names_3 : Ev.S := .ret (.var 1)
/-- (0 _law_plan, 1 _law_found, 2 _law_waiting, 3 _law_part_here) -/
def f_law_all_names : Fd := ⟨["_law_plan"], ["_law_plan", "_law_found", "_law_waiting", "_law_part_here"], [s_law_all_names_0, s_law_all_names_1, s_law_all_names_2, s_law_all_names_3], true⟩
def s_law_is_plan_0 : Ev.S := .ite (.or (.not (.call 18 [.var 0, .lit (.int 0)])) (.op2 .ne (.op2 .get (.var 0) (.lit (.int 0))) (.lit (.str "warden")))) [.ret (.lit (.bl false))] []
def s_law_is_plan_1 : Ev.S := .set 1 (.call 19 [.var 0])
def s_law_is_plan_2 : Ev.S := .ret (.and (.op2 .le (.op1 .len (.var 1)) (.lit (.int 60))) (.op2 .eq (.cmp false (.var 2) [2] (.nm 2) .ex [.var 1] [.op2 .gt (.cnt (.var 1) (.var 2)) (.lit (.int 1))]) (.lst false [])))
/-- (0 _law_thing, 1 _law_names_here, 2 _law_name) -/
def f_law_is_plan : Fd := ⟨["_law_thing"], ["_law_thing", "_law_names_here", "_law_name"], [s_law_is_plan_0, s_law_is_plan_1, s_law_is_plan_2], true⟩
def s_law_odd_by_0 : Ev.S := .ite (.op1 (.isi .tuple) (.var 0)) [.set 2 (.lst false [.lof false (.var 0), .slt (.var 0) (.op1 .neg (.lit (.int 1))), .op2 .add (.var 0) (.slf (.var 0) (.op1 .neg (.lit (.int 1)))), .rev (.var 0), .tup [], .lit .non, .slf (.var 0) (.lit (.int 1)), .op2 .add (.var 0) (.tup [.var 0]), .lit (.int 5)]),
    .ret (.op2 .get (.var 2) (.op2 .mod (.var 1) (.lit (.int 9))))] []
def s_law_odd_by_1 : Ev.S := .ite (.op1 (.isi .str) (.var 0)) [.set 2 (.lst false [.op2 .add (.var 0) (.lit (.str "abcdefgh")), .upp (.var 0), .lit (.str ""), .op2 .add (.var 0) (.lit (.str " ")), .lit .non, .slf (.var 0) (.lit (.int 1)), .lit (.str "never"), .lit (.str "one"), .lit (.str "warden"), .lit (.str "worker")]),
    .ret (.op2 .get (.op2 .add (.var 2) (.lst false [.lit (.int 5), .lit (.str "aa"), .op2 .add (.var 0) (.lit (.str "\n")), .tup [.var 0]])) (.op2 .mod (.var 1) (.lit (.int 14))))] []
def s_law_odd_by_2 : Ev.S := .set 2 (.lst false [.op2 .sub (.var 0) (.lit (.int 1)), .op2 .add (.var 0) (.lit (.int 1)), .op2 .add (.var 0) (.op2 .pow (.lit (.int 10)) (.lit (.int 9))), .op2 .sub (.op1 .neg (.lit (.int 1))) (.var 0), .op2 .eq (.var 0) (.lit (.int 1)), .op1 .str (.var 0), .lit .non, .lit (.int 0), .op2 .add (.op2 .pow (.lit (.int 10)) (.lit (.int 9))) (.lit (.int 1)), .tup [.var 0]])
def s_law_odd_by_3 : Ev.S := .ret (.op2 .get (.var 2) (.op2 .mod (.var 1) (.lit (.int 10))))
/-- (0 _law_part_here, 1 _law_cell, 2 _law_some) -/
def f_law_odd_by : Fd := ⟨["_law_part_here", "_law_cell"], ["_law_part_here", "_law_cell", "_law_some"], [s_law_odd_by_0, s_law_odd_by_1, s_law_odd_by_2, s_law_odd_by_3], true⟩
def s_law_spoilt_0 : Ev.S := .ite (.or (.op2 .eq (.var 2) (.lit (.int 0))) (.or (.not (.op1 (.isi .tuple) (.var 0))) (.or (.op2 .eq (.var 0) (.tup [])) (.op2 .eq (.op2 .mod (.var 1) (.lit (.int 5))) (.lit (.int 0)))))) [.ret (.call 21 [.var 0, .op2 .fdiv (.var 1) (.lit (.int 5))])] []
def s_law_spoilt_1 : Ev.S := .set 3 (.op2 .mod (.op2 .fdiv (.var 1) (.lit (.int 5))) (.op1 .len (.var 0)))
def s_law_spoilt_2 : Ev.S := .set 4 (.call 22 [.op2 .get (.var 0) (.var 3), .op2 .fdiv (.op2 .fdiv (.var 1) (.lit (.int 5))) (.op1 .len (.var 0)), .op2 .sub (.var 2) (.lit (.int 1))])
def s_law_spoilt_3 : Ev.S := .ret (.op2 .add (.op2 .add (.slt (.var 0) (.var 3)) (.tup [.var 4])) (.slf (.var 0) (.op2 .add (.var 3) (.lit (.int 1)))))
/-- (0 _law_thing, 1 _law_cell, 2 _law_deep, 3 _law_at, 4 _law_part_here) -/
def f_law_spoilt : Fd := ⟨["_law_thing", "_law_cell", "_law_deep"], ["_law_thing", "_law_cell", "_law_deep", "_law_at", "_law_part_here"], [s_law_spoilt_0, s_law_spoilt_1, s_law_spoilt_2, s_law_spoilt_3], true⟩
/-- (0 hours, 1 now, 2 span, 3 hour) -/
def f_counting : Fd := ⟨["hours", "now", "span"], ["hours", "now", "span", "hour"], [.ret (.cmp false (.var 3) [3] (.nm 3) .ex [.var 0] [.op2 .gt (.var 3) (.op2 .sub (.var 1) (.var 2))])], true⟩
def s_Post_init_0 : Ev.S := .setA (.var 0) "part" (.var 1)
def s_Post_init_1 : Ev.S := .setA (.var 0) "warden" (.var 2)
def s_Post_init_2 : Ev.S := .setA (.var 0) "place" (.var 3)
def s_Post_init_3 : Ev.S := .setA (.var 0) "inner" (.lst false [])
def s_Post_init_4 : Ev.S := .setA (.var 0) "living" (.lit (.bl false))
def s_Post_init_5 : Ev.S := .setA (.var 0) "total" (.lit (.int 0))
def s_Post_init_6 : Ev.S := .setA (.var 0) "letters" (.lst false [])
def s_Post_init_7 : Ev.S := .setA (.var 0) "kept" (.lst false [])
/-- (0 self, 1 part, 2 warden, 3 place) -/
def f_Post_init : Fd := ⟨["self", "part", "warden", "place"], ["self", "part", "warden", "place"], [s_Post_init_0, s_Post_init_1, s_Post_init_2, s_Post_init_3, s_Post_init_4, s_Post_init_5, s_Post_init_6, s_Post_init_7], false⟩
def s_laid_out_0 : Ev.S := .set 3 (.make 0 [.var 0, .var 1, .var 2])
def s_laid_out_1 : Ev.S := .ite (.op2 .eq (.op2 .get (.var 0) (.lit (.int 0))) (.lit (.str "warden"))) [.setA (.var 3) "inner" (.cmp true (.call 25 [.var 5, .var 3, .var 4]) [4, 5] (.pr 4 5) .enm [.op2 .get (.var 0) (.lit (.int 5))] [])] []
def s_laid_out_2 : Ev.S := .ret (.var 3)
/-- (0 part, 1 warden, 2 place, 3 post, 4 at, 5 one) -/
def f_laid_out : Fd := ⟨["part", "warden", "place"], ["part", "warden", "place", "post", "at", "one"], [s_laid_out_0, s_laid_out_1, s_laid_out_2], false⟩
def s_all_of_0 : Ev.S := .set 1 (.lst false [.var 0])
def b_all_of_1 : List Ev.S := [.set 1 (.op2 .add (.var 1) (.call 26 [.var 2]))]
def s_all_of_1 : Ev.S := .for_ (.nm 2) .ex [.att (.var 0) "inner"] b_all_of_1
def s_all_of_2 : Ev.S := .ret (.var 1)
/-- (0 post, 1 found, 2 one) -/
def f_all_of : Fd := ⟨["post"], ["post", "found", "one"], [s_all_of_0, s_all_of_1, s_all_of_2], false⟩
def s_begin_0 : Ev.S := .setA (.var 0) "living" (.lit (.bl true))
def s_begin_1 : Ev.S := .setA (.var 0) "total" (.lit (.int 0))
def s_begin_2 : Ev.S := .setA (.var 0) "kept" (.lst false [])
def s_begin_3 : Ev.S := .set 1 (.lst false [.tup [.lit (.str "begins"), .op2 .get (.att (.var 0) "part") (.lit (.int 1))]])
def b_begin_4 : List Ev.S := [.set 1 (.op2 .add (.var 1) (.call 27 [.var 2]))]
def s_begin_4 : Ev.S := .for_ (.nm 2) .ex [.att (.var 0) "inner"] b_begin_4
def s_begin_5 : Ev.S := .ret (.var 1)
/-- (0 post, 1 rows, 2 one) -/
def f_begin : Fd := ⟨["post"], ["post", "rows", "one"], [s_begin_0, s_begin_1, s_begin_2, s_begin_3, s_begin_4, s_begin_5], false⟩
def s_House_init_0 : Ev.S := .ite (.not (.call 7 [.var 1])) [.raise 0] []
def s_House_init_1 : Ev.S := .setA (.var 0) "top" (.call 25 [.var 1, .lit .non, .lit (.int 0)])
def s_House_init_2 : Ev.S := .setA (.var 0) "posts" (.call 26 [.att (.var 0) "top"])
def s_House_init_3 : Ev.S := .setA (.var 0) "now" (.lit (.int 0))
def s_House_init_4 : Ev.S := .setA (.var 0) "given" (.lit (.int 0))
def s_House_init_5 : Ev.S := .setA (.var 0) "rows" (.call 27 [.att (.var 0) "top"])
/-- (0 self, 1 plan) -/
def f_House_init : Fd := ⟨["self", "plan"], ["self", "plan"], [s_House_init_0, s_House_init_1, s_House_init_2, s_House_init_3, s_House_init_4, s_House_init_5], false⟩
def s_House_post_of_0 : Ev.S := .ite (.call 1 [.var 1]) [.for_ (.nm 3) .ex [.att (.var 0) "posts"] [.ite (.and (.op2 .eq (.op2 .get (.att (.var 3) "part") (.lit (.int 1))) (.var 1)) (.op2 .in_ (.op2 .get (.att (.var 3) "part") (.lit (.int 0))) (.var 2))) [.ret (.var 3)] []]] []
def s_House_post_of_1 : Ev.S := .raise 2
/-- (0 self, 1 name, 2 words, 3 post) -/
def f_House_post_of : Fd := ⟨["self", "name", "words"], ["self", "name", "words", "post"], [s_House_post_of_0, s_House_post_of_1], false⟩
def s_House_post_here_0 : Ev.S := .set 3 (.meth 1 29 "post_of" (.var 0) [.var 1, .var 2])
def s_House_post_here_1 : Ev.S := .ite (.not (.att (.var 3) "living")) [.raise 3] []
def s_House_post_here_2 : Ev.S := .ret (.var 3)
/-- (0 self, 1 name, 2 words, 3 post) -/
def f_House_post_here : Fd := ⟨["self", "name", "words"], ["self", "name", "words", "post"], [s_House_post_here_0, s_House_post_here_1, s_House_post_here_2], false⟩
/-- (0 self) -/
def f_House_is_open : Fd := ⟨["self"], ["self"], [.ret (.att (.att (.var 0) "top") "living")], false⟩
/-- (0 self) -/
def f_House_hour : Fd := ⟨["self"], ["self"], [.ret (.att (.var 0) "now")], false⟩
/-- (0 self, 1 post) -/
def f_House_here : Fd := ⟨["self"], ["self", "post"], [.ret (.cmp false (.op2 .get (.att (.var 1) "part") (.lit (.int 1))) [1] (.nm 1) .ex [.att (.var 0) "posts"] [.att (.var 1) "living"])], false⟩
/-- (0 self) -/
def f_House_history : Fd := ⟨["self"], ["self"], [.ret (.lof false (.att (.var 0) "rows"))], false⟩
/-- (0 self, 1 name, 2 one) -/
def f_House_waits : Fd := ⟨["self", "name"], ["self", "name", "one"], [.ret (.cmp false (.op2 .get (.var 2) (.lit (.int 0))) [2] (.nm 2) .ex [.att (.meth 1 29 "post_of" (.var 0) [.var 1, .tup [.lit (.str "worker")]]) "letters"] [])], false⟩
/-- (0 self, 1 name) -/
def f_House_sum_of : Fd := ⟨["self", "name"], ["self", "name"], [.ret (.att (.meth 1 30 "post_here" (.var 0) [.var 1, .tup [.lit (.str "worker")]]) "total")], false⟩
def s_House_hours_0 : Ev.S := .set 2 (.meth 1 30 "post_here" (.var 0) [.var 1, .tup [.lit (.str "warden")]])
def s_House_hours_1 : Ev.S := .ret (.call 23 [.att (.var 2) "kept", .att (.var 0) "now", .op2 .get (.att (.var 2) "part") (.lit (.int 4))])
/-- (0 self, 1 name, 2 post) -/
def f_House_hours : Fd := ⟨["self", "name"], ["self", "name", "post"], [s_House_hours_0, s_House_hours_1], false⟩
/-- (0 _law_found, 1 _law_one) -/
def f_law_texts : Fd := ⟨["_law_found"], ["_law_found", "_law_one"], [.ret (.and (.op1 (.isi .list) (.var 0)) (.op2 .eq (.cmp false (.var 1) [1] (.nm 1) .ex [.var 0] [.not (.op1 (.isi .str) (.var 1))]) (.lst false [])))], true⟩
def s_law_events_0 : Ev.S := .ite (.not (.op1 (.isi .list) (.var 0))) [.ret (.lit (.bl false))] []
def b_law_events_1 : List Ev.S := [.ite (.or (.not (.op1 (.isi .tuple) (.var 1))) (.or (.op2 .lt (.op1 .len (.var 1)) (.lit (.int 2))) (.or (.not (.op1 (.isi .str) (.op2 .get (.var 1) (.lit (.int 0))))) (.not (.op1 (.isi .str) (.op2 .get (.var 1) (.lit (.int 1)))))))) [.ret (.lit (.bl false))] [],
    .ite (.and (.op2 .gt (.op1 .len (.var 1)) (.lit (.int 2))) (.not (.call 9 [.op2 .get (.var 1) (.lit (.int 2))]))) [.ret (.lit (.bl false))] [],
    .ite (.and (.op2 .gt (.op1 .len (.var 1)) (.lit (.int 3))) (.or (.op2 .gt (.op1 .len (.var 1)) (.lit (.int 4))) (.not (.op1 (.isi .tuple) (.op2 .get (.var 1) (.lit (.int 3))))))) [.ret (.lit (.bl false))] []]
def s_law_events_1 : Ev.S := .for_ (.nm 1) .ex [.var 0] b_law_events_1
def s_law_events_2 : Ev.S := .ret (.lit (.bl true))
/-- (0 _law_found, 1 _law_row) -/
def f_law_events : Fd := ⟨["_law_found"], ["_law_found", "_law_row"], [s_law_events_0, s_law_events_1, s_law_events_2], true⟩
def s_law_refused_0 : Ev.S := .tryN [.ex (.make 1 [.var 0])] (.eqK 0)
def s_law_refused_1 : Ev.S := .ret (.lit (.bl false))
/-- (0 _law_thing, 1 _law_e) -/
def f_law_refused : Fd := ⟨["_law_thing"], ["_law_thing", "_law_e"], [s_law_refused_0, s_law_refused_1], true⟩
def s_law_0 : Ev.S := .set 1 (.call 16 [.var 0])
def s_law_1 : Ev.S := .ite (.op2 .eq (.op2 .mod (.call 8 [.var 0, .lit (.int 13)]) (.lit (.int 3))) (.lit (.int 1))) [.set 6 (.call 22 [.op2 .get (.var 1) (.lit (.str "plan")), .call 8 [.var 0, .lit (.int 14)], .lit (.int 8)]),
    .ite (.not (.call 20 [.var 6])) [.ret (.call 40 [.var 6])] []] []
def s_law_2 : Ev.S := .set 2 (.make 1 [.op2 .get (.var 1) (.lit (.str "plan"))])
def s_law_3 : Ev.S := .set 3 (.cmp false (.op2 .get (.op2 .get (.var 1) (.lit (.str "names"))) (.var 5)) [5] (.nm 5) .ex [.op2 .get (.var 1) (.lit (.str "order"))] [])
def s_law_4 : Ev.S := .ite (.or (.op2 .isnt (.meth 1 31 "is_open" (.var 2) []) (.lit (.bl true))) (.or (.not (.call 9 [.meth 1 32 "hour" (.var 2) []])) (.op2 .ne (.meth 1 32 "hour" (.var 2) []) (.lit (.int 0))))) [.ret (.lit (.bl false))] []
def s_law_5 : Ev.S := .ite (.or (.not (.call 38 [.meth 1 33 "here" (.var 2) []])) (.op2 .ne (.meth 1 33 "here" (.var 2) []) (.var 3))) [.ret (.lit (.bl false))] []
def s_law_6 : Ev.S := .set 4 (.meth 1 34 "history" (.var 2) [])
def s_law_7 : Ev.S := .ite (.or (.not (.call 39 [.var 4])) (.op2 .ne (.var 4) (.cmp false (.tup [.lit (.str "begins"), .var 7]) [7] (.nm 7) .ex [.var 3] []))) [.ret (.lit (.bl false))] []
def b_law_8 : List Ev.S := [.set 7 (.op2 .get (.op2 .get (.var 1) (.lit (.str "names"))) (.var 5)),
    .ite (.and (.op2 .get (.op2 .get (.op2 .get (.var 1) (.lit (.str "nodes"))) (.var 5)) (.lit (.str "warden"))) (.op2 .ne (.meth 1 37 "hours" (.var 2) [.var 7]) (.lst false []))) [.ret (.lit (.bl false))] [],
    .ite (.not (.op2 .get (.op2 .get (.op2 .get (.var 1) (.lit (.str "nodes"))) (.var 5)) (.lit (.str "warden")))) [.ite (.or (.op2 .ne (.meth 1 35 "waits" (.var 2) [.var 7]) (.lst false [])) (.or (.not (.call 9 [.meth 1 36 "sum_of" (.var 2) [.var 7]])) (.op2 .ne (.meth 1 36 "sum_of" (.var 2) [.var 7]) (.lit (.int 0))))) [.ret (.lit (.bl false))] []] []]
def s_law_8 : Ev.S := .for_ (.nm 5) .ex [.op2 .get (.var 1) (.lit (.str "order"))] b_law_8
def s_law_9 : Ev.S := .ret (.lit (.bl true))
/-- (0 _law_script, 1 _law_hall, 2 _law_house_here, 3 _law_names_here, 4 _law_rows, 5 _law_k, 6 _law_thing, 7 _law_name) -/
def f_law : Fd := ⟨["_law_script"], ["_law_script", "_law_hall", "_law_house_here", "_law_names_here", "_law_rows", "_law_k", "_law_thing", "_law_name"], [s_law_0, s_law_1, s_law_2, s_law_3, s_law_4, s_law_5, s_law_6, s_law_7, s_law_8, s_law_9], true⟩
def conD : List D := [.str "abcdefghijklmnopqrstuvwxyz", .int 8, .int 1000000000, .int 60, .int 8, .int 6]
def iniT : Nat → Option Nat
  | 0 => some 24
  | 1 => some 28
  | _ => none
def atrT : List (Nat × List Str) := [(0, ["part", "warden", "place", "inner", "living", "total", "letters", "kept"]), (1, ["top", "posts", "now", "given", "rows"])]
def Tt : Tb := ⟨[f_is_number, f_is_name, f_is_word_of, f_is_row, f_is_worker, f_is_warden, f_names_of, f_is_plan, f_law_cell_at, f_law_whole, f_law_names, f_law_nodes, f_law_under, f_law_many_by, f_law_span_by, f_law_part, f_law_house, f_law_is_name, f_law_is_part, f_law_all_names, f_law_is_plan, f_law_odd_by, f_law_spoilt, f_counting, f_Post_init, f_laid_out, f_all_of, f_begin, f_House_init, f_House_post_of, f_House_post_here, f_House_is_open, f_House_hour, f_House_here, f_House_history, f_House_waits, f_House_sum_of, f_House_hours, f_law_texts, f_law_events, f_law_refused, f_law], iniT, fun k => conD[k]?, atrOf atrT, 100000000⟩
def fns : List (Str × Nat) := [("is_number", 0), ("is_name", 1), ("is_word_of", 2), ("is_row", 3), ("is_worker", 4), ("is_warden", 5), ("names_of", 6), ("is_plan", 7), ("_law_cell_at", 8), ("_law_whole", 9), ("_law_names", 10), ("_law_nodes", 11), ("_law_under", 12), ("_law_many_by", 13), ("_law_span_by", 14), ("_law_part", 15), ("_law_house", 16), ("_law_is_name", 17), ("_law_is_part", 18), ("_law_all_names", 19), ("_law_is_plan", 20), ("_law_odd_by", 21), ("_law_spoilt", 22), ("counting", 23), ("laid_out", 25), ("all_of", 26), ("begin", 27), ("_law_texts", 38), ("_law_events", 39), ("_law_refused", 40), ("law", 41)]
def con : List (Str × Nat) := [("SIGNS", 0), ("LONGEST", 1), ("MOST", 2), ("MOST_NAMES", 3), ("MOST_PARTS", 4), ("DEEPEST", 5)]
def free : List Str := ["ValueError", "bool", "enumerate", "int", "isinstance", "len", "list", "min", "range", "sorted", "str", "tuple", "zip"]
def maks : List (Str × Nat) := [("Post", 0), ("House", 1)]
def mets : List ((Nat × Str) × Nat) := [((1, "post_of"), 29), ((1, "post_here"), 30), ((1, "is_open"), 31), ((1, "hour"), 32), ((1, "here"), 33), ((1, "history"), 34), ((1, "waits"), 35), ((1, "sum_of"), 36), ((1, "hours"), 37)]
def sg0 : Sg := { N := [], fns := fns, con := con, free := free, exc := kExc, hou := "HouseError", kd := "_law_kinds", mak := maks, met := mets }
def top (i : Nat) : Stmt := pw.main.body.getD i (.Pass ⟨0, 0, 0, 0⟩)
def mtop (i j : Nat) : Stmt := (C8.clsBody (top i)).getD j (.Pass ⟨0, 0, 0, 0⟩)
theorem ck_is_number : ckB (sgOf sg0 f_is_number.N) 40 40 (defScope (top 18)) f_is_number.body (defBody (top 18)) = true := by kernel_rfl
theorem sc_is_number : C8.scC f_is_number.N f_is_number.ps (defScope (top 18)) = true := by kernel_rfl
theorem ck_is_name : ckB (sgOf sg0 f_is_name.N) 40 40 (defScope (top 19)) f_is_name.body (defBody (top 19)) = true := by kernel_rfl
theorem sc_is_name : C8.scC f_is_name.N f_is_name.ps (defScope (top 19)) = true := by kernel_rfl
theorem ck_is_word_of : ckB (sgOf sg0 f_is_word_of.N) 40 40 (defScope (top 20)) f_is_word_of.body (defBody (top 20)) = true := by kernel_rfl
theorem sc_is_word_of : C8.scC f_is_word_of.N f_is_word_of.ps (defScope (top 20)) = true := by kernel_rfl
theorem ck_is_row : ckB (sgOf sg0 f_is_row.N) 40 40 (defScope (top 21)) f_is_row.body (defBody (top 21)) = true := by kernel_rfl
theorem sc_is_row : C8.scC f_is_row.N f_is_row.ps (defScope (top 21)) = true := by kernel_rfl
theorem ck_is_worker : ckB (sgOf sg0 f_is_worker.N) 40 40 (defScope (top 22)) f_is_worker.body (defBody (top 22)) = true := by kernel_rfl
theorem sc_is_worker : C8.scC f_is_worker.N f_is_worker.ps (defScope (top 22)) = true := by kernel_rfl
theorem ck_is_warden : ckB (sgOf sg0 f_is_warden.N) 40 40 (defScope (top 23)) f_is_warden.body (defBody (top 23)) = true := by kernel_rfl
theorem sc_is_warden : C8.scC f_is_warden.N f_is_warden.ps (defScope (top 23)) = true := by kernel_rfl
theorem ck_names_of : ckB (sgOf sg0 f_names_of.N) 40 40 (defScope (top 24)) f_names_of.body (defBody (top 24)) = true := by kernel_rfl
theorem sc_names_of : C8.scC f_names_of.N f_names_of.ps (defScope (top 24)) = true := by kernel_rfl
theorem ck_is_plan : ckB (sgOf sg0 f_is_plan.N) 40 40 (defScope (top 25)) f_is_plan.body (defBody (top 25)) = true := by kernel_rfl
theorem sc_is_plan : C8.scC f_is_plan.N f_is_plan.ps (defScope (top 25)) = true := by kernel_rfl
theorem ck_law_cell_at : ckB (sgOf sg0 f_law_cell_at.N) 40 40 (defScope (top 37)) f_law_cell_at.body (defBody (top 37)) = true := by kernel_rfl
theorem sc_law_cell_at : C8.scC f_law_cell_at.N f_law_cell_at.ps (defScope (top 37)) = true := by kernel_rfl
theorem ck_law_whole : ckB (sgOf sg0 f_law_whole.N) 40 40 (defScope (top 38)) f_law_whole.body (defBody (top 38)) = true := by kernel_rfl
theorem sc_law_whole : C8.scC f_law_whole.N f_law_whole.ps (defScope (top 38)) = true := by kernel_rfl
theorem ck_law_names : ckB (sgOf sg0 f_law_names.N) 40 40 (defScope (top 39)) f_law_names.body (defBody (top 39)) = true := by kernel_rfl
theorem sc_law_names : C8.scC f_law_names.N f_law_names.ps (defScope (top 39)) = true := by kernel_rfl
theorem ck_law_nodes : ckB (sgOf sg0 f_law_nodes.N) 40 40 (defScope (top 40)) f_law_nodes.body (defBody (top 40)) = true := by kernel_rfl
theorem sc_law_nodes : C8.scC f_law_nodes.N f_law_nodes.ps (defScope (top 40)) = true := by kernel_rfl
theorem ck_law_under : ckB (sgOf sg0 f_law_under.N) 40 40 (defScope (top 41)) f_law_under.body (defBody (top 41)) = true := by kernel_rfl
theorem sc_law_under : C8.scC f_law_under.N f_law_under.ps (defScope (top 41)) = true := by kernel_rfl
theorem ck_law_many_by : ckB (sgOf sg0 f_law_many_by.N) 40 40 (defScope (top 42)) f_law_many_by.body (defBody (top 42)) = true := by kernel_rfl
theorem sc_law_many_by : C8.scC f_law_many_by.N f_law_many_by.ps (defScope (top 42)) = true := by kernel_rfl
theorem ck_law_span_by : ckB (sgOf sg0 f_law_span_by.N) 40 40 (defScope (top 43)) f_law_span_by.body (defBody (top 43)) = true := by kernel_rfl
theorem sc_law_span_by : C8.scC f_law_span_by.N f_law_span_by.ps (defScope (top 43)) = true := by kernel_rfl
theorem ck_law_part : ckB (sgOf sg0 f_law_part.N) 40 40 (defScope (top 44)) f_law_part.body (defBody (top 44)) = true := by kernel_rfl
theorem sc_law_part : C8.scC f_law_part.N f_law_part.ps (defScope (top 44)) = true := by kernel_rfl
theorem ck_law_house : ckB (sgOf sg0 f_law_house.N) 40 40 (defScope (top 45)) f_law_house.body (defBody (top 45)) = true := by kernel_rfl
theorem sc_law_house : C8.scC f_law_house.N f_law_house.ps (defScope (top 45)) = true := by kernel_rfl
theorem ck_law_is_name : ckB (sgOf sg0 f_law_is_name.N) 40 40 (defScope (top 46)) f_law_is_name.body (defBody (top 46)) = true := by kernel_rfl
theorem sc_law_is_name : C8.scC f_law_is_name.N f_law_is_name.ps (defScope (top 46)) = true := by kernel_rfl
theorem ck_law_is_part : ckB (sgOf sg0 f_law_is_part.N) 40 40 (defScope (top 47)) f_law_is_part.body (defBody (top 47)) = true := by kernel_rfl
theorem sc_law_is_part : C8.scC f_law_is_part.N f_law_is_part.ps (defScope (top 47)) = true := by kernel_rfl
theorem ck_law_all_names : ckB (sgOf sg0 f_law_all_names.N) 40 40 (defScope (top 48)) f_law_all_names.body (defBody (top 48)) = true := by kernel_rfl
theorem sc_law_all_names : C8.scC f_law_all_names.N f_law_all_names.ps (defScope (top 48)) = true := by kernel_rfl
theorem ck_law_is_plan : ckB (sgOf sg0 f_law_is_plan.N) 40 40 (defScope (top 49)) f_law_is_plan.body (defBody (top 49)) = true := by kernel_rfl
theorem sc_law_is_plan : C8.scC f_law_is_plan.N f_law_is_plan.ps (defScope (top 49)) = true := by kernel_rfl
theorem ck_law_odd_by : ckB (sgOf sg0 f_law_odd_by.N) 40 40 (defScope (top 50)) f_law_odd_by.body (defBody (top 50)) = true := by kernel_rfl
theorem sc_law_odd_by : C8.scC f_law_odd_by.N f_law_odd_by.ps (defScope (top 50)) = true := by kernel_rfl
theorem ck_law_spoilt : ckB (sgOf sg0 f_law_spoilt.N) 40 40 (defScope (top 51)) f_law_spoilt.body (defBody (top 51)) = true := by kernel_rfl
theorem sc_law_spoilt : C8.scC f_law_spoilt.N f_law_spoilt.ps (defScope (top 51)) = true := by kernel_rfl
theorem ck_counting : ckB (sgOf sg0 f_counting.N) 40 40 (defScope (top 28)) f_counting.body (defBody (top 28)) = true := by kernel_rfl
theorem sc_counting : C8.scC f_counting.N f_counting.ps (defScope (top 28)) = true := by kernel_rfl
theorem ck_Post_init : ckB (sgOf sg0 f_Post_init.N) 40 40 (defScope (mtop 30 0)) f_Post_init.body (defBody (mtop 30 0)) = true := by kernel_rfl
theorem sc_Post_init : C8.scC f_Post_init.N f_Post_init.ps (defScope (mtop 30 0)) = true := by kernel_rfl
theorem ck_laid_out : ckB (sgOf sg0 f_laid_out.N) 40 40 (defScope (top 31)) f_laid_out.body (defBody (top 31)) = true := by kernel_rfl
theorem sc_laid_out : C8.scC f_laid_out.N f_laid_out.ps (defScope (top 31)) = true := by kernel_rfl
theorem ck_all_of : ckB (sgOf sg0 f_all_of.N) 40 40 (defScope (top 32)) f_all_of.body (defBody (top 32)) = true := by kernel_rfl
theorem sc_all_of : C8.scC f_all_of.N f_all_of.ps (defScope (top 32)) = true := by kernel_rfl
theorem ck_begin : ckB (sgOf sg0 f_begin.N) 40 40 (defScope (top 33)) f_begin.body (defBody (top 33)) = true := by kernel_rfl
theorem sc_begin : C8.scC f_begin.N f_begin.ps (defScope (top 33)) = true := by kernel_rfl
theorem ck_House_init : ckB (sgOf sg0 f_House_init.N) 40 40 (defScope (mtop 35 0)) f_House_init.body (defBody (mtop 35 0)) = true := by kernel_rfl
theorem sc_House_init : C8.scC f_House_init.N f_House_init.ps (defScope (mtop 35 0)) = true := by kernel_rfl
theorem ck_House_post_of : ckB (sgOf sg0 f_House_post_of.N) 40 40 (defScope (mtop 35 1)) f_House_post_of.body (defBody (mtop 35 1)) = true := by kernel_rfl
theorem sc_House_post_of : C8.scC f_House_post_of.N f_House_post_of.ps (defScope (mtop 35 1)) = true := by kernel_rfl
theorem ck_House_post_here : ckB (sgOf sg0 f_House_post_here.N) 40 40 (defScope (mtop 35 2)) f_House_post_here.body (defBody (mtop 35 2)) = true := by kernel_rfl
theorem sc_House_post_here : C8.scC f_House_post_here.N f_House_post_here.ps (defScope (mtop 35 2)) = true := by kernel_rfl
theorem ck_House_is_open : ckB (sgOf sg0 f_House_is_open.N) 40 40 (defScope (mtop 35 9)) f_House_is_open.body (defBody (mtop 35 9)) = true := by kernel_rfl
theorem sc_House_is_open : C8.scC f_House_is_open.N f_House_is_open.ps (defScope (mtop 35 9)) = true := by kernel_rfl
theorem ck_House_hour : ckB (sgOf sg0 f_House_hour.N) 40 40 (defScope (mtop 35 10)) f_House_hour.body (defBody (mtop 35 10)) = true := by kernel_rfl
theorem sc_House_hour : C8.scC f_House_hour.N f_House_hour.ps (defScope (mtop 35 10)) = true := by kernel_rfl
theorem ck_House_here : ckB (sgOf sg0 f_House_here.N) 40 40 (defScope (mtop 35 11)) f_House_here.body (defBody (mtop 35 11)) = true := by kernel_rfl
theorem sc_House_here : C8.scC f_House_here.N f_House_here.ps (defScope (mtop 35 11)) = true := by kernel_rfl
theorem ck_House_history : ckB (sgOf sg0 f_House_history.N) 40 40 (defScope (mtop 35 12)) f_House_history.body (defBody (mtop 35 12)) = true := by kernel_rfl
theorem sc_House_history : C8.scC f_House_history.N f_House_history.ps (defScope (mtop 35 12)) = true := by kernel_rfl
theorem ck_House_waits : ckB (sgOf sg0 f_House_waits.N) 40 40 (defScope (mtop 35 13)) f_House_waits.body (defBody (mtop 35 13)) = true := by kernel_rfl
theorem sc_House_waits : C8.scC f_House_waits.N f_House_waits.ps (defScope (mtop 35 13)) = true := by kernel_rfl
theorem ck_House_sum_of : ckB (sgOf sg0 f_House_sum_of.N) 40 40 (defScope (mtop 35 14)) f_House_sum_of.body (defBody (mtop 35 14)) = true := by kernel_rfl
theorem sc_House_sum_of : C8.scC f_House_sum_of.N f_House_sum_of.ps (defScope (mtop 35 14)) = true := by kernel_rfl
theorem ck_House_hours : ckB (sgOf sg0 f_House_hours.N) 40 40 (defScope (mtop 35 15)) f_House_hours.body (defBody (mtop 35 15)) = true := by kernel_rfl
theorem sc_House_hours : C8.scC f_House_hours.N f_House_hours.ps (defScope (mtop 35 15)) = true := by kernel_rfl
theorem ck_law_texts : ckB (sgOf sg0 f_law_texts.N) 40 40 (defScope (top 53)) f_law_texts.body (defBody (top 53)) = true := by kernel_rfl
theorem sc_law_texts : C8.scC f_law_texts.N f_law_texts.ps (defScope (top 53)) = true := by kernel_rfl
theorem ck_law_events : ckB (sgOf sg0 f_law_events.N) 40 40 (defScope (top 54)) f_law_events.body (defBody (top 54)) = true := by kernel_rfl
theorem sc_law_events : C8.scC f_law_events.N f_law_events.ps (defScope (top 54)) = true := by kernel_rfl
theorem ck_law_refused : ckB (sgOf sg0 f_law_refused.N) 40 40 (defScope (top 55)) f_law_refused.body (defBody (top 55)) = true := by kernel_rfl
theorem sc_law_refused : C8.scC f_law_refused.N f_law_refused.ps (defScope (top 55)) = true := by kernel_rfl
theorem ck_law : ckB (sgOf sg0 f_law.N) 40 40 (defScope (top 56)) f_law.body (defBody (top 56)) = true := by kernel_rfl
theorem sc_law : C8.scC f_law.N f_law.ps (defScope (top 56)) = true := by kernel_rfl
theorem ck_kinds : ckK (defScope (top 52)) (defBody (top 52)) = true := by kernel_rfl
theorem sc_kinds : C8.scC kN ["_law_e"] (defScope (top 52)) = true := by kernel_rfl
end LawK
namespace LawK
open PySem PySem.Spec PyProof.Rows L2 Ev
@[simp] theorem con3 : Tt.con 3 = some (.int 60) := rfl
@[simp] theorem con4 : Tt.con 4 = some (.int 8) := rfl
@[simp] theorem con5 : Tt.con 5 = some (.int 6) := rfl
@[simp] theorem con0 : Tt.con 0 = some (.str "abcdefghijklmnopqrstuvwxyz") := rfl
@[simp] theorem con1 : Tt.con 1 = some (.int 8) := rfl
@[simp] theorem con2 : Tt.con 2 = some (.int 1000000000) := rfl
/-- no place of the store, no script -/
def sim : D → Bool
  | .loc _ | .scr _ | .opq _ => false
  | _ => true
theorem cell_at (n : Nat) (ns : List Int) (i : Nat) (S : Store) : callF Tt (n + 1) 8 [.scr ns, .int i] S = .ok (.int (ns.getD i 0)) S := by
  rw [callF_is (fd := f_law_cell_at) rfl rfl]
  simp [f_law_cell_at, env0, s_law_cell_at_0, s_law_cell_at_1]
  split
  · rename_i h
    simp only [op2]
    rw [atI_nat _ _ h]
    simp [h]
  · rename_i h
    simp [h]
/-- a sign is a small letter -/
def az (c : Nat) : Bool := (("abcdefghijklmnopqrstuvwxyz" : Str).cps.toList).contains c
def nameD : D → Bool
  | .str s => decide (1 ≤ s.length) && (decide (s.length ≤ 8) && s.cps.toList.all az)
  | _ => false
theorem notin_az (S : Store) (c : Nat) : op2 S .notin (.str ⟨#[c]⟩) (.str "abcdefghijklmnopqrstuvwxyz") = some (.bl (!az c)) := rfl
def badS : D → Bool
  | .str s => !az (s.cps.getD 0 0)
  | _ => true
theorem any_bad (cs : List Nat) : (cs.map fun c => D.str ⟨#[c]⟩).any badS = !cs.all az := by
  induction cs with
  | nil => rfl
  | cons c cs ih =>
    simp only [List.map_cons, List.any_cons, List.all_cons, ih, Bool.not_and]
    rfl
theorem len_str (s : Str) : s.length = s.cps.toList.length := by
  rw [Array.length_toList]; rfl
theorem is_name (n : Nat) (S : Store) {x : D} (h : sim x = true) (hl : ∀ s, x = .str s → s.length ≤ 1000) : callF Tt (n + 1) 1 [x] S = .ok (.bl (nameD x)) S := by
  rw [callF_is (fd := f_is_name) rfl rfl]
  show endF true S (evB (parOf Tt n) [s_is_name_0, s_is_name_1, s_is_name_2] [some x, none] S) = _
  cases x <;> first | (cases h; done) | skip
  case str s =>
    have hs := hl s rfl
    have hl2 : ∀ S, op1 S .len (.str s) = some (.int s.length) := fun S => o_lenS S s (by rw [LIM_nat]; omega)
    obtain ⟨δ', _, hf⟩ := forL_find (ch := []) (i := 1) (S := S) (r := .bl false) (bad := badS) (f := fun δ S => evB (parOf Tt n) b_is_name_1 δ S) stays_nil (xs := s.cps.toList.map fun c => .str ⟨#[c]⟩) (δ := [some (.str s), none]) (fun x hx => by
      obtain ⟨c, hc, rfl⟩ := List.mem_map.mp hx
      simp [b_is_name_1, notin_az]
      have e : badS (.str ⟨#[c]⟩) = !az c := rfl
      rw [e]
      cases az c <;> simp)
    have e1 : evS (parOf Tt n) s_is_name_1 [some (.str s), none] S = if s.cps.toList.all az then .nx δ' S else .rt (.bl false) S := by
      simp only [s_is_name_1, evS_for, sFor, evEs_cons, evEs_nil, evE_var, List.getElem?_cons_zero, ofV_some, bind_ok, walkOf]
      rw [hf, any_bad]
      cases s.cps.toList.all az <;> rfl
    have e2 : evS (parOf Tt n) s_is_name_0 [some (.str s), none] S = if 1 ≤ s.length ∧ s.length ≤ 8 then .nx [some (.str s), none] S else .rt (.bl false) S := by
      simp [s_is_name_0, tyIs, hl2]
      repeat' split
      all_goals first | rfl | (exfalso; omega)
    have e3 : evS (parOf Tt n) s_is_name_2 δ' S = .rt (.bl true) S := by simp [s_is_name_2]
    simp only [evB_cons, e2, seq_ite, e1, seq_nx, seq_rt, e3, endF_ite, endF_rt, Ev.fin_bl]
    simp only [nameD]
    by_cases h1 : 1 ≤ s.length <;> by_cases h2 : s.length ≤ 8 <;> cases h3 : s.cps.toList.all az <;> simp [h1, h2, h3]
  all_goals simp [s_is_name_0, tyIs, nameD]
theorem law_is_name (n : Nat) (S : Store) {x : D} (h : sim x = true) (hl : ∀ s, x = .str s → s.length ≤ 1000) : callF Tt (n + 1) 17 [x] S = .ok (.bl (nameD x)) S := by
  rw [callF_is (fd := f_law_is_name) rfl rfl]
  show endF true S (evB (parOf Tt n) [s_law_is_name_0, s_law_is_name_1] [some x, none] S) = _
  cases x <;> first | (cases h; done) | skip
  case str s =>
    have hs := hl s rfl
    have hl2 : ∀ S, op1 S .len (.str s) = some (.int s.length) := fun S => o_lenS S s (by rw [LIM_nat]; omega)
    have e2 : evS (parOf Tt n) s_law_is_name_0 [some (.str s), none] S = if 1 ≤ s.length ∧ s.length ≤ 8 then .nx [some (.str s), none] S else .rt (.bl false) S := by
      simp [s_law_is_name_0, tyIs, hl2]
      repeat' split
      all_goals first | rfl | (exfalso; omega)
    have e1 : evCmp false .ex (.nm 1) [1] (evEs (parOf Tt n) [.var 0]) (evIfs (parOf Tt n) [.op2 .notin (.var 1) (.lit (.str "abcdefghijklmnopqrstuvwxyz"))]) (evE (parOf Tt n) (.var 1)) [some (.str s), none] S = .ok (.lst ((s.cps.toList.map fun c => D.str ⟨#[c]⟩).filterMap fun d => if badS d then some d else none)) S := by
      refine evCmp_F (ds := [.str s]) (ch := []) (g := fun d => if badS d then some d else none) (by simp) (by simp [walkOf]) stays_nil (by simp; rw [← Array.length_toList, ← len_str]; omega) (fun x hx acc => ?_) fun x hx => ?_
      · obtain ⟨c, hc, rfl⟩ := List.mem_map.mp hx
        have e : badS (.str ⟨#[c]⟩) = !az c := rfl
        simp [turnC, setT, wipeE, notin_az, e]
        cases az c <;> simp
      · obtain ⟨c, hc, rfl⟩ := List.mem_map.mp hx
        split <;> rfl
    have e3 : evS (parOf Tt n) s_law_is_name_1 [some (.str s), none] S = .rt (.bl (s.cps.toList.all az)) S := by
      simp only [s_law_is_name_1, evS_ret, evE_op2, evE_cmp, e1, bind_ok, evE_lst, evEs_nil, newL_f]
      rw [if_pos (by simp), bind_ok, eq_nil (flats_of (n := 59) fun x hx => by
        obtain ⟨y, hy, e⟩ := List.mem_filterMap.mp hx
        obtain ⟨c, hc, rfl⟩ := List.mem_map.mp hy
        split at e
        · cases e; rfl
        · cases e)]
      have q : ((s.cps.toList.map fun c => D.str ⟨#[c]⟩).filterMap fun d => if badS d then some d else none).isEmpty = s.cps.toList.all az := by
        induction s.cps.toList with
        | nil => rfl
        | cons c cs ih =>
          have e : badS (.str ⟨#[c]⟩) = !az c := rfl
          simp only [List.map_cons, List.filterMap_cons, e, List.all_cons]
          cases h : az c
          · simp
          · simpa using ih
      rw [q]
      rfl
    simp only [evB_cons, e2, seq_ite, seq_nx, seq_rt, e3, endF_ite, endF_rt, Ev.fin_bl]
    simp only [nameD]
    by_cases h1 : 1 ≤ s.length <;> by_cases h2 : s.length ≤ 8 <;> simp [h1, h2]
  all_goals simp [s_law_is_name_0, tyIs, nameD]
def isS (w : Str) : D → Bool
  | .str s => s == w
  | _ => false
theorem is_word (n : Nat) (S : Store) {x : D} (w : Str) (h : sim x = true) : callF Tt (n + 1) 2 [x, .tup [.str w]] S = .ok (.bl (isS w x)) S := by
  rw [callF_is (fd := f_is_word_of) rfl rfl]
  cases x <;> first | (cases h; done) | skip
  case str s =>
    have e : op2 S .in_ (.str s) (.tup [.str w]) = some (.bl (s == w)) := by
      have e2 : op2 S .in_ (.str s) (.tup [.str w]) = some (.bl ((w == s) || false)) := rfl
      rw [e2, Bool.or_false]
      congr 2
      by_cases q : w = s
      · subst q; simp
      · have q2 : ¬ s = w := fun z => q z.symm
        rw [beq_eq_false_iff_ne.mpr q, beq_eq_false_iff_ne.mpr q2]
    simp [f_is_word_of, env0, tyIs, e, isS]
  all_goals simp [f_is_word_of, env0, tyIs, isS]
def rowD (w : Str) (k : Nat) : D → Bool
  | .tup xs => decide (xs.length = k) && isS w (xs.headD .non)
  | _ => false
def simT : D → Bool
  | .tup xs => xs.all sim
  | d => sim d
theorem is_row (n : Nat) (S : Store) {x : D} (w : Str) (k : Nat) (hk : 1 ≤ k) (h : simT x = true) : callF Tt (n + 2) 3 [x, .str w, .int k] S = .ok (.bl (rowD w k x)) S := by
  rw [callF_is (fd := f_is_row) rfl rfl]
  cases x <;> first | (cases h; done) | skip
  case tup xs =>
    by_cases hl : xs.length = k
    · cases xs with
      | nil => simp at hl; omega
      | cons a as =>
        have ha : sim a = true := by have h : (a :: as).all sim = true := h; simp at h; exact h.1
        have e : ixD (a :: as) 0 = some a := ixD_zero ..
        have e2 := is_word n S w ha
        have hl2 : ((as.length : Int) + 1 = k) := by simp at hl; omega
        simp [f_is_row, env0, tyIs, e, e2, rowD, hl2]
        simp at hl
        simp [hl]
    · have hl2 : ¬ ((xs.length : Int) = k) := by omega
      simp [f_is_row, env0, tyIs, rowD, hl, hl2]
  all_goals simp [f_is_row, env0, tyIs, rowD]
def numD (lo hi : Int) : D → Bool
  | .int i => decide (lo ≤ i) && decide (i ≤ hi)
  | _ => false
theorem is_number (n : Nat) (S : Store) {x : D} (lo hi : Int) (h : sim x = true) : callF Tt (n + 1) 0 [x, .int lo, .int hi] S = .ok (.bl (numD lo hi x)) S := by
  rw [callF_is (fd := f_is_number) rfl rfl]
  cases x <;> first | (cases h; done) | skip
  case int i =>
    simp [f_is_number, env0, tyIs, numD]
    by_cases h1 : lo ≤ i <;> simp [h1]
  all_goals simp [f_is_number, env0, tyIs, numD]
def wholeD : D → Bool
  | .int _ => true
  | _ => false
theorem law_whole (n : Nat) (S : Store) {x : D} (h : sim x = true) : callF Tt (n + 1) 9 [x] S = .ok (.bl (wholeD x)) S := by
  rw [callF_is (fd := f_law_whole) rfl rfl]
  cases x <;> first | (cases h; done) | simp [f_law_whole, env0, tyIs, wholeD]
theorem get_str (S : Store) (s : Str) (i : Int) (h : 0 ≤ i ∧ i < s.length) (hl : s.length ≤ LIM) : ∃ c, op2 S .get (.str s) (.int i) = some (.str ⟨#[c]⟩) := by
  obtain ⟨k, rfl⟩ := Int.eq_ofNat_of_zero_le h.1
  have hk : k < s.cps.toList.length := by rw [← len_str]; omega
  refine ⟨s.cps.toList[k], ?_⟩
  have e : op2 S .get (.str s) (.int k) = if s.length ≤ LIM then (L2.atI s.cps.toList k).map fun c => .str ⟨#[c]⟩ else none := rfl
  rw [e, if_pos hl, atI_nat _ _ hk]
  rfl
theorem app_len (x y : Str) : (x ++ y).length = x.length + y.length := by
  show (x.cps ++ y.cps).size = x.cps.size + y.cps.size
  simp
def strD (ws : List Str) : List D := ws.map .str
theorem clo_strD (n : Nat) : ∀ ws : List Str, clos n (strD ws) = true
  | [] => rfl
  | w :: ws => clo_strD n ws
theorem flats_strD (n : Nat) : ∀ ws : List Str, flats n (strD ws) = true
  | [] => rfl
  | w :: ws => flats_strD n ws
theorem any_strD (w : Str) : ∀ l : List Str, (strD l).any (fun y => eqD y (.str w)) = l.any (· == w)
  | [] => rfl
  | x :: l => by
    have := any_strD w l
    unfold strD at this ⊢
    simp only [List.map_cons, List.any_cons, this]
    rfl
theorem in_tup (S : Store) (w : Str) (l : List Str) : op2 S .in_ (.str w) (.tup (strD l)) = some (.bl (l.any (· == w))) := by
  have e : op2 S .in_ (.str w) (.tup (strD l)) = (inT (.str w) (strD l)).map .bl := rfl
  rw [e]
  unfold inT
  rw [show flat 0 (.str w) = true from rfl, flats_strD, any_strD]
  rfl
theorem in_lst (S : Store) (w : Str) (l : List Str) : op2 S .in_ (.str w) (.lst (strD l)) = some (.bl (l.any (· == w))) ∧ op2 S .notin (.str w) (.lst (strD l)) = some (.bl (!l.any (· == w))) := by
  have e : op2 S .in_ (.str w) (.lst (strD l)) = (inL S (.str w) (.lst (strD l))).map .bl := rfl
  have e2 : op2 S .notin (.str w) (.lst (strD l)) = (inL S (.str w) (.lst (strD l))).map fun c => .bl (!c) := rfl
  have e3 : inL S (.str w) (.lst (strD l)) = some (l.any (· == w)) := by
    unfold inL
    simp only [items]
    rw [show flat 15 (.str w) = true from rfl, flats_strD, any_strD]
    rfl
  rw [e, e2, e3]
  exact ⟨rfl, rfl⟩
def isIn (ws : List Str) : D → Bool
  | .str s => ws.any (· == s)
  | _ => false
theorem is_words (n : Nat) (S : Store) {x : D} (ws : List Str) (h : sim x = true) : callF Tt (n + 1) 2 [x, .tup (strD ws)] S = .ok (.bl (isIn ws x)) S := by
  rw [callF_is (fd := f_is_word_of) rfl rfl]
  cases x <;> first | (cases h; done) | skip
  case str s => simp [f_is_word_of, env0, tyIs, in_tup, isIn]
  all_goals simp [f_is_word_of, env0, tyIs, isIn]
end LawK
namespace LawK
open PySem PySem.Spec PyProof.Rows L2 Ev
/-! ### what may be asked: texts short, nothing that changes -/
mutual
def okS : Nat → D → Bool
  | _, .non | _, .bl _ | _, .int _ => true
  | _, .str s => decide (s.length ≤ 1000)
  | n, .tup xs => (match n with
    | 0 => false
    | n + 1 => okSs n xs)
  | n, .lst xs => (match n with
    | 0 => false
    | n + 1 => flats n xs)
  | _, _ => false
def okSs : Nat → List D → Bool
  | _, [] => true
  | n, x :: xs => okS n x && okSs n xs
end
theorem okSs_mem {n : Nat} : ∀ {xs : List D}, okSs n xs = true ↔ ∀ x ∈ xs, okS n x = true
  | [] => by simp [okSs]
  | x :: xs => by
    have ih := okSs_mem (n := n) (xs := xs)
    simp only [okSs, Bool.and_eq_true, ih, List.mem_cons, forall_eq_or_imp]
theorem okS_sim {n : Nat} {x : D} (h : okS n x = true) : sim x = true := by
  cases x <;> first | rfl | (cases n <;> simp [okS] at h)
theorem okS_flat : ∀ {n : Nat} {x : D}, okS n x = true → flat n x = true := by
  intro n
  induction n with
  | zero => intro x h; cases x <;> first | rfl | (simp [okS] at h)
  | succ n ih =>
    intro x h
    cases x <;> first | rfl | (simp [okS] at h; done) | skip
    · rename_i xs
      have h : okSs n xs = true := by simpa [okS] using h
      show flats n xs = true
      exact flats_of fun y hy => ih (okSs_mem.mp h y hy)
    · rename_i xs
      have h : flats n xs = true := by simpa [okS] using h
      exact h
theorem okS_str {n : Nat} {x : D} (h : okS n x = true) : ∀ s, x = .str s → s.length ≤ 1000 := fun s e => by
  subst e
  simpa [okS] using h
theorem okS_tup {n : Nat} {xs : List D} (h : okS n (.tup xs) = true) : ∃ m, n = m + 1 ∧ ∀ x ∈ xs, okS m x = true := by
  cases n with
  | zero => simp [okS] at h
  | succ m => exact ⟨m, rfl, okSs_mem.mp (by simpa [okS] using h)⟩
theorem okS_simT {n : Nat} {x : D} (h : okS n x = true) : simT x = true := by
  cases x <;> first | rfl | (cases n <;> simp [okS] at h; done) | skip
  obtain ⟨m, rfl, hm⟩ := okS_tup h
  exact List.all_eq_true.mpr fun y hy => okS_sim (hm y hy)
def el (i : Nat) : D → D
  | .tup xs => xs.getD i .non
  | _ => .non
def W3 : List Str := ["always", "faulted", "never"]
def R3 : List Str := ["one", "rest", "all"]
def workerD (x : D) : Bool := rowD "worker" 3 x && (nameD (el 1 x) && isIn W3 (el 2 x))
theorem row_tup {w : Str} {k : Nat} {x : D} (h : rowD w k x = true) : ∃ xs, x = .tup xs ∧ xs.length = k ∧ isS w (xs.headD .non) = true := by
  cases x <;> simp only [rowD, Bool.false_eq_true] at h
  simp only [Bool.and_eq_true, decide_eq_true_eq] at h
  exact ⟨_, rfl, h.1, h.2⟩
theorem ix1 (a b : D) (r : List D) : ixD (a :: b :: r) 1 = some b := atI_nat (a :: b :: r) 1 (by simp)
theorem ix2 (a b c : D) (r : List D) : ixD (a :: b :: c :: r) 2 = some c := atI_nat (a :: b :: c :: r) 2 (by simp)
theorem ix3 (a b c d : D) (r : List D) : ixD (a :: b :: c :: d :: r) 3 = some d := atI_nat (a :: b :: c :: d :: r) 3 (by simp)
theorem ix4 (a b c d e : D) (r : List D) : ixD (a :: b :: c :: d :: e :: r) 4 = some e := atI_nat (a :: b :: c :: d :: e :: r) 4 (by simp)
theorem ix5 (a b c d e f : D) (r : List D) : ixD (a :: b :: c :: d :: e :: f :: r) 5 = some f := atI_nat (a :: b :: c :: d :: e :: f :: r) 5 (by simp)
theorem is_worker (n : Nat) (S : Store) {m : Nat} {x : D} (h : okS m x = true) : callF Tt (n + 3) 4 [x] S = .ok (.bl (workerD x)) S := by
  rw [callF_is (fd := f_is_worker) rfl rfl]
  show endF true S (evB (parOf Tt (n + 2)) [s_is_worker_0, s_is_worker_1] [some x] S) = _
  have r := is_row n S "worker" 3 (by omega) (okS_simT h)
  simp at r
  cases hr : rowD "worker" 3 x
  · simp [s_is_worker_0, r, hr, workerD]
  · obtain ⟨xs, rfl, hl, hs⟩ := row_tup hr
    match xs, hl with
    | [a, b, c], _ =>
      obtain ⟨m', rfl, hm⟩ := okS_tup h
      have hb := hm b (by simp)
      have hc := hm c (by simp)
      have e1 := is_name (n + 1) S (okS_sim hb) (okS_str hb)
      have e2 := is_words (n + 1) S W3 (okS_sim hc)
      simp only [W3, strD, List.map_cons, List.map_nil] at e2
      simp [s_is_worker_0, s_is_worker_1, r, hr, workerD, ix1, ix2, e1, e2, el]
      cases nameD b <;> simp [W3]
def partsD (q : D → Bool) : D → Bool
  | .tup ps => decide (1 ≤ ps.length) && (decide (ps.length ≤ 8) && ps.all q)
  | _ => false
def wardD : Nat → D → Bool
  | 0, _ => false
  | k + 1, x => rowD "warden" 6 x && (nameD (el 1 x) && (isIn R3 (el 2 x) && (numD 0 1000000000 (el 3 x) && (numD 1 1000000000 (el 4 x) && partsD (fun p => workerD p || wardD k p) (el 5 x)))))
theorem is_warden : ∀ (k n m : Nat) (S : Store) (x : D), okS m x = true → k ≤ 6 → callF Tt (n + k + 4) 5 [x, .int ((6 - k : Nat) : Int)] S = .ok (.bl (wardD k x)) S
  | 0, n, m, S, x, h, _ => by
    rw [show n + 0 + 4 = (n + 3) + 1 by omega, callF_is (fd := f_is_warden) rfl rfl]
    show endF true S (evB (parOf Tt (n + 3)) [s_is_warden_0, s_is_warden_1, s_is_warden_2, s_is_warden_3, s_is_warden_4] [some x, some (.int 6), none] S) = _
    simp [s_is_warden_0, wardD]
  | k + 1, n, m, S, x, h, hk => by
    rw [show n + (k + 1) + 4 = (n + k + 4) + 1 by omega, callF_is (fd := f_is_warden) rfl rfl]
    obtain ⟨ab, hab', hlt, hk1⟩ : ∃ ab : Int, ((6 - (k + 1) : Nat) : Int) = ab ∧ ab < 6 ∧ ab + 1 = ((6 - k : Nat) : Int) := ⟨_, rfl, by omega, by omega⟩
    rw [hab']
    have hab : ¬ (6 : Int) ≤ ab := by omega
    show endF true S (evB (parOf Tt (n + k + 4)) [s_is_warden_0, s_is_warden_1, s_is_warden_2, s_is_warden_3, s_is_warden_4] [some x, some (.int ab), none] S) = _
    have r := is_row (n + k + 2) S "warden" 6 (by omega) (okS_simT h)
    simp at r
    cases hr : rowD "warden" 6 x
    · simp [s_is_warden_0, r, hr, wardD, hab]
    · obtain ⟨xs, rfl, hl, hs⟩ := row_tup hr
      match xs, hl with
      | [a, b, c, d, e, f], _ =>
        obtain ⟨m', rfl, hm⟩ := okS_tup h
        have hb := hm b (by simp)
        have hc := hm c (by simp)
        have hd := hm d (by simp)
        have he := hm e (by simp)
        have hf := hm f (by simp)
        have e1 := is_name (n + k + 3) S (okS_sim hb) (okS_str hb)
        have e2 := is_words (n + k + 3) S R3 (okS_sim hc)
        have e3 := is_number (n + k + 3) S 0 1000000000 (okS_sim hd)
        have e4 := is_number (n + k + 3) S 1 1000000000 (okS_sim he)
        simp only [R3, strD, List.map_cons, List.map_nil] at e2
        have w : wardD (k + 1) (.tup [a, b, c, d, e, f]) = (nameD b && (isIn R3 c && (numD 0 1000000000 d && (numD 1 1000000000 e && partsD (fun p => workerD p || wardD k p) f)))) := by
          conv => lhs; unfold wardD
          rw [hr, Bool.true_and]
          rfl
        rw [w]
        have q0 : evS (parOf Tt (n + k + 4)) s_is_warden_0 [some (.tup [a, b, c, d, e, f]), some (.int ab), none] S = if nameD b then .nx [some (.tup [a, b, c, d, e, f]), some (.int ab), none] S else .rt (.bl false) S := by
          simp [s_is_warden_0, r, hr, hab, ix1, e1]
          try (cases nameD b <;> simp)
        have q1 : evS (parOf Tt (n + k + 4)) s_is_warden_1 [some (.tup [a, b, c, d, e, f]), some (.int ab), none] S = if isIn R3 c && numD 0 1000000000 d then .nx [some (.tup [a, b, c, d, e, f]), some (.int ab), none] S else .rt (.bl false) S := by
          simp [s_is_warden_1, ix2, ix3, e2, e3, R3]
          try cases isIn ["one", "rest", "all"] c <;> cases numD 0 1000000000 d <;> simp
        have ih := fun (y : D) (S : Store) (hy : okS m' y = true) => is_warden k n m' S y hy (by omega)
        have q23 : evB (parOf Tt (n + k + 4)) [s_is_warden_2, s_is_warden_3, s_is_warden_4] [some (.tup [a, b, c, d, e, f]), some (.int ab), none] S = .rt (.bl (numD 1 1000000000 e && partsD (fun p => workerD p || wardD k p) f)) S := by
          cases he1 : numD 1 1000000000 e
          · have q2 : evS (parOf Tt (n + k + 4)) s_is_warden_2 [some (.tup [a, b, c, d, e, f]), some (.int ab), none] S = .rt (.bl false) S := by
              simp [s_is_warden_2, ix4, e4, he1]
            rw [evB_cons, q2]
            rfl
          · by_cases hft : ∃ ps, f = .tup ps
            · obtain ⟨ps, rfl⟩ := hft
              obtain ⟨m2, hm2, hps⟩ := okS_tup hf
              have q2 : evS (parOf Tt (n + k + 4)) s_is_warden_2 [some (.tup [a, b, c, d, e, .tup ps]), some (.int ab), none] S = if 1 ≤ ps.length ∧ ps.length ≤ 8 then .nx [some (.tup [a, b, c, d, e, .tup ps]), some (.int ab), none] S else .rt (.bl false) S := by
                simp [s_is_warden_2, ix4, ix5, e4, he1, tyIs]
                repeat' split
                all_goals first | rfl | (exfalso; omega)
              obtain ⟨δ', hδ, hl⟩ := forL_find (ch := []) (i := 2) (S := S) (r := .bl false) (bad := fun p => !(workerD p || wardD k p)) (f := fun δ S => evB (parOf Tt (n + k + 4)) b_is_warden_3 δ S) stays_nil (xs := ps) (δ := [some (.tup [a, b, c, d, e, .tup ps]), some (.int ab), none]) (fun x hx => by
                have hx2 := hps x hx
                have w1 := is_worker (n + k + 1) S hx2
                have w2 := is_warden k n m2 S x hx2 (by omega)
                simp [b_is_warden_3, w1, hk1, w2]
                cases workerD x <;> cases wardD k x <;> simp)
              have q3 : evS (parOf Tt (n + k + 4)) s_is_warden_3 [some (.tup [a, b, c, d, e, .tup ps]), some (.int ab), none] S = if ps.all (fun p => workerD p || wardD k p) then .nx δ' S else .rt (.bl false) S := by
                simp only [s_is_warden_3, evS_for, sFor, evEs_cons, evEs_nil, evE_op2, evE_var, evE_lit, List.getElem?_cons_zero, ofV_some, bind_ok, o_getT, ix5, ofO_some, walkOf]
                rw [hl]
                have an : ps.any (fun p => !(workerD p || wardD k p)) = !ps.all (fun p => workerD p || wardD k p) := by
                  rw [List.all_eq_not_any_not, Bool.not_not]
                rw [an]
                generalize ps.all (fun p => workerD p || wardD k p) = z
                cases z <;> rfl
              have q4 : evS (parOf Tt (n + k + 4)) s_is_warden_4 δ' S = .rt (.bl true) S := by simp [s_is_warden_4]
              simp only [evB_cons, q2, q3, seq_ite, seq_nx, seq_rt, q4, partsD]
              by_cases h1 : 1 ≤ ps.length <;> by_cases h2 : ps.length ≤ 8 <;> cases ps.all (fun p => workerD p || wardD k p) <;> simp [h1, h2]
            · have hp : partsD (fun p => workerD p || wardD k p) f = false := by
                unfold partsD
                split
                · exact absurd ⟨_, rfl⟩ hft
                · rfl
              have ty : tyIs S .tuple f = some false := by
                have hs := okS_sim hf
                cases f <;> first | rfl | (cases hs; done) | exact absurd ⟨_, rfl⟩ hft
              have q2 : evS (parOf Tt (n + k + 4)) s_is_warden_2 [some (.tup [a, b, c, d, e, f]), some (.int ab), none] S = .rt (.bl false) S := by
                simp [s_is_warden_2, ix4, ix5, e4, he1, ty]
              rw [evB_cons, q2, hp]
              rfl
        have sp : evB (parOf Tt (n + k + 4)) [s_is_warden_0, s_is_warden_1, s_is_warden_2, s_is_warden_3, s_is_warden_4] [some (.tup [a, b, c, d, e, f]), some (.int ab), none] S =
            (evS (parOf Tt (n + k + 4)) s_is_warden_0 [some (.tup [a, b, c, d, e, f]), some (.int ab), none] S).seq fun δ S => (evS (parOf Tt (n + k + 4)) s_is_warden_1 δ S).seq fun δ S => evB (parOf Tt (n + k + 4)) [s_is_warden_2, s_is_warden_3, s_is_warden_4] δ S := by
          simp only [evB_cons]
        rw [sp, q0, seq_ite, seq_nx, q1, seq_ite, seq_nx, q23, seq_rt]
        cases nameD b <;> cases isIn R3 c <;> cases numD 0 1000000000 d <;> simp
end LawK
namespace LawK
open PySem PySem.Spec PyProof.Rows L2 Ev
theorem flat_mono : ∀ {n m : Nat} {d : D}, n ≤ m → flat n d = true → flat m d = true := by
  have ls : ∀ {n m : Nat} (ih : ∀ d, flat n d = true → flat m d = true), ∀ xs : List D, flats n xs = true → flats m xs = true := by
    intro n m ih xs
    induction xs with
    | nil => intro _; rfl
    | cons x xs ih2 =>
      intro h
      have h := Bool.and_eq_true_iff.mp h
      exact Bool.and_eq_true_iff.mpr ⟨ih x h.1, ih2 h.2⟩
  intro n
  induction n with
  | zero => intro m d hm h; cases d <;> first | rfl | (simp [flat] at h; done)
  | succ n ih =>
    intro m d hm h
    obtain ⟨m', rfl⟩ : ∃ m', m = m' + 1 := ⟨m - 1, by omega⟩
    cases d <;> first | rfl | (simp [flat] at h; done) | skip
    · rename_i xs
      have h : flats n xs = true := h
      show flats m' xs = true
      exact ls (fun d => ih (by omega)) xs h
    · rename_i xs
      have h : flats n xs = true := h
      show flats m' xs = true
      exact ls (fun d => ih (by omega)) xs h
theorem row_len {w : Str} {k : Nat} {xs : List D} (h : xs.length ≠ k) : rowD w k (.tup xs) = false := by simp [rowD, h]
theorem in3W (S : Store) (u : Str) : op2 S .in_ (.str u) (.lst [.str "always", .str "faulted", .str "never"]) = some (.bl (W3.any (· == u))) := (in_lst S u W3).1
theorem notin3R (S : Store) (u : Str) : op2 S .notin (.str u) (.lst [.str "one", .str "rest", .str "all"]) = some (.bl (!R3.any (· == u))) := (in_lst S u R3).2
theorem filt_empty {q : D → Bool} : ∀ ps : List D, (ps.filterMap fun d => if q d then none else some d).isEmpty = ps.all q
  | [] => rfl
  | p :: ps => by
    have ih := filt_empty (q := q) ps
    cases h : q p <;> simp [h, ih]
theorem tyT (S : Store) (xs : List D) : tyIs S .tuple (.tup xs) = some true := rfl
theorem tyS' (S : Store) (x : Str) : tyIs S .str (.str x) = some true := rfl
mutual
theorem clo_flat : ∀ {n m : Nat} {d : D}, flat n d = true → clo m d = true
  | _, _, .non, _ | _, _, .bl _, _ | _, _, .int _, _ | _, _, .str _, _ => rfl
  | _, _, .scr _, _ => rfl
  | 0, _, .tup _, h => by simp [flat] at h
  | n + 1, _, .tup xs, h => closF (n := n) (xs := xs) h
  | 0, _, .lst _, h => by simp [flat] at h
  | n + 1, _, .lst xs, h => closF (n := n) (xs := xs) h
  | _, _, .dic _ _, h => by simp [flat] at h
  | _, _, .loc _, h => by simp [flat] at h
theorem closF : ∀ {n m : Nat} {xs : List D}, flats n xs = true → clos m xs = true
  | _, _, [], _ => rfl
  | n, _, x :: xs, h => by
    have h := Bool.and_eq_true_iff.mp h
    exact Bool.and_eq_true_iff.mpr ⟨clo_flat h.1, closF h.2⟩
end
theorem part_0 (n : Nat) (S : Store) (xs : List D) (ab : Int) (h : ¬ ∃ t b u r, xs = .str t :: b :: .str u :: r ∧ nameD b = true) (hs : ∀ x ∈ xs, sim x = true) (hl : ∀ x ∈ xs, ∀ s, x = .str s → s.length ≤ 1000) :
    evB (parOf Tt (n + 1)) [s_law_is_part_0, s_law_is_part_1, s_law_is_part_2, s_law_is_part_3, s_law_is_part_4, s_law_is_part_5, s_law_is_part_6, s_law_is_part_7] [some (.tup xs), some (.int ab), none] S = .rt (.bl false) S := by
  match xs, h with
  | [], _ => simp [s_law_is_part_0, tyT, tyS']
  | [_], _ => simp [s_law_is_part_0, tyT, tyS']
  | [_, _], _ => simp [s_law_is_part_0, tyT, tyS']
  | a :: b :: c :: r, h =>
    have ha := hs a (by simp)
    have hb := hs b (by simp)
    have hc := hs c (by simp)
    have g : ¬ ((r.length : Int) + 1 + 1 + 1 < 3) := by omega
    have e1 := law_is_name n S hb (hl b (by simp))
    have ta : ∃ v, tyIs S .str a = some v ∧ (v = true → ∃ t, a = .str t) := by cases a <;> first | (cases ha; done) | exact ⟨_, rfl, fun z => by first | exact ⟨_, rfl⟩ | cases z⟩
    have tc : ∃ v, tyIs S .str c = some v ∧ (v = true → ∃ t, c = .str t) := by cases c <;> first | (cases hc; done) | exact ⟨_, rfl, fun z => by first | exact ⟨_, rfl⟩ | cases z⟩
    obtain ⟨va, ea, ka⟩ := ta
    obtain ⟨vc, ec, kc⟩ := tc
    cases va
    · simp [s_law_is_part_0, tyT, tyS', g, ea]
    · obtain ⟨t, rfl⟩ := ka rfl
      cases hn : nameD b
      · simp [s_law_is_part_0, tyT, tyS', g, ix1, e1, hn]
      · cases vc
        · have q0 : evS (parOf Tt (n + 1)) s_law_is_part_0 [some (.tup (.str t :: b :: c :: r)), some (.int ab), none] S = .nx [some (.tup (.str t :: b :: c :: r)), some (.int ab), none] S := by simp [s_law_is_part_0, tyT, tyS', g, ix1, e1, hn]
          have q1 : evS (parOf Tt (n + 1)) s_law_is_part_1 [some (.tup (.str t :: b :: c :: r)), some (.int ab), none] S = .rt (.bl false) S := by simp [s_law_is_part_1, ix2, ec]
          simp only [evB_cons, q0, q1, seq_nx, seq_rt]
        · obtain ⟨u, rfl⟩ := kc rfl
          exact absurd ⟨t, b, u, r, rfl, hn⟩ h
theorem worker_shape {xs : List D} (h : workerD (.tup xs) = true) : ∃ t b u r, xs = .str t :: b :: .str u :: r ∧ nameD b = true := by
  simp only [workerD, Bool.and_eq_true] at h
  obtain ⟨h1, h2, h3⟩ := h
  obtain ⟨ys, e, hl, hs⟩ := row_tup h1
  cases e
  match xs, hl, hs, h2, h3 with
  | [a, b, c], _, hs, h2, h3 =>
    cases a <;> simp only [List.headD_cons, isS, Bool.false_eq_true] at hs
    cases c <;> simp only [el, List.getD_cons_succ, List.getD_cons_zero, isIn, Bool.false_eq_true] at h3
    exact ⟨_, _, _, _, rfl, h2⟩
theorem ward_shape {k : Nat} {xs : List D} (h : wardD k (.tup xs) = true) : ∃ b u d e f, xs = [.str "warden", b, .str u, d, e, f] ∧ nameD b = true ∧ R3.any (· == u) = true ∧ 1 ≤ k := by
  cases k with
  | zero => cases h
  | succ k =>
    unfold wardD at h
    simp only [Bool.and_eq_true] at h
    obtain ⟨h1, h2, h3, _⟩ := h
    obtain ⟨ys, e, hl, hs⟩ := row_tup h1
    cases e
    match xs, hl, hs, h2, h3 with
    | [a, b, c, d, e, f], _, hs, h2, h3 =>
      cases a <;> simp only [List.headD_cons, isS, Bool.false_eq_true] at hs
      cases c <;> simp only [el, List.getD_cons_succ, List.getD_cons_zero, isIn, Bool.false_eq_true] at h3
      have := eq_of_beq hs
      subst this
      exact ⟨_, _, _, _, _, rfl, h2, h3, by omega⟩
theorem law_is_part : ∀ (k n m : Nat) (S : Store) (x : D), okS m x = true → k ≤ 6 → m ≤ 50 → callF Tt (n + k + 4) 18 [x, .int ((6 - k : Nat) : Int)] S = .ok (.bl (workerD x || wardD k x)) S := by
  intro k
  induction k using Nat.strongRecOn with
  | _ k ih =>
  intro n m S x h hk hm
  rw [show n + k + 4 = (n + k + 3) + 1 by omega, callF_is (fd := f_law_is_part) rfl rfl]
  obtain ⟨ab, hab', hlt⟩ : ∃ ab : Int, ((6 - k : Nat) : Int) = ab ∧ (5 < ab ↔ k = 0) := ⟨_, rfl, by omega⟩
  rw [hab']
  show endF true S (evB (parOf Tt (n + k + 3)) [s_law_is_part_0, s_law_is_part_1, s_law_is_part_2, s_law_is_part_3, s_law_is_part_4, s_law_is_part_5, s_law_is_part_6, s_law_is_part_7] [some x, some (.int ab), none] S) = _
  by_cases hx : ∃ xs, x = .tup xs
  · obtain ⟨xs, rfl⟩ := hx
    obtain ⟨m', rfl, hm'⟩ := okS_tup h
    by_cases hsh : ∃ t b u r, xs = .str t :: b :: .str u :: r ∧ nameD b = true
    · obtain ⟨t, b, u, r, rfl, hn⟩ := hsh
      have hb := hm' b (by simp)
      have g : ¬ ((r.length : Int) + 1 + 1 + 1 < 3) := by omega
      have e1 := law_is_name (n + k + 2) S (okS_sim hb) (okS_str hb)
      have q0 : evS (parOf Tt (n + k + 3)) s_law_is_part_0 [some (.tup (.str t :: b :: .str u :: r)), some (.int ab), none] S = .nx [some (.tup (.str t :: b :: .str u :: r)), some (.int ab), none] S := by simp [s_law_is_part_0, tyT, tyS', g, ix1, e1, hn]
      have q1 : evS (parOf Tt (n + k + 3)) s_law_is_part_1 [some (.tup (.str t :: b :: .str u :: r)), some (.int ab), none] S = .nx [some (.tup (.str t :: b :: .str u :: r)), some (.int ab), none] S := by simp [s_law_is_part_1, ix2, tyS']
      simp only [evB_cons, q0, q1, seq_nx]
      by_cases ht : t = "worker"
      · subst ht
        have hw : wardD k (.tup (.str "worker" :: b :: .str u :: r)) = false := by
          cases hw : wardD k (.tup (.str "worker" :: b :: .str u :: r))
          · rfl
          · obtain ⟨_, _, _, _, _, e, _⟩ := ward_shape hw
            simp at e
            exact absurd e.1 (by decide)
        have hq : workerD (.tup (.str "worker" :: b :: .str u :: r)) = (decide (r = []) && W3.any (· == u)) := by
          cases r with
          | nil => simp [workerD, rowD, isS, el, hn, isIn]
          | cons y ys => simp [workerD, rowD]
        have q2 : evS (parOf Tt (n + k + 3)) s_law_is_part_2 [some (.tup (.str "worker" :: b :: .str u :: r)), some (.int ab), none] S = .rt (.bl (decide (r = []) && W3.any (· == u))) S := by
          cases r with
          | nil => simp [s_law_is_part_2, ix2, in3W]
          | cons y ys =>
            have g2 : ¬ ((ys.length : Int) + 1 + 1 + 1 + 1 = 3) := by omega
            simp [s_law_is_part_2, ix2, g2]
        rw [q2, hw, hq]
        simp
      · have hw0 : workerD (.tup (.str t :: b :: .str u :: r)) = false := by
          have q : (t == ("worker" : Str)) = false := beq_eq_false_iff_ne.mpr ht
          simp [workerD, rowD, isS, q]
        have q2 : evS (parOf Tt (n + k + 3)) s_law_is_part_2 [some (.tup (.str t :: b :: .str u :: r)), some (.int ab), none] S = .nx [some (.tup (.str t :: b :: .str u :: r)), some (.int ab), none] S := by simp [s_law_is_part_2, ht]
        rw [q2, seq_nx, hw0, Bool.false_or]
        by_cases hc : t = "warden" ∧ r.length = 3 ∧ k ≠ 0 ∧ R3.any (· == u) = true
        · obtain ⟨rfl, hr, hk0, hu⟩ := hc
          match r, hr with
          | [d, e, f], _ =>
            obtain ⟨k', rfl⟩ : ∃ k', k = k' + 1 := ⟨k - 1, by omega⟩
            have hd := hm' d (by simp)
            have he := hm' e (by simp)
            have hf := hm' f (by simp)
            have hk1 : ab + 1 = ((6 - k' : Nat) : Int) := by omega
            have c4 : ¬ 5 < ab := fun z => absurd (hlt.mp z) (by omega)
            have w : wardD (k' + 1) (.tup [.str "warden", b, .str u, d, e, f]) = (numD 0 1000000000 d && (numD 1 1000000000 e && partsD (fun p => workerD p || wardD k' p) f)) := by
              conv => lhs; unfold wardD
              have r1 : rowD "warden" 6 (.tup [.str "warden", b, .str u, d, e, f]) = true := by simp [rowD, isS]
              have r2 : isIn R3 (el 2 (.tup [.str "warden", b, .str u, d, e, f])) = true := hu
              have r3 : nameD (el 1 (.tup [.str "warden", b, .str u, d, e, f])) = true := hn
              rw [r1, r2, r3]
              rfl
            have q3 : evS (parOf Tt (n + (k' + 1) + 3)) s_law_is_part_3 [some (.tup [.str "warden", b, .str u, d, e, f]), some (.int ab), none] S = .nx [some (.tup [.str "warden", b, .str u, d, e, f]), some (.int ab), none] S := by
              simp [s_law_is_part_3, c4, ix2, notin3R, hu]
            have q4 : evS (parOf Tt (n + (k' + 1) + 3)) s_law_is_part_4 [some (.tup [.str "warden", b, .str u, d, e, f]), some (.int ab), none] S = if numD 0 1000000000 d then .nx [some (.tup [.str "warden", b, .str u, d, e, f]), some (.int ab), none] S else .rt (.bl false) S := by
              have lw := law_whole (n + (k' + 1) + 2) S (okS_sim hd)
              have go : ∀ i, evS (parOf Tt (n + (k' + 1) + 3)) s_law_is_part_4 [some (.tup [.str "warden", b, .str u, .int i, e, f]), some (.int ab), none] S = if numD 0 1000000000 (.int i) then .nx [some (.tup [.str "warden", b, .str u, .int i, e, f]), some (.int ab), none] S else .rt (.bl false) S := fun i => by
                have lw := law_whole (n + (k' + 1) + 2) S (x := .int i) rfl
                simp [wholeD] at lw
                simp [s_law_is_part_4, ix3, lw, numD]
                repeat' split
                all_goals first | rfl | (exfalso; omega)
              have hs := okS_sim hd
              cases d <;> first | (cases hs; done) | exact go _ | (simp [wholeD] at lw; simp [s_law_is_part_4, ix3, lw, numD]; done)
            have q5 : evS (parOf Tt (n + (k' + 1) + 3)) s_law_is_part_5 [some (.tup [.str "warden", b, .str u, d, e, f]), some (.int ab), none] S = if numD 1 1000000000 e then .nx [some (.tup [.str "warden", b, .str u, d, e, f]), some (.int ab), none] S else .rt (.bl false) S := by
              have lw := law_whole (n + (k' + 1) + 2) S (okS_sim he)
              have go : ∀ i, evS (parOf Tt (n + (k' + 1) + 3)) s_law_is_part_5 [some (.tup [.str "warden", b, .str u, d, .int i, f]), some (.int ab), none] S = if numD 1 1000000000 (.int i) then .nx [some (.tup [.str "warden", b, .str u, d, .int i, f]), some (.int ab), none] S else .rt (.bl false) S := fun i => by
                have lw := law_whole (n + (k' + 1) + 2) S (x := .int i) rfl
                simp [wholeD] at lw
                simp [s_law_is_part_5, ix4, lw, numD]
                repeat' split
                all_goals first | rfl | (exfalso; omega)
              have hs := okS_sim he
              cases e <;> first | (cases hs; done) | exact go _ | (simp [wholeD] at lw; simp [s_law_is_part_5, ix4, lw, numD]; done)
            have q67 : evB (parOf Tt (n + (k' + 1) + 3)) [s_law_is_part_6, s_law_is_part_7] [some (.tup [.str "warden", b, .str u, d, e, f]), some (.int ab), none] S = .rt (.bl (partsD (fun p => workerD p || wardD k' p) f)) S := by
              by_cases hft : ∃ ps, f = .tup ps
              · obtain ⟨ps, rfl⟩ := hft
                obtain ⟨m2, hm2, hps⟩ := okS_tup hf
                have q6 : evS (parOf Tt (n + (k' + 1) + 3)) s_law_is_part_6 [some (.tup [.str "warden", b, .str u, d, e, .tup ps]), some (.int ab), none] S = if 1 ≤ ps.length ∧ ps.length ≤ 8 then .nx [some (.tup [.str "warden", b, .str u, d, e, .tup ps]), some (.int ab), none] S else .rt (.bl false) S := by
                  simp [s_law_is_part_6, ix5, tyT]
                  repeat' split
                  all_goals first | rfl | (exfalso; omega)
                by_cases hlen : 1 ≤ ps.length ∧ ps.length ≤ 8
                · have hc : evCmp false .ex (.nm 2) [2] (evEs (parOf Tt (n + (k' + 1) + 3)) [.op2 .get (.var 0) (.lit (.int 5))]) (evIfs (parOf Tt (n + (k' + 1) + 3)) [.not (.call 18 [.var 2, .op2 .add (.var 1) (.lit (.int 1))])]) (evE (parOf Tt (n + (k' + 1) + 3)) (.var 2)) [some (.tup [.str "warden", b, .str u, d, e, .tup ps]), some (.int ab), none] S =
                      .ok (.lst (ps.filterMap fun p => if (workerD p || wardD k' p) then none else some p)) S := by
                    refine evCmp_F (ds := [.tup ps]) (ch := []) _ (by simp [ix5]) rfl stays_nil (by rw [LIM_nat]; omega) (fun p hp acc => ?_) fun p hp => ?_
                    · have e := ih k' (by omega) n m2 (S ++ [.lst acc]) p (hps p hp) (by omega) (by omega)
                      rw [show n + k' + 4 = n + (k' + 1) + 3 by omega] at e
                      simp only [turnC, setT, wipeE, List.set_cons_succ, List.set_cons_zero, evIfs_one, evE_not, evE_call, evEs_cons, evEs_nil, evE_var, evE_op2, evE_lit, List.getElem?_cons_succ, List.getElem?_cons_zero, ofV_some, bind_ok, o_add, ofO_some, hk1, parOf_cf, e, ifB_bl]
                      cases (workerD p || wardD k' p) <;> rfl
                    · split
                      · rfl
                      · simp only [Option.toList_some, clos, Bool.and_true]
                        exact clo_flat (okS_flat (hps p hp))
                  have q7 : evS (parOf Tt (n + (k' + 1) + 3)) s_law_is_part_7 [some (.tup [.str "warden", b, .str u, d, e, .tup ps]), some (.int ab), none] S = .rt (.bl (ps.all fun p => workerD p || wardD k' p)) S := by
                    simp only [s_law_is_part_7, evS_ret, evE_op2, evE_cmp, hc, bind_ok, evE_lst, evEs_nil, newL_f]
                    rw [if_pos (by simp), bind_ok, eq_nil (flats_of (n := 59) fun p hp => by
                      obtain ⟨y, hy, ey⟩ := List.mem_filterMap.mp hp
                      split at ey
                      · cases ey
                      · cases ey
                        exact flat_mono (by omega) (okS_flat (hps p hy))), filt_empty]
                    rfl
                  simp only [evB_cons, q6, if_pos hlen, seq_nx, q7, seq_rt, partsD]
                  simp [hlen.1, hlen.2]
                · simp only [evB_cons, q6, if_neg hlen, seq_rt, partsD]
                  by_cases h1 : 1 ≤ ps.length <;> by_cases h2 : ps.length ≤ 8 <;> simp [h1, h2]
                  exact absurd ⟨h1, h2⟩ hlen
              · have hp : partsD (fun p => workerD p || wardD k' p) f = false := by
                  unfold partsD
                  split
                  · exact absurd ⟨_, rfl⟩ hft
                  · rfl
                have ty : tyIs S .tuple f = some false := by
                  have hs := okS_sim hf
                  cases f <;> first | rfl | (cases hs; done) | exact absurd ⟨_, rfl⟩ hft
                have q6 : evS (parOf Tt (n + (k' + 1) + 3)) s_law_is_part_6 [some (.tup [.str "warden", b, .str u, d, e, f]), some (.int ab), none] S = .rt (.bl false) S := by
                  simp [s_law_is_part_6, ix5, ty]
                rw [evB_cons, q6, hp]
                rfl
            rw [w]
            simp only [q3, seq_nx, q4, q5, seq_ite, seq_rt]
            have sp : (evS (parOf Tt (n + (k' + 1) + 3)) s_law_is_part_6 [some (.tup [.str "warden", b, .str u, d, e, f]), some (.int ab), none] S).seq (fun δ S => (evS (parOf Tt (n + (k' + 1) + 3)) s_law_is_part_7 δ S).seq fun δ S => evB (parOf Tt (n + (k' + 1) + 3)) [] δ S) = .rt (.bl (partsD (fun p => workerD p || wardD k' p) f)) S := q67
            rw [sp]
            cases numD 0 1000000000 d <;> cases numD 1 1000000000 e <;> simp
        · have hw : wardD k (.tup (.str t :: b :: .str u :: r)) = false := by
            cases hw : wardD k (.tup (.str t :: b :: .str u :: r))
            · rfl
            · obtain ⟨_, _, _, _, _, e, _, h3, h4⟩ := ward_shape hw
              simp at e
              obtain ⟨rfl, rfl, rfl, rfl⟩ := e
              exact absurd ⟨rfl, rfl, by omega, h3⟩ hc
          have q3 : evS (parOf Tt (n + k + 3)) s_law_is_part_3 [some (.tup (.str t :: b :: .str u :: r)), some (.int ab), none] S = .rt (.bl false) S := by
            by_cases c1 : t = "warden"
            · by_cases c2 : r.length = 3
              · by_cases c3 : k = 0
                · have := hlt.mpr c3
                  simp [s_law_is_part_3, c1, c2, this]
                · have c4 : ¬ 5 < ab := fun z => c3 (hlt.mp z)
                  have c5 : R3.any (· == u) = false := by
                    cases h : R3.any (· == u)
                    · rfl
                    · exact absurd ⟨c1, c2, c3, h⟩ hc
                  simp [s_law_is_part_3, c1, c2, c4, ix2, notin3R, c5]
              · have c2' : ¬ ((r.length : Int) + 1 + 1 + 1 = 6) := by omega
                simp [s_law_is_part_3, c1, c2']
            · simp [s_law_is_part_3, c1]
          rw [q3, hw]
          simp
    · have hw : workerD (.tup xs) = false ∧ wardD k (.tup xs) = false := by
        constructor
        · cases hw : workerD (.tup xs)
          · rfl
          · exact absurd (worker_shape hw) hsh
        · cases hw : wardD k (.tup xs)
          · rfl
          · obtain ⟨b, u, d, e, f, rfl, hn, _⟩ := ward_shape hw
            exact absurd ⟨_, b, u, _, rfl, hn⟩ hsh
      rw [show n + k + 3 = (n + k + 2) + 1 by omega, part_0 (n + k + 2) S xs ab hsh (fun y hy => okS_sim (hm' y hy)) (fun y hy => okS_str (hm' y hy)), hw.1, hw.2]
      simp
  · have ty : tyIs S .tuple x = some false := by
      have hs := okS_sim h
      cases x <;> first | rfl | (cases hs; done) | exact absurd ⟨_, rfl⟩ hx
    have hw : workerD x = false ∧ wardD k x = false := by
      have rw' : ∀ w j, rowD w j x = false := fun w j => by cases x <;> first | rfl | exact absurd ⟨_, rfl⟩ hx
      refine ⟨by simp [workerD, rw'], ?_⟩
      cases k with
      | zero => rfl
      | succ k => unfold wardD; rw [rw']; rfl
    rw [hw.1, hw.2]
    simp [s_law_is_part_0, ty]
end LawK
namespace LawK
open PySem PySem.Spec PyProof.Rows L2 Ev
mutual
def namesT : D → List Str
  | .tup [.str t, .str nm, _, _, _, .tup ps] => if t = "warden" then nm :: namesTs ps else [nm]
  | .tup (_ :: .str nm :: _) => [nm]
  | _ => []
def namesTs : List D → List Str
  | [] => []
  | x :: xs => namesT x ++ namesTs xs
end
theorem namesTs_app : ∀ xs ys : List D, namesTs (xs ++ ys) = namesTs xs ++ namesTs ys
  | [], _ => by simp [namesTs]
  | x :: xs, ys => by
    have := namesTs_app xs ys
    simp only [List.cons_append, namesTs, this, List.append_assoc]
mutual
/-- a part and all beneath it, in order -/
def flatP : D → List D
  | .tup [.str t, a, b, c, d, .tup ps] => .tup [.str t, a, b, c, d, .tup ps] :: (if t = "warden" then flatPs ps else [])
  | x => [x]
def flatPs : List D → List D
  | [] => []
  | x :: xs => flatP x ++ flatPs xs
end
/-- a part: whether it is a warden, its name -/
def kn : D → Bool × Str
  | .tup (.str t :: .str nm :: _) => (t == "warden", nm)
  | _ => (false, "")
def pv (k : Nat) (x : D) : Bool := workerD x || wardD k x
inductive Shape (k : Nat) : D → Prop
  | w (nm u : Str) : nameD (.str nm) = true → Shape k (.tup [.str "worker", .str nm, .str u])
  | d (k' : Nat) (nm u : Str) (a b : Int) (ps : List D) : k = k' + 1 → nameD (.str nm) = true → ps.length ≤ 8 → 1 ≤ ps.length → (∀ p ∈ ps, pv k' p = true) → Shape k (.tup [.str "warden", .str nm, .str u, .int a, .int b, .tup ps])
theorem name_str {b : D} (h : nameD b = true) : ∃ nm, b = .str nm := by
  cases b <;> first | (cases h; done) | exact ⟨_, rfl⟩
theorem num_int {lo hi : Int} {b : D} (h : numD lo hi b = true) : ∃ i, b = .int i := by
  cases b <;> first | (cases h; done) | exact ⟨_, rfl⟩
theorem isIn_str {ws : List Str} {c : D} (h : isIn ws c = true) : ∃ u, c = .str u := by
  cases c <;> first | (cases h; done) | exact ⟨_, rfl⟩
theorem isS_str {w : Str} {c : D} (h : isS w c = true) : c = .str w := by
  cases c <;> first | (cases h; done) | skip
  rw [eq_of_beq h]
theorem parts_tup {q : D → Bool} {f : D} (h : partsD q f = true) : ∃ ps, f = .tup ps ∧ 1 ≤ ps.length ∧ ps.length ≤ 8 ∧ ∀ p ∈ ps, q p = true := by
  cases f <;> first | (cases h; done) | skip
  rename_i ps
  have h : (decide (1 ≤ ps.length) && (decide (ps.length ≤ 8) && ps.all q)) = true := h
  rw [Bool.and_eq_true, Bool.and_eq_true, decide_eq_true_eq, decide_eq_true_eq, List.all_eq_true] at h
  exact ⟨ps, rfl, h.1, h.2.1, h.2.2⟩
theorem pv_shape {k : Nat} {x : D} (h : pv k x = true) : Shape k x := by
  unfold pv at h
  rw [Bool.or_eq_true] at h
  rcases h with h | h
  · simp only [workerD, Bool.and_eq_true] at h
    obtain ⟨h1, h2, h3⟩ := h
    obtain ⟨xs, rfl, hl, hs⟩ := row_tup h1
    match xs, hl, hs, h2, h3 with
    | [a, b, c], _, hs, h2, h3 =>
      have hs : isS "worker" a = true := hs
      have h3 : isIn W3 c = true := h3
      have h2 : nameD b = true := h2
      obtain rfl := isS_str hs
      obtain ⟨u, rfl⟩ := isIn_str h3
      obtain ⟨nm, rfl⟩ := name_str h2
      exact .w nm u h2
  · cases k with
    | zero => cases h
    | succ k =>
      have hx : ∃ xs, x = .tup xs := by
        cases x <;> first | exact ⟨_, rfl⟩ | (simp [wardD, rowD] at h; done)
      obtain ⟨xs, rfl⟩ := hx
      obtain ⟨b, u, d, e, f, rfl, hn, _, _⟩ := ward_shape h
      obtain ⟨nm, rfl⟩ := name_str hn
      unfold wardD at h
      simp only [Bool.and_eq_true] at h
      obtain ⟨_, _, _, h4, h5, h6⟩ := h
      have h4 : numD 0 1000000000 d = true := h4
      have h5 : numD 1 1000000000 e = true := h5
      have h6 : partsD (fun p => workerD p || wardD k p) f = true := h6
      obtain ⟨i, rfl⟩ := num_int h4
      obtain ⟨j, rfl⟩ := num_int h5
      obtain ⟨ps, rfl, q1, q2, q3⟩ := parts_tup h6
      exact .d k nm u i j ps rfl hn q2 q1 q3
def Bn : Nat → Nat
  | 0 => 1
  | k + 1 => 1 + 8 * Bn k
theorem Bn_le : ∀ k, k ≤ 6 → Bn k ≤ 1000000 := by decide
theorem Bn_pos (k : Nat) : 1 ≤ Bn k := by cases k <;> simp [Bn]
theorem names_w (nm u : Str) : namesT (.tup [.str "worker", .str nm, .str u]) = [nm] := by simp [namesT]
theorem names_d (nm u : Str) (a b : Int) (ps : List D) : namesT (.tup [.str "warden", .str nm, .str u, .int a, .int b, .tup ps]) = nm :: namesTs ps := by simp [namesT]
theorem names_len : ∀ (k : Nat) (x : D), pv k x = true → (namesT x).length ≤ Bn k ∧ 1 ≤ (namesT x).length := by
  intro k
  induction k with
  | zero =>
    intro x h
    cases pv_shape h with
    | w nm u hn => rw [names_w]; simp [Bn]
    | d k' nm u a b ps hk => cases hk
  | succ k ih =>
    intro x h
    cases pv_shape h with
    | w nm u hn =>
      rw [names_w]
      have := Bn_pos k
      simp [Bn]
    | d k' nm u a b ps hk hn hl h1 hp =>
      cases hk
      rw [names_d]
      have : ∀ l : List D, (∀ p ∈ l, pv k p = true) → (namesTs l).length ≤ l.length * Bn k := by
        intro l
        induction l with
        | nil => intro _; simp [namesTs]
        | cons p l ih2 =>
          intro hl
          have h1 := (ih p (hl p (List.mem_cons_self ..))).1
          have h2 := ih2 fun q hq => hl q (List.mem_cons_of_mem _ hq)
          simp only [namesTs, List.length_append, List.length_cons, Nat.succ_mul]
          omega
      have h3 := this ps hp
      have h4 : ps.length * Bn k ≤ 8 * Bn k := Nat.mul_le_mul_right _ hl
      simp only [List.length_cons, Bn]
      omega
theorem names_all_len {k : Nat} (hk : k ≤ 6) {l : List D} (h : ∀ p ∈ l, pv k p = true) : (namesTs l).length ≤ l.length * 1000000 := by
  induction l with
  | nil => simp [namesTs]
  | cons p l ih =>
    have h1 := (names_len k p (h p (List.mem_cons_self ..))).1
    have h2 := ih fun q hq => h q (List.mem_cons_of_mem _ hq)
    have h3 := Bn_le k hk
    simp only [namesTs, List.length_append, List.length_cons, Nat.succ_mul]
    omega
theorem names_of : ∀ (k n : Nat) (S : Store) (x : D), k ≤ 6 → pv k x = true → callF Tt (n + k + 1) 6 [x] S = .ok (.lst (strD (namesT x))) S := by
  intro k
  induction k with
  | zero =>
    intro n S x hk h
    rw [callF_is (fd := f_names_of) rfl rfl]
    show endF true S (evB (parOf Tt (n + 0)) [s_names_of_0, s_names_of_1, s_names_of_2] [some x, none, none] S) = _
    cases pv_shape h with
    | w nm u hn =>
      rw [names_w]
      simp [s_names_of_0, s_names_of_1, s_names_of_2, ix1]
      exact fin_clo (d := .lst (strD [nm])) (clo_strD 0 [nm])
    | d k' nm u a b ps hk => cases hk
  | succ k ih =>
    intro n S x hk h
    rw [callF_is (fd := f_names_of) rfl rfl]
    show endF true S (evB (parOf Tt (n + (k + 1))) [s_names_of_0, s_names_of_1, s_names_of_2] [some x, none, none] S) = _
    cases pv_shape h with
    | w nm u hn =>
      rw [names_w]
      simp [s_names_of_0, s_names_of_1, s_names_of_2, ix1]
      exact fin_clo (d := .lst (strD [nm])) (clo_strD 0 [nm])
    | d k' nm u a b ps hke hn hl h1 hp =>
      cases hke
      rw [names_d]
      generalize hX : D.tup [.str "warden", .str nm, .str u, .int a, .int b, .tup ps] = X
      have g0 : ∀ (S : Store), op2 S .get X (.int 0) = some (.str "warden") := fun S => by subst hX; simp
      have g1 : ∀ (S : Store), op2 S .get X (.int 1) = some (.str nm) := fun S => by subst hX; simp [ix1]
      have g5 : ∀ (S : Store), op2 S .get X (.int 5) = some (.tup ps) := fun S => by subst hX; simp [ix5]
      have nl := names_all_len (by omega : k ≤ 6) hp
      obtain ⟨δ', S', e, o, hδ, hS⟩ := forL_run (ch := []) (tg := .nm 2) (f := fun δ S => evB (parOf Tt (n + (k + 1))) [.set 1 (.op2 .add (.var 1) (.call 6 [.var 2]))] δ S) (fun i δ S' => ∃ o, δ = [some X, some (.lst (strD (nm :: namesTs (ps.take i)))), o] ∧ S' = S)
        (xs := ps) (k := 0) (δ := [some X, some (.lst (strD [nm])), none]) (S := S) ⟨none, by simp [namesTs], rfl⟩ (fun _ _ _ _ => stays_nil) (by
        rintro i y δ S' hy ⟨o, rfl, rfl⟩
        have hi := (List.getElem?_eq_some_iff.mp hy).1
        have hmem : y ∈ ps := List.mem_of_getElem? hy
        refine ⟨_, rfl, ?_⟩
        have e := ih n S' y (by omega) (hp y hmem)
        rw [show n + k + 1 = n + (k + 1) by omega] at e
        have lt : (namesTs (ps.take i)).length ≤ 8000000 := by
          have := names_all_len (by omega : k ≤ 6) (l := ps.take i) fun p hp' => hp p (List.mem_of_mem_take hp')
          have h3 : (ps.take i).length ≤ 8 := by simp; omega
          have h4 : (ps.take i).length * 1000000 ≤ 8 * 1000000 := Nat.mul_le_mul_right _ h3
          omega
        have ly := (names_len k y (hp y hmem)).1
        have lb := Bn_le k (by omega)
        have ad : op2 S' .add (.lst (strD (nm :: namesTs (ps.take (0 + i))))) (.lst (strD (namesT y))) = some (.lst (strD (nm :: namesTs (ps.take (0 + i + 1))))) := by
          rw [o_addL _ _ _ (by simp [strD]; omega)]
          congr 2
          rw [show 0 + i = i by omega, List.take_succ, hy]
          simp only [Option.toList_some, namesTs_app, strD, List.map_cons, List.map_append, List.cons_append, namesTs, List.append_nil]
        refine ⟨[some X, some (.lst (strD (nm :: namesTs (ps.take (0 + i + 1))))), some y], S', ?_, _, rfl, rfl⟩
        simp [e]
        simp at ad
        simp [ad])
      rw [hδ, hS] at e
      have e1 : evS (parOf Tt (n + (k + 1))) s_names_of_1 [some X, some (.lst (strD [nm])), none] S = .nx [some X, some (.lst (strD (nm :: namesTs ps))), o] S := by
        simp [s_names_of_1, g0, g5, sFor, walkOf]
        rw [show 0 + ps.length = ps.length by omega, List.take_length] at e
        simp only [evB_cons, evB_nil, evS_set, evE_op2, evE_call, evEs_cons, evEs_nil, evE_var, parOf_cf, bind_ok] at e
        rw [e]
        rfl
      have e0 : evS (parOf Tt (n + (k + 1))) s_names_of_0 [some X, none, none] S = .nx [some X, some (.lst (strD [nm])), none] S := by
        simp [s_names_of_0, g1, strD]
      simp only [evB_cons, e0, e1, seq_nx]
      simp [s_names_of_2]
      exact fin_clo (clo_strD 0 _)
end LawK
namespace LawK
open PySem PySem.Spec PyProof.Rows L2 Ev
def PV (x : D) : Prop := flat 59 x = true ∧ ∃ k, k ≤ 6 ∧ pv k x = true
theorem names_ge : ∀ {ws : List D}, (∀ w ∈ ws, PV w) → ws.length ≤ (namesTs ws).length
  | [], _ => Nat.zero_le _
  | w :: ws, h => by
    obtain ⟨_, k, _, hk⟩ := h w (List.mem_cons_self ..)
    have h1 := (names_len k w hk).2
    have h2 := names_ge fun v hv => h v (List.mem_cons_of_mem _ hv)
    simp only [namesTs, List.length_append, List.length_cons]
    omega
theorem cut1 (S : Store) (a : D) (r : List D) : cutD S (some 1) none (.lst (a :: r)) = some (.lst r) := by
  have e : cutD S (some 1) none (.lst (a :: r)) = some (.lst (cutG (a :: r) (some 1) none)) := rfl
  rw [e]
  simp [cutG, HT.sIx]
theorem all_body (n : Nat) (S : Store) (w : D) (rest : List D) (fs : List Str) (a o : Option D) (hw : PV w) (hf : fs.length ≤ 8000000) (hr : rest.length ≤ 8000000) :
    ∃ ws' : List D, (∀ v ∈ ws', v ∈ rest ∨ PV v) ∧ namesT w ++ namesTs rest = (namesT w).take 1 ++ namesTs ws' ∧ (namesT w).take 1 ≠ [] ∧
      evB (parOf Tt n) b_law_all_names_2 [a, some (.loc S.length), some (.lst (w :: rest)), o] (S ++ [.lst (strD fs)]) = .nx [a, some (.loc S.length), some (.lst ws'), some w] (S ++ [.lst (strD (fs ++ (namesT w).take 1))]) := by
  obtain ⟨hfl, k, hk, hp⟩ := hw
  have ap : ∀ nm : Str, appD (.loc S.length) (.str nm) (S ++ [.lst (strD fs)]) = .ok .non (S ++ [.lst (strD (fs ++ [nm]))]) := fun nm => by
    rw [app_new _ _ _ (by simp [strD]; omega)]
    simp [strD]
  cases pv_shape hp with
  | w nm u hn =>
    refine ⟨rest, fun v hv => .inl hv, by rw [names_w]; rfl, by rw [names_w]; simp, ?_⟩
    rw [names_w]
    simp [b_law_all_names_2, at_new, ix1, ap, cut1]
    intro z
    exact absurd z (by decide)
  | d k' nm u i j ps hke hn hl h1 hps =>
    have fl : ∀ p ∈ ps, flat 59 p = true := by
      have q1 : flats 58 [.str "warden", .str nm, .str u, .int i, .int j, .tup ps] = true := hfl
      simp only [flats, Bool.and_eq_true] at q1
      have q2 : flat 58 (.tup ps) = true := q1.2.2.2.2.2.1
      have q3 : flats 57 ps = true := q2
      have : ∀ l : List D, flats 57 l = true → ∀ p ∈ l, flat 59 p = true := by
        intro l
        induction l with
        | nil => intro _ p hp; cases hp
        | cons y ys ih =>
          intro h p hp
          have h := Bool.and_eq_true_iff.mp h
          rcases List.mem_cons.mp hp with rfl | hp
          · exact flat_mono (by omega) h.1
          · exact ih h.2 p hp
      exact this ps q3
    refine ⟨ps ++ rest, fun v hv => ?_, by rw [names_d, namesTs_app]; simp, by rw [names_d]; simp, ?_⟩
    · rcases List.mem_append.mp hv with hv | hv
      · exact .inr ⟨fl v hv, k', by omega, hps v hv⟩
      · exact .inl hv
    · rw [names_d]
      generalize hX : D.tup [.str "warden", .str nm, .str u, .int i, .int j, .tup ps] = X
      have g0 : ∀ (S : Store), op2 S .get X (.int 0) = some (.str "warden") := fun S => by subst hX; simp
      have g1 : ∀ (S : Store), op2 S .get X (.int 1) = some (.str nm) := fun S => by subst hX; simp [ix1]
      have g5 : ∀ (S : Store), op2 S .get X (.int 5) = some (.tup ps) := fun S => by subst hX; simp [ix5]
      have ad : ∀ S, op2 S .add (.lst ps) (.lst rest) = some (.lst (ps ++ rest)) := fun S => o_addL S _ _ (by rw [LIM_nat]; omega)
      have lo : ∀ (S : Store), lofL S (.tup ps) = some ps := fun _ => rfl
      simp [b_law_all_names_2, at_new, g0, g1, g5, ap, cut1, lo, ad]
theorem all_loop (n : Nat) (S : Store) (a : Option D) : ∀ (fuel : Nat) (ws : List D) (fs : List Str) (o : Option D), (∀ w ∈ ws, PV w) → (namesTs ws).length < fuel → fs.length + (namesTs ws).length ≤ 8000000 →
    ∃ o', whlL (fun δ S => evE (parOf Tt n) (.op2 .ne (.var 2) (.lst false [])) δ S) (fun δ S => evB (parOf Tt n) b_law_all_names_2 δ S) fuel [a, some (.loc S.length), some (.lst ws), o] (S ++ [.lst (strD fs)]) = .nx [a, some (.loc S.length), some (.lst []), o'] (S ++ [.lst (strD (fs ++ namesTs ws))]) := by
  intro fuel
  induction fuel with
  | zero => intro ws fs o _ h; omega
  | succ fuel ih =>
    intro ws fs o hp hl hb
    have cond : evE (parOf Tt n) (.op2 .ne (.var 2) (.lst false [])) [a, some (.loc S.length), some (.lst ws), o] (S ++ [.lst (strD fs)]) = .ok (.bl (!ws.isEmpty)) (S ++ [.lst (strD fs)]) := by
      have q := ne_nil (S := S ++ [.lst (strD fs)]) (l := ws) (flats_of fun w hw => (hp w hw).1)
      simp [q]
    unfold whlL
    rw [cond]
    cases ws with
    | nil => exact ⟨o, by simp [namesTs]⟩
    | cons w rest =>
      have hr := names_ge hp
      have hr2 : rest.length ≤ 8000000 := by simp only [List.length_cons] at hr; omega
      obtain ⟨ws', h1, h2, h3, h4⟩ := all_body n S w rest fs a o (hp w (List.mem_cons_self ..)) (by omega) hr2
      have t1 : ((namesT w).take 1).length = 1 := by
        cases e : namesT w with
        | nil => rw [e] at h3; simp at h3
        | cons x xs => simp
      have e : namesTs (w :: rest) = (namesT w).take 1 ++ namesTs ws' := by rw [← h2]; rfl
      have lt : (namesTs (w :: rest)).length = 1 + (namesTs ws').length := by rw [e, List.length_append, t1]
      obtain ⟨o', h5⟩ := ih ws' (fs ++ (namesT w).take 1) (some w) (fun v hv => by
        rcases h1 v hv with h | h
        · exact hp v (List.mem_cons_of_mem _ h)
        · exact h) (by omega) (by rw [List.length_append, t1]; omega)
      refine ⟨o', ?_⟩
      simp only [List.isEmpty_cons, Bool.not_false]
      rw [h4]
      dsimp only
      rw [h5, e, List.append_assoc]
theorem law_all_names (n : Nat) (S : Store) (x : D) (h : PV x) : callF Tt (n + 1) 19 [x] S = .ok (.lst (strD (namesT x))) S := by
  rw [callF_is (fd := f_law_all_names) rfl rfl]
  show endF true S (evB (parOf Tt n) [s_law_all_names_0, s_law_all_names_1, s_law_all_names_2, s_law_all_names_3] [some x, none, none, none] S) = _
  obtain ⟨hfl, k, hk, hp⟩ := h
  have hl := (names_len k x hp).1
  have hb := Bn_le k hk
  have e0 : evS (parOf Tt n) s_law_all_names_0 [some x, none, none, none] S = .nx [some x, some (.loc S.length), none, none] (S ++ [.lst []]) := by simp [s_law_all_names_0]
  have e1 : evS (parOf Tt n) s_law_all_names_1 [some x, some (.loc S.length), none, none] (S ++ [.lst []]) = .nx [some x, some (.loc S.length), some (.lst [x]), none] (S ++ [.lst []]) := by simp [s_law_all_names_1]
  obtain ⟨o', e2⟩ := all_loop n S (some x) 100000000 [x] [] none (fun w hw => by simp at hw; subst hw; exact ⟨hfl, k, hk, hp⟩) (by simp [namesTs]; omega) (by simp [namesTs]; omega)
  have e2' : evS (parOf Tt n) s_law_all_names_2 [some x, some (.loc S.length), some (.lst [x]), none] (S ++ [.lst []]) = .nx [some x, some (.loc S.length), some (.lst []), o'] (S ++ [.lst (strD (namesT x))]) := by
    have q : namesTs [x] = namesT x := by simp [namesTs]
    rw [List.nil_append, q] at e2
    exact e2
  have e3 : evS (parOf Tt n) s_law_all_names_3 [some x, some (.loc S.length), some (.lst []), o'] (S ++ [.lst (strD (namesT x))]) = .rt (.loc S.length) (S ++ [.lst (strD (namesT x))]) := by simp [s_law_all_names_3]
  simp only [evB_cons, e0, e1, e2', e3, seq_nx, seq_rt, endF_rt]
  exact fin_new (clo_strD 0 _)
end LawK
namespace LawK
open PySem PySem.Spec PyProof.Rows L2 Ev
theorem strsOf_strD : ∀ ws : List Str, strsOf (strD ws) = some ws
  | [] => rfl
  | w :: ws => by
    have := strsOf_strD ws
    unfold strD at this ⊢
    simp [strsOf, this]
theorem o_sorted (S : Store) (ns : List Str) : op1 S .sorted (.lst (strD ns)) = some (.lst (strD (ns.mergeSort strLe))) := by
  have e : op1 S .sorted (.lst (strD ns)) = (match items S (.lst (strD ns)) with
    | some xs => (strsOf xs).map fun ss => .lst ((ss.mergeSort strLe).map .str)
    | none => none) := rfl
  rw [e]
  simp only [items, strsOf_strD]
  rfl
def adj : List Str → Bool
  | a :: b :: r => (a == b) || adj (b :: r)
  | _ => false
theorem zip_loop (n : Nat) (S : Store) (a b : Option D) : ∀ (l : List Str) (o1 o2 : Option D), ∃ p1 p2, forL [] (.pr 2 3) (fun δ S => evB (parOf Tt n) b_is_plan_2 δ S) (List.zipWith (fun x y => .tup [x, y]) (strD l) (strD l.tail)) [a, b, o1, o2] S = if adj l then .rt (.bl false) S else .nx [a, b, p1, p2] S
  | [], o1, o2 => ⟨o1, o2, by simp [strD, forL, stays_nil, adj]⟩
  | [x], o1, o2 => ⟨o1, o2, by simp [strD, forL, stays_nil, adj]⟩
  | x :: y :: r, o1, o2 => by
    obtain ⟨p1, p2, ih⟩ := zip_loop n S a b (y :: r) (some (.str x)) (some (.str y))
    refine ⟨p1, p2, ?_⟩
    have body : evB (parOf Tt n) b_is_plan_2 [a, b, some (.str x), some (.str y)] S = if x == y then .rt (.bl false) S else .nx [a, b, some (.str x), some (.str y)] S := by
      simp [b_is_plan_2]
    have e : List.zipWith (fun x y => D.tup [x, y]) (strD (x :: y :: r)) (strD (x :: y :: r).tail) = .tup [.str x, .str y] :: List.zipWith (fun x y => D.tup [x, y]) (strD (y :: r)) (strD (y :: r).tail) := rfl
    rw [e]
    unfold forL
    rw [if_pos stays_nil]
    simp only [setT, List.set_cons_succ, List.set_cons_zero]
    rw [body]
    cases h : x == y
    · simp only [Bool.false_eq_true, if_false]
      rw [ih]
      simp [adj, h]
    · simp [adj, h]
theorem cut_tail (S : Store) (l : List Str) : cutD S (some 1) none (.lst (strD l)) = some (.lst (strD l.tail)) := by
  cases l with
  | nil => rfl
  | cons a r => exact cut1 S _ _
def planD (x : D) : Bool := wardD 6 x && (!adj ((namesT x).mergeSort strLe) && decide ((namesT x).length ≤ 60))
theorem is_plan (n m : Nat) (S : Store) (x : D) (h : okS m x = true) : callF Tt (n + 11) 7 [x] S = .ok (.bl (planD x)) S := by
  rw [callF_is (fd := f_is_plan) rfl rfl]
  show endF true S (evB (parOf Tt (n + 10)) [s_is_plan_0, s_is_plan_1, s_is_plan_2, s_is_plan_3] [some x, none, none, none] S) = _
  have w := is_warden 6 n m S x h (by omega)
  have w : callF Tt (n + 10) 5 [x, .int 0] S = .ok (.bl (wardD 6 x)) S := w
  cases hw : wardD 6 x
  · simp [s_is_plan_0, w, hw, planD]
  · have hp : pv 6 x = true := by unfold pv; rw [hw, Bool.or_true]
    have e := names_of 6 (n + 3) S x (by omega) hp
    have e : callF Tt (n + 10) 6 [x] S = .ok (.lst (strD (namesT x))) S := e
    have e0 : evS (parOf Tt (n + 10)) s_is_plan_0 [some x, none, none, none] S = .nx [some x, none, none, none] S := by simp [s_is_plan_0, w, hw]
    have e1 : evS (parOf Tt (n + 10)) s_is_plan_1 [some x, none, none, none] S = .nx [some x, some (.lst (strD ((namesT x).mergeSort strLe))), none, none] S := by simp [s_is_plan_1, e, o_sorted]
    obtain ⟨p1, p2, lp⟩ := zip_loop (n + 10) S (some x) (some (.lst (strD ((namesT x).mergeSort strLe)))) ((namesT x).mergeSort strLe) none none
    have e2 : evS (parOf Tt (n + 10)) s_is_plan_2 [some x, some (.lst (strD ((namesT x).mergeSort strLe))), none, none] S = if adj ((namesT x).mergeSort strLe) then .rt (.bl false) S else .nx [some x, some (.lst (strD ((namesT x).mergeSort strLe))), p1, p2] S := by
      simp only [s_is_plan_2, evS_for, sFor, evEs_cons, evEs_nil, evE_var, evE_slf, evE_lit, List.getElem?_cons_succ, List.getElem?_cons_zero, ofV_some, bind_ok, ofI_int, cut_tail, ofO_some, walkOf]
      exact lp
    have e3 : evS (parOf Tt (n + 10)) s_is_plan_3 [some x, some (.lst (strD ((namesT x).mergeSort strLe))), p1, p2] S = .rt (.bl (decide ((namesT x).length ≤ 60))) S := by
      have l : (strD ((namesT x).mergeSort strLe)).length = (namesT x).length := by simp [strD]
      simp [s_is_plan_3, l]
      omega
    simp only [evB_cons, e0, e1, e2, e3, seq_nx, seq_rt, seq_ite, endF_ite, endF_rt, Ev.fin_bl, planD, hw]
    cases adj ((namesT x).mergeSort strLe) <;> simp
def lawPlanD (x : D) : Bool := wardD 6 x && (decide ((namesT x).length ≤ 60) && (namesT x).all fun w => decide ((namesT x).count w ≤ 1))
theorem o_cnt (S : Store) (ns : List Str) (w : Str) : cntO S (.lst (strD ns)) (.str w) = some (.int (ns.count w)) := by
  have e : cntO S (.lst (strD ns)) (.str w) = if flat 0 (.str w) && flats 0 (strD ns) then some (.int (cntD (strD ns) (.str w))) else none := rfl
  rw [e, flats_strD]
  have c : cntD (strD ns) (.str w) = ns.count w := by
    unfold cntD strD
    rw [List.count_eq_countP, List.countP_eq_length_filter, List.filter_map, List.length_map]
    rfl
  rw [c]
  rfl
theorem law_is_plan (n m : Nat) (S : Store) (x : D) (h : okS m x = true) (hm : m ≤ 50) : callF Tt (n + 11) 20 [x] S = .ok (.bl (lawPlanD x)) S := by
  rw [callF_is (fd := f_law_is_plan) rfl rfl]
  show endF true S (evB (parOf Tt (n + 10)) [s_law_is_plan_0, s_law_is_plan_1, s_law_is_plan_2] [some x, none, none] S) = _
  have w := law_is_part 6 n m S x h (by omega) hm
  have w : callF Tt (n + 10) 18 [x, .int 0] S = .ok (.bl (workerD x || wardD 6 x)) S := w
  cases hw : wardD 6 x
  · rw [hw, Bool.or_false] at w
    cases hq : workerD x
    · simp [s_law_is_plan_0, w, hq, lawPlanD, hw]
    · have hp : pv 6 x = true := by unfold pv; rw [hq]; rfl
      cases pv_shape hp with
      | w nm u hn =>
        have nd : ¬ (("worker" : Str) = "warden") := by decide
        simp [s_law_is_plan_0, w, hq, lawPlanD, hw, nd]
      | d k' nm u i j ps hke hn hl h1 hps => simp [workerD, rowD] at hq
  · rw [hw, Bool.or_true] at w
    have hp : pv 6 x = true := by unfold pv; rw [hw, Bool.or_true]
    have hx : ∃ r, x = .tup (.str "warden" :: r) := by
      have hx : ∃ xs, x = .tup xs := by
        cases x <;> first | exact ⟨_, rfl⟩ | (simp [wardD, rowD] at hw; done)
      obtain ⟨xs, rfl⟩ := hx
      obtain ⟨b, u, d, e, f, rfl, _⟩ := ward_shape hw
      exact ⟨_, rfl⟩
    have pv' : PV x := ⟨flat_mono (by omega) (okS_flat h), 6, by omega, hp⟩
    have e := law_all_names (n + 9) S x pv'
    have e : callF Tt (n + 10) 19 [x] S = .ok (.lst (strD (namesT x))) S := e
    have e0 : evS (parOf Tt (n + 10)) s_law_is_plan_0 [some x, none, none] S = .nx [some x, none, none] S := by
      obtain ⟨r, hr⟩ := hx
      have g0 : op2 S .get x (.int 0) = some (.str "warden") := by subst hr; simp
      simp [s_law_is_plan_0, w, g0]
    have e1 : evS (parOf Tt (n + 10)) s_law_is_plan_1 [some x, none, none] S = .nx [some x, some (.lst (strD (namesT x))), none] S := by simp [s_law_is_plan_1, e]
    have nl := (names_len 6 x hp).1
    have bl := Bn_le 6 (by omega)
    have hc : evCmp false .ex (.nm 2) [2] (evEs (parOf Tt (n + 10)) [.var 1]) (evIfs (parOf Tt (n + 10)) [.op2 .gt (.cnt (.var 1) (.var 2)) (.lit (.int 1))]) (evE (parOf Tt (n + 10)) (.var 2)) [some x, some (.lst (strD (namesT x))), none] S =
        .ok (.lst ((strD (namesT x)).filterMap fun d => if (match d with | .str w => decide ((namesT x).count w ≤ 1) | _ => false) then none else some d)) S := by
      refine evCmp_F (ds := [.lst (strD (namesT x))]) (ch := []) _ (by simp) rfl stays_nil (by rw [LIM_nat]; simp [strD]; omega) (fun p hp acc => ?_) fun p hp => ?_
      · obtain ⟨w, _, rfl⟩ := List.mem_map.mp hp
        have oc := o_cnt (S ++ [.lst acc]) (namesT x) w
        simp [turnC, setT, wipeE, items, oc]
        by_cases h : (namesT x).count w ≤ 1
        · have h2 : ¬ (1 : Int) < (namesT x).count w := by omega
          simp [h, h2]
        · have h2 : (1 : Int) < (namesT x).count w := by omega
          simp [h, h2]
      · obtain ⟨w, _, rfl⟩ := List.mem_map.mp hp
        dsimp only
        split <;> rfl
    have em : ((strD (namesT x)).filterMap fun d => if (match d with | .str w => decide ((namesT x).count w ≤ 1) | _ => false) then none else some d).isEmpty = (namesT x).all fun w => decide ((namesT x).count w ≤ 1) := by
      rw [filt_empty]
      unfold strD
      rw [List.all_map]
      rfl
    have e2 : evS (parOf Tt (n + 10)) s_law_is_plan_2 [some x, some (.lst (strD (namesT x))), none] S = .rt (.bl (decide ((namesT x).length ≤ 60) && (namesT x).all fun w => decide ((namesT x).count w ≤ 1))) S := by
      have l : (strD (namesT x)).length = (namesT x).length := by simp [strD]
      simp only [s_law_is_plan_2, evS_ret, evE_and, evE_op2, evE_op1, evE_var, evE_lit, List.getElem?_cons_succ, List.getElem?_cons_zero, ofV_some, bind_ok, o_lenL, l, ofO_some, o_le, evE_cmp, hc, evE_lst, evEs_nil, newL_f]
      rw [if_pos (by simp), bind_ok, eq_nil (flats_of (n := 59) fun p hp => by
        obtain ⟨y, hy, ey⟩ := List.mem_filterMap.mp hp
        obtain ⟨w, _, rfl⟩ := List.mem_map.mp hy
        dsimp only at ey
        split at ey
        · cases ey
        · cases ey; rfl), em]
      by_cases h60 : (namesT x).length ≤ 60
      · have h2 : ((namesT x).length : Int) ≤ 60 := by omega
        simp [h60, h2]
      · have h2 : ¬ ((namesT x).length : Int) ≤ 60 := by omega
        simp [h60, h2]
    simp only [evB_cons, e0, e1, e2, seq_nx, seq_rt, endF_rt, Ev.fin_bl, lawPlanD, hw, Bool.true_and]
theorem adj_nodup : ∀ {l : List Str}, l.Pairwise (fun a b => strLe a b = true) → (adj l = false ↔ l.Nodup)
  | [], _ => by simp [adj]
  | [x], _ => by simp [adj]
  | a :: b :: r, h => by
    have ih := adj_nodup (l := b :: r) h.tail
    have hab : ∀ c ∈ b :: r, strLe a c = true := fun c hc => (List.pairwise_cons.mp h).1 c hc
    have hb : ∀ c ∈ r, strLe b c = true := fun c hc => (List.pairwise_cons.mp h.tail).1 c hc
    have anti : ∀ x y, strLe x y = true → strLe y x = true → x = y := fun x y h1 h2 => by
      rw [strLe_iff] at h1 h2
      exact TL.ext_tl (List.le_antisymm h1 h2)
    constructor
    · intro hadj
      simp only [adj, Bool.or_eq_false_iff, beq_eq_false_iff_ne] at hadj
      refine List.nodup_cons.mpr ⟨fun hm => ?_, ih.mp hadj.2⟩
      rcases List.mem_cons.mp hm with e | hm
      · exact hadj.1 e
      · exact hadj.1 (anti a b (hab b (List.mem_cons_self ..)) (hb a hm))
    · intro hn
      have hn := List.nodup_cons.mp hn
      simp only [adj, Bool.or_eq_false_iff, beq_eq_false_iff_ne]
      exact ⟨fun e => hn.1 (by rw [e]; exact List.mem_cons_self ..), ih.mpr hn.2⟩
theorem plans_agree (x : D) : planD x = lawPlanD x := by
  unfold planD lawPlanD
  congr 1
  have pw : ((namesT x).mergeSort strLe).Pairwise fun a b => strLe a b = true := List.pairwise_mergeSort (fun a b c h1 h2 => by
    rw [strLe_iff] at *
    exact List.le_trans h1 h2) (fun a b => by
    have := List.le_total a.cps.toList b.cps.toList
    rw [Bool.or_eq_true, strLe_iff, strLe_iff]
    exact this) _
  have h1 := adj_nodup pw
  have h2 := (List.mergeSort_perm (namesT x) strLe).nodup_iff
  have h3 : ((namesT x).all fun w => decide ((namesT x).count w ≤ 1)) = decide (namesT x).Nodup := by
    by_cases hn : (namesT x).Nodup
    · rw [decide_eq_true hn, List.all_eq_true]
      intro w _
      exact decide_eq_true (List.nodup_iff_count.mp hn w)
    · rw [decide_eq_false hn]
      rw [List.all_eq_false]
      have : ∃ w, ¬ (namesT x).count w ≤ 1 := by
        apply Classical.byContradiction
        intro hne
        exact hn (List.nodup_iff_count.mpr fun w => Classical.byContradiction fun hw => hne ⟨w, hw⟩)
      obtain ⟨w, hw⟩ := this
      exact ⟨w, List.count_pos_iff.mp (by omega), by simpa using hw⟩
  have h4 : (!adj ((namesT x).mergeSort strLe)) = decide (namesT x).Nodup := by
    by_cases hn : (namesT x).Nodup
    · rw [h1.mpr (h2.mpr hn), decide_eq_true hn]; rfl
    · cases ha : adj ((namesT x).mergeSort strLe)
      · exact absurd (h2.mp (h1.mp ha)) hn
      · rw [decide_eq_false hn]; rfl
  rw [h3, h4, Bool.and_comm]
end LawK
namespace LawK
open PySem PySem.Spec PyProof.Rows L2 Ev
abbrev mkS (l : List Nat) : Str := ⟨l.toArray⟩
theorem mk_len (l : List Nat) : (mkS l).length = l.length := by rw [TL.len_tl]
theorem e_len : ("" : Str).length = 0 := by decide +kernel
theorem tl_e : TL.tl "" = [] := by decide +kernel
theorem strD_map {α : Type} (ds : List α) (f : α → Str) : strD (ds.map f) = ds.map fun d => .str (f d) := by
  unfold strD
  rw [List.map_map]
  rfl
/-! ### names -/
def azc (k : Nat) : Nat := (TL.tl "abcdefghijklmnopqrstuvwxyz").getD k 0
theorem azc_ok (k : Nat) (h : k < 26) : az (azc k) = true := by
  have : ∀ k < 26, az (azc k) = true := by decide +kernel
  exact this k h
theorem abc_len : ("abcdefghijklmnopqrstuvwxyz" : Str).length = 26 := by decide +kernel
theorem get_abc (S : Store) (i : Int) (h : 0 ≤ i ∧ i < 26) : op2 S .get (.str "abcdefghijklmnopqrstuvwxyz") (.int i) = some (.str (mkS [azc i.toNat])) := by
  obtain ⟨k, rfl⟩ := Int.eq_ofNat_of_zero_le h.1
  have hk : k < (TL.tl "abcdefghijklmnopqrstuvwxyz").length := by rw [← TL.len_tl, abc_len]; omega
  have e : op2 S .get (.str "abcdefghijklmnopqrstuvwxyz") (.int k) = if ("abcdefghijklmnopqrstuvwxyz" : Str).length ≤ LIM then (L2.atI (TL.tl "abcdefghijklmnopqrstuvwxyz") k).map fun c => .str ⟨#[c]⟩ else none := rfl
  rw [e, if_pos (by rw [abc_len]; decide), atI_nat _ _ hk]
  unfold azc
  rw [List.getD_eq_getElem?_getD, List.getElem?_eq_getElem (by simpa using hk)]
  rfl
def azS (s : Str) : Prop := ∀ c ∈ TL.tl s, az c = true
theorem azS_app {x y : Str} (hx : azS x) (hy : azS y) : azS (x ++ y) := fun c hc => by
  rw [TL.tl_append] at hc
  rcases List.mem_append.mp hc with h | h
  · exact hx c h
  · exact hy c h
theorem azS_one (k : Nat) (h : k < 26) : azS (mkS [azc k]) := fun c hc => by
  have : c ∈ [azc k] := hc
  rw [List.mem_singleton.mp this]
  exact azc_ok k h
theorem cut_lo (z : Str) (j : Nat) : TL.tl (L2.cutS z (some (j : Int)) none) = (TL.tl z).drop j := by
  have e1 : HT.sIx z.length 0 (some (j : Int)) = min j z.length := HT.sIx_nat ..
  unfold L2.cutS
  rw [e1, HT.sIx_none, TL.tl_mk]
  rw [TL.len_tl]
  rcases Nat.le_total j (TL.tl z).length with h | h
  · rw [Nat.min_eq_left h]
    exact List.take_of_length_le (by simp)
  · rw [Nat.min_eq_right h, Nat.sub_self, List.take_zero, List.drop_of_length_le h]
theorem cut_hi (z : Str) (j : Nat) : TL.tl (L2.cutS z none (some (j : Int))) = (TL.tl z).take j := by
  have e1 : HT.sIx z.length z.length (some (j : Int)) = min j z.length := HT.sIx_nat ..
  unfold L2.cutS
  rw [e1, HT.sIx_none, TL.tl_mk, List.drop_zero, Nat.sub_zero]
  rw [TL.len_tl]
  rcases Nat.le_total j (TL.tl z).length with h | h
  · rw [Nat.min_eq_left h]
  · rw [Nat.min_eq_right h, List.take_length, List.take_of_length_le h]
theorem azS_lo {z : Str} (j : Nat) (h : azS z) : azS (L2.cutS z (some (j : Int)) none) := fun c hc => by
  rw [cut_lo] at hc
  exact h c (List.mem_of_mem_drop hc)
theorem azS_hi {z : Str} (j : Nat) (h : azS z) : azS (L2.cutS z none (some (j : Int))) := fun c hc => by
  rw [cut_hi] at hc
  exact h c (List.mem_of_mem_take hc)
theorem len_lo (z : Str) (j : Nat) : (L2.cutS z (some (j : Int)) none).length = z.length - j := by rw [TL.len_tl, cut_lo, TL.len_tl, List.length_drop]
theorem len_hi (z : Str) (j : Nat) : (L2.cutS z none (some (j : Int))).length = min j z.length := by rw [TL.len_tl, cut_hi, TL.len_tl, List.length_take]
theorem name_ok {s : Str} (h : azS s) (h1 : 1 ≤ s.length ∧ s.length ≤ 8) : nameD (.str s) = true := by
  simp only [nameD, Bool.and_eq_true, decide_eq_true_eq, List.all_eq_true]
  exact ⟨h1.1, h1.2, h⟩
theorem o_cut (S : Store) (z : Str) (lo hi : Option Int) (h : z.length ≤ 1000) : cutD S lo hi (.str z) = some (.str (L2.cutS z lo hi)) := by
  have e : cutD S lo hi (.str z) = if z.length ≤ LIM then some (.str (L2.cutS z lo hi)) else none := rfl
  rw [e, if_pos (by rw [LIM_nat]; omega)]
theorem l1 (k : Nat) : (mkS [k]).length = 1 := rfl
def hr (c : Int) : Nat → Str × Int
  | 0 => ("", c / 48)
  | i + 1 => ((hr c i).1 ++ mkS [azc ((hr c i).2 % 26).toNat], (hr c i).2 / 26)
theorem azc_inj : ∀ i, i < 26 → ∀ j, j < 26 → azc i = azc j → i = j := by
  have : ∀ i < 26, ∀ j < 26, azc i = azc j → i = j := by decide +kernel
  exact fun i hi j hj => this i hi j hj
theorem nodup_map {f : Nat → Str} {n : Nat} (h : ∀ i j : Nat, i < n → j < n → f i = f j → i = j) : ((List.range n).map f).Nodup := by
  unfold List.Nodup
  rw [List.pairwise_map]
  refine List.Pairwise.imp_of_mem (fun {a b} ha hb hab e => ?_) List.pairwise_lt_range
  have := h a b (List.mem_range.mp ha) (List.mem_range.mp hb) e
  omega
theorem mid_inj {a b : Str} {x y : Nat} (h : a ++ mkS [x] ++ b = a ++ mkS [y] ++ b) : x = y := by
  have := congrArg TL.tl h
  rw [TL.tl_append, TL.tl_append, TL.tl_append, TL.tl_append] at this
  have : [x] = [y] := List.append_cancel_left (List.append_cancel_right this)
  simpa using this
theorem end_inj {a : Str} {x y x2 y2 : Nat} (h : a ++ mkS [x] ++ mkS [x2] = a ++ mkS [y] ++ mkS [y2]) : x = y ∧ x2 = y2 := by
  have := congrArg TL.tl h
  rw [TL.tl_append, TL.tl_append, TL.tl_append, TL.tl_append, List.append_assoc, List.append_assoc] at this
  have : [x, x2] = [y, y2] := List.append_cancel_left this
  simpa using this
theorem namesM (n : Nat) (c m : Int) (hm : 1 ≤ m ∧ m ≤ 70) : ∃ nms : List Str, nms.length = m.toNat ∧ nms.Nodup ∧ (∀ nm ∈ nms, nameD (.str nm) = true) ∧ ∀ S, callF Tt (n + 1) 10 [.int c, .int m] S = .ok (.lst (strD nms)) S := by
  have ends : ∀ (f : Nat → Str), (∀ i : Nat, (i : Int) < m → azS (f i) ∧ 1 ≤ (f i).length ∧ (f i).length ≤ 8) → (∀ i j : Nat, i < m.toNat → j < m.toNat → f i = f j → i = j) → (∀ S, endF true S (evB (parOf Tt n) [s_law_names_0, s_law_names_1, s_law_names_2, s_law_names_3, s_law_names_4, s_law_names_5, s_law_names_6, s_law_names_7, s_law_names_8, s_law_names_9] [some (.int c), some (.int m), none, none, none, none, none, none, none] S) = .ok (.lst ((List.range (m.toNat)).map fun i => .str (f i))) S) →
      ∃ nms : List Str, nms.length = m.toNat ∧ nms.Nodup ∧ (∀ nm ∈ nms, nameD (.str nm) = true) ∧ ∀ S, callF Tt (n + 1) 10 [.int c, .int m] S = .ok (.lst (strD nms)) S := by
    intro f hf inj h
    refine ⟨(List.range m.toNat).map f, by simp, nodup_map inj, fun nm hm => ?_, fun S => ?_⟩
    · obtain ⟨i, hi, rfl⟩ := List.mem_map.mp hm
      have := hf i (by have := List.mem_range.mp hi; omega)
      exact name_ok this.1 this.2
    · rw [callF_is (fd := f_law_names) rfl rfl, strD_map]
      exact h S
  have e3 : ∃ hd r, azS hd ∧ hd.length = 8 ∧ ∀ S, ∃ o, evS (parOf Tt n) s_law_names_3 [some (.int c), some (.int m), some (.str "abcdefghijklmnopqrstuvwxyz"), some (.str ""), some (.int (c / 48)), none, none, none, none] S =
      .nx [some (.int c), some (.int m), some (.str "abcdefghijklmnopqrstuvwxyz"), some (.str hd), some (.int r), o, none, none, none] S := by
    have az8 : ∀ i, azS (hr c i).1 ∧ (hr c i).1.length = i := by
      intro i
      induction i with
      | zero =>
        refine ⟨fun d hd => ?_, e_len⟩
        rw [show (hr c 0).1 = "" from rfl, tl_e] at hd
        cases hd
      | succ i ih =>
        have e : (hr c (i + 1)).1 = (hr c i).1 ++ mkS [azc ((hr c i).2 % 26).toNat] := rfl
        rw [e]
        refine ⟨azS_app ih.1 (azS_one _ (by omega)), ?_⟩
        rw [app_len, ih.2, mk_len]
        rfl
    refine ⟨(hr c 8).1, (hr c 8).2, (az8 8).1, (az8 8).2, fun S => ?_⟩
    obtain ⟨δ', S', e, o, hδ, hS⟩ := forL_run (ch := []) (tg := .nm 5) (f := fun δ S => evB (parOf Tt n) b_law_names_3 δ S) (fun i δ S' => ∃ o, δ = [some (.int c), some (.int m), some (.str "abcdefghijklmnopqrstuvwxyz"), some (.str (hr c i).1), some (.int (hr c i).2), o, none, none, none] ∧ S' = S)
      (xs := rngD 0 8) (k := 0) (δ := [some (.int c), some (.int m), some (.str "abcdefghijklmnopqrstuvwxyz"), some (.str ""), some (.int (c / 48)), none, none, none, none]) (S := S) ⟨_, rfl, rfl⟩ (fun _ _ _ _ => stays_nil) (by
      rintro i x δ S' hx ⟨o, rfl, rfl⟩
      obtain ⟨hi, rfl⟩ := rng_get hx
      refine ⟨_, rfl, ?_⟩
      have g := get_abc S' ((hr c (0 + i)).2 % 26) (by omega)
      have ad : ∀ k : Nat, op2 S' .add (.str (hr c (0 + i)).1) (.str (mkS [k])) = some (.str ((hr c (0 + i)).1 ++ mkS [k])) := fun k => o_addS _ _ _ (by rw [(az8 _).2, mk_len, LIM_nat]; simp; omega)
      refine ⟨[some (.int c), some (.int m), some (.str "abcdefghijklmnopqrstuvwxyz"), some (.str (hr c (0 + i + 1)).1), some (.int (hr c (0 + i + 1)).2), some (.int (i : Nat)), none, none, none], S', ?_, _, rfl, rfl⟩
      have e1 : (hr c (0 + i + 1)).1 = (hr c (0 + i)).1 ++ mkS [azc ((hr c (0 + i)).2 % 26).toNat] := rfl
      have e2 : (hr c (0 + i + 1)).2 = (hr c (0 + i)).2 / 26 := rfl
      rw [e1, e2]
      generalize hr c (0 + i) = q at *
      simp [b_law_names_3, g, ad])
    have l8 : (rngD 0 8).length = 8 := rfl
    rw [hδ, hS, l8] at e
    exact ⟨o, by
      simp [s_law_names_3, sFor, walkOf]
      exact e⟩
  obtain ⟨hd, r, az, hl, e3⟩ := e3
  have start : ∀ S, ∃ o, evB (parOf Tt n) [s_law_names_0, s_law_names_1, s_law_names_2, s_law_names_3, s_law_names_4, s_law_names_5, s_law_names_6, s_law_names_7, s_law_names_8, s_law_names_9] [some (.int c), some (.int m), none, none, none, none, none, none, none] S =
      evB (parOf Tt n) [s_law_names_5, s_law_names_6, s_law_names_7, s_law_names_8, s_law_names_9] [some (.int c), some (.int m), some (.str "abcdefghijklmnopqrstuvwxyz"), some (.str hd), some (.int r), o, some (.int (c % 6)), none, none] S := by
    intro S
    obtain ⟨o, e3⟩ := e3 S
    refine ⟨o, ?_⟩
    have e0 : evS (parOf Tt n) s_law_names_0 [some (.int c), some (.int m), none, none, none, none, none, none, none] S = .nx [some (.int c), some (.int m), some (.str "abcdefghijklmnopqrstuvwxyz"), none, none, none, none, none, none] S := by simp [s_law_names_0]
    have e1 : evS (parOf Tt n) s_law_names_1 [some (.int c), some (.int m), some (.str "abcdefghijklmnopqrstuvwxyz"), none, none, none, none, none, none] S = .nx [some (.int c), some (.int m), some (.str "abcdefghijklmnopqrstuvwxyz"), some (.str ""), none, none, none, none, none] S := by simp [s_law_names_1]
    have e2 : evS (parOf Tt n) s_law_names_2 [some (.int c), some (.int m), some (.str "abcdefghijklmnopqrstuvwxyz"), some (.str ""), none, none, none, none, none] S = .nx [some (.int c), some (.int m), some (.str "abcdefghijklmnopqrstuvwxyz"), some (.str ""), some (.int (c / 48)), none, none, none, none] S := by simp [s_law_names_2]
    have e4 : evS (parOf Tt n) s_law_names_4 [some (.int c), some (.int m), some (.str "abcdefghijklmnopqrstuvwxyz"), some (.str hd), some (.int r), o, none, none, none] S = .nx [some (.int c), some (.int m), some (.str "abcdefghijklmnopqrstuvwxyz"), some (.str hd), some (.int r), o, some (.int (c % 6)), none, none] S := by simp [s_law_names_4]
    simp only [evB_cons, e0, e1, e2, e3, e4, seq_nx]
  have fl : ∀ (f : Nat → Str) S, fin true S (.lst ((List.range (m.toNat)).map fun i => .str (f i))) S = .ok (.lst ((List.range (m.toNat)).map fun i => .str (f i))) S := fun f S => fin_clo (by
    rw [← strD_map (List.range (m.toNat)) f]
    exact clo_strD 0 _)
  have o_abc : ∀ (S : Store) (x y : Str), x.length ≤ 100 → y.length ≤ 100 → op2 S .add (.str x) (.str y) = some (.str (x ++ y)) := fun S x y h1 h2 => o_addS S x y (by rw [LIM_nat]; omega)
  by_cases w0 : c % 6 = 0 ∧ m < 9
  · obtain ⟨w0, w09⟩ := w0
    refine ends (fun i => L2.cutS hd none (some ((i + 1 : Nat) : Int))) (fun i hi => ⟨azS_hi _ az, by rw [len_hi]; omega, by rw [len_hi]; omega⟩) (fun i j hi hj e => by
      have := congrArg Str.length e
      simp only [len_hi] at this
      omega) fun S => ?_
    obtain ⟨o, st⟩ := start S
    have rc := rng_cmp (P := parOf Tt n) (δ := [some (.int c), some (.int m), some (.str "abcdefghijklmnopqrstuvwxyz"), some (.str hd), some (.int r), o, some (.int (c % 6)), none, none]) (S := S) (elt := .slt (.var 3) (.op2 .add (.var 5) (.lit (.int 1)))) (e := .var 1) (j := 5) (N := m)
      (g := fun i => .str (L2.cutS hd none (some ((i + 1 : Nat) : Int)))) (by simp) (by omega) (fun _ => rfl) (fun i hi T => by simp [o_cut _ _ _ _ (show hd.length ≤ 1000 by omega)])
    rw [evE_cmp] at rc
    rw [st]
    simp only [w0] at rc ⊢
    simp [s_law_names_5, rc, w09]
    exact fl _ S
  by_cases w1 : c % 6 = 1 ∧ m < 9
  · obtain ⟨w1, w19⟩ := w1
    refine ends (fun i => L2.cutS hd (some ((7 - i : Nat) : Int)) none) (fun i hi => ⟨azS_lo _ az, by rw [len_lo]; omega, by rw [len_lo]; omega⟩) (fun i j hi hj e => by
      have := congrArg Str.length e
      simp only [len_lo] at this
      omega) fun S => ?_
    obtain ⟨o, st⟩ := start S
    have rc := rng_cmp (P := parOf Tt n) (δ := [some (.int c), some (.int m), some (.str "abcdefghijklmnopqrstuvwxyz"), some (.str hd), some (.int r), o, some (.int (c % 6)), none, none]) (S := S) (elt := .slf (.var 3) (.op2 .sub (.lit (.int 7)) (.var 5))) (e := .var 1) (j := 5) (N := m)
      (g := fun i => .str (L2.cutS hd (some ((7 - i : Nat) : Int)) none)) (by simp) (by omega) (fun _ => rfl) (fun i hi T => by
        rw [show ((7 - i : Nat) : Int) = 7 - (i : Int) by omega]
        simp [o_cut _ _ _ _ (show hd.length ≤ 1000 by omega)])
    rw [evE_cmp] at rc
    rw [st]
    simp only [w1] at rc ⊢
    simp [s_law_names_5, s_law_names_6, rc, w19]
    exact fl _ S
  obtain ⟨t, ht⟩ : ∃ t : Nat, c / 6 % 7 = (t : Int) := Int.eq_ofNat_of_zero_le (by omega)
  have ht7 : t < 7 := by omega
  have az2 : azS (L2.cutS hd none (some (t : Int))) := azS_hi _ az
  have hl2 : (L2.cutS hd none (some (t : Int))).length ≤ 6 := by rw [len_hi]; omega
  have s7 : ∀ S o, evB (parOf Tt n) [s_law_names_5, s_law_names_6, s_law_names_7, s_law_names_8, s_law_names_9] [some (.int c), some (.int m), some (.str "abcdefghijklmnopqrstuvwxyz"), some (.str hd), some (.int r), o, some (.int (c % 6)), none, none] S =
      evB (parOf Tt n) [s_law_names_8, s_law_names_9] [some (.int c), some (.int m), some (.str "abcdefghijklmnopqrstuvwxyz"), some (.str (L2.cutS hd none (some (t : Int)))), some (.int r), o, some (.int (c % 6)), none, none] S := by
    intro S o
    have e5 : evS (parOf Tt n) s_law_names_5 [some (.int c), some (.int m), some (.str "abcdefghijklmnopqrstuvwxyz"), some (.str hd), some (.int r), o, some (.int (c % 6)), none, none] S = .nx [some (.int c), some (.int m), some (.str "abcdefghijklmnopqrstuvwxyz"), some (.str hd), some (.int r), o, some (.int (c % 6)), none, none] S := by
      simp [s_law_names_5]
      intro a b
      exact absurd ⟨a, b⟩ w0
    have e6 : evS (parOf Tt n) s_law_names_6 [some (.int c), some (.int m), some (.str "abcdefghijklmnopqrstuvwxyz"), some (.str hd), some (.int r), o, some (.int (c % 6)), none, none] S = .nx [some (.int c), some (.int m), some (.str "abcdefghijklmnopqrstuvwxyz"), some (.str hd), some (.int r), o, some (.int (c % 6)), none, none] S := by
      simp [s_law_names_6]
      intro a b
      exact absurd ⟨a, b⟩ w1
    have e7 : evS (parOf Tt n) s_law_names_7 [some (.int c), some (.int m), some (.str "abcdefghijklmnopqrstuvwxyz"), some (.str hd), some (.int r), o, some (.int (c % 6)), none, none] S = .nx [some (.int c), some (.int m), some (.str "abcdefghijklmnopqrstuvwxyz"), some (.str (L2.cutS hd none (some (t : Int)))), some (.int r), o, some (.int (c % 6)), none, none] S := by
      simp [s_law_names_7, o_cut _ _ _ _ (show hd.length ≤ 1000 by omega), ht]
    simp only [evB_cons, e5, e6, e7, seq_nx]
  generalize hh : L2.cutS hd none (some (t : Int)) = h2 at az2 hl2 s7
  by_cases w2 : c % 6 < 4 ∧ m < 27
  · obtain ⟨q, hq⟩ : ∃ q : Nat, c / 5 % ((h2.length : Int) + 1) = (q : Int) := Int.eq_ofNat_of_zero_le (Int.emod_nonneg _ (by omega))
    have hq2 : q ≤ h2.length := by have := Int.emod_lt_of_pos (c / 5) (show 0 < (h2.length : Int) + 1 by omega); omega
    have ll : (L2.cutS h2 none (some (q : Int))).length = q := by rw [len_hi]; omega
    have lr : (L2.cutS h2 (some (q : Int)) none).length = h2.length - q := len_lo _ _
    refine ends (fun i => L2.cutS h2 none (some (q : Int)) ++ mkS [azc ((c / 7 + 7 * (i : Int)) % 26).toNat] ++ L2.cutS h2 (some (q : Int)) none) (fun i hi => ⟨azS_app (azS_app (azS_hi _ az2) (azS_one _ (by omega))) (azS_lo _ az2), by rw [app_len, app_len, ll, lr, mk_len]; simp; omega, by rw [app_len, app_len, ll, lr, mk_len]; simp; omega⟩) (fun i j hi hj e => by
      have := azc_inj _ (by omega) _ (by omega) (mid_inj e)
      omega) fun S => ?_
    obtain ⟨o, st⟩ := start S
    have rc := rng_cmp (P := parOf Tt n) (δ := [some (.int c), some (.int m), some (.str "abcdefghijklmnopqrstuvwxyz"), some (.str h2), some (.int r), o, some (.int (c % 6)), some (.str (L2.cutS h2 none (some (q : Int)))), some (.str (L2.cutS h2 (some (q : Int)) none))]) (S := S)
      (elt := .op2 .add (.op2 .add (.var 7) (.op2 .get (.var 2) (.op2 .mod (.op2 .add (.op2 .fdiv (.var 0) (.lit (.int 7))) (.op2 .mul (.lit (.int 7)) (.var 5))) (.lit (.int 26))))) (.var 8)) (e := .var 1) (j := 5) (N := m)
      (g := fun i => .str (L2.cutS h2 none (some (q : Int)) ++ mkS [azc ((c / 7 + 7 * (i : Int)) % 26).toNat] ++ L2.cutS h2 (some (q : Int)) none)) (by simp) (by omega) (fun _ => rfl) (fun i hi T => by
        have g := get_abc (S ++ T) ((c / 7 + 7 * (i : Int)) % 26) (by omega)
        have a1 := o_abc (S ++ T) (L2.cutS h2 none (some (q : Int))) (mkS [azc ((c / 7 + 7 * (i : Int)) % 26).toNat]) (by omega) (by rw [mk_len]; simp)
        have a2 := o_abc (S ++ T) (L2.cutS h2 none (some (q : Int)) ++ mkS [azc ((c / 7 + 7 * (i : Int)) % 26).toNat]) (L2.cutS h2 (some (q : Int)) none) (by rw [app_len, ll, mk_len]; simp; omega) (by omega)
        simp [g, a1, a2])
    rw [evE_cmp] at rc
    rw [st, s7]
    have lh := o_lenS S h2 (by rw [LIM_nat]; omega)
    have ll2 := o_lenS S (L2.cutS h2 none (some (q : Int))) (by rw [LIM_nat]; omega)
    rw [ll] at ll2
    have hp : (0 : Int) < (h2.length : Int) + 1 := by omega
    simp [s_law_names_8, w2.1, w2.2, lh, hp, hq, ll2, o_cut _ _ _ _ (show h2.length ≤ 1000 by omega), rc]
    exact fl _ S
  · refine ends (fun i => h2 ++ mkS [azc ((i : Int) / 26).toNat] ++ mkS [azc ((i : Int) % 26).toNat]) (fun i hi => ⟨azS_app (azS_app az2 (azS_one _ (by omega))) (azS_one _ (by omega)), by rw [app_len, app_len, l1, l1]; omega, by rw [app_len, app_len, l1, l1]; omega⟩) (fun i j hi hj e => by
      obtain ⟨a, b⟩ := end_inj e
      have := azc_inj _ (by omega) _ (by omega) a
      have := azc_inj _ (by omega) _ (by omega) b
      omega) fun S => ?_
    obtain ⟨o, st⟩ := start S
    have rc := rng_cmp (P := parOf Tt n) (δ := [some (.int c), some (.int m), some (.str "abcdefghijklmnopqrstuvwxyz"), some (.str h2), some (.int r), o, some (.int (c % 6)), none, none]) (S := S)
      (elt := .op2 .add (.op2 .add (.var 3) (.op2 .get (.var 2) (.op2 .fdiv (.var 5) (.lit (.int 26))))) (.op2 .get (.var 2) (.op2 .mod (.var 5) (.lit (.int 26))))) (e := .var 1) (j := 5) (N := m)
      (g := fun i => .str (h2 ++ mkS [azc ((i : Int) / 26).toNat] ++ mkS [azc ((i : Int) % 26).toNat])) (by simp) (by omega) (fun _ => rfl) (fun i hi T => by
        have g1 := get_abc (S ++ T) ((i : Int) / 26) (by omega)
        have g2 := get_abc (S ++ T) ((i : Int) % 26) (by omega)
        have a1 := o_abc (S ++ T) h2 (mkS [azc ((i : Int) / 26).toNat]) (by omega) (by rw [mk_len]; simp)
        have a2 := o_abc (S ++ T) (h2 ++ mkS [azc ((i : Int) / 26).toNat]) (mkS [azc ((i : Int) % 26).toNat]) (by rw [app_len, l1]; omega) (by rw [mk_len]; simp)
        simp [g1, g2, a1, a2])
    rw [evE_cmp] at rc
    rw [st, s7]
    have e8 : evS (parOf Tt n) s_law_names_8 [some (.int c), some (.int m), some (.str "abcdefghijklmnopqrstuvwxyz"), some (.str h2), some (.int r), o, some (.int (c % 6)), none, none] S = .nx [some (.int c), some (.int m), some (.str "abcdefghijklmnopqrstuvwxyz"), some (.str h2), some (.int r), o, some (.int (c % 6)), none, none] S := by
      simp [s_law_names_8]
      intro a b
      exact absurd ⟨a, b⟩ w2
    rw [evB_cons, e8, seq_nx]
    simp [s_law_names_9, rc]
    exact fl _ S
end LawK
namespace LawK
open PySem PySem.Spec PyProof.Rows L2 Ev
/-! ### plans as they are made: small numbers, short plain texts, short tuples -/
mutual
def okP : Nat → D → Bool
  | _, .int i => decide (-2000000000 ≤ i) && decide (i ≤ 2000000000)
  | _, .str s => decide (s.length ≤ 20) && ascii s
  | n, .tup xs => (match n with
    | 0 => false
    | n + 1 => decide (xs.length ≤ 10) && okPs n xs)
  | _, _ => false
def okPs : Nat → List D → Bool
  | _, [] => true
  | n, x :: xs => okP n x && okPs n xs
end
theorem okPs_mem {n : Nat} : ∀ {xs : List D}, okPs n xs = true ↔ ∀ x ∈ xs, okP n x = true
  | [] => by simp [okPs]
  | x :: xs => by
    have ih := okPs_mem (n := n) (xs := xs)
    simp only [okPs, Bool.and_eq_true, ih, List.mem_cons, forall_eq_or_imp]
theorem okP_tup {n : Nat} {xs : List D} (h : okP n (.tup xs) = true) : ∃ m, n = m + 1 ∧ xs.length ≤ 10 ∧ ∀ x ∈ xs, okP m x = true := by
  cases n with
  | zero => simp [okP] at h
  | succ m =>
    have h : (decide (xs.length ≤ 10) && okPs m xs) = true := by simpa [okP] using h
    rw [Bool.and_eq_true, decide_eq_true_eq] at h
    exact ⟨m, rfl, h.1, okPs_mem.mp h.2⟩
theorem okP_S : ∀ {n : Nat} {x : D}, okP n x = true → okS n x = true := by
  intro n
  induction n with
  | zero =>
    intro x h
    cases x <;> first | rfl | (simp [okP] at h; done) | skip
    rename_i s
    have h : (decide (s.length ≤ 20) && ascii s) = true := by simpa [okP] using h
    rw [Bool.and_eq_true, decide_eq_true_eq] at h
    exact decide_eq_true (by omega)
  | succ n ih =>
    intro x h
    cases x <;> first | rfl | (simp [okP] at h; done) | skip
    · rename_i s
      have h : (decide (s.length ≤ 20) && ascii s) = true := by simpa [okP] using h
      rw [Bool.and_eq_true, decide_eq_true_eq] at h
      exact decide_eq_true (by omega)
    · rename_i xs
      obtain ⟨m, hm, _, hx⟩ := okP_tup h
      have hm : n = m := by omega
      subst hm
      show okSs n xs = true
      exact okSs_mem.mpr fun y hy => ih (hx y hy)
theorem okS_mono : ∀ {n m : Nat} {x : D}, n ≤ m → okS n x = true → okS m x = true := by
  intro n
  induction n with
  | zero => intro m x hm h; cases x <;> first | rfl | (simp [okS] at h; done) | (simpa [okS] using h)
  | succ n ih =>
    intro m x hm h
    obtain ⟨m', rfl⟩ : ∃ m', m = m' + 1 := ⟨m - 1, by omega⟩
    cases x <;> first | rfl | (simp [okS] at h; done) | skip
    · simpa [okS] using h
    · rename_i xs
      have h : okSs n xs = true := by simpa [okS] using h
      show okSs m' xs = true
      exact okSs_mem.mpr fun y hy => ih (by omega) (okSs_mem.mp h y hy)
    · rename_i xs
      have h : flats n xs = true := by simpa [okS] using h
      show flats m' xs = true
      have : ∀ l : List D, flats n l = true → flats m' l = true := by
        intro l
        induction l with
        | nil => intro _; rfl
        | cons y ys ih2 =>
          intro h
          have h := Bool.and_eq_true_iff.mp h
          exact Bool.and_eq_true_iff.mpr ⟨flat_mono (by omega) h.1, ih2 h.2⟩
      exact this xs h
theorem okS_mk {m : Nat} {xs : List D} (h : ∀ x ∈ xs, okS m x = true) : okS (m + 1) (.tup xs) = true := okSs_mem.mpr h
theorem cutG_mem {xs : List D} {lo hi : Option Int} {x : D} (h : x ∈ cutG xs lo hi) : x ∈ xs := by
  unfold cutG at h
  exact List.mem_of_mem_drop (List.mem_of_mem_take h)
theorem cutG_len (xs : List D) (lo hi : Option Int) : (cutG xs lo hi).length ≤ xs.length := by
  unfold cutG
  simp
  omega
theorem cut_tup (S : Store) (xs : List D) (lo hi : Option Int) : cutD S lo hi (.tup xs) = some (.tup (cutG xs lo hi)) := rfl
@[simp] theorem evE_rev (P : Par) (a : E) (δ : Ev.Env) (S : Store) (xs : List D) (h : evE P a δ S = .ok (.tup xs) S) : evE P (.rev a) δ S = .ok (.tup xs.reverse) S := by
  have e : evE P (.rev a) δ S = evRev (evE P a) δ S := rfl
  rw [e]
  unfold evRev
  rw [h]
  rfl
theorem pick_okS {δ : Ev.Env} {xs : List D} {i : Int} {S : Store} {kk : Ev.Env → Store → RS} {m : Nat} {d : D} (hd : ixD xs i = some d) (h : okS m d = true) :
    endF true S ((thenS δ (ofO S (ixD xs i)) fun d S => RS.rt d S).seq kk) = .ok d S := by
  rw [hd]
  simp
  exact fin_clo (clo_flat (okS_flat h))
theorem odd_tup (n m : Nat) (xs : List D) (c : Int) (h : okP m (.tup xs) = true) : ∃ y, okS (m + 1) y = true ∧ ∀ S, callF Tt (n + 1) 21 [.tup xs, .int c] S = .ok y S := by
  obtain ⟨m', rfl, hl, hx⟩ := okP_tup h
  have hs : ∀ x ∈ xs, okS m' x = true := fun x hx' => okP_S (hx x hx')
  have go : ∀ S, callF Tt (n + 1) 21 [.tup xs, .int c] S = endF true S (evB (parOf Tt n) [s_law_odd_by_0, s_law_odd_by_1, s_law_odd_by_2, s_law_odd_by_3] [some (.tup xs), some (.int c), none] S) := fun S => by
    rw [callF_is (fd := f_law_odd_by) rfl rfl]
    rfl
  obtain ⟨d, hd, e⟩ := pick (xs := [.lst xs, .tup (cutG xs none (some (-1))), .tup (xs ++ cutG xs (some (-1)) none), .tup xs.reverse, .tup [], .non, .tup (cutG xs (some 1) none), .tup (xs ++ [.tup xs]), .int 5]) (i := c % 9) (by simp; omega)
  have ok : okS (m' + 1 + 1) d = true := by
    have a0 : okS (m' + 1 + 1) (.lst xs) = true := by
      show flats (m' + 1) xs = true
      exact flats_of fun x hx' => flat_mono (by omega) (okS_flat (hs x hx'))
    have up : ∀ ys : List D, (∀ y ∈ ys, y ∈ xs) → okS (m' + 1 + 1) (.tup ys) = true := fun ys h => okS_mono (by omega) (okS_mk fun y hy => hs y (h y hy))
    simp at hd
    rcases hd with rfl | rfl | rfl | rfl | rfl | rfl | rfl | rfl | rfl
    · exact a0
    · exact up _ fun y hy => cutG_mem hy
    · exact up _ fun y hy => by
        rcases List.mem_append.mp hy with h | h
        · exact h
        · exact cutG_mem h
    · exact up _ fun y hy => List.mem_reverse.mp hy
    · rfl
    · rfl
    · exact up _ fun y hy => cutG_mem hy
    · refine okS_mk fun y hy => ?_
      rcases List.mem_append.mp hy with h | h
      · exact okS_mono (by omega) (hs y h)
      · simp at h; subst h; exact okS_mk hs
    · rfl
  refine ⟨d, ok, fun S => ?_⟩
  rw [go]
  have lo : ∀ (S : Store), lofL S (.tup xs) = some xs := fun _ => rfl
  have a1 : ∀ S, op2 S .add (.tup xs) (.tup (cutG xs (some (-1)) none)) = some (.tup (xs ++ cutG xs (some (-1)) none)) := fun S => o_addT S _ _ (by have := cutG_len xs (some (-1)) none; rw [LIM_nat]; omega)
  have a2 : ∀ S, op2 S .add (.tup xs) (.tup [.tup xs]) = some (.tup (xs ++ [.tup xs])) := fun S => o_addT S _ _ (by simp; omega)
  have rv : evE (parOf Tt n) (.rev (.var 0)) [some (.tup xs), some (.int c), none] S = .ok (.tup xs.reverse) S := evE_rev _ _ _ _ _ (by simp)
  have ty : tyIs S .tuple (.tup xs) = some true := rfl
  have e0 : endF true S ((evS (parOf Tt n) s_law_odd_by_0 [some (.tup xs), some (.int c), none] S).seq fun δ S => evB (parOf Tt n) [s_law_odd_by_1, s_law_odd_by_2, s_law_odd_by_3] δ S) = .ok d S := by
    simp only [s_law_odd_by_0, evS_ite, evE_op1, evE_var, List.getElem?_cons_zero, ofV_some, bind_ok, o_isi, ty, Option.map_some, ofO_some, thenS_ok, ifB_bl, if_true, evB_cons, evS_set, evE_lst, evEs_cons, evEs_nil, evE_lof, lo, ofL_some, newL_f, evE_slt, evE_slf, evE_lit, o_neg, ofI_int, cut_tup, evE_op2, a1, rv, evE_tup]
    simp [lo, cut_tup, a1, a2]
    simp only [seq_seq]
    exact pick_okS e ok
  exact e0
end LawK
namespace LawK
open PySem PySem.Spec PyProof.Rows L2 Ev
theorem upper_len (s : Str) : (upperS s).length = s.length := by
  show ((s.cps.toList.map _).toArray).size = s.cps.size
  simp
theorem okS_s {m : Nat} {s : Str} (h : s.length ≤ 1000) : okS m (.str s) = true := by
  cases m <;> exact decide_eq_true h
theorem okS_tup1 {m : Nat} {x : D} (h : okS m x = true) : okS (m + 1) (.tup [x]) = true := okS_mk fun y hy => by simp at hy; subst hy; exact h
theorem odd_str (n m : Nat) (s : Str) (c : Int) (h : okP m (.str s) = true) : ∃ y, okS (m + 1) y = true ∧ ∀ S, callF Tt (n + 1) 21 [.str s, .int c] S = .ok y S := by
  have hs : s.length ≤ 20 ∧ ascii s = true := by
    have h : (decide (s.length ≤ 20) && ascii s) = true := by cases m <;> simpa [okP] using h
    rw [Bool.and_eq_true, decide_eq_true_eq] at h
    exact h
  have go : ∀ S, callF Tt (n + 1) 21 [.str s, .int c] S = endF true S (evB (parOf Tt n) [s_law_odd_by_0, s_law_odd_by_1, s_law_odd_by_2, s_law_odd_by_3] [some (.str s), some (.int c), none] S) := fun S => by
    rw [callF_is (fd := f_law_odd_by) rfl rfl]
    rfl
  have k1 : ("abcdefgh" : Str).length = 8 := by decide +kernel
  have k2 : (" " : Str).length = 1 := by decide +kernel
  have k3 : ("\n" : Str).length = 1 := by decide +kernel
  have kk : ∀ w ∈ (["", "never", "one", "warden", "worker", "aa"] : List Str), w.length ≤ 1000 := by decide +kernel
  obtain ⟨d, hd, e⟩ := pick (xs := [.str (s ++ "abcdefgh"), .str (upperS s), .str "", .str (s ++ " "), .non, .str (L2.cutS s (some 1) none), .str "never", .str "one", .str "warden", .str "worker", .int 5, .str "aa", .str (s ++ "\n"), .tup [.str s]]) (i := c % 14) (by simp; omega)
  have ok : okS (m + 1) d = true := by
    simp at hd
    rcases hd with rfl | rfl | rfl | rfl | rfl | rfl | rfl | rfl | rfl | rfl | rfl | rfl | rfl | rfl
    · exact okS_s (by rw [app_len, k1]; omega)
    · exact okS_s (by rw [upper_len]; omega)
    · exact okS_s (kk _ (by simp))
    · exact okS_s (by rw [app_len, k2]; omega)
    · rfl
    · exact okS_s (by have := L2.cutS_length s (some 1) none; omega)
    · exact okS_s (kk _ (by simp))
    · exact okS_s (kk _ (by simp))
    · exact okS_s (kk _ (by simp))
    · exact okS_s (kk _ (by simp))
    · rfl
    · exact okS_s (kk _ (by simp))
    · exact okS_s (by rw [app_len, k3]; omega)
    · exact okS_tup1 (okS_s (by omega))
  refine ⟨d, ok, fun S => ?_⟩
  rw [go]
  have a1 : ∀ S, op2 S .add (.str s) (.str "abcdefgh") = some (.str (s ++ "abcdefgh")) := fun S => o_addS S _ _ (by rw [k1, LIM_nat]; omega)
  have a2 : ∀ S, op2 S .add (.str s) (.str " ") = some (.str (s ++ " ")) := fun S => o_addS S _ _ (by rw [k2, LIM_nat]; omega)
  have a3 : ∀ S, op2 S .add (.str s) (.str "\n") = some (.str (s ++ "\n")) := fun S => o_addS S _ _ (by rw [k3, LIM_nat]; omega)
  have up : ∀ S, op1 S .upper (.str s) = some (.str (upperS s)) := fun S => by
    have e : op1 S .upper (.str s) = if ascii s && decide (s.length ≤ 1000) then some (.str (upperS s)) else none := rfl
    rw [e, hs.2, decide_eq_true (show s.length ≤ 1000 by omega)]
    rfl
  have cu := fun S => o_cut S s (some 1) none (by omega)
  have q0 : evS (parOf Tt n) s_law_odd_by_0 [some (.str s), some (.int c), none] S = .nx [some (.str s), some (.int c), none] S := by simp [s_law_odd_by_0, tyIs]
  have q1 : endF true S ((evS (parOf Tt n) s_law_odd_by_1 [some (.str s), some (.int c), none] S).seq fun δ S => evB (parOf Tt n) [s_law_odd_by_2, s_law_odd_by_3] δ S) = .ok d S := by
    simp [s_law_odd_by_1, tyIs, a1, a2, a3, up, cu]
    simp only [seq_seq]
    exact pick_okS e ok
  rw [evB_cons, q0, seq_nx, evB_cons]
  exact q1
theorem numT_len (i : Int) (h : -2000000000 ≤ i ∧ i ≤ 2000000000) : (toString i : Str).length ≤ 1000 := by
  rcases Int.lt_or_le i 0 with hi | hi
  · obtain ⟨k, rfl⟩ : ∃ k : Nat, i = -((k + 1 : Nat) : Int) := ⟨i.natAbs - 1, by omega⟩
    have e : toString (-((k + 1 : Nat) : Int)) = "-" ++ toString (((k + 1 : Nat) : Int)) := rfl
    rw [e, TL.len_tl]
    have e2 : TL.tl (Str.ofString ("-" ++ toString (((k + 1 : Nat) : Int)))) = TL.tl (Str.ofString "-") ++ TL.tl (Str.ofString (toString (((k + 1 : Nat) : Int)))) := by
      simp only [TL.tl, Str.ofString_eq_toList, String.toList_append, List.map_append]
    rw [e2, TL.tl_num, List.length_append]
    have := TL.numL_len (n := k + 1) (k := 10) (by omega) (by omega)
    have h1 : (TL.tl (Str.ofString "-")).length = 1 := by decide +kernel
    omega
  · obtain ⟨k, rfl⟩ := Int.eq_ofNat_of_zero_le hi
    rw [TL.len_tl, TL.tl_num]
    have := TL.numL_len (n := k) (k := 10) (by omega) (by omega)
    omega
theorem odd_int (n m : Nat) (i c : Int) (h : okP m (.int i) = true) : ∃ y, okS (m + 1) y = true ∧ ∀ S, callF Tt (n + 1) 21 [.int i, .int c] S = .ok y S := by
  have hi : -2000000000 ≤ i ∧ i ≤ 2000000000 := by
    have h : (decide (-2000000000 ≤ i) && decide (i ≤ 2000000000)) = true := by cases m <;> simpa [okP] using h
    rw [Bool.and_eq_true, decide_eq_true_eq, decide_eq_true_eq] at h
    exact h
  have go : ∀ S, callF Tt (n + 1) 21 [.int i, .int c] S = endF true S (evB (parOf Tt n) [s_law_odd_by_0, s_law_odd_by_1, s_law_odd_by_2, s_law_odd_by_3] [some (.int i), some (.int c), none] S) := fun S => by
    rw [callF_is (fd := f_law_odd_by) rfl rfl]
    rfl
  obtain ⟨d, hd, e⟩ := pick (xs := [.int (i - 1), .int (i + 1), .int (i + 1000000000), .int (-1 - i), .bl (decide (i = 1)), .str (toString i), .non, .int 0, .int 1000000001, .tup [.int i]]) (i := c % 10) (by simp; omega)
  have ok : okS (m + 1) d = true := by
    simp at hd
    rcases hd with rfl | rfl | rfl | rfl | rfl | rfl | rfl | rfl | rfl | rfl <;> first | rfl | exact okS_s (numT_len i hi) | exact okS_tup1 (by cases m <;> rfl)
  refine ⟨d, ok, fun S => ?_⟩
  rw [go]
  have st : ∀ S, op1 S .str (.int i) = some (.str (toString i)) := fun S => by
    have e : op1 S .str (.int i) = if i.natAbs < 2 ^ 128 then some (.str (toString i)) else none := rfl
    rw [e, if_pos (Nat.lt_of_lt_of_le (show i.natAbs < 2 ^ 40 by omega) (by decide))]
  have q0 : evS (parOf Tt n) s_law_odd_by_0 [some (.int i), some (.int c), none] S = .nx [some (.int i), some (.int c), none] S := by simp [s_law_odd_by_0, tyIs]
  have q1 : evS (parOf Tt n) s_law_odd_by_1 [some (.int i), some (.int c), none] S = .nx [some (.int i), some (.int c), none] S := by simp [s_law_odd_by_1, tyIs]
  have q2 : evS (parOf Tt n) s_law_odd_by_2 [some (.int i), some (.int c), none] S = .nx [some (.int i), some (.int c), some (.lst [.int (i - 1), .int (i + 1), .int (i + 1000000000), .int (-1 - i), .bl (decide (i = 1)), .str (toString i), .non, .int 0, .int 1000000001, .tup [.int i]])] S := by simp [s_law_odd_by_2, st]
  simp only [evB_cons, q0, q1, q2, seq_nx]
  simp [s_law_odd_by_3]
  exact pick_okS e ok
theorem odd_by (n m : Nat) (x : D) (c : Int) (h : okP m x = true) : ∃ y, okS (m + 1) y = true ∧ ∀ S, callF Tt (n + 1) 21 [x, .int c] S = .ok y S := by
  cases x <;> first | exact odd_int n m _ c h | exact odd_str n m _ c h | exact odd_tup n m _ c h | (cases m <;> simp [okP] at h)
@[simp] theorem rt_seq (δ : Ev.Env) (r : R D) (k : Ev.Env → Store → RS) : (thenS δ r fun d S => RS.rt d S).seq k = thenS δ r fun d S => RS.rt d S := by cases r <;> rfl
theorem cutG_lo (xs : List D) (j : Nat) (h : j ≤ xs.length) : cutG xs (some (j : Int)) none = xs.drop j := by
  unfold cutG
  rw [HT.sIx_nat, HT.sIx_none, Nat.min_eq_left h]
  exact List.take_of_length_le (by simp)
theorem spoilt : ∀ (dp n m : Nat) (x : D) (c : Int), okP m x = true → m ≤ 50 → ∃ y, okS (m + 1) y = true ∧ ∀ S, callF Tt (n + dp + 2) 22 [x, .int c, .int (dp : Int)] S = .ok y S := by
  intro dp
  induction dp with
  | zero =>
    intro n m x c h hm
    obtain ⟨y, hy, e⟩ := odd_by n m x (c / 5) h
    refine ⟨y, hy, fun S => ?_⟩
    rw [callF_is (fd := f_law_spoilt) rfl rfl]
    show endF true S (evB (parOf Tt (n + 0 + 1)) [s_law_spoilt_0, s_law_spoilt_1, s_law_spoilt_2, s_law_spoilt_3] [some x, some (.int c), some (.int 0), none, none] S) = _
    have q : evS (parOf Tt (n + 0 + 1)) s_law_spoilt_0 [some x, some (.int c), some (.int 0), none, none] S = .rt y S := by
      simp [s_law_spoilt_0, e]
    rw [evB_cons, q]
    exact fin_clo (clo_flat (okS_flat hy))
  | succ dp ih =>
    intro n m x c h hm
    have go : ∀ S, callF Tt (n + (dp + 1) + 2) 22 [x, .int c, .int ((dp + 1 : Nat) : Int)] S = endF true S (evB (parOf Tt (n + dp + 2)) [s_law_spoilt_0, s_law_spoilt_1, s_law_spoilt_2, s_law_spoilt_3] [some x, some (.int c), some (.int ((dp + 1 : Nat) : Int)), none, none] S) := fun S => by
      rw [show n + (dp + 1) + 2 = (n + dp + 2) + 1 by omega, callF_is (fd := f_law_spoilt) rfl rfl]
      rfl
    have hd0 : ¬ ((dp + 1 : Nat) : Int) = 0 := by omega
    have hd1 : ((dp + 1 : Nat) : Int) - 1 = (dp : Int) := by omega
    generalize ((dp + 1 : Nat) : Int) = dd at go hd0 hd1
    have odd : (∀ S, evS (parOf Tt (n + dp + 2)) s_law_spoilt_0 [some x, some (.int c), some (.int dd), none, none] S = thenS [some x, some (.int c), some (.int dd), none, none] (callF Tt (n + dp + 2) 21 [x, .int (c / 5)] S) fun d S => .rt d S) → ∃ y, okS (m + 1) y = true ∧ ∀ S, callF Tt (n + (dp + 1) + 2) 22 [x, .int c, .int dd] S = .ok y S := by
      intro hq
      obtain ⟨y, hy, e⟩ := odd_by (n + dp + 1) m x (c / 5) h
      refine ⟨y, hy, fun S => ?_⟩
      rw [go, evB_cons, hq, e]
      exact fin_clo (clo_flat (okS_flat hy))
    by_cases hx : ∃ xs, x = .tup xs
    · obtain ⟨xs, rfl⟩ := hx
      have ty : ∀ S, tyIs S .tuple (.tup xs) = some true := fun _ => rfl
      have eqe : ∀ S, op2 S .eq (.tup xs) (.tup []) = some (.bl xs.isEmpty) := fun S => by
        have f1 : isFlat (.tup xs) = true := flat_mono (by omega) (okS_flat (okP_S h))
        have f2 : isFlat (.tup []) = true := rfl
        rw [show op2 S .eq (.tup xs) (.tup []) = if isFlat (.tup xs) && isFlat (.tup []) then some (.bl (eqD (.tup xs) (.tup []))) else none from rfl, f1, f2]
        cases xs <;> rfl
      obtain ⟨m', rfl, hl, hxs⟩ := okP_tup h
      by_cases hc : c % 5 = 0
      · exact odd fun S => by
          simp [s_law_spoilt_0, hd0, ty, eqe, hc]
          try (cases xs <;> simp)
      · cases hxe : xs with
        | nil =>
          subst hxe
          exact odd fun S => by simp [s_law_spoilt_0, hd0, ty, eqe]
        | cons a r =>
          rw [← hxe]
          have hL : 0 < xs.length := by rw [hxe]; simp
          have hemp : xs.isEmpty = false := by rw [hxe]; rfl
          have hLi : (0 : Int) < (xs.length : Int) := by omega
          obtain ⟨at_, hat⟩ : ∃ t : Nat, c / 5 % (xs.length : Int) = (t : Int) := Int.eq_ofNat_of_zero_le (Int.emod_nonneg _ (by omega))
          have hat2 : at_ < xs.length := by have := Int.emod_lt_of_pos (c / 5) hLi; omega
          obtain ⟨y, hy, e⟩ := ih n m' xs[at_] (c / 5 / (xs.length : Int)) (hxs _ (List.getElem_mem hat2)) (by omega)
          have ga : ∀ (S : Store), ixD xs (at_ : Int) = some xs[at_] := fun S => atI_nat xs at_ hat2
          have ga := ga []
          have memc : ∀ lo hi, ∀ z ∈ cutG xs lo hi, okS (m' + 1) z = true := fun lo hi z hz => okS_mono (by omega) (okP_S (hxs z (cutG_mem hz)))
          have hres : okS (m' + 1 + 1) (.tup ((cutG xs none (some (at_ : Int)) ++ [y]) ++ cutG xs (some ((at_ : Int) + 1)) none)) = true := okS_mk fun z hz => by
            rcases List.mem_append.mp hz with hz | hz
            · rcases List.mem_append.mp hz with hz | hz
              · exact memc _ _ z hz
              · simp at hz; subst hz; exact hy
            · exact memc _ _ z hz
          refine ⟨_, hres, fun S => ?_⟩
          rw [go]
          have l1 := cutG_len xs none (some (at_ : Int))
          have l2 := cutG_len xs (some ((at_ : Int) + 1)) none
          have q0 : evS (parOf Tt (n + dp + 2)) s_law_spoilt_0 [some (.tup xs), some (.int c), some (.int dd), none, none] S = .nx [some (.tup xs), some (.int c), some (.int dd), none, none] S := by
            simp [s_law_spoilt_0, hd0, ty, eqe, hc]
            try (intro z; rw [z] at hL; simp at hL)
          have q1 : evS (parOf Tt (n + dp + 2)) s_law_spoilt_1 [some (.tup xs), some (.int c), some (.int dd), none, none] S = .nx [some (.tup xs), some (.int c), some (.int dd), some (.int at_), none] S := by
            have om := o_mod S (c / 5) (xs.length : Int) hLi
            simp [s_law_spoilt_1, om, hat]
          have q2 : evS (parOf Tt (n + dp + 2)) s_law_spoilt_2 [some (.tup xs), some (.int c), some (.int dd), some (.int at_), none] S = .nx [some (.tup xs), some (.int c), some (.int dd), some (.int at_), some y] S := by
            have of := o_fdiv S (c / 5) (xs.length : Int) hLi (by omega)
            simp [s_law_spoilt_2, ga, of, hd1, e]
          have q3 : evS (parOf Tt (n + dp + 2)) s_law_spoilt_3 [some (.tup xs), some (.int c), some (.int dd), some (.int at_), some y] S = .rt (.tup ((cutG xs none (some (at_ : Int)) ++ [y]) ++ cutG xs (some ((at_ : Int) + 1)) none)) S := by
            have t1 := o_addT S (cutG xs none (some (at_ : Int))) [y] (by rw [LIM_nat]; simp; omega)
            have t2 := o_addT S (cutG xs none (some (at_ : Int)) ++ [y]) (cutG xs (some ((at_ : Int) + 1)) none) (by rw [LIM_nat]; simp; omega)
            simp only [s_law_spoilt_3, evS_ret, evE_op2, evE_slt, evE_slf, evE_var, evE_lit, evE_tup, evEs_cons, evEs_nil, List.getElem?_cons_succ, List.getElem?_cons_zero, ofV_some, bind_ok, ofI_int, cut_tup, ofO_some, o_add]
            rw [if_pos (by simp), bind_ok, t1, ofO_some, bind_ok, t2]
            rfl
          simp only [evB_cons, q0, q1, q2, q3, seq_nx, seq_rt, endF_rt]
          exact fin_clo (clo_flat (okS_flat hres))
    · have ty : ∀ S, tyIs S .tuple x = some false := fun S => by
        cases x <;> first | rfl | exact absurd ⟨_, rfl⟩ hx | (cases m <;> simp [okP] at h)
      exact odd fun S => by simp [s_law_spoilt_0, hd0, ty]
end LawK
namespace LawK
open PySem PySem.Spec PyProof.Rows L2 Ev
theorem name_okS {m : Nat} {nm : Str} (h : nameD (.str nm) = true) : okS m (.str nm) = true := by
  simp only [nameD, Bool.and_eq_true, decide_eq_true_eq] at h
  exact okS_s (by omega)
theorem get_name (S : Store) (nms : List Str) (i : Nat) (h : i < nms.length) : op2 S .get (.lst (strD nms)) (.int (i : Int)) = some (.str nms[i]) := by
  have e : op2 S .get (.lst (strD nms)) (.int (i : Int)) = ixD (strD nms) (i : Int) := rfl
  have := atI_nat (strD nms) i (by simp [strD]; exact h)
  rw [e]
  show L2.atI _ _ = _
  rw [this]
  simp [strD]
theorem words_le : ∀ w ∈ (["worker", "never", "warden", "one", "rest", "all", "always", "faulted"] : List Str), w.length ≤ 20 := by decide +kernel
def ruleN (i : Nat) : Str := if i % 3 = 0 then "one" else if i % 3 = 1 then "rest" else "all"
theorem rule_get (S : Store) (i : Nat) : op2 S .get (.lst [.str "one", .str "rest", .str "all"]) (.int ((i : Int) % 3)) = some (.str (ruleN i)) := by
  have e : op2 S .get (.lst [.str "one", .str "rest", .str "all"]) (.int ((i : Int) % 3)) = ixD [.str "one", .str "rest", .str "all"] ((i : Int) % 3) := rfl
  rw [e]
  have h : i % 3 = 0 ∨ i % 3 = 1 ∨ i % 3 = 2 := by omega
  unfold ruleN
  rcases h with h | h | h
  · rw [show (i : Int) % 3 = 0 by omega, h]; rfl
  · rw [show (i : Int) % 3 = 1 by omega, h]; rfl
  · rw [show (i : Int) % 3 = 2 by omega, h]; rfl
theorem rule_len (i : Nat) : (ruleN i).length ≤ 20 := by
  unfold ruleN
  split
  · exact words_le _ (by simp)
  · split
    · exact words_le _ (by simp)
    · exact words_le _ (by simp)
theorem get_nameD (S : Store) (nms : List Str) (i : Nat) (h : i < nms.length) : op2 S .get (.lst (strD nms)) (.int (i : Int)) = some (.str (nms.getD i "")) := by
  rw [get_name S nms i h]
  simp [h]
theorem getD_ok {nms : List Str} (hn : ∀ nm ∈ nms, nameD (.str nm) = true) (i : Nat) (h : i < nms.length) : nameD (.str (nms.getD i "")) = true := by
  have : nms.getD i "" = nms[i] := by simp [h]
  rw [this]
  exact hn _ (List.getElem_mem h)
end LawK
namespace LawK
open PySem PySem.Spec PyProof.Rows L2 Ev
theorem many_by (n : Nat) (c : Int) : ∃ v : Int, (0 ≤ v ∧ v ≤ 1000000000) ∧ ∀ S, callF Tt (n + 1) 13 [.int c] S = .ok (.int v) S := by
  obtain ⟨d, hd, e⟩ := pick (xs := [.int 0, .int 1, .int 2, .int 1, .int 3, .int 1000000000, .int (c / 6 % 9), .int (c / 6 % 1000000001)]) (i := c % 8) (by simp; omega)
  have hv : ∃ v : Int, d = .int v ∧ 0 ≤ v ∧ v ≤ 1000000000 := by
    simp at hd
    rcases hd with rfl | rfl | rfl | rfl | rfl | rfl | rfl | rfl <;> exact ⟨_, rfl, by omega, by omega⟩
  obtain ⟨v, rfl, h⟩ := hv
  refine ⟨v, h, fun S => ?_⟩
  rw [callF_is (fd := f_law_many_by) rfl rfl]
  simp only [f_law_many_by, env0]
  simp [e]
theorem span_by (n : Nat) (c : Int) : ∃ v : Int, (1 ≤ v ∧ v ≤ 1000000000) ∧ ∀ S, callF Tt (n + 1) 14 [.int c] S = .ok (.int v) S := by
  obtain ⟨d, hd, e⟩ := pick (xs := [.int 3, .int 1, .int 1000000000, .int 2, .int (1 + c / 6 % 12), .int (1 + c / 6 % 1000000000)]) (i := c % 6) (by simp; omega)
  have hv : ∃ v : Int, d = .int v ∧ 1 ≤ v ∧ v ≤ 1000000000 := by
    simp at hd
    rcases hd with rfl | rfl | rfl | rfl | rfl | rfl <;> exact ⟨_, rfl, by omega, by omega⟩
  obtain ⟨v, rfl, h⟩ := hv
  refine ⟨v, h, fun S => ?_⟩
  rw [callF_is (fd := f_law_span_by) rfl rfl]
  simp only [f_law_span_by, env0]
  simp [e]
end LawK
namespace LawK
open PySem PySem.Spec PyProof.Rows L2 Ev
theorem names_ok : ∀ (k : Nat) (x : D), pv k x = true → ∀ nm ∈ namesT x, nameD (.str nm) = true := by
  intro k
  induction k with
  | zero =>
    intro x h nm hm
    cases pv_shape h with
    | w nm' u hn => rw [names_w] at hm; simp at hm; subst hm; exact hn
    | d k' nm u a b ps hk => cases hk
  | succ k ih =>
    intro x h nm hm
    cases pv_shape h with
    | w nm' u hn => rw [names_w] at hm; simp at hm; subst hm; exact hn
    | d k' nm' u a b ps hk hn hl h1 hp =>
      cases hk
      rw [names_d] at hm
      rcases List.mem_cons.mp hm with rfl | hm
      · exact hn
      · have : ∀ l : List D, (∀ p ∈ l, pv k p = true) → ∀ nm ∈ namesTs l, nameD (.str nm) = true := by
          intro l
          induction l with
          | nil => intro _ nm hm; cases hm
          | cons p l ih2 =>
            intro hl nm hm
            rcases List.mem_append.mp hm with hm | hm
            · exact ih p (hl p (List.mem_cons_self ..)) nm hm
            · exact ih2 (fun q hq => hl q (List.mem_cons_of_mem _ hq)) nm hm
        exact this ps hp nm hm
end LawK
namespace LawK
open PySem PySem.Spec PyProof.Rows L2 Ev
/-! ### the nodes of a house, as places -/
structure NR where
  up : Int
  wd : Bool
  deep : Int
  inner : List Nat
  cell : Int
def dicN (r : NR) (q : Nat) : Cell := .dic [("up", .int r.up), ("warden", .bl r.wd), ("deep", .int r.deep), ("inner", .loc q), ("cell", .int r.cell)]
def innD (r : NR) : List D := r.inner.map fun (i : Nat) => .int (i : Int)
/-- where the dict of node i stands; behind it its inner list; the list of nodes stands at b + 2 -/
def pl (b i : Nat) : Nat := if i = 0 then b else b + 1 + 2 * i
structure NRd (S : Store) (b : Nat) (R : List NR) : Prop where
  lst : S[b + 2]? = some (.lst ((List.range R.length).map fun i => .loc (pl b i)))
  dic : ∀ i r, R[i]? = some r → S[pl b i]? = some (dicN r (pl b i + 1))
  inn : ∀ i r, R[i]? = some r → S[pl b i + 1]? = some (.lst (innD r))
structure NAt (S : Store) (b : Nat) (R : List NR) : Prop extends NRd S b R where
  len : S.length = b + 1 + 2 * R.length
  pos : 1 ≤ R.length
theorem NRd.app {S : Store} {b : Nat} {R : List NR} (h : NRd S b R) (T : Store) : NRd (S ++ T) b R :=
  have up : ∀ {k : Nat} {c : Cell}, S[k]? = some c → (S ++ T)[k]? = some c := fun e => by
    rw [List.getElem?_append_left (List.getElem?_eq_some_iff.mp e).1]
    exact e
  ⟨up h.lst, fun i r hr => up (h.dic i r hr), fun i r hr => up (h.inn i r hr)⟩
theorem pl_inj {b i j : Nat} (h : pl b i = pl b j) : i = j := by
  unfold pl at h
  split at h <;> split at h <;> omega
theorem pl_ne {b i j : Nat} : pl b i ≠ pl b j + 1 := by
  unfold pl
  split <;> split <;> omega
theorem pl_lst {b i : Nat} : pl b i ≠ b + 2 ∧ pl b i + 1 ≠ b + 2 := by
  unfold pl
  split <;> omega
theorem NAt.inner {S : Store} {b : Nat} {R : List NR} (h : NAt S b R) {i : Nat} {r : NR} (hr : R[i]? = some r) (k : Nat) :
    NAt (S.set (pl b i + 1) (.lst (innD r ++ [.int (k : Int)]))) b (R.set i { r with inner := r.inner ++ [k] }) where
  len := by rw [List.length_set, List.length_set, h.len]
  pos := by rw [List.length_set]; exact h.pos
  lst := by
    rw [List.getElem?_set_ne pl_lst.2, List.length_set]
    exact h.lst
  dic := fun j q hq => by
    rw [List.getElem?_set_ne (Ne.symm pl_ne)]
    by_cases hj : i = j
    · subst hj
      have hi := (List.getElem?_eq_some_iff.mp hr).1
      rw [List.getElem?_set_self hi] at hq
      cases hq
      exact h.dic i r hr
    · rw [List.getElem?_set_ne hj] at hq
      exact h.dic j q hq
  inn := fun j q hq => by
    by_cases hj : i = j
    · subst hj
      have hi := (List.getElem?_eq_some_iff.mp hr).1
      rw [List.getElem?_set_self hi] at hq
      cases hq
      have hl := (List.getElem?_eq_some_iff.mp (h.inn i r hr)).1
      rw [List.getElem?_set_self hl]
      simp [innD]
    · rw [List.getElem?_set_ne hj] at hq
      rw [List.getElem?_set_ne (fun e => hj (pl_inj (Nat.succ.inj e)))]
      exact h.inn j q hq
theorem NAt.push {S : Store} {b : Nat} {R : List NR} (h : NAt S b R) (r : NR) (hr : r.inner = []) :
    NAt ((S ++ [dicN r (S.length + 1), .lst []]).set (b + 2) (.lst (((List.range R.length).map fun i => .loc (pl b i)) ++ [.loc S.length]))) b (R ++ [r]) := by
  have hp : pl b R.length = S.length := by
    unfold pl
    have := h.pos
    rw [if_neg (by omega), h.len]
  have hb : b + 2 < S.length := by have := h.pos; have := h.len; omega
  refine { len := ?_, pos := by simp, lst := ?_, dic := fun j q hq => ?_, inn := fun j q hq => ?_ }
  · rw [List.getElem?_set_self (by simp; omega)]
    simp [List.range_succ, hp]
  · rw [List.getElem?_set_ne (Ne.symm pl_lst.1)]
    by_cases hj : j < R.length
    · rw [List.getElem?_append_left hj] at hq
      have e := h.dic j q hq
      rw [List.getElem?_append_left (List.getElem?_eq_some_iff.mp e).1]
      exact e
    · have hj2 : j = R.length := by
        have := (List.getElem?_eq_some_iff.mp hq).1
        simp at this; omega
      subst hj2
      simp at hq
      subst hq
      rw [hp]
      simp
  · rw [List.getElem?_set_ne (Ne.symm pl_lst.2)]
    by_cases hj : j < R.length
    · rw [List.getElem?_append_left hj] at hq
      have e := h.inn j q hq
      rw [List.getElem?_append_left (List.getElem?_eq_some_iff.mp e).1]
      exact e
    · have hj2 : j = R.length := by
        have := (List.getElem?_eq_some_iff.mp hq).1
        simp at this; omega
      subst hj2
      simp at hq
      subst hq
      rw [hp, List.getElem?_append_right (by omega)]
      simp [innD, hr]
  · rw [List.length_set, List.length_append, h.len]; simp; omega
section
variable {S : Store} {b : Nat} {R : List NR} {i : Nat} {r : NR}
theorem NRd.node (h : NRd S b R) (hi : i < R.length) : op2 S .get (.loc (b + 2)) (.int (i : Int)) = some (.loc (pl b i)) := by
  have e : op2 S .get (.loc (b + 2)) (.int (i : Int)) = getC S[b + 2]? (.int (i : Int)) := rfl
  rw [e, h.lst]
  show L2.atI _ _ = _
  rw [atI_nat _ i (by simp; exact hi)]
  simp
theorem NRd.fld (h : NRd S b R) (hr : R[i]? = some r) (f : Str) : op2 S .get (.loc (pl b i)) (.str f) = look f [("up", .int r.up), ("warden", .bl r.wd), ("deep", .int r.deep), ("inner", .loc (pl b i + 1)), ("cell", .int r.cell)] := by
  have e : op2 S .get (.loc (pl b i)) (.str f) = getC S[pl b i]? (.str f) := rfl
  rw [e, h.dic i r hr]
  rfl
theorem NRd.wd (h : NRd S b R) (hr : R[i]? = some r) : op2 S .get (.loc (pl b i)) (.str "warden") = some (.bl r.wd) := by rw [h.fld hr]; rfl
theorem NRd.deep (h : NRd S b R) (hr : R[i]? = some r) : op2 S .get (.loc (pl b i)) (.str "deep") = some (.int r.deep) := by rw [h.fld hr]; rfl
theorem NRd.inn' (h : NRd S b R) (hr : R[i]? = some r) : op2 S .get (.loc (pl b i)) (.str "inner") = some (.loc (pl b i + 1)) := by rw [h.fld hr]; rfl
theorem NRd.cell (h : NRd S b R) (hr : R[i]? = some r) : op2 S .get (.loc (pl b i)) (.str "cell") = some (.int r.cell) := by rw [h.fld hr]; rfl
theorem NRd.items (h : NRd S b R) (hr : R[i]? = some r) : items S (.loc (pl b i + 1)) = some (innD r) := by
  simp [Ev.items, h.inn i r hr]
theorem NRd.count (h : NRd S b R) : Ev.items S (.loc (b + 2)) = some ((List.range R.length).map fun i => .loc (pl b i)) := by
  simp [Ev.items, h.lst]
end
end LawK
namespace LawK
open PySem PySem.Spec PyProof.Rows L2 Ev
def freeN (R : List NR) (j : Nat) : Bool := match R[j]? with
  | some r => r.wd && decide (r.inner.length < 8)
  | none => false
def freeI (R : List NR) (i : Int) : Bool := freeN R i.toNat
theorem free_list (n : Nat) {S : Store} {b : Nat} {R : List NR} (h : NRd S b R) (hl : R.length ≤ 1000) {δ : Ev.Env} (h2 : δ[2]? = some (some (.loc (b + 2)))) (h10 : δ.length = 10) :
    evCmp false .rng1 (.nm 9) [9] (evEs (parOf Tt n) [.op1 .len (.var 2)]) (evIfs (parOf Tt n) [.and (.op2 .get (.op2 .get (.var 2) (.var 9)) (.lit (.str "warden"))) (.op2 .lt (.op1 .len (.op2 .get (.op2 .get (.var 2) (.var 9)) (.lit (.str "inner")))) (.lit (.int 8)))]) (evE (parOf Tt n) (.var 9)) δ S =
    .ok (.lst (intsD (((List.range R.length).map fun (i : Nat) => (0 : Int) + i).filter (freeI R)))) S := by
  have hc := h.count
  have ln : op1 S .len (.loc (b + 2)) = some (.int R.length) := by
    have e : op1 S .len (.loc (b + 2)) = (Ev.items S (.loc (b + 2))).map fun xs => .int xs.length := rfl
    rw [e, hc]
    simp
  rw [evCmp_F (g := keepI (freeI R)) (S1 := S) (ds := [.int R.length]) (xs := rngD 0 R.length) (ch := []) (by simp [h2, ln]) (by simp [walkOf]; omega) stays_nil (by rw [rngD_ints]; simp; omega) (fun x hx acc => ?_) (fun x hx => ?_)]
  · rw [rngD_ints, filterMap_ints]
    simp
  · obtain ⟨i, hi⟩ := List.mem_iff_getElem?.mp hx
    obtain ⟨h1, rfl⟩ := rng_get hi
    have hi2 : i < R.length := by omega
    have ha := h.app [.lst acc]
    have hr : R[i]? = some R[i] := by simp [hi2]
    have g2 : ((δ.set 9 none).set 9 (some (.int (i : Int))))[2]? = some (some (.loc (b + 2))) := by
      rw [List.getElem?_set_ne (by omega), List.getElem?_set_ne (by omega)]
      exact h2
    have g9 : ((δ.set 9 none).set 9 (some (.int (i : Int))))[9]? = some (some (.int (i : Int))) := by
      rw [List.getElem?_set_self (by simp; omega)]
    have q1 := ha.node hi2
    have q2 := ha.wd hr
    have q3 := ha.inn' hr
    have q4 : op1 (S ++ [.lst acc]) .len (.loc (pl b i + 1)) = some (.int R[i].inner.length) := by
      have e : op1 (S ++ [.lst acc]) .len (.loc (pl b i + 1)) = (Ev.items (S ++ [.lst acc]) (.loc (pl b i + 1))).map fun xs => .int xs.length := rfl
      rw [e, ha.items hr]
      simp [innD]
    have fr : freeI R (i : Int) = (R[i].wd && decide (R[i].inner.length < 8)) := by
      unfold freeI freeN
      rw [Int.toNat_natCast, hr]
    simp only [turnC, setT, wipeE, evIfs_one, evE_and, evE_op2, evE_op1, evE_var, g2, g9, ofV_some, bind_ok, q1, ofO_some, evE_lit, q2, q3, q4, o_lt, ifB_bl, keepI, fr]
    cases hw : R[i].wd
    · simp
    · by_cases h8 : R[i].inner.length < 8
      · have h8' : (R[i].inner.length : Int) < 8 := by omega
        simp [h8, h8']
      · have h8' : ¬ (R[i].inner.length : Int) < 8 := by omega
        simp [h8, h8']
  · obtain ⟨i, hi⟩ := List.mem_iff_getElem?.mp hx
    obtain ⟨h1, rfl⟩ := rng_get hi
    show clos _ (if _ then _ else _ : Option D).toList = true
    split <;> rfl
end LawK
namespace LawK
open PySem PySem.Spec PyProof.Rows L2 Ev
/-- the nodes are well made -/
structure WF (R : List NR) : Prop where
  kids : ∀ (i : Nat) (r : NR), R[i]? = some r → ∀ j ∈ r.inner, i < j ∧ ∃ q, R[j]? = some q ∧ q.deep = r.deep + 1
  ward : ∀ (i : Nat) (r : NR), R[i]? = some r → r.wd = true → r.deep ≤ 6
  work : ∀ (i : Nat) (r : NR), R[i]? = some r → r.wd = false → r.inner = []
  eight : ∀ (i : Nat) (r : NR), R[i]? = some r → r.inner.length ≤ 8
  deep : ∀ (i : Nat) (r : NR), R[i]? = some r → 1 ≤ r.deep ∧ r.deep ≤ 7
  nod : ∀ (i : Nat) (r : NR), R[i]? = some r → r.inner.Nodup
  uniq : ∀ (i i' : Nat) (r r' : NR), R[i]? = some r → R[i']? = some r' → ∀ j, j ∈ r.inner → j ∈ r'.inner → i = i'
/-- a new node under a warden that is free -/
theorem WF.add {R : List NR} (h : WF R) {u : Nat} {r : NR} (hr : R[u]? = some r) (hw : r.wd = true) (hl : r.inner.length < 8) (wd : Bool) (hwd : wd = true → r.deep < 6) (up cell : Int) :
    WF (R.set u { r with inner := r.inner ++ [R.length] } ++ [{ up := up, wd := wd, deep := r.deep + 1, inner := [], cell := cell }]) := by
  have hu := (List.getElem?_eq_some_iff.mp hr).1
  have hd := h.ward u r hr hw
  have hd1 := h.deep u r hr
  -- what stands at i now
  have key : ∀ (i : Nat) (q : NR), (R.set u { r with inner := r.inner ++ [R.length] } ++ [{ up := up, wd := wd, deep := r.deep + 1, inner := [], cell := cell }])[i]? = some q →
      (i = u ∧ q = { r with inner := r.inner ++ [R.length] }) ∨ (i ≠ u ∧ i < R.length ∧ R[i]? = some q) ∨ (i = R.length ∧ q = { up := up, wd := wd, deep := r.deep + 1, inner := [], cell := cell }) := by
    intro i q hq
    by_cases hi : i < R.length
    · rw [List.getElem?_append_left (by simpa using hi)] at hq
      by_cases hiu : i = u
      · subst hiu
        rw [List.getElem?_set_self hi] at hq
        cases hq
        exact .inl ⟨rfl, rfl⟩
      · rw [List.getElem?_set_ne (Ne.symm hiu)] at hq
        exact .inr (.inl ⟨hiu, hi, hq⟩)
    · have : i = R.length := by
        have := (List.getElem?_eq_some_iff.mp hq).1
        simp at this; omega
      subst this
      rw [List.getElem?_append_right (by simp)] at hq
      simp at hq
      exact .inr (.inr ⟨rfl, hq.symm⟩)
  have old : ∀ (j : Nat) (q : NR), R[j]? = some q → ∃ q' : NR, (R.set u { r with inner := r.inner ++ [R.length] } ++ [{ up := up, wd := wd, deep := r.deep + 1, inner := [], cell := cell }])[j]? = some q' ∧ q'.deep = q.deep := by
    intro j q hq
    have hj := (List.getElem?_eq_some_iff.mp hq).1
    rw [List.getElem?_append_left (by simpa using hj)]
    by_cases hju : u = j
    · subst hju
      rw [List.getElem?_set_self hj]
      rw [hr] at hq; cases hq
      exact ⟨_, rfl, rfl⟩
    · rw [List.getElem?_set_ne hju]
      exact ⟨q, hq, rfl⟩
  have new : (R.set u { r with inner := r.inner ++ [R.length] } ++ [{ up := up, wd := wd, deep := r.deep + 1, inner := [], cell := cell }])[R.length]? = some { up := up, wd := wd, deep := r.deep + 1, inner := [], cell := cell } := by
    rw [List.getElem?_append_right (by simp)]
    simp
  have lt : ∀ (i : Nat) (q : NR), R[i]? = some q → ∀ j ∈ q.inner, j < R.length := fun i q hq j hj => by
    obtain ⟨_, q2, h2, _⟩ := h.kids i q hq j hj
    exact (List.getElem?_eq_some_iff.mp h2).1
  refine ⟨fun i q hq j hj => ?_, fun i q hq hqw => ?_, fun i q hq hqw => ?_, fun i q hq => ?_, fun i q hq => ?_, fun i q hq => ?_, fun i i' q q' hq hq' j hj hj' => ?_⟩
  · rcases key i q hq with ⟨rfl, rfl⟩ | ⟨hi, hi2, hq⟩ | ⟨rfl, rfl⟩
    · rcases List.mem_append.mp hj with hj | hj
      · obtain ⟨h1, q2, h2, h3⟩ := h.kids _ r hr j hj
        obtain ⟨q', h4, h5⟩ := old j q2 h2
        exact ⟨h1, q', h4, by rw [h5, h3]⟩
      · simp at hj
        subst hj
        exact ⟨hu, _, new, rfl⟩
    · obtain ⟨h1, q2, h2, h3⟩ := h.kids i q hq j hj
      obtain ⟨q', h4, h5⟩ := old j q2 h2
      exact ⟨h1, q', h4, by rw [h5, h3]⟩
    · cases hj
  · rcases key i q hq with ⟨rfl, rfl⟩ | ⟨hi, hi2, hq⟩ | ⟨rfl, rfl⟩
    · exact hd
    · exact h.ward i q hq hqw
    · have := hwd hqw
      show r.deep + 1 ≤ 6
      omega
  · rcases key i q hq with ⟨rfl, rfl⟩ | ⟨hi, hi2, hq⟩ | ⟨rfl, rfl⟩
    · rw [hw] at hqw; cases hqw
    · exact h.work i q hq hqw
    · rfl
  · rcases key i q hq with ⟨rfl, rfl⟩ | ⟨hi, hi2, hq⟩ | ⟨rfl, rfl⟩
    · simp; omega
    · exact h.eight i q hq
    · simp
  · rcases key i q hq with ⟨rfl, rfl⟩ | ⟨hi, hi2, hq⟩ | ⟨rfl, rfl⟩
    · exact hd1
    · exact h.deep i q hq
    · constructor <;> (show _ ≤ _; simp; omega)
  · rcases key i q hq with ⟨rfl, rfl⟩ | ⟨hi, hi2, hq⟩ | ⟨rfl, rfl⟩
    · rw [List.nodup_append]
      refine ⟨h.nod _ r hr, by simp, fun a ha b hb => ?_⟩
      have := lt _ r hr a ha
      simp at hb
      omega
    · exact h.nod i q hq
    · exact List.nodup_nil
  · rcases key i q hq with ⟨rfl, rfl⟩ | ⟨hi, hi2, hp⟩ | ⟨rfl, rfl⟩
    · rcases key i' q' hq' with ⟨rfl, rfl⟩ | ⟨hi', hi2', hp'⟩ | ⟨rfl, rfl⟩
      · rfl
      · have hlt := lt i' q' hp' j hj'
        rcases List.mem_append.mp hj with hj | hj
        · exact h.uniq _ i' r q' hr hp' j hj hj'
        · simp at hj; omega
      · cases hj'
    · rcases key i' q' hq' with ⟨rfl, rfl⟩ | ⟨hi', hi2', hp'⟩ | ⟨rfl, rfl⟩
      · have hlt := lt i q hp j hj
        rcases List.mem_append.mp hj' with hj' | hj'
        · exact h.uniq i _ q r hp hr j hj hj'
        · simp at hj'; omega
      · exact h.uniq i i' q q' hp hp' j hj hj'
      · cases hj'
    · cases hj
/-! ### a node and all beneath it, in order -/
def innerOf (R : List NR) (i : Nat) : List Nat := match R[i]? with
  | some r => r.inner
  | none => []
def pre (R : List NR) : Nat → Nat → List Nat
  | 0, i => [i]
  | d + 1, i => i :: (innerOf R i).flatMap (pre R d)
theorem innerOf_is {R : List NR} {i : Nat} {r : NR} (h : R[i]? = some r) : innerOf R i = r.inner := by
  unfold innerOf
  rw [h]
section
variable {R : List NR}
theorem pre_deep (wf : WF R) : ∀ (d i j : Nat) (r : NR), R[i]? = some r → j ∈ pre R d i → ∃ q, R[j]? = some q ∧ r.deep ≤ q.deep ∧ (j ≠ i → r.deep < q.deep)
  | 0, i, j, r, hr, hj => by
    have : j = i := by simpa [pre] using hj
    subst this
    exact ⟨r, hr, Int.le_refl _, fun h => absurd rfl h⟩
  | d + 1, i, j, r, hr, hj => by
    rcases List.mem_cons.mp hj with rfl | hj
    · exact ⟨r, hr, Int.le_refl _, fun h => absurd rfl h⟩
    · rw [innerOf_is hr] at hj
      obtain ⟨k, hk, hj⟩ := List.mem_flatMap.mp hj
      obtain ⟨_, q, hq, hqd⟩ := wf.kids i r hr k hk
      obtain ⟨q2, h1, h2, _⟩ := pre_deep wf d k j q hq hj
      exact ⟨q2, h1, by omega, fun _ => by omega⟩
theorem pre_uniq (wf : WF R) : ∀ (d i i' j : Nat) (r r' : NR), R[i]? = some r → R[i']? = some r' → r.deep = r'.deep → j ∈ pre R d i → j ∈ pre R d i' → i = i'
  | 0, i, i', j, r, r', _, _, _, hj, hj' => by
    have h1 : j = i := by simpa [pre] using hj
    have h2 : j = i' := by simpa [pre] using hj'
    rw [← h1, ← h2]
  | d + 1, i, i', j, r, r', hr, hr', hd, hj, hj' => by
    rcases List.mem_cons.mp hj with rfl | hk
    · obtain ⟨q, h1, _, h3⟩ := pre_deep wf _ i' j r' hr' hj'
      rw [hr] at h1; cases h1
      by_cases e : j = i'
      · exact e
      · have := h3 e; omega
    · rcases List.mem_cons.mp hj' with rfl | hk'
      · obtain ⟨q, h1, _, h3⟩ := pre_deep wf _ i j r hr hj
        rw [hr'] at h1; cases h1
        by_cases e : j = i
        · exact e.symm
        · have := h3 e; omega
      · rw [innerOf_is hr] at hk
        rw [innerOf_is hr'] at hk'
        obtain ⟨k, hk, hj⟩ := List.mem_flatMap.mp hk
        obtain ⟨k', hk', hj'⟩ := List.mem_flatMap.mp hk'
        obtain ⟨_, q, hq, hqd⟩ := wf.kids i r hr k hk
        obtain ⟨_, q', hq', hqd'⟩ := wf.kids i' r' hr' k' hk'
        have := pre_uniq wf d k k' j q q' hq hq' (by omega) hj hj'
        subst this
        exact wf.uniq i i' r r' hr hr' k hk hk'
theorem flat_nodup {f : Nat → List Nat} : ∀ {l : List Nat}, l.Nodup → (∀ k ∈ l, (f k).Nodup) → (∀ k ∈ l, ∀ k' ∈ l, ∀ j, j ∈ f k → j ∈ f k' → k = k') → (l.flatMap f).Nodup
  | [], _, _, _ => List.nodup_nil
  | k :: l, h, h1, h2 => by
    rw [List.nodup_cons] at h
    rw [List.flatMap_cons, List.nodup_append]
    refine ⟨h1 k (List.mem_cons_self ..), flat_nodup h.2 (fun k' hk' => h1 k' (List.mem_cons_of_mem _ hk')) (fun a ha b hb => h2 a (List.mem_cons_of_mem _ ha) b (List.mem_cons_of_mem _ hb)), fun a ha b hb e => ?_⟩
    subst e
    obtain ⟨k', hk', hb⟩ := List.mem_flatMap.mp hb
    have := h2 k (List.mem_cons_self ..) k' (List.mem_cons_of_mem _ hk') a ha hb
    subst this
    exact h.1 hk'
theorem pre_nodup (wf : WF R) : ∀ (d i : Nat) (r : NR), R[i]? = some r → (pre R d i).Nodup
  | 0, i, r, _ => by simp [pre]
  | d + 1, i, r, hr => by
    show (i :: (innerOf R i).flatMap (pre R d)).Nodup
    rw [innerOf_is hr, List.nodup_cons]
    have kid := wf.kids i r hr
    refine ⟨fun hm => ?_, flat_nodup (wf.nod i r hr) (fun k hk => ?_) (fun k hk k' hk' j hj hj' => ?_)⟩
    · obtain ⟨k, hk, hj⟩ := List.mem_flatMap.mp hm
      obtain ⟨_, q, hq, hqd⟩ := kid k hk
      obtain ⟨q2, h1, h2, _⟩ := pre_deep wf d k i q hq hj
      rw [hr] at h1; cases h1
      omega
    · obtain ⟨_, q, hq, _⟩ := kid k hk
      exact pre_nodup wf d k q hq
    · obtain ⟨_, q, hq, hqd⟩ := kid k hk
      obtain ⟨_, q', hq', hqd'⟩ := kid k' hk'
      exact pre_uniq wf d k k' j q q' hq hq' (by omega) hj hj'
theorem pre_lt (wf : WF R) {d i j : Nat} {r : NR} (hr : R[i]? = some r) (h : j ∈ pre R d i) : j < R.length := by
  obtain ⟨q, hq, _⟩ := pre_deep wf d i j r hr h
  exact (List.getElem?_eq_some_iff.mp hq).1
/-- no number twice, each less than n -/
theorem nodup_le : ∀ (n : Nat) (l : List Nat), l.Nodup → (∀ x ∈ l, x < n) → l.length ≤ n
  | 0, [], _, _ => Nat.le_refl _
  | 0, x :: l, _, h => by have := h x (List.mem_cons_self ..); omega
  | n + 1, l, h, hl => by
    have h1 := nodup_le n (l.erase n) (h.erase n) (fun x hx => by
      have hx2 := List.mem_of_mem_erase hx
      have := hl x hx2
      have hne : x ≠ n := fun e => by
        subst e
        exact (List.Nodup.not_mem_erase h) hx
      omega)
    have := List.length_erase (a := n) (l := l)
    split at this <;> omega
/-- the depth suffices -/
theorem pre_end (wf : WF R) {i : Nat} {r : NR} (hr : R[i]? = some r) (hi : r.inner = []) (d : Nat) : pre R d i = [i] := by
  cases d with
  | zero => rfl
  | succ d => show i :: (innerOf R i).flatMap (pre R d) = _; rw [innerOf_is hr, hi]; rfl
end
end LawK
namespace LawK
open PySem PySem.Spec PyProof.Rows L2 Ev
/-- a new node's dict, put behind the list of nodes -/
theorem push_dic (n : Nat) {S : Store} {b : Nat} {R : List NR} (h : NAt S b R) (hl : R.length ≤ 1000) {δ : Ev.Env} (h2 : δ[2]? = some (some (.loc (b + 2)))) (r : NR) (hr : r.inner = []) {eu ew ed ec : E}
    (q1 : ∀ T, evE (parOf Tt n) eu δ (S ++ T) = .ok (.int r.up) (S ++ T)) (q2 : ∀ T, evE (parOf Tt n) ew δ (S ++ T) = .ok (.bl r.wd) (S ++ T)) (q3 : ∀ T, evE (parOf Tt n) ed δ (S ++ T) = .ok (.int r.deep) (S ++ T)) (q4 : ∀ T, evE (parOf Tt n) ec δ (S ++ T) = .ok (.int r.cell) (S ++ T)) :
    ∃ S', NAt S' b (R ++ [r]) ∧ S'.take b = S.take b ∧ evE (parOf Tt n) (.app (.var 2) (.dic true ["up", "warden", "deep", "inner", "cell"] [eu, ew, ed, .lst true [], ec])) δ S = .ok .non S' := by
  have hb : b + 2 < S.length := by have := h.pos; have := h.len; omega
  refine ⟨_, h.push r hr, ?_, ?_⟩
  · rw [List.take_set_of_le (by omega), List.take_append_of_le_length (by omega)]
  · have la : lstAt S (.loc (b + 2)) = some (b + 2, (List.range R.length).map fun i => .loc (pl b i)) := by simp [lstAt, h.lst]
    have vals : evEs (parOf Tt n) [eu, ew, ed, .lst true [], ec] δ (S ++ [.dic []]) = .ok [.int r.up, .bl r.wd, .int r.deep, .loc (S.length + 1), .int r.cell] (S ++ [.dic [], .lst []]) := by
      have q4' := q4 [.dic [], .lst []]
      simp [q1, q2, q3, q4']
    have dd : dispM true ["up", "warden", "deep", "inner", "cell"] (.ok [.int r.up, .bl r.wd, .int r.deep, .loc (S.length + 1), .int r.cell] (S ++ [.dic [], .lst []])) S = .ok (.loc S.length) (S ++ [dicN r (S.length + 1), .lst []]) := by
      unfold dispM
      rw [bind_ok, if_pos ⟨rfl, by decide, by decide⟩, if_pos rfl]
      have g : (S ++ [Cell.dic [], .lst []])[S.length]? = some (.dic []) := by simp
      rw [g]
      simp [dicN]
    rw [evE_app, evE_var, h2, ofV_some, bind_ok, la]
    simp only [Option.isSome_some, if_true]
    rw [evE_dic, if_neg (by simp), vals, dd, bind_ok]
    unfold appD
    have la2 : lstAt (S ++ [dicN r (S.length + 1), .lst []]) (.loc (b + 2)) = some (b + 2, (List.range R.length).map fun i => .loc (pl b i)) := by
      simp only [lstAt]
      rw [List.getElem?_append_left hb, h.lst]
    rw [la2]
    simp only [List.length_map, List.length_range]
    rw [if_pos (by rw [LIM_nat]; omega)]
end LawK
namespace LawK
open PySem PySem.Spec PyProof.Rows L2 Ev
theorem free_mem {R : List NR} {i : Int} (h : i ∈ ((List.range R.length).map fun (i : Nat) => (0 : Int) + i).filter (freeI R)) : ∃ u r, i = ((u : Nat) : Int) ∧ R[u]? = some r ∧ r.wd = true ∧ r.inner.length < 8 := by
  rw [List.mem_filter] at h
  obtain ⟨h1, h2⟩ := h
  obtain ⟨u, hu, rfl⟩ := List.mem_map.mp h1
  have hu := List.mem_range.mp hu
  have hr : R[u]? = some R[u] := by simp [hu]
  have e : freeI R (0 + (u : Int)) = (R[u].wd && decide (R[u].inner.length < 8)) := by
    unfold freeI freeN
    rw [show (0 + (u : Int)).toNat = u by omega, hr]
  rw [e, Bool.and_eq_true, decide_eq_true_eq] at h2
  exact ⟨u, R[u], by omega, hr, h2.1, h2.2⟩
theorem inner_app (n : Nat) {S : Store} {b : Nat} {R : List NR} (h : NAt S b R) (hl : R.length ≤ 1000) {u : Nat} {r : NR} (hr : R[u]? = some r) (h8 : r.inner.length ≤ 8) {δ : Ev.Env} {eu : E}
    (h2 : δ[2]? = some (some (.loc (b + 2)))) (qu : ∀ S, evE (parOf Tt n) eu δ S = .ok (.int (u : Int)) S) :
    evE (parOf Tt n) (.app (.op2 .get (.op2 .get (.var 2) eu) (.lit (.str "inner"))) (.op1 .len (.var 2))) δ S = .ok .non (S.set (pl b u + 1) (.lst (innD r ++ [.int (R.length : Int)]))) := by
  have hu := (List.getElem?_eq_some_iff.mp hr).1
  have q1 := h.toNRd.node hu
  have q2 := h.toNRd.inn' hr
  have ln : op1 S .len (.loc (b + 2)) = some (.int R.length) := by
    have e : op1 S .len (.loc (b + 2)) = (Ev.items S (.loc (b + 2))).map fun xs => .int xs.length := rfl
    rw [e, h.toNRd.count]
    simp
  have la : lstAt S (.loc (pl b u + 1)) = some (pl b u + 1, innD r) := by simp [lstAt, h.inn u r hr]
  simp only [evE_app, evE_op2, evE_op1, evE_var, h2, ofV_some, bind_ok, qu, q1, ofO_some, evE_lit, q2, la, Option.isSome_some, if_true, ln]
  unfold appD
  rw [la]
  dsimp only
  rw [if_pos (by simp [innD]; omega)]
end LawK
namespace LawK
open PySem PySem.Spec PyProof.Rows L2 Ev
def Root (R : List NR) : Prop := ∃ r, R[0]? = some r ∧ r.wd = true ∧ r.deep = 1
theorem root_set {R : List NR} (h : Root R) {u : Nat} {r : NR} (hr : R[u]? = some r) (l : List Nat) (q : NR) : Root (R.set u { r with inner := l } ++ [q]) := by
  obtain ⟨r0, h0, hw⟩ := h
  have h0l := (List.getElem?_eq_some_iff.mp h0).1
  by_cases hu : u = 0
  · subst hu
    rw [hr] at h0; cases h0
    refine ⟨{ r with inner := l }, ?_, hw⟩
    rw [List.getElem?_append_left (by simpa using h0l), List.getElem?_set_self h0l]
  · refine ⟨r0, ?_, hw⟩
    rw [List.getElem?_append_left (by simpa using h0l), List.getElem?_set_ne hu, h0]
theorem nodes_body (n : Nat) {S : Store} {b : Nat} {R : List NR} (h : NAt S b R) (wf : WF R) (rt : Root R) (hl : R.length ≤ 100) (ns : List Int) (many : D) (k : Nat) (o4 o5 o6 o7 o8 o9 : Option D) :
    ∃ R' S' p4 p5 p6 p7 p8 p9, evB (parOf Tt (n + 1)) b_law_nodes_1 [some (.scr ns), some many, some (.loc (b + 2)), some (.int (k : Int)), o4, o5, o6, o7, o8, o9] S = .nx [some (.scr ns), some many, some (.loc (b + 2)), some (.int (k : Int)), p4, p5, p6, p7, p8, p9] S' ∧
      NAt S' b R' ∧ WF R' ∧ Root R' ∧ S'.take b = S.take b ∧ R.length ≤ R'.length ∧ R'.length ≤ R.length + 1 := by
  have cc : ∀ S, callF Tt (n + 1) 8 [.scr ns, .int (3 + (k : Int) % 10)] S = .ok (.int (ns.getD (3 + k % 10) 0)) S := fun S => by
    have := cell_at n ns (3 + k % 10) S
    rw [show ((3 + k % 10 : Nat) : Int) = 3 + (k : Int) % 10 by omega] at this
    exact this
  generalize ns.getD (3 + k % 10) 0 = z at cc
  have f1 := free_list (n + 1) h.toNRd (by omega) (δ := [some (.scr ns), some many, some (.loc (b + 2)), some (.int (k : Int)), some (.int (z + 11 * ((k : Int) / 10))), o5, o6, o7, o8, o9]) rfl rfl
  generalize hF : ((List.range R.length).map fun (i : Nat) => (0 : Int) + i).filter (freeI R) = F at f1
  generalize hx : z + 11 * ((k : Int) / 10) = x at f1
  have nn : op2 S .ne (.lst (intsD F)) (.lst []) = some (.bl (!(intsD F).isEmpty)) := ne_nil (flats_ints _ _)
  cases hFe : F with
  | nil =>
    subst hFe
    refine ⟨R, S, some (.int x), some (.lst []), o6, o7, o8, o9, ?_, h, wf, rt, rfl, by omega, by omega⟩
    have nn : op2 S .ne (.lst []) (.lst []) = some (.bl false) := nn
    have f1 := f1
    simp only [intsD, List.map_nil] at f1
    simp [b_law_nodes_1, cc, hx, f1, nn]
  | cons f0 fr =>
    have nn2 : op2 S .ne (.lst (intsD F)) (.lst []) = some (.bl true) := by rw [nn, hFe]; rfl
    have lF : F.length = fr.length + 1 := by rw [hFe]; rfl
    obtain ⟨d, hd, pk⟩ := pick (xs := intsD F) (i := x / 4 % F.length) (by rw [ints_len]; exact ⟨Int.emod_nonneg _ (by omega), Int.emod_lt_of_pos _ (by omega)⟩)
    obtain ⟨i, rfl, hi⟩ := mem_ints hd
    rw [← hF] at hi
    obtain ⟨u, r, rfl, hr, hw, h8⟩ := free_mem hi
    have hu := (List.getElem?_eq_some_iff.mp hr).1
    have hur : (u : Int) < R.length := by omega
    generalize hwd : (decide (x % 4 = 3) && decide (r.deep < 6)) = wd
    have h1 := h.inner hr R.length
    have hl1 : (R.set u { r with inner := r.inner ++ [R.length] }).length = R.length := List.length_set
    have hr1 : (R.set u { r with inner := r.inner ++ [R.length] })[u]? = some { r with inner := r.inner ++ [R.length] } := List.getElem?_set_self hu
    have q1 := h.toNRd.node hu
    have q2 := h.toNRd.deep hr
    have q3 := h1.toNRd.node (i := u) (by rw [hl1]; exact hu)
    have q4 := h1.toNRd.deep hr1
    have ia := inner_app (n + 1) h (by omega) hr (by omega) (δ := [some (.scr ns), some many, some (.loc (b + 2)), some (.int (k : Int)), some (.int x), some (.lst (intsD F)), some (.int (u : Int)), some (.bl wd), o8, o9]) (eu := .var 6) rfl (fun S => rfl)
    obtain ⟨S', n1, n2, n3⟩ := push_dic (n + 1) h1 (by rw [hl1]; omega) (δ := [some (.scr ns), some many, some (.loc (b + 2)), some (.int (k : Int)), some (.int x), some (.lst (intsD F)), some (.int (u : Int)), some (.bl wd), some (.int (r.deep + 1)), o9]) rfl { up := u, wd := wd, deep := r.deep + 1, inner := [], cell := x / 32 } rfl
      (eu := .var 6) (ew := .var 7) (ed := .var 8) (ec := .op2 .fdiv (.var 4) (.lit (.int 32))) (fun T => rfl) (fun T => rfl) (fun T => rfl) (fun T => by simp)
    have tk : S'.take b = S.take b := by
      rw [n2, List.take_set_of_le]
      unfold pl
      split <;> omega
    refine ⟨_, S', some (.int x), some (.lst (intsD F)), some (.int (u : Int)), some (.bl wd), some (.int (r.deep + 1)), o9, ?_, n1, WF.add wf hr hw h8 wd (fun e => ?_) _ _, root_set rt hr _ _, tk, by simp, by simp⟩
    · have lnF : op1 S .len (.lst (intsD F)) = some (.int F.length) := by
        have e : op1 S .len (.lst (intsD F)) = some (.int (intsD F).length) := rfl
        rw [e, ints_len]
      have pk' : op2 S .get (.lst (intsD F)) (.int (x / 4 % F.length)) = some (.int (u : Int)) := by
        have e : op2 S .get (.lst (intsD F)) (.int (x / 4 % F.length)) = ixD (intsD F) (x / 4 % F.length) := rfl
        rw [e]
        exact pk
      have md : op2 S .mod (.int (x / 4)) (.int F.length) = some (.int (x / 4 % F.length)) := o_mod _ _ _ (by omega)
      have wdE : evE (parOf Tt (n + 1)) (.and (.op2 .eq (.op2 .mod (.var 4) (.lit (.int 4))) (.lit (.int 3))) (.op2 .lt (.op2 .get (.op2 .get (.var 2) (.var 6)) (.lit (.str "deep"))) (.lit (.int 6)))) [some (.scr ns), some many, some (.loc (b + 2)), some (.int (k : Int)), some (.int x), some (.lst (intsD F)), some (.int (u : Int)), o7, o8, o9] S = .ok (.bl wd) S := by
        rw [← hwd]
        by_cases h3 : x % 4 = 3
        · by_cases h6 : r.deep < 6
          · simp [q1, q2, h3, h6]
          · simp [q1, q2, h3, h6]
        · simp [q1, q2, h3]
      rw [b_law_nodes_1]
      rw [evB_cons]
      rw [show evS (parOf Tt (n + 1)) (.set 4 (.op2 .add (.call 8 [.var 0, .op2 .add (.lit (.int 3)) (.op2 .mod (.var 3) (.lit (.int 10)))]) (.op2 .mul (.lit (.int 11)) (.op2 .fdiv (.var 3) (.lit (.int 10)))))) [some (.scr ns), some many, some (.loc (b + 2)), some (.int (k : Int)), o4, o5, o6, o7, o8, o9] S = .nx [some (.scr ns), some many, some (.loc (b + 2)), some (.int (k : Int)), some (.int x), o5, o6, o7, o8, o9] S by simp [cc, hx]]
      rw [seq_nx, evB_cons, evS_set, evE_cmp]
      have f1' := f1
      rw [f1', thenS_ok, seq_nx, evB_cons, evS_ite]
      simp only [List.set_cons_succ, List.set_cons_zero]
      simp only [evE_op2 (o := .ne), evE_lst, evE_var, evEs_nil, bind_ok, List.getElem?_cons_succ, List.getElem?_cons_zero, ofV_some, newL]
      simp only [List.length_nil, Nat.zero_le, if_true, bind_ok, Bool.false_eq_true, if_false]
      simp only [nn2, ofO_some, thenS_ok, ifB_bl, if_true]
      rw [evB_cons]
      rw [show evS (parOf Tt (n + 1)) (.set 6 (.op2 .get (.var 5) (.op2 .mod (.op2 .fdiv (.var 4) (.lit (.int 4))) (.op1 .len (.var 5))))) [some (.scr ns), some many, some (.loc (b + 2)), some (.int (k : Int)), some (.int x), some (.lst (intsD F)), o6, o7, o8, o9] S = .nx [some (.scr ns), some many, some (.loc (b + 2)), some (.int (k : Int)), some (.int x), some (.lst (intsD F)), some (.int (u : Int)), o7, o8, o9] S by simp [lnF, md, pk']]
      rw [seq_nx, evB_cons, evS_set, wdE, thenS_ok, seq_nx, evB_cons, evS_ex]
      simp only [List.set_cons_succ, List.set_cons_zero]
      rw [ia, thenS_ok, seq_nx, evB_cons]
      rw [show evS (parOf Tt (n + 1)) (.set 8 (.op2 .add (.op2 .get (.op2 .get (.var 2) (.var 6)) (.lit (.str "deep"))) (.lit (.int 1)))) [some (.scr ns), some many, some (.loc (b + 2)), some (.int (k : Int)), some (.int x), some (.lst (intsD F)), some (.int (u : Int)), some (.bl wd), o8, o9] (S.set (pl b u + 1) (.lst (innD r ++ [.int (R.length : Int)]))) = .nx [some (.scr ns), some many, some (.loc (b + 2)), some (.int (k : Int)), some (.int x), some (.lst (intsD F)), some (.int (u : Int)), some (.bl wd), some (.int (r.deep + 1)), o9] (S.set (pl b u + 1) (.lst (innD r ++ [.int (R.length : Int)]))) by simp [q3, q4]]
      rw [seq_nx, evB_cons, evS_ex, n3, thenS_ok, seq_nx, evB_nil, seq_nx, evB_nil]
    · rw [← hwd] at e
      simp at e
      exact e.2
end LawK
namespace LawK
open PySem PySem.Spec PyProof.Rows L2 Ev
/-- behind the second loop's turns: each warden before k has a part -/
structure Fed (L k : Nat) (R : List NR) : Prop where
  le : L ≤ R.length
  up : R.length ≤ L + k
  wd : ∀ (i : Nat) (r : NR), R[i]? = some r → r.wd = true → i < L ∧ (i < k → r.inner ≠ [])
theorem inn_eq {S : Store} {b : Nat} {R : List NR} (h : NRd S b R) {i : Nat} {r : NR} (hr : R[i]? = some r) : op2 S .eq (.loc (pl b i + 1)) (.lst []) = some (.bl r.inner.isEmpty) := by
  have e := h.items hr
  have f : flats 59 (innD r) = true := by
    apply flats_of
    intro x hx
    obtain ⟨j, _, rfl⟩ := List.mem_map.mp hx
    rfl
  have e2 : op2 S .eq (.loc (pl b i + 1)) (.lst []) = op2 S .eq (.lst (innD r)) (.lst []) := by
    rw [op2_eq, op2_eq, byVal_items e]
    rfl
  rw [e2, eq_nil f]
  cases hi : r.inner <;> simp [innD, hi]
theorem nodes_body2 (n : Nat) {S : Store} {b : Nat} {R : List NR} (h : NAt S b R) (wf : WF R) (rt : Root R) {L k : Nat} (fd : Fed L k R) (hk : k < L) (hl : L ≤ 60) (ns : List Int) (many : D) (o4 o5 o6 o7 o8 o9 : Option D) :
    ∃ R' S' p8, evB (parOf Tt (n + 1)) b_law_nodes_2 [some (.scr ns), some many, some (.loc (b + 2)), some (.int (k : Int)), o4, o5, o6, o7, o8, o9] S = .nx [some (.scr ns), some many, some (.loc (b + 2)), some (.int (k : Int)), o4, o5, o6, o7, p8, o9] S' ∧
      NAt S' b R' ∧ WF R' ∧ Root R' ∧ S'.take b = S.take b ∧ Fed L (k + 1) R' := by
  have hkR : k < R.length := by have := fd.le; omega
  have hRl : R.length ≤ 120 := by have := fd.up; omega
  have hr : R[k]? = some R[k] := by simp [hkR]
  generalize R[k] = r at hr
  have q1 := h.toNRd.node hkR
  have q2 := h.toNRd.wd hr
  have q3 := h.toNRd.inn' hr
  have q4 := inn_eq h.toNRd hr
  cases hw : r.wd
  · refine ⟨R, S, o8, ?_, h, wf, rt, rfl, ⟨fd.le, by have := fd.up; omega, fun i q hq hqw => ?_⟩⟩
    · simp [b_law_nodes_2, q1, q2, hw]
    · obtain ⟨h1, h2⟩ := fd.wd i q hq hqw
      refine ⟨h1, fun hi => ?_⟩
      by_cases hik : i = k
      · subst hik
        rw [hr] at hq; cases hq
        rw [hw] at hqw; cases hqw
      · exact h2 (by omega)
  · by_cases hin : r.inner = []
    · have h1 := h.inner hr R.length
      have hl1 : (R.set k { r with inner := r.inner ++ [R.length] }).length = R.length := List.length_set
      have hr1 : (R.set k { r with inner := r.inner ++ [R.length] })[k]? = some { r with inner := r.inner ++ [R.length] } := List.getElem?_set_self hkR
      have q5 := h1.toNRd.node (i := k) (by rw [hl1]; exact hkR)
      have q6 := h1.toNRd.deep hr1
      have q7 := h1.toNRd.cell hr1
      have ia := inner_app (n + 1) h (by omega) hr (by rw [hin]; simp) (δ := [some (.scr ns), some many, some (.loc (b + 2)), some (.int (k : Int)), o4, o5, o6, o7, o8, o9]) (eu := .var 3) rfl (fun S => rfl)
      obtain ⟨S', n1, n2, n3⟩ := push_dic (n + 1) h1 (by rw [hl1]; omega) (δ := [some (.scr ns), some many, some (.loc (b + 2)), some (.int (k : Int)), o4, o5, o6, o7, some (.int (r.deep + 1)), o9]) rfl { up := k, wd := false, deep := r.deep + 1, inner := [], cell := r.cell / 7 } rfl
        (eu := .var 3) (ew := .lit (.bl false)) (ed := .var 8) (ec := .op2 .fdiv (.op2 .get (.op2 .get (.var 2) (.var 3)) (.lit (.str "cell"))) (.lit (.int 7))) (fun T => rfl) (fun T => rfl) (fun T => rfl) (fun T => by
          have a1 := (h1.toNRd.app T).node (i := k) (by rw [hl1]; exact hkR)
          have a2 := (h1.toNRd.app T).cell hr1
          simp [a1, a2])
      have tk : S'.take b = S.take b := by
        rw [n2, List.take_set_of_le]
        unfold pl
        split <;> omega
      refine ⟨_, S', some (.int (r.deep + 1)), ?_, n1, WF.add wf hr hw (by rw [hin]; simp) false (fun e => by cases e) _ _, root_set rt hr _ _, tk, ⟨?_, ?_, fun i q hq hqw => ?_⟩⟩
      · rw [b_law_nodes_2, evB_cons, evS_ite]
        have c : evE (parOf Tt (n + 1)) (.and (.op2 .get (.op2 .get (.var 2) (.var 3)) (.lit (.str "warden"))) (.op2 .eq (.op2 .get (.op2 .get (.var 2) (.var 3)) (.lit (.str "inner"))) (.lst false []))) [some (.scr ns), some many, some (.loc (b + 2)), some (.int (k : Int)), o4, o5, o6, o7, o8, o9] S = .ok (.bl true) S := by
          simp [q1, q2, q3, q4, hw, hin]
        rw [c, thenS_ok, ifB_bl, if_pos rfl, evB_cons, evS_ex, ia, thenS_ok, seq_nx, evB_cons]
        rw [show evS (parOf Tt (n + 1)) (.set 8 (.op2 .add (.op2 .get (.op2 .get (.var 2) (.var 3)) (.lit (.str "deep"))) (.lit (.int 1)))) [some (.scr ns), some many, some (.loc (b + 2)), some (.int (k : Int)), o4, o5, o6, o7, o8, o9] (S.set (pl b k + 1) (.lst (innD r ++ [.int (R.length : Int)]))) = .nx [some (.scr ns), some many, some (.loc (b + 2)), some (.int (k : Int)), o4, o5, o6, o7, some (.int (r.deep + 1)), o9] (S.set (pl b k + 1) (.lst (innD r ++ [.int (R.length : Int)]))) by simp [q5, q6]]
        rw [seq_nx, evB_cons, evS_ex, n3, thenS_ok, seq_nx, evB_nil, seq_nx, evB_nil]
      · have := fd.le
        simp; omega
      · have := fd.up
        simp; omega
      · by_cases hiR : i < R.length
        · rw [List.getElem?_append_left (by simpa using hiR)] at hq
          by_cases hik : k = i
          · subst hik
            rw [List.getElem?_set_self hiR] at hq
            cases hq
            exact ⟨hk, fun _ => by simp⟩
          · rw [List.getElem?_set_ne hik] at hq
            obtain ⟨h1, h2⟩ := fd.wd i q hq hqw
            exact ⟨h1, fun hi => h2 (by omega)⟩
        · rw [List.getElem?_append_right (by simpa using hiR)] at hq
          have := (List.getElem?_eq_some_iff.mp hq).1
          have hi0 : i - (R.set k { r with inner := r.inner ++ [R.length] }).length = 0 := by simp at this ⊢; omega
          rw [hi0] at hq
          simp at hq
          subst hq
          cases hqw
    · refine ⟨R, S, o8, ?_, h, wf, rt, rfl, ⟨fd.le, by have := fd.up; omega, fun i q hq hqw => ?_⟩⟩
      · have : r.inner.isEmpty = false := by cases hi : r.inner with
          | nil => exact absurd hi hin
          | cons _ _ => rfl
        simp [b_law_nodes_2, q1, q2, hw, q3, q4, this]
      · obtain ⟨h1, h2⟩ := fd.wd i q hq hqw
        refine ⟨h1, fun hi => ?_⟩
        by_cases hik : i = k
        · subst hik
          rw [hr] at hq; cases hq
          exact hin
        · exact h2 (by omega)
end LawK
namespace LawK
open PySem PySem.Spec PyProof.Rows L2 Ev
theorem sFor_is {tg : Tg} {ik : IK} {gi : Ev.Env → Store → R (List D)} {u : BF} {δ : Ev.Env} {S S1 : Store} {ds xs : List D} {ch : List (Nat × List D)} (h1 : gi δ S = .ok ds S1) (h2 : walkOf S1 ik ds = some (xs, ch)) : sFor tg ik gi u δ S = forL ch tg u xs δ S1 := by
  unfold sFor
  rw [h1]
  dsimp only
  rw [h2]
theorem rng_get1 {b : Int} {i : Nat} {x : D} (h : (rngD 1 b)[i]? = some x) : (i : Int) + 1 < b ∧ x = .int ((i + 1 : Nat) : Int) := by
  unfold rngD at h
  rw [List.getElem?_map] at h
  obtain ⟨j, h1, h2⟩ := Option.map_eq_some_iff.mp h
  obtain ⟨h3, h4⟩ := List.getElem?_eq_some_iff.mp h1
  simp at h3 h4
  subst h4
  refine ⟨by omega, ?_⟩
  rw [← h2]
  congr 1
  omega
def rec0 (z : Int) : NR := { up := -1, wd := true, deep := 1, inner := [], cell := z }
theorem nodes_init (n : Nat) (S : Store) (ns : List Int) (m : D) : evS (parOf Tt (n + 1)) s_law_nodes_0 [some (.scr ns), some m, none, none, none, none, none, none, none, none] S =
    .nx [some (.scr ns), some m, some (.loc (S.length + 2)), none, none, none, none, none, none, none] (S ++ [dicN (rec0 (ns.getD 2 0)) (S.length + 1), .lst [], .lst [.loc S.length]]) := by
  have cc := cell_at n ns 2
  generalize ns.getD 2 0 = z at cc
  have vals : evEs (parOf Tt (n + 1)) [.op1 .neg (.lit (.int 1)), .lit (.bl true), .lit (.int 1), .lst true [], .call 8 [.var 0, .lit (.int 2)]] [some (.scr ns), some m, none, none, none, none, none, none, none, none] (S ++ [.dic []]) = .ok [.int (-1), .bl true, .int 1, .loc (S.length + 1), .int z] (S ++ [.dic [], .lst []]) := by
    have c2 := cc (S ++ [.dic [], .lst []])
    have c2 : callF Tt (n + 1) 8 [.scr ns, .int 2] (S ++ [.dic [], .lst []]) = .ok (.int z) (S ++ [.dic [], .lst []]) := c2
    simp [c2]
  have dd : dispM true ["up", "warden", "deep", "inner", "cell"] (.ok [.int (-1), .bl true, .int 1, .loc (S.length + 1), .int z] (S ++ [.dic [], .lst []])) S = .ok (.loc S.length) (S ++ [dicN (rec0 z) (S.length + 1), .lst []]) := by
    unfold dispM
    rw [bind_ok, if_pos ⟨rfl, by decide, by decide⟩, if_pos rfl]
    have g : (S ++ [Cell.dic [], .lst []])[S.length]? = some (.dic []) := by simp
    rw [g]
    simp [dicN, rec0]
  rw [s_law_nodes_0, evS_set, evE_lst, evEs_cons, evE_dic, if_neg (by simp), vals, dd, bind_ok, evEs_nil, bind_ok, bind_ok, if_pos (by rw [LIM_nat]; simp), newL_t, thenS_ok]
  simp
theorem nat0 {S : Store} (z : Int) : NAt (S ++ [dicN (rec0 z) (S.length + 1), .lst [], .lst [.loc S.length]]) S.length [rec0 z] where
  len := by simp
  pos := by simp
  lst := by
    rw [List.getElem?_append_right (by omega)]
    simp [pl]
  dic := fun i r hr => by
    have hi : i = 0 := by
      have := (List.getElem?_eq_some_iff.mp hr).1
      simp at this; exact this
    subst hi
    simp at hr
    subst hr
    simp [pl]
  inn := fun i r hr => by
    have hi : i = 0 := by
      have := (List.getElem?_eq_some_iff.mp hr).1
      simp at this; exact this
    subst hi
    simp at hr
    subst hr
    rw [List.getElem?_append_right (by simp [pl])]
    simp [pl, innD, rec0]
theorem wf0 (z : Int) : WF [rec0 z] := by
  have one : ∀ (i : Nat) (r : NR), [rec0 z][i]? = some r → r = rec0 z := fun i r h => by
    have := List.mem_of_getElem? h
    simpa using this
  refine ⟨fun i r h j hj => ?_, fun i r h _ => ?_, fun i r h _ => ?_, fun i r h => ?_, fun i r h => ?_, fun i r h => ?_, fun i i' r r' h h' j hj hj' => ?_⟩ <;> (have e := one i r h; subst e)
  · cases hj
  · show (1 : Int) ≤ 6; omega
  · rfl
  · show 0 ≤ 8; omega
  · constructor <;> (show _ ≤ _; simp [rec0])
  · exact List.nodup_nil
  · cases hj
theorem nodes_1 (n : Nat) {S S0 : Store} (ns : List Int) (m : Int) (hm : 1 ≤ m ∧ m ≤ 30) {R : List NR} (h : NAt S S0.length R) (wf : WF R) (rt : Root R) (hS : S.take S0.length = S0) (hR : R.length = 1) :
    ∃ R' S' p3 p4 p5 p6 p7 p8 p9, evS (parOf Tt (n + 1)) s_law_nodes_1 [some (.scr ns), some (.int m), some (.loc (S0.length + 2)), none, none, none, none, none, none, none] S = .nx [some (.scr ns), some (.int m), some (.loc (S0.length + 2)), p3, p4, p5, p6, p7, p8, p9] S' ∧
      NAt S' S0.length R' ∧ WF R' ∧ Root R' ∧ S'.take S0.length = S0 ∧ R'.length ≤ 30 := by
  have ll : (rngD 1 m).length = (m - 1).toNat := by simp [rngD]
  obtain ⟨δ', S', e, R', p3, p4, p5, p6, p7, p8, p9, hδ, h1, h2, h3, h4, h5⟩ := forL_run (ch := []) (tg := .nm 3) (f := fun δ S => evB (parOf Tt (n + 1)) b_law_nodes_1 δ S) (fun i δ S' => ∃ R' p3 p4 p5 p6 p7 p8 p9, δ = [some (.scr ns), some (.int m), some (.loc (S0.length + 2)), p3, p4, p5, p6, p7, p8, p9] ∧
      NAt S' S0.length R' ∧ WF R' ∧ Root R' ∧ S'.take S0.length = S0 ∧ R'.length ≤ 1 + i)
    (xs := rngD 1 m) (k := 0) (δ := [some (.scr ns), some (.int m), some (.loc (S0.length + 2)), none, none, none, none, none, none, none]) (S := S)
    ⟨R, none, none, none, none, none, none, none, rfl, h, wf, rt, hS, by omega⟩ (fun _ _ _ _ => stays_nil) (by
    rintro i y δ S1 hy ⟨R1, p3, p4, p5, p6, p7, p8, p9, rfl, h1, h2, h3, h4, h5⟩
    obtain ⟨hi, rfl⟩ := rng_get1 hy
    refine ⟨[some (.scr ns), some (.int m), some (.loc (S0.length + 2)), some (.int ((i + 1 : Nat) : Int)), p4, p5, p6, p7, p8, p9], rfl, ?_⟩
    obtain ⟨R2, S2, q4, q5, q6, q7, q8, q9, e, g1, g2, g3, g4, g5, g6⟩ := nodes_body n h1 h2 h3 (by omega) ns (.int m) (i + 1) p4 p5 p6 p7 p8 p9
    exact ⟨_, _, e, R2, _, q4, q5, q6, q7, q8, q9, rfl, g1, g2, g3, by rw [g4, h4], by omega⟩)
  subst hδ
  refine ⟨R', S', p3, p4, p5, p6, p7, p8, p9, ?_, h1, h2, h3, h4, by omega⟩
  have w1 : evEs (parOf Tt (n + 1)) [.lit (.int 1), .var 1] [some (.scr ns), some (.int m), some (.loc (S0.length + 2)), none, none, none, none, none, none, none] S = .ok [.int 1, .int m] S := by simp
  have w2 : walkOf S .rng2 [.int 1, .int m] = some (rngD 1 m, []) := by
    simp only [walkOf]
    rw [if_pos ⟨by omega, by omega⟩]
  rw [s_law_nodes_1, evS_for, sFor_is w1 w2]
  exact e
theorem nodes_2 (n : Nat) {S S0 : Store} (ns : List Int) (m : D) {R : List NR} (h : NAt S S0.length R) (wf : WF R) (rt : Root R) (hS : S.take S0.length = S0) (hR : R.length ≤ 30) (p3 p4 p5 p6 p7 p8 p9 : Option D) :
    ∃ R' S' q3 q4 q5 q6 q7 q8 q9, evS (parOf Tt (n + 1)) s_law_nodes_2 [some (.scr ns), some m, some (.loc (S0.length + 2)), p3, p4, p5, p6, p7, p8, p9] S = .nx [some (.scr ns), some m, some (.loc (S0.length + 2)), q3, q4, q5, q6, q7, q8, q9] S' ∧
      NAt S' S0.length R' ∧ WF R' ∧ Root R' ∧ S'.take S0.length = S0 ∧ R'.length ≤ 60 ∧ ∀ (i : Nat) (r : NR), R'[i]? = some r → r.wd = true → r.inner ≠ [] := by
  have ll : (rngD 0 (R.length : Int)).length = R.length := by simp [rngD]
  obtain ⟨δ', S', e, R', p3', p4', p5', p6', p7', p8', p9', hδ, h1, h2, h3, h4, h5⟩ := forL_run (ch := []) (tg := .nm 3) (f := fun δ S => evB (parOf Tt (n + 1)) b_law_nodes_2 δ S) (fun i δ S' => ∃ R' p3 p4 p5 p6 p7 p8 p9, δ = [some (.scr ns), some m, some (.loc (S0.length + 2)), p3, p4, p5, p6, p7, p8, p9] ∧
      NAt S' S0.length R' ∧ WF R' ∧ Root R' ∧ S'.take S0.length = S0 ∧ Fed R.length i R')
    (xs := rngD 0 (R.length : Int)) (k := 0) (δ := [some (.scr ns), some m, some (.loc (S0.length + 2)), p3, p4, p5, p6, p7, p8, p9]) (S := S)
    ⟨R, p3, p4, p5, p6, p7, p8, p9, rfl, h, wf, rt, hS, ⟨by omega, by omega, fun i r hr _ => ⟨(List.getElem?_eq_some_iff.mp hr).1, fun h => by omega⟩⟩⟩ (fun _ _ _ _ => stays_nil) (by
    rintro i y δ S1 hy ⟨R1, p3, p4, p5, p6, p7, p8, p9, rfl, h1, h2, h3, h4, h5⟩
    obtain ⟨hi, rfl⟩ := rng_get hy
    rw [Nat.zero_add] at h5
    refine ⟨[some (.scr ns), some m, some (.loc (S0.length + 2)), some (.int (i : Int)), p4, p5, p6, p7, p8, p9], rfl, ?_⟩
    obtain ⟨R2, S2, q8, e, g1, g2, g3, g4, g5⟩ := nodes_body2 n h1 h2 h3 h5 (by omega) (by omega) ns m p4 p5 p6 p7 p8 p9
    exact ⟨_, _, e, R2, _, p4, p5, p6, p7, q8, p9, rfl, g1, g2, g3, by rw [g4, h4], by rw [Nat.zero_add]; exact g5⟩)
  subst hδ
  rw [Nat.zero_add, ll] at h5
  refine ⟨R', S', p3', p4', p5', p6', p7', p8', p9', ?_, h1, h2, h3, h4, by have := h5.up; omega, fun i r hr hw => ?_⟩
  · have w1 : evEs (parOf Tt (n + 1)) [.op1 .len (.var 2)] [some (.scr ns), some m, some (.loc (S0.length + 2)), p3, p4, p5, p6, p7, p8, p9] S = .ok [.int R.length] S := by
      have ln : op1 S .len (.loc (S0.length + 2)) = some (.int R.length) := by
        have e : op1 S .len (.loc (S0.length + 2)) = (Ev.items S (.loc (S0.length + 2))).map fun xs => .int xs.length := rfl
        rw [e, h.toNRd.count]
        simp
      simp [ln]
    have w2 : walkOf S .rng1 [.int R.length] = some (rngD 0 R.length, []) := by
      simp only [walkOf]
      rw [if_pos (by omega)]
    rw [s_law_nodes_2, evS_for, sFor_is w1 w2]
    exact e
  · obtain ⟨a, b⟩ := h5.wd i r hr hw
    exact b a
theorem law_nodes (n : Nat) (S : Store) (ns : List Int) (m : Int) (hm : 1 ≤ m ∧ m ≤ 30) : ∃ R S', callF Tt (n + 2) 11 [.scr ns, .int m] S = .ok (.loc (S.length + 2)) S' ∧ NAt S' S.length R ∧ WF R ∧ Root R ∧ S'.take S.length = S ∧ R.length ≤ 60 ∧
    ∀ (i : Nat) (r : NR), R[i]? = some r → r.wd = true → r.inner ≠ [] := by
  rw [callF_is (fd := f_law_nodes) rfl rfl]
  show ∃ R S', endF false S (evB (parOf Tt (n + 1)) [s_law_nodes_0, s_law_nodes_1, s_law_nodes_2, s_law_nodes_3] [some (.scr ns), some (.int m), none, none, none, none, none, none, none, none] S) = _ ∧ _
  obtain ⟨R1, S1, p3, p4, p5, p6, p7, p8, p9, e1, h1, h2, h3, h4, h5⟩ := nodes_1 n ns m hm (nat0 (S := S) (ns.getD 2 0)) (wf0 _) ⟨_, rfl, rfl, rfl⟩ (by simp) rfl
  obtain ⟨R2, S2, q3, q4, q5, q6, q7, q8, q9, e2, g1, g2, g3, g4, g5, g6⟩ := nodes_2 n ns (.int m) h1 h2 h3 h4 h5 p3 p4 p5 p6 p7 p8 p9
  refine ⟨R2, S2, ?_, g1, g2, g3, g4, g5, g6⟩
  rw [evB_cons, nodes_init, seq_nx, evB_cons, e1, seq_nx, evB_cons, e2, seq_nx, evB_cons, s_law_nodes_3]
  simp
end LawK
namespace LawK
open PySem PySem.Spec PyProof.Rows L2 Ev
theorem okP_s {m : Nat} {s : Str} (h : s.length ≤ 20 ∧ ascii s = true) : okP m (.str s) = true := by
  cases m <;> simp [okP, h.1, h.2]
theorem okP_mk {m : Nat} {xs : List D} (hl : xs.length ≤ 10) (h : ∀ x ∈ xs, okP m x = true) : okP (m + 1) (.tup xs) = true := by
  simp only [okP, Bool.and_eq_true, decide_eq_true_eq]
  exact ⟨hl, okPs_mem.mpr h⟩
theorem okP_i {m : Nat} {i : Int} (h : 0 ≤ i ∧ i ≤ 1000000000) : okP m (.int i) = true := by
  cases m <;> simp only [okP, Bool.and_eq_true, decide_eq_true_eq] <;> omega
theorem az_small (c : Nat) (h : az c = true) : c < 128 := by
  have k : ∀ c ∈ ("abcdefghijklmnopqrstuvwxyz" : Str).cps.toList, c < 128 := by decide +kernel
  exact k c (by simpa [az] using h)
theorem name_okP {m : Nat} {nm : Str} (h : nameD (.str nm) = true) : okP m (.str nm) = true := by
  simp only [nameD, Bool.and_eq_true, decide_eq_true_eq, List.all_eq_true] at h
  refine okP_s ⟨by omega, ?_⟩
  unfold ascii
  rw [List.all_eq_true]
  exact fun c hc => decide_eq_true (az_small c (h.2.2 c hc))
theorem words_P : ∀ w ∈ (["worker", "never", "warden", "one", "rest", "all", "always", "faulted"] : List Str), w.length ≤ 20 ∧ ascii w = true := by decide +kernel
theorem ruleN_mem (i : Nat) : ruleN i ∈ (["one", "rest", "all"] : List Str) := by
  unfold ruleN
  split
  · simp
  · split <;> simp
/-- a node: whether it is a warden, its name -/
def rn (R : List NR) (nms : List Str) (j : Nat) : Bool × Str := (match R[j]? with
  | some r => r.wd
  | none => false, nms.getD j "")
section
variable {b : Nat} {R : List NR} {nms : List Str}
theorem part_w (hl : R.length ≤ nms.length) (hn : ∀ nm ∈ nms, nameD (.str nm) = true) {i : Nat} {r : NR} (hr : R[i]? = some r) (hw : r.wd = false) :
    ∃ x, (∀ m, okP (m + 1) x = true) ∧ workerD x = true ∧ (flatP x).map kn = [rn R nms i] ∧ ∀ n S, NRd S b R → callF Tt (n + 1) 15 [.loc (b + 2), .lst (strD nms), .int (i : Int)] S = .ok x S := by
  have hi := (List.getElem?_eq_some_iff.mp hr).1
  obtain ⟨d, hd, e⟩ := pick (xs := [.str "always", .str "faulted", .str "never", .str "faulted"]) (i := r.cell % 4) (by simp; omega)
  have hd : ∃ u, d = .str u ∧ u ∈ W3 := by
    simp at hd
    rcases hd with rfl | rfl | rfl | rfl <;> exact ⟨_, rfl, by simp [W3]⟩
  obtain ⟨u, rfl, hu⟩ := hd
  have hnm := getD_ok hn i (by omega)
  generalize hg : nms.getD i "" = nm at hnm
  refine ⟨.tup [.str "worker", .str nm, .str u], fun m => okP_mk (by simp) fun y hy => ?_, ?_, ?_, fun n S h => ?_⟩
  · simp only [List.mem_cons, List.not_mem_nil, or_false] at hy
    rcases hy with rfl | rfl | rfl
    · exact okP_s (words_P "worker" (by simp))
    · exact name_okP hnm
    · refine okP_s (words_P u ?_)
      simp only [W3, List.mem_cons, List.not_mem_nil, or_false] at hu ⊢
      rcases hu with h | h | h <;> simp [h]
  · have w3 : W3.any (· == u) = true := List.any_eq_true.mpr ⟨u, hu, by simp⟩
    have hnm2 : nameD (el 1 (.tup [.str "worker", .str nm, .str u])) = true := hnm
    have is3 : isIn W3 (el 2 (.tup [.str "worker", .str nm, .str u])) = true := w3
    unfold workerD
    rw [hnm2, is3]
    simp [rowD, isS]
  · have e : kn (.tup [.str "worker", .str nm, .str u]) = (false, nm) := rfl
    simp only [flatP, List.map_cons, List.map_nil, e]
    unfold rn
    rw [hr, hg]
    dsimp only
    rw [hw]
  · rw [callF_is (fd := f_law_part) rfl rfl]
    show endF true S (evB (parOf Tt n) [s_law_part_0, s_law_part_1, s_law_part_2, s_law_part_3, s_law_part_4, s_law_part_5, s_law_part_6, s_law_part_7] [some (.loc (b + 2)), some (.lst (strD nms)), some (.int (i : Int)), none, none, none, none, none] S) = _
    have q1 := h.node hi
    have q2 := h.wd hr
    have q4 := h.cell hr
    have ga : op2 S .get (.lst (strD nms)) (.int (i : Int)) = some (.str nm) := by rw [get_nameD S nms i (by omega), hg]
    have ga2 : ixD (strD nms) (i : Int) = some (.str nm) := ga
    rw [evB_cons, show evS (parOf Tt n) s_law_part_0 [some (.loc (b + 2)), some (.lst (strD nms)), some (.int (i : Int)), none, none, none, none, none] S = .nx [some (.loc (b + 2)), some (.lst (strD nms)), some (.int (i : Int)), some (.int r.cell), none, none, none, none] S by simp [s_law_part_0, q1, q4]]
    rw [seq_nx, evB_cons, show evS (parOf Tt n) s_law_part_1 [some (.loc (b + 2)), some (.lst (strD nms)), some (.int (i : Int)), some (.int r.cell), none, none, none, none] S = .rt (.tup [.str "worker", .str nm, .str u]) S by simp [s_law_part_1, q1, q2, hw, e, ga2]]
    rw [seq_rt, endF_rt]
    exact fin_clo rfl
theorem part_loop (n : Nat) (d : Nat) {i : Nat} {r : NR} (hr : R[i]? = some r) (h8 : r.inner.length ≤ 8) {S : Store} (h : NRd S b R) (X Y : D) (o3 o4 o6 o7 : Option D) (xs : List D) (hl : xs.length = r.inner.length) (hx : ∀ (j : Nat) k x, r.inner[j]? = some k → xs[j]? = some x → callF Tt n 15 [.loc (b + 2), X, .int (k : Int)] S = .ok x S) :
    ∃ p6, forL [(pl b i + 1, innD r)] (.nm 6) (fun δ S => evB (parOf Tt n) b_law_part_4 δ S) (innD r) [some (.loc (b + 2)), some X, some Y, o3, o4, some (.tup []), o6, o7] S = .nx [some (.loc (b + 2)), some X, some Y, o3, o4, some (.tup xs), p6, o7] S := by
  have st : stays S [(pl b i + 1, innD r)] = true := stays_one (h.inn i r hr)
  obtain ⟨δ', S', e, p6, hδ, hS⟩ := forL_run (ch := [(pl b i + 1, innD r)]) (tg := .nm 6) (f := fun δ S => evB (parOf Tt n) b_law_part_4 δ S) (fun j δ S' => ∃ p6, δ = [some (.loc (b + 2)), some X, some Y, o3, o4, some (.tup (xs.take j)), p6, o7] ∧ S' = S)
    (xs := innD r) (k := 0) (δ := [some (.loc (b + 2)), some X, some Y, o3, o4, some (.tup []), o6, o7]) (S := S) ⟨o6, by simp, rfl⟩ (fun _ _ _ ⟨_, _, e⟩ => by rw [e]; exact st) (by
    rintro j y δ S1 hy ⟨p6, rfl, rfl⟩
    rw [Nat.zero_add]
    unfold innD at hy
    rw [List.getElem?_map] at hy
    obtain ⟨k, h1, rfl⟩ := Option.map_eq_some_iff.mp hy
    have hj := (List.getElem?_eq_some_iff.mp h1).1
    have hjx : j < xs.length := by omega
    have hxj : xs[j]? = some xs[j] := by simp [hjx]
    have c := hx j k _ h1 hxj
    refine ⟨[some (.loc (b + 2)), some X, some Y, o3, o4, some (.tup (xs.take j)), some (.int (k : Int)), o7], rfl, [some (.loc (b + 2)), some X, some Y, o3, o4, some (.tup (xs.take (j + 1))), some (.int (k : Int)), o7], S1, ?_, some (.int (k : Int)), rfl, rfl⟩
    have ad := o_addT S1 (xs.take j) [xs[j]] (by rw [LIM_nat]; simp; omega)
    have tk : xs.take j ++ [xs[j]] = xs.take (j + 1) := by rw [List.take_add_one, hxj]; rfl
    rw [tk] at ad
    show evB (parOf Tt n) b_law_part_4 [some (.loc (b + 2)), some X, some Y, o3, o4, some (.tup (xs.take j)), some (.int (k : Int)), o7] S1 = _
    simp only [b_law_part_4, evB_cons, evB_nil, evS_set, evE_op2, evE_tup, evE_call, evEs_cons, evEs_nil, evE_var, List.getElem?_cons_succ, List.getElem?_cons_zero, ofV_some, bind_ok, parOf_cf, c, List.length_cons, List.length_nil]
    rw [if_pos (by rw [LIM_nat]; omega), bind_ok, ad]
    rfl)
  refine ⟨p6, ?_⟩
  rw [e, hδ, hS, Nat.zero_add]
  have : (innD r).length = xs.length := by simp [innD, hl]
  rw [this, List.take_length]
theorem law_part (n : Nat) (wf : WF R) (fed : ∀ (i : Nat) (r : NR), R[i]? = some r → r.wd = true → r.inner ≠ []) (hl : R.length ≤ nms.length) (hn : ∀ nm ∈ nms, nameD (.str nm) = true) : ∀ (d i : Nat) (r : NR), R[i]? = some r → r.deep = 7 - (d : Int) →
    ∃ x, okP (2 * d + 1) x = true ∧ pv d x = true ∧ (r.wd = true → wardD d x = true) ∧ (flatP x).map kn = (pre R d i).map (rn R nms) ∧ ∀ S, NRd S b R → callF Tt (n + d + 2) 15 [.loc (b + 2), .lst (strD nms), .int (i : Int)] S = .ok x S := by
  intro d
  induction d with
  | zero =>
    intro i r hr hd
    cases hw : r.wd
    · obtain ⟨x, h1, h2, hf, h3⟩ := part_w (b := b) hl hn hr hw
      exact ⟨x, h1 _, by simp [pv, h2], fun h => (by cases h), by rw [hf, pre_end wf hr (wf.work i r hr hw)]; rfl, fun S h => h3 (n + 1) S h⟩
    · have := wf.ward i r hr hw
      omega
  | succ d ih =>
    intro i r hr hd
    cases hw : r.wd
    · obtain ⟨x, h1, h2, hf, h3⟩ := part_w (b := b) hl hn hr hw
      exact ⟨x, h1 _, by simp [pv, h2], fun h => (by cases h), by rw [hf, pre_end wf hr (wf.work i r hr hw)]; rfl, fun S h => h3 (n + (d + 1) + 1) S h⟩
    · have hi := (List.getElem?_eq_some_iff.mp hr).1
      have h8 := wf.eight i r hr
      have hne := fed i r hr hw
      -- the parts beneath
      have kids : ∃ xs : List D, xs.length = r.inner.length ∧ (∀ x ∈ xs, okP (2 * d + 1) x = true ∧ pv d x = true) ∧ (flatPs xs).map kn = (r.inner.flatMap (pre R d)).map (rn R nms) ∧ ∀ S, NRd S b R → ∀ (j : Nat) k x, r.inner[j]? = some k → xs[j]? = some x → callF Tt (n + d + 2) 15 [.loc (b + 2), .lst (strD nms), .int (k : Int)] S = .ok x S := by
        have go : ∀ l : List Nat, (∀ k ∈ l, k ∈ r.inner) → ∃ xs : List D, xs.length = l.length ∧ (∀ x ∈ xs, okP (2 * d + 1) x = true ∧ pv d x = true) ∧ (flatPs xs).map kn = (l.flatMap (pre R d)).map (rn R nms) ∧ ∀ S, NRd S b R → ∀ (j : Nat) k x, l[j]? = some k → xs[j]? = some x → callF Tt (n + d + 2) 15 [.loc (b + 2), .lst (strD nms), .int (k : Int)] S = .ok x S := by
          intro l
          induction l with
          | nil => intro _; exact ⟨[], rfl, fun x hx => (by cases hx), by simp [flatPs], fun S _ j k x h => by simp at h⟩
          | cons a l il =>
            intro hm
            obtain ⟨xs, h1, h2, hf, h3⟩ := il fun k hk => hm k (List.mem_cons_of_mem _ hk)
            obtain ⟨_, q, hq, hqd⟩ := wf.kids i r hr a (hm a (List.mem_cons_self ..))
            obtain ⟨y, y1, y2, _, yf, y3⟩ := ih a q hq (by omega)
            refine ⟨y :: xs, by simp [h1], fun x hx => ?_, by rw [flatPs, List.map_append, hf, yf, List.flatMap_cons, List.map_append], fun S hS j k x hk hx => ?_⟩
            · rcases List.mem_cons.mp hx with rfl | hx
              · exact ⟨y1, y2⟩
              · exact h2 x hx
            · cases j with
              | zero => simp at hk hx; subst hk; subst hx; exact y3 S hS
              | succ j => simp at hk hx; exact h3 S hS j k x hk hx
        exact go _ fun _ h => h
      obtain ⟨xs, hxl, hxo, hxf, hxc⟩ := kids
      obtain ⟨dr, hdr, er⟩ := pick (xs := [.str "one", .str "rest", .str "all"]) (i := r.cell % 3) (by simp; omega)
      have hdr : ∃ u, dr = .str u ∧ u ∈ R3 := by
        simp at hdr
        rcases hdr with rfl | rfl | rfl <;> exact ⟨_, rfl, by simp [R3]⟩
      obtain ⟨u, rfl, hu⟩ := hdr
      have hnm := getD_ok hn i (by omega)
      generalize hg : nms.getD i "" = nm at hnm
      obtain ⟨v0, hv0, ev0⟩ := many_by (n + d + 1) (r.cell / 3)
      obtain ⟨v2, hv2, ev2⟩ := span_by (n + d + 1) (r.cell / 24)
      obtain ⟨v1, hv1, ev1⟩ : ∃ v1 : Int, (0 ≤ v1 ∧ v1 ≤ 1000000000) ∧ ∀ p6 S, evS (parOf Tt (n + d + 2)) s_law_part_6 [some (.loc (b + 2)), some (.lst (strD nms)), some (.int (i : Int)), some (.int r.cell), some (.str u), some (.tup xs), p6, some (.int v0)] S = .nx [some (.loc (b + 2)), some (.lst (strD nms)), some (.int (i : Int)), some (.int r.cell), some (.str u), some (.tup xs), p6, some (.int v1)] S := by
        by_cases h0 : i = 0
        · by_cases h3 : 0 < r.cell / 3 % 4
          · refine ⟨if v0 + 4 < 1000000000 then v0 + 4 else 1000000000, by split <;> omega, fun p6 S => ?_⟩
            simp [s_law_part_6, h0, h3]
          · refine ⟨v0, hv0, fun p6 S => ?_⟩
            simp [s_law_part_6, h0, h3]
        · have h0' : ¬ ((i : Int) = 0) := by omega
          refine ⟨v0, hv0, fun p6 S => ?_⟩
          simp [s_law_part_6, h0']
          intro z
          exact absurd z h0
      have okx : okP (2 * (d + 1) + 1) (.tup [.str "warden", .str nm, .str u, .int v1, .int v2, .tup xs]) = true := okP_mk (by simp) fun y hy => by
        simp only [List.mem_cons, List.not_mem_nil, or_false] at hy
        rcases hy with rfl | rfl | rfl | rfl | rfl | rfl
        · exact okP_s (words_P "warden" (by simp))
        · exact name_okP hnm
        · refine okP_s (words_P u ?_)
          simp only [R3, List.mem_cons, List.not_mem_nil, or_false] at hu ⊢
          rcases hu with h | h | h <;> simp [h]
        · exact okP_i hv1
        · exact okP_i ⟨by omega, hv2.2⟩
        · exact okP_mk (m := 2 * d + 1) (by omega) fun x hx => (hxo x hx).1
      have ward : wardD (d + 1) (.tup [.str "warden", .str nm, .str u, .int v1, .int v2, .tup xs]) = true := by
        have a1 : rowD "warden" 6 (.tup [.str "warden", .str nm, .str u, .int v1, .int v2, .tup xs]) = true := by simp [rowD, isS]
        have a2 : nameD (el 1 (.tup [.str "warden", .str nm, .str u, .int v1, .int v2, .tup xs])) = true := hnm
        have a3 : isIn R3 (el 2 (.tup [.str "warden", .str nm, .str u, .int v1, .int v2, .tup xs])) = true := (List.any_eq_true.mpr ⟨u, hu, by simp⟩ : R3.any (· == u) = true)
        have a4 : numD 0 1000000000 (el 3 (.tup [.str "warden", .str nm, .str u, .int v1, .int v2, .tup xs])) = true := by
          show (decide (0 ≤ v1) && decide (v1 ≤ 1000000000)) = true
          simp [hv1]
        have a5 : numD 1 1000000000 (el 4 (.tup [.str "warden", .str nm, .str u, .int v1, .int v2, .tup xs])) = true := by
          show (decide (1 ≤ v2) && decide (v2 ≤ 1000000000)) = true
          simp [hv2]
        have a6 : partsD (fun p => workerD p || wardD d p) (el 5 (.tup [.str "warden", .str nm, .str u, .int v1, .int v2, .tup xs])) = true := by
          show (decide (1 ≤ xs.length) && (decide (xs.length ≤ 8) && xs.all fun p => workerD p || wardD d p)) = true
          have e1 : 1 ≤ xs.length := by
            have := List.length_pos_iff.mpr hne
            omega
          rw [decide_eq_true e1, decide_eq_true (show xs.length ≤ 8 by omega), Bool.true_and, Bool.true_and, List.all_eq_true]
          exact fun x hx => (hxo x hx).2
        unfold wardD
        rw [a1, a2, a3, a4, a5, a6]
        rfl
      have flt : (flatP (.tup [.str "warden", .str nm, .str u, .int v1, .int v2, .tup xs])).map kn = (pre R (d + 1) i).map (rn R nms) := by
        have e : kn (.tup [.str "warden", .str nm, .str u, .int v1, .int v2, .tup xs]) = rn R nms i := by
          unfold rn
          rw [hr, hg]
          dsimp only
          rw [hw]
          rfl
        simp only [flatP, if_pos, List.map_cons, e, hxf, pre, innerOf_is hr]
      refine ⟨.tup [.str "warden", .str nm, .str u, .int v1, .int v2, .tup xs], okx, by simp [pv, ward], fun _ => ward, flt, fun S h => ?_⟩
      rw [callF_is (fd := f_law_part) rfl rfl]
      show endF true S (evB (parOf Tt (n + d + 2)) [s_law_part_0, s_law_part_1, s_law_part_2, s_law_part_3, s_law_part_4, s_law_part_5, s_law_part_6, s_law_part_7] [some (.loc (b + 2)), some (.lst (strD nms)), some (.int (i : Int)), none, none, none, none, none] S) = _
      have q1 := h.node hi
      have q2 := h.wd hr
      have q3 := h.inn' hr
      have q4 := h.cell hr
      have ga : op2 S .get (.lst (strD nms)) (.int (i : Int)) = some (.str nm) := by rw [get_nameD S nms i (by omega), hg]
      have ga2 : ixD (strD nms) (i : Int) = some (.str nm) := ga
      obtain ⟨p6, el⟩ := part_loop (n + d + 2) d hr h8 h (.lst (strD nms)) (.int (i : Int)) (some (.int r.cell)) (some (.str u)) none none xs hxl (hxc S h)
      have w1 : evEs (parOf Tt (n + d + 2)) [.op2 .get (.op2 .get (.var 0) (.var 2)) (.lit (.str "inner"))] [some (.loc (b + 2)), some (.lst (strD nms)), some (.int (i : Int)), some (.int r.cell), some (.str u), some (.tup []), none, none] S = .ok [.loc (pl b i + 1)] S := by simp [q1, q3]
      have w2 : walkOf S .ex [.loc (pl b i + 1)] = some (innD r, [(pl b i + 1, innD r)]) := by
        have la : lstAt S (.loc (pl b i + 1)) = some (pl b i + 1, innD r) := by simp [lstAt, h.inn i r hr]
        simp [walkOf, la]
      rw [evB_cons, show evS (parOf Tt (n + d + 2)) s_law_part_0 [some (.loc (b + 2)), some (.lst (strD nms)), some (.int (i : Int)), none, none, none, none, none] S = .nx [some (.loc (b + 2)), some (.lst (strD nms)), some (.int (i : Int)), some (.int r.cell), none, none, none, none] S by simp [s_law_part_0, q1, q4]]
      rw [seq_nx, evB_cons, show evS (parOf Tt (n + d + 2)) s_law_part_1 [some (.loc (b + 2)), some (.lst (strD nms)), some (.int (i : Int)), some (.int r.cell), none, none, none, none] S = .nx [some (.loc (b + 2)), some (.lst (strD nms)), some (.int (i : Int)), some (.int r.cell), none, none, none, none] S by simp [s_law_part_1, q1, q2, hw]]
      rw [seq_nx, evB_cons, show evS (parOf Tt (n + d + 2)) s_law_part_2 [some (.loc (b + 2)), some (.lst (strD nms)), some (.int (i : Int)), some (.int r.cell), none, none, none, none] S = .nx [some (.loc (b + 2)), some (.lst (strD nms)), some (.int (i : Int)), some (.int r.cell), some (.str u), none, none, none] S by simp [s_law_part_2, er]]
      rw [seq_nx, evB_cons, show evS (parOf Tt (n + d + 2)) s_law_part_3 [some (.loc (b + 2)), some (.lst (strD nms)), some (.int (i : Int)), some (.int r.cell), some (.str u), none, none, none] S = .nx [some (.loc (b + 2)), some (.lst (strD nms)), some (.int (i : Int)), some (.int r.cell), some (.str u), some (.tup []), none, none] S by simp [s_law_part_3]]
      rw [seq_nx, evB_cons, s_law_part_4, evS_for, sFor_is w1 w2, el, seq_nx, evB_cons]
      rw [show evS (parOf Tt (n + d + 2)) s_law_part_5 [some (.loc (b + 2)), some (.lst (strD nms)), some (.int (i : Int)), some (.int r.cell), some (.str u), some (.tup xs), p6, none] S = .nx [some (.loc (b + 2)), some (.lst (strD nms)), some (.int (i : Int)), some (.int r.cell), some (.str u), some (.tup xs), p6, some (.int v0)] S by simp [s_law_part_5, ev0]]
      rw [seq_nx, evB_cons, ev1, seq_nx, evB_cons]
      rw [show evS (parOf Tt (n + d + 2)) s_law_part_7 [some (.loc (b + 2)), some (.lst (strD nms)), some (.int (i : Int)), some (.int r.cell), some (.str u), some (.tup xs), p6, some (.int v1)] S = .rt (.tup [.str "warden", .str nm, .str u, .int v1, .int v2, .tup xs]) S by simp [s_law_part_7, ga2, ev2]]
      rw [seq_rt, endF_rt]
      exact fin_clo (clo_flat (okS_flat (okP_S okx)))
end
end LawK
namespace LawK
open PySem PySem.Spec PyProof.Rows L2 Ev
/-! ### _law_under: all below a node, in order -/
def dpN (R : List NR) (i : Nat) : Nat := match R[i]? with
  | some r => (7 - r.deep).toNat
  | none => 0
def mu (R : List NR) : List Nat → Nat
  | [] => 0
  | i :: is => Bn (dpN R i) + mu R is
theorem mu_app (R : List NR) : ∀ xs ys : List Nat, mu R (xs ++ ys) = mu R xs + mu R ys
  | [], ys => by simp [mu]
  | x :: xs, ys => by
    have := mu_app R xs ys
    simp only [List.cons_append, mu, this]
    omega
theorem mu_len (R : List NR) : ∀ xs : List Nat, xs.length ≤ mu R xs
  | [] => Nat.zero_le _
  | x :: xs => by
    have := mu_len R xs
    have := Bn_pos (dpN R x)
    simp only [List.length_cons, mu]
    omega
theorem mu_le (R : List NR) (d : Nat) : ∀ xs : List Nat, (∀ x ∈ xs, dpN R x = d) → mu R xs = xs.length * Bn d
  | [], _ => by simp [mu]
  | x :: xs, h => by
    have h1 := mu_le R d xs fun y hy => h y (List.mem_cons_of_mem _ hy)
    have h2 := h x (List.mem_cons_self ..)
    simp only [mu, h1, h2, List.length_cons, Nat.add_mul, Nat.one_mul]
    omega
theorem mu_kids {R : List NR} (wf : WF R) {i : Nat} {r : NR} (hr : R[i]? = some r) : mu R r.inner + 1 ≤ Bn (dpN R i) := by
  have hd : dpN R i = (7 - r.deep).toNat := by simp [dpN, hr]
  have ⟨d1, d7⟩ := wf.deep i r hr
  by_cases he : r.inner = []
  · rw [he]
    exact Bn_pos _
  · have hw : r.wd = true := by
      cases h : r.wd
      · exact absurd (wf.work i r hr h) he
      · rfl
    have h6 := wf.ward i r hr hw
    have h8 := wf.eight i r hr
    obtain ⟨d, hd2⟩ : ∃ d : Nat, r.deep = 6 - (d : Int) := ⟨(6 - r.deep).toNat, by omega⟩
    have k : mu R r.inner = r.inner.length * Bn d := mu_le R d _ fun j hj => by
      obtain ⟨_, q, hq, hqd⟩ := wf.kids i r hr j hj
      simp only [dpN, hq]
      omega
    rw [hd, show (7 - r.deep).toNat = d + 1 by omega, k]
    have : r.inner.length * Bn d ≤ 8 * Bn d := Nat.mul_le_mul_right _ h8
    show _ ≤ 1 + 8 * Bn d
    omega
def natD (xs : List Nat) : List D := xs.map fun (i : Nat) => .int (i : Int)
theorem natD_flats (n : Nat) (xs : List Nat) : flats n (natD xs) = true := flats_of fun x hx => by
  obtain ⟨i, _, rfl⟩ := List.mem_map.mp hx
  cases n <;> rfl
theorem natD_clos (n : Nat) (xs : List Nat) : clos n (natD xs) = true := clos_of fun x hx => by
  obtain ⟨i, _, rfl⟩ := List.mem_map.mp hx
  rfl
section
variable {b : Nat} {R : List NR}
theorem under_body (n : Nat) {S : Store} (h : NRd S b R) {w : Nat} {r : NR} (hr : R[w]? = some r) (h8 : r.inner.length ≤ 8) (rest fs : List Nat) (X : D) (o : Option D) (hf : fs.length ≤ 8000000) (hre : rest.length ≤ 8000000) :
    evB (parOf Tt n) b_law_under_2 [some (.loc (b + 2)), some X, some (.loc S.length), some (.lst (natD (w :: rest))), o] (S ++ [.lst (natD fs)]) =
    .nx [some (.loc (b + 2)), some X, some (.loc S.length), some (.lst (natD (r.inner ++ rest))), some (.int (w : Int))] (S ++ [.lst (natD (fs ++ [w]))]) := by
  have hw := (List.getElem?_eq_some_iff.mp hr).1
  have ap : appD (.loc S.length) (.int (w : Int)) (S ++ [.lst (natD fs)]) = .ok .non (S ++ [.lst (natD (fs ++ [w]))]) := by
    rw [app_new _ _ _ (by simp [natD]; omega)]
    simp [natD]
  have h2 := h.app [.lst (natD (fs ++ [w]))]
  have q1 := h2.node hw
  have q2 := h2.inn' hr
  have ad : op2 (S ++ [.lst (natD (fs ++ [w]))]) .add (.loc (pl b w + 1)) (.lst (natD rest)) = some (.lst (natD (r.inner ++ rest))) := by
    have it := h2.items hr
    have e : op2 (S ++ [.lst (natD (fs ++ [w]))]) .add (.loc (pl b w + 1)) (.lst (natD rest)) = (addL (S ++ [.lst (natD (fs ++ [w]))]) (.loc (pl b w + 1)) (.lst (natD rest))).map .lst := rfl
    rw [e]
    unfold addL
    rw [it]
    simp only [Ev.items]
    rw [if_pos (by rw [LIM_nat]; simp [innD, natD]; omega)]
    simp [innD, natD]
  have c1 : cutD (S ++ [.lst (natD (fs ++ [w]))]) (some 1) none (.lst (natD (w :: rest))) = some (.lst (natD rest)) := cut1 _ _ _
  have e0 : ∀ S', evE (parOf Tt n) (.op2 .get (.var 3) (.lit (.int 0))) [some (.loc (b + 2)), some X, some (.loc S.length), some (.lst (natD (w :: rest))), o] S' = .ok (.int (w : Int)) S' := fun S' => by
    simp [natD]
  rw [b_law_under_2, evB_cons, evS_set, e0, thenS_ok, seq_nx, evB_cons, evS_ex]
  simp only [List.set_cons_succ, List.set_cons_zero]
  have e1 : evE (parOf Tt n) (.app (.var 2) (.var 4)) [some (.loc (b + 2)), some X, some (.loc S.length), some (.lst (natD (w :: rest))), some (.int (w : Int))] (S ++ [.lst (natD fs)]) = .ok .non (S ++ [.lst (natD (fs ++ [w]))]) := by
    simp [at_new, ap]
  rw [e1, thenS_ok, seq_nx, evB_cons, evS_set]
  have e2 : evE (parOf Tt n) (.op2 .add (.op2 .get (.op2 .get (.var 0) (.var 4)) (.lit (.str "inner"))) (.slf (.var 3) (.lit (.int 1)))) [some (.loc (b + 2)), some X, some (.loc S.length), some (.lst (natD (w :: rest))), some (.int (w : Int))] (S ++ [.lst (natD (fs ++ [w]))]) = .ok (.lst (natD (r.inner ++ rest))) (S ++ [.lst (natD (fs ++ [w]))]) := by
    simp only [evE_op2, evE_var, evE_slf, evE_lit, List.getElem?_cons_succ, List.getElem?_cons_zero, ofV_some, bind_ok, q1, q2, ofO_some, ofI_int, c1, ad]
  rw [e2, thenS_ok, seq_nx, evB_nil]
  rfl
theorem pre_unf (wf : WF R) {w : Nat} {r : NR} (hr : R[w]? = some r) : pre R (dpN R w) w = w :: r.inner.flatMap fun k => pre R (dpN R k) k := by
  have hd : dpN R w = (7 - r.deep).toNat := by simp [dpN, hr]
  have ⟨d1, d7⟩ := wf.deep w r hr
  by_cases he : r.inner = []
  · rw [pre_end wf hr he, he]
    rfl
  · have hw : r.wd = true := by
      cases h : r.wd
      · exact absurd (wf.work w r hr h) he
      · rfl
    have h6 := wf.ward w r hr hw
    obtain ⟨d, hd2⟩ : ∃ d : Nat, r.deep = 6 - (d : Int) := ⟨(6 - r.deep).toNat, by omega⟩
    rw [hd, show (7 - r.deep).toNat = d + 1 by omega]
    show w :: (innerOf R w).flatMap (pre R d) = _
    rw [innerOf_is hr]
    congr 1
    have kid := wf.kids w r hr
    have go : ∀ l : List Nat, (∀ k ∈ l, k ∈ r.inner) → l.flatMap (pre R d) = l.flatMap fun k => pre R (dpN R k) k := by
      intro l
      induction l with
      | nil => intro _; rfl
      | cons a l ih =>
        intro hm
        rw [List.flatMap_cons, List.flatMap_cons, ih fun k hk => hm k (List.mem_cons_of_mem _ hk)]
        obtain ⟨_, q, hq, hqd⟩ := kid a (hm a (List.mem_cons_self ..))
        have : dpN R a = d := by simp only [dpN, hq]; omega
        rw [this]
    exact go _ fun _ h => h
theorem under_loop (n : Nat) (wf : WF R) {S : Store} (h : NRd S b R) (X : D) : ∀ (fuel : Nat) (ws fs : List Nat) (o : Option D), (∀ w ∈ ws, w < R.length) → mu R ws < fuel → fs.length + mu R ws ≤ 8000000 →
    ∃ o' gs, gs = fs ++ ws.flatMap (fun w => pre R (dpN R w) w) ∧ whlL (fun δ S => evE (parOf Tt n) (.op2 .ne (.var 3) (.lst false [])) δ S) (fun δ S => evB (parOf Tt n) b_law_under_2 δ S) fuel [some (.loc (b + 2)), some X, some (.loc S.length), some (.lst (natD ws)), o] (S ++ [.lst (natD fs)]) = .nx [some (.loc (b + 2)), some X, some (.loc S.length), some (.lst []), o'] (S ++ [.lst (natD gs)]) := by
  intro fuel
  induction fuel with
  | zero => intro ws fs o _ h; omega
  | succ fuel ih =>
    intro ws fs o hp hl hb
    have cond : evE (parOf Tt n) (.op2 .ne (.var 3) (.lst false [])) [some (.loc (b + 2)), some X, some (.loc S.length), some (.lst (natD ws)), o] (S ++ [.lst (natD fs)]) = .ok (.bl (!(natD ws).isEmpty)) (S ++ [.lst (natD fs)]) := by
      have q := ne_nil (S := S ++ [.lst (natD fs)]) (l := natD ws) (natD_flats _ _)
      simp [q]
    unfold whlL
    rw [cond]
    cases ws with
    | nil => exact ⟨o, fs, by simp, rfl⟩
    | cons w rest =>
      have hw := hp w (List.mem_cons_self ..)
      have hr : R[w]? = some R[w] := by simp [hw]
      have k := mu_kids wf hr
      have m1 := mu_len R rest
      have e : mu R (w :: rest) = Bn (dpN R w) + mu R rest := rfl
      have e2 := mu_app R R[w].inner rest
      obtain ⟨o', gs, hgs, h5⟩ := ih (R[w].inner ++ rest) (fs ++ [w]) (some (.int (w : Int))) (fun v hv => by
        rcases List.mem_append.mp hv with hv | hv
        · obtain ⟨_, q, hq, _⟩ := wf.kids w _ hr v hv
          exact (List.getElem?_eq_some_iff.mp hq).1
        · exact hp v (List.mem_cons_of_mem _ hv)) (by omega) (by simp; omega)
      refine ⟨o', gs, ?_, ?_⟩
      · rw [hgs, List.flatMap_cons, List.flatMap_append, List.append_assoc, List.singleton_append, pre_unf wf hr, List.cons_append]
      have bd := under_body n h hr (wf.eight w _ hr) rest fs X o (by omega) (by omega)
      simp only [natD, List.map_cons, List.isEmpty_cons, Bool.not_false]
      simp only [natD, List.map_cons] at bd h5
      rw [bd]
      dsimp only
      exact h5
theorem law_under (n : Nat) (wf : WF R) {S : Store} (h : NRd S b R) (hR : 1 ≤ R.length) : callF Tt (n + 1) 12 [.loc (b + 2), .int 0] S = .ok (.lst (natD (pre R (dpN R 0) 0))) S := by
  rw [callF_is (fd := f_law_under) rfl rfl]
  show endF true S (evB (parOf Tt n) [s_law_under_0, s_law_under_1, s_law_under_2, s_law_under_3] [some (.loc (b + 2)), some (.int 0), none, none, none] S) = _
  have e0 : evS (parOf Tt n) s_law_under_0 [some (.loc (b + 2)), some (.int 0), none, none, none] S = .nx [some (.loc (b + 2)), some (.int 0), some (.loc S.length), none, none] (S ++ [.lst (natD [])]) := by simp [s_law_under_0, natD]
  have e1 : evS (parOf Tt n) s_law_under_1 [some (.loc (b + 2)), some (.int 0), some (.loc S.length), none, none] (S ++ [.lst (natD [])]) = .nx [some (.loc (b + 2)), some (.int 0), some (.loc S.length), some (.lst (natD [0])), none] (S ++ [.lst (natD [])]) := by simp [s_law_under_1, natD]
  have hb : Bn (dpN R 0) ≤ 8000000 := by
    have hr : R[0]? = some R[0] := by simp [show 0 < R.length by omega]
    have ⟨d1, d7⟩ := wf.deep 0 _ hr
    have := Bn_le (dpN R 0) (by simp only [dpN, hr]; omega)
    omega
  have m0 : mu R [0] = Bn (dpN R 0) := rfl
  obtain ⟨o', gs, hgs, e2⟩ := under_loop n wf h (.int 0) 100000000 [0] [] none (fun w hw => by simp at hw; omega) (by omega) (by simp; omega)
  have hgs : gs = pre R (dpN R 0) 0 := by rw [hgs]; simp
  rw [← hgs]
  have e2' : evS (parOf Tt n) s_law_under_2 [some (.loc (b + 2)), some (.int 0), some (.loc S.length), some (.lst (natD [0])), none] (S ++ [.lst (natD [])]) = .nx [some (.loc (b + 2)), some (.int 0), some (.loc S.length), some (.lst []), o'] (S ++ [.lst (natD gs)]) := e2
  have e3 : evS (parOf Tt n) s_law_under_3 [some (.loc (b + 2)), some (.int 0), some (.loc S.length), some (.lst []), o'] (S ++ [.lst (natD gs)]) = .rt (.loc S.length) (S ++ [.lst (natD gs)]) := by simp [s_law_under_3]
  simp only [evB_cons, e0, e1, e2', e3, seq_nx, seq_rt, endF_rt]
  exact fin_new (natD_clos 0 _)
end
end LawK
namespace LawK
open PySem PySem.Spec PyProof.Rows L2 Ev
/-- what is known of a drawn plan: its nodes, names, the plan -/
structure HallF (R : List NR) (nms : List Str) (x : D) : Prop where
  wf : WF R
  pos : 1 ≤ R.length
  le : R.length ≤ 60
  nlen : nms.length = R.length
  nod : nms.Nodup
  nm : ∀ nm ∈ nms, nameD (.str nm) = true
  ok : okP 13 x = true
  wd : wardD 6 x = true
  fl : (flatP x).map kn = (pre R 6 0).map (rn R nms)
theorem law_house (n : Nat) (S : Store) (ns : List Int) : ∃ S' x R nms G, callF Tt (n + 10) 16 [.scr ns] S = .ok (.dic ["nodes", "names", "parts", "plan", "order"] [.loc (S.length + 2), .lst (strD nms), .lst G, x, .lst (natD (pre R 6 0))]) S' ∧ S'.take S.length = S ∧
    NRd S' S.length R ∧ HallF R nms x := by
  rw [callF_is (fd := f_law_house) rfl rfl]
  show ∃ S' x R nms G, endF false S (evB (parOf Tt (n + 9)) [s_law_house_0, s_law_house_1, s_law_house_2, s_law_house_3, s_law_house_4, s_law_house_5, s_law_house_6] [some (.scr ns), none, none, none, none, none, none] S) = _ ∧ _
  have c0 : ∀ S, callF Tt (n + 9) 8 [.scr ns, .int 0] S = .ok (.int (ns.getD 0 0)) S := fun S => cell_at (n + 8) ns 0 S
  have c1 : ∀ S, callF Tt (n + 9) 8 [.scr ns, .int 1] S = .ok (.int (ns.getD 1 0)) S := fun S => cell_at (n + 8) ns 1 S
  generalize ns.getD 0 0 = z0 at c0
  generalize ns.getD 1 0 = z1 at c1
  obtain ⟨m, hm, em⟩ : ∃ m : Int, (1 ≤ m ∧ m ≤ 30) ∧ evB (parOf Tt (n + 9)) [s_law_house_0, s_law_house_1, s_law_house_2] [some (.scr ns), none, none, none, none, none, none] S = .nx [some (.scr ns), some (.int z0), some (.int m), none, none, none, none] S := by
    by_cases h : z0 / 9 % 12 = 1
    · exact ⟨30, by omega, by simp [s_law_house_0, s_law_house_1, s_law_house_2, c0, h]⟩
    · exact ⟨2 + z0 % 9, by omega, by simp [s_law_house_0, s_law_house_1, s_law_house_2, c0, h]⟩
  obtain ⟨R, S1, e1, na, wf, rt, tk, hR, fed⟩ := law_nodes (n + 7) S ns m hm
  have h1 := na.toNRd
  have hp := na.pos
  obtain ⟨nms, hl, hnod, hn, e2⟩ := namesM (n + 8) z1 (R.length : Int) (by omega)
  have hl2 : nms.length = R.length := by omega
  have ln : ∀ T, op1 (S1 ++ T) .len (.loc (S.length + 2)) = some (.int R.length) := fun T => by
    have e : op1 (S1 ++ T) .len (.loc (S.length + 2)) = (Ev.items (S1 ++ T) (.loc (S.length + 2))).map fun xs => .int xs.length := rfl
    rw [e, (h1.app T).count]
    simp
  have ln0 : op1 S1 .len (.loc (S.length + 2)) = some (.int R.length) := by
    have := ln []
    rwa [List.append_nil] at this
  have one : ∀ i, ∃ x, i < R.length → (∃ m, okP m x = true) ∧ (i = 0 → okP 13 x = true ∧ wardD 6 x = true ∧ (flatP x).map kn = (pre R 6 0).map (rn R nms)) ∧ ∀ S', NRd S' S.length R → callF Tt (n + 9) 15 [.loc (S.length + 2), .lst (strD nms), .int (i : Int)] S' = .ok x S' := fun i => by
    by_cases hi : i < R.length
    · have hr : R[i]? = some R[i] := by simp [hi]
      have ⟨d1, d7⟩ := wf.deep i _ hr
      obtain ⟨d, hd⟩ : ∃ d : Nat, R[i].deep = 7 - (d : Int) := ⟨(7 - R[i].deep).toNat, by omega⟩
      obtain ⟨x, x1, x2, x3, xf, x4⟩ := law_part (b := S.length) (n + 7 - d) wf fed (by omega) hn d i _ hr hd
      rw [show n + 7 - d + d + 2 = n + 9 by omega] at x4
      refine ⟨x, fun _ => ⟨⟨_, x1⟩, fun h0 => ?_, x4⟩⟩
      subst h0
      obtain ⟨r0, hr0, hw0, hd0⟩ := rt
      rw [hr] at hr0
      have : R[0] = r0 := Option.some.inj hr0
      rw [this] at hd x3
      have hd6 : d = 6 := by omega
      subst hd6
      exact ⟨x1, x3 hw0, xf⟩
    · exact ⟨.non, fun h => absurd h hi⟩
  let g : Nat → D := fun i => if i < R.length then Classical.choose (one i) else .non
  have hg : ∀ i, i < R.length → (∃ m, okP m (g i) = true) ∧ (i = 0 → okP 13 (g i) = true ∧ wardD 6 (g i) = true ∧ (flatP (g i)).map kn = (pre R 6 0).map (rn R nms)) ∧ ∀ S', NRd S' S.length R → callF Tt (n + 9) 15 [.loc (S.length + 2), .lst (strD nms), .int (i : Int)] S' = .ok (g i) S' := fun i hi => by
    have e : g i = Classical.choose (one i) := if_pos hi
    rw [e]
    exact Classical.choose_spec (one i) hi
  have hc : ∀ i, clo 0 (g i) = true := fun i => by
    by_cases hi : i < R.length
    · obtain ⟨⟨m, h⟩, _⟩ := hg i hi
      exact clo_flat (okS_flat (okP_S h))
    · have e : g i = .non := if_neg hi
      rw [e]
      rfl
  have e5 := rng_cmp (P := parOf Tt (n + 9)) (δ := [some (.scr ns), some (.int z0), some (.int m), some (.loc (S.length + 2)), some (.lst (strD nms)), none, none]) (S := S1) (elt := .call 15 [.var 3, .var 4, .var 6]) (e := .op1 .len (.var 3)) (j := 6) (N := (R.length : Int)) (g := g)
    (by simp [ln0]) (by omega) hc (fun i hi T => by
      have := (hg i (by omega)).2.2 (S1 ++ T) (h1.app T)
      simp [this])
  have hg0 := hg 0 (by omega)
  generalize hG : (List.range (R.length : Int).toNat).map g = G at e5
  have g0 : ixD G 0 = some (g 0) := by
    rw [← hG, show (R.length : Int).toNat = R.length by omega]
    have := atI_nat ((List.range R.length).map g) 0 (by simp; omega)
    rw [show ((0 : Nat) : Int) = 0 from rfl] at this
    rw [show ixD ((List.range R.length).map g) 0 = L2.atI ((List.range R.length).map g) 0 from rfl, this]
    simp
  have clG : ∀ k, clos k G = true := fun k => clos_of fun x hx => by
    rw [← hG] at hx
    obtain ⟨i, _, rfl⟩ := List.mem_map.mp hx
    exact clo_mono _ (hc i)
  have e6 := law_under (n + 8) wf (h1.app [.dic []]) hp
  have d6 : dpN R 0 = 6 := by
    obtain ⟨r0, hr0, hw0, hd0⟩ := rt
    simp only [dpN, hr0]
    omega
  rw [d6] at e6
  generalize hgs : pre R 6 0 = gs at e6
  have lS : S.length + 2 < S1.length := by have := na.len; omega
  refine ⟨S1, g 0, R, nms, G, ?_, tk, h1, { wf := wf, pos := hp, le := hR, nlen := hl2, nod := hnod, nm := hn, ok := (hg0.2.1 rfl).1, wd := (hg0.2.1 rfl).2.1, fl := (hg0.2.1 rfl).2.2 }⟩
  rw [hgs]
  have sp : ∀ δ S, evB (parOf Tt (n + 9)) [s_law_house_0, s_law_house_1, s_law_house_2, s_law_house_3, s_law_house_4, s_law_house_5, s_law_house_6] δ S = (evB (parOf Tt (n + 9)) [s_law_house_0, s_law_house_1, s_law_house_2] δ S).seq fun δ S => evB (parOf Tt (n + 9)) [s_law_house_3, s_law_house_4, s_law_house_5, s_law_house_6] δ S := fun δ S => by
    simp only [evB_cons, seq_seq, evB_nil, seq_nx]
  rw [sp, em, seq_nx, evB_cons]
  rw [show evS (parOf Tt (n + 9)) s_law_house_3 [some (.scr ns), some (.int z0), some (.int m), none, none, none, none] S = .nx [some (.scr ns), some (.int z0), some (.int m), some (.loc (S.length + 2)), none, none, none] S1 by simp [s_law_house_3, e1]]
  rw [seq_nx, evB_cons]
  rw [show evS (parOf Tt (n + 9)) s_law_house_4 [some (.scr ns), some (.int z0), some (.int m), some (.loc (S.length + 2)), none, none, none] S1 = .nx [some (.scr ns), some (.int z0), some (.int m), some (.loc (S.length + 2)), some (.lst (strD nms)), none, none] S1 by simp [s_law_house_4, c1, ln0, e2]]
  rw [seq_nx, evB_cons, s_law_house_5, evS_set, e5, thenS_ok, seq_nx, evB_cons, s_law_house_6, evS_ret, evE_dic, if_neg (by simp)]
  have vals : evEs (parOf Tt (n + 9)) [.var 3, .var 4, .var 5, .op2 .get (.var 5) (.lit (.int 0)), .call 12 [.var 3, .lit (.int 0)]] [some (.scr ns), some (.int z0), some (.int m), some (.loc (S.length + 2)), some (.lst (strD nms)), some (.lst G), none] (S1 ++ [.dic []]) = .ok [.loc (S.length + 2), .lst (strD nms), .lst G, g 0, .lst (natD gs)] (S1 ++ [.dic []]) := by
    simp [g0, e6]
  simp only [List.set_cons_succ, List.set_cons_zero]
  rw [vals]
  unfold dispM
  have cv : clos S1.length [.loc (S.length + 2), .lst (strD nms), .lst G, g 0, .lst (natD gs)] = true := by
    have a1 : clo S1.length (.loc (S.length + 2)) = true := decide_eq_true lS
    have a2 : clo S1.length (.lst (strD nms)) = true := clo_strD _ _
    have a3 : clo S1.length (.lst G) = true := clG _
    have a4 : clo S1.length (g 0) = true := clo_mono _ (hc 0)
    have a5 : clo S1.length (.lst (natD gs)) = true := natD_clos _ _
    simp only [clos, a1, a2, a3, a4, a5, Bool.and_self]
  rw [bind_ok, if_pos ⟨rfl, by decide, by decide⟩, if_neg (by simp), if_pos ⟨rfl, cv⟩, thenS_ok, seq_rt, endF_rt, fin_false]
end LawK
namespace LawK
open PySem PySem.Spec PyProof.Rows L2 Ev
/-! ### a drawn plan is a plan -/
theorem flatPs_app : ∀ xs ys : List D, flatPs (xs ++ ys) = flatPs xs ++ flatPs ys
  | [], _ => rfl
  | x :: xs, ys => by rw [List.cons_append, flatPs, flatPs, flatPs_app xs ys, List.append_assoc]
theorem names_flat : ∀ (k : Nat) (x : D), pv k x = true → namesT x = (flatP x).map fun p => (kn p).2 := by
  intro k
  induction k with
  | zero =>
    intro x h
    cases pv_shape h with
    | w nm u hn => rfl
    | d k' nm u a b ps e => cases e
  | succ k ih =>
    intro x h
    cases pv_shape h with
    | w nm u hn => rfl
    | d k' nm u a b ps e hn h8 h1 hp =>
      cases e
      have go : ∀ l : List D, (∀ p ∈ l, p ∈ ps) → namesTs l = (flatPs l).map fun p => (kn p).2 := by
        intro l
        induction l with
        | nil => intro _; rfl
        | cons a l il =>
          intro hm
          rw [namesTs, flatPs, List.map_append, il fun p hp => hm p (List.mem_cons_of_mem _ hp), ih a (hp a (hm a (List.mem_cons_self ..)))]
      simp only [namesT, flatP, if_pos, List.map_cons, go ps fun _ h => h]
      rfl
theorem nodup_getD {nms : List Str} (h : nms.Nodup) : ∀ {is : List Nat}, is.Nodup → (∀ i ∈ is, i < nms.length) → (is.map fun j => nms.getD j "").Nodup
  | [], _, _ => List.nodup_nil
  | i :: is, hn, hl => by
    rw [List.nodup_cons] at hn
    rw [List.map_cons, List.nodup_cons]
    refine ⟨fun hm => ?_, nodup_getD h hn.2 fun j hj => hl j (List.mem_cons_of_mem _ hj)⟩
    obtain ⟨j, hj, e⟩ := List.mem_map.mp hm
    have hi := hl i (List.mem_cons_self ..)
    have hj2 := hl j (List.mem_cons_of_mem _ hj)
    simp only [List.getD_eq_getElem?_getD, List.getElem?_eq_getElem hi, List.getElem?_eq_getElem hj2, Option.getD_some] at e
    have := (List.getElem_inj h).mp e
    exact hn.1 (this ▸ hj)
theorem HallF.root {R : List NR} {nms : List Str} {x : D} (h : HallF R nms x) : ∃ r, R[0]? = some r := ⟨R[0]'h.pos, by simp [h.pos]⟩
theorem HallF.ord {R : List NR} {nms : List Str} {x : D} (h : HallF R nms x) : (pre R 6 0).Nodup ∧ (∀ i ∈ pre R 6 0, i < R.length) ∧ (pre R 6 0).length ≤ 60 := by
  obtain ⟨r, hr⟩ := h.root
  have h1 := pre_nodup h.wf 6 0 r hr
  have h2 : ∀ i ∈ pre R 6 0, i < R.length := fun i hi => pre_lt h.wf hr hi
  exact ⟨h1, h2, Nat.le_trans (nodup_le _ _ h1 h2) h.le⟩
theorem HallF.names {R : List NR} {nms : List Str} {x : D} (h : HallF R nms x) : namesT x = (pre R 6 0).map fun j => nms.getD j "" := by
  have hp : pv 6 x = true := by unfold pv; rw [h.wd, Bool.or_true]
  rw [names_flat 6 x hp]
  have := congrArg (List.map Prod.snd) h.fl
  rw [List.map_map, List.map_map] at this
  exact this
theorem HallF.plan {R : List NR} {nms : List Str} {x : D} (h : HallF R nms x) : planD x = true := by
  obtain ⟨h1, h2, h3⟩ := h.ord
  rw [plans_agree]
  unfold lawPlanD
  have nd : (namesT x).Nodup := by
    rw [h.names]
    exact nodup_getD h.nod h1 fun i hi => by rw [h.nlen]; exact h2 i hi
  rw [h.wd, Bool.true_and, Bool.and_eq_true, decide_eq_true_eq, List.all_eq_true]
  refine ⟨by rw [h.names, List.length_map]; exact h3, fun w hw => decide_eq_true ?_⟩
  exact List.nodup_iff_count.mp nd w
end LawK
namespace LawK
open PySem PySem.Spec PyProof.Rows L2 Ev
/-! ### the posts of a house, in the order of the plan -/
def isW (x : D) : Bool := (kn x).1
def nmP (x : D) : Str := (kn x).2
/-- the parts right beneath -/
def partsOf : D → List D
  | .tup [.str t, _, _, _, _, .tup ps] => if t = "warden" then ps else []
  | _ => []
def sz (x : D) : Nat := (flatP x).length
def szs (xs : List D) : Nat := (flatPs xs).length
mutual
/-- how many cells of the store -/
def csz : D → Nat
  | .tup [.str t, _, _, _, _, .tup ps] => if t = "warden" then 2 + cszs ps else 1
  | _ => 1
def cszs : List D → Nat
  | [] => 0
  | x :: xs => csz x + cszs xs
end
structure PR where
  part : D
  up : Option Nat
  upA : D
  pl : Nat
  ix : Nat
  ad : Nat
/-- the numbers of those right beneath, and where they stand -/
def kidI (j : Nat) : List D → List Nat
  | [] => []
  | p :: ps => j :: kidI (j + sz p) ps
def locA (b : Nat) : List D → List Nat
  | [] => []
  | p :: ps => b :: locA (b + csz p) ps
mutual
def prs : D → Option Nat → D → Nat → Nat → Nat → List PR
  | .tup [.str t, a, c, d, e, .tup ps], up, upA, pl, i, b => ⟨.tup [.str t, a, c, d, e, .tup ps], up, upA, pl, i, b⟩ :: (if t = "warden" then prss ps (some i) (.loc b) 0 (i + 1) (b + 2) else [])
  | x, up, upA, pl, i, b => [⟨x, up, upA, pl, i, b⟩]
def prss : List D → Option Nat → D → Nat → Nat → Nat → List PR
  | [], _, _, _, _, _ => []
  | p :: ps, up, upA, pl, i, b => prs p up upA pl i b ++ prss ps up upA (pl + 1) (i + sz p) (b + csz p)
end
structure PM where
  liv : Bool
  tot : Int
  lets : List (Int × D)
  kept : List Int
def m0 : PM := ⟨false, 0, [], []⟩
def letD (l : List (Int × D)) : D := .lst (l.map fun p => .tup [.int p.1, p.2])
def innO (r : PR) : D := if isW r.part then .loc (r.ad + 1) else .lst []
def kidsL (r : PR) : Cell := .lst ((locA (r.ad + 2) (partsOf r.part)).map .loc)
def postC (r : PR) (m : PM) : Cell := .ins 0 [("part", r.part), ("warden", r.upA), ("place", .int (r.pl : Int)), ("inner", innO r), ("living", .bl m.liv), ("total", .int m.tot), ("letters", letD m.lets), ("kept", .lst (intsD m.kept))]
def rc (r : PR) : List Cell := postC r m0 :: if isW r.part then [kidsL r] else []
theorem szs_cons (p : D) (ps : List D) : szs (p :: ps) = sz p + szs ps := by unfold szs sz; rw [flatPs, List.length_append]
theorem szs_app (xs ys : List D) : szs (xs ++ ys) = szs xs + szs ys := by unfold szs; rw [flatPs_app, List.length_append]
theorem cszs_app : ∀ xs ys : List D, cszs (xs ++ ys) = cszs xs + cszs ys
  | [], ys => by simp [cszs]
  | x :: xs, ys => by rw [List.cons_append, cszs, cszs, cszs_app xs ys]; omega
theorem kidI_at : ∀ (ps : List D) (j a : Nat), a < ps.length → (kidI j ps)[a]? = some (j + szs (ps.take a))
  | p :: ps, j, 0, _ => by simp [kidI, szs, flatPs]
  | p :: ps, j, a + 1, h => by
    have := kidI_at ps (j + sz p) a (by simpa using h)
    rw [kidI, List.getElem?_cons_succ, this, List.take_succ_cons, szs_cons]
    congr 1
    omega
theorem kidI_len : ∀ (ps : List D) (j : Nat), (kidI j ps).length = ps.length
  | [], _ => rfl
  | p :: ps, j => by rw [kidI, List.length_cons, List.length_cons, kidI_len ps]
theorem locA_at : ∀ (ps : List D) (b a : Nat), a < ps.length → (locA b ps)[a]? = some (b + cszs (ps.take a))
  | p :: ps, j, 0, _ => by simp [locA, cszs]
  | p :: ps, j, a + 1, h => by
    have := locA_at ps (j + csz p) a (by simpa using h)
    rw [locA, List.getElem?_cons_succ, this, List.take_succ_cons, cszs]
    congr 1
    omega
theorem locA_len : ∀ (ps : List D) (j : Nat), (locA j ps).length = ps.length
  | [], _ => rfl
  | p :: ps, j => by rw [locA, List.length_cons, List.length_cons, locA_len ps]
/-- the two shapes of a part -/
theorem part_cases (x : D) : (∃ a c d e ps, x = .tup [.str "warden", a, c, d, e, .tup ps]) ∨ (flatP x = [x] ∧ csz x = 1 ∧ partsOf x = [] ∧ ∀ up upA pl i b, prs x up upA pl i b = [⟨x, up, upA, pl, i, b⟩]) := by
  by_cases h : ∃ a c d e ps, x = .tup [.str "warden", a, c, d, e, .tup ps]
  · exact .inl h
  · refine .inr ?_
    have k : ∀ t a c d e ps, x = .tup [.str t, a, c, d, e, .tup ps] → t ≠ "warden" := fun t a c d e ps hx ht => h ⟨a, c, d, e, ps, by rw [hx, ht]⟩
    by_cases g : ∃ t a c d e ps, x = .tup [.str t, a, c, d, e, .tup ps]
    · obtain ⟨t, a, c, d, e, ps, rfl⟩ := g
      have ht := k t a c d e ps rfl
      refine ⟨by simp [flatP, ht], by simp [csz, ht], by simp [partsOf, ht], fun up upA pl i b => by simp [prs, ht]⟩
    · refine ⟨?_, ?_, ?_, fun up upA pl i b => ?_⟩
      · unfold flatP
        split
        · exact absurd ⟨_, _, _, _, _, _, rfl⟩ g
        · rfl
      · unfold csz
        split
        · exact absurd ⟨_, _, _, _, _, _, rfl⟩ g
        · rfl
      · unfold partsOf
        split
        · exact absurd ⟨_, _, _, _, _, _, rfl⟩ g
        · rfl
      · unfold prs
        split
        · exact absurd ⟨_, _, _, _, _, _, rfl⟩ g
        · rfl
theorem flatP_w (a c d e : D) (ps : List D) : flatP (.tup [.str "warden", a, c, d, e, .tup ps]) = .tup [.str "warden", a, c, d, e, .tup ps] :: flatPs ps := by simp [flatP]
theorem csz_w (a c d e : D) (ps : List D) : csz (.tup [.str "warden", a, c, d, e, .tup ps]) = 2 + cszs ps := by simp [csz]
theorem partsOf_w (a c d e : D) (ps : List D) : partsOf (.tup [.str "warden", a, c, d, e, .tup ps]) = ps := by simp [partsOf]
theorem prs_w (a c d e : D) (ps : List D) (up : Option Nat) (upA : D) (pl i b : Nat) : prs (.tup [.str "warden", a, c, d, e, .tup ps]) up upA pl i b = ⟨.tup [.str "warden", a, c, d, e, .tup ps], up, upA, pl, i, b⟩ :: prss ps (some i) (.loc b) 0 (i + 1) (b + 2) := by simp [prs]
/-- an induction over parts that goes beneath wardens -/
theorem part_ind {Q : D → Prop} (h1 : ∀ x, flatP x = [x] → csz x = 1 → partsOf x = [] → (∀ up upA pl i b, prs x up upA pl i b = [⟨x, up, upA, pl, i, b⟩]) → Q x)
    (h2 : ∀ a c d e ps, (∀ p ∈ ps, Q p) → Q (.tup [.str "warden", a, c, d, e, .tup ps])) : ∀ x, Q x := by
  have go : ∀ n x, sizeOf x < n → Q x := by
    intro n
    induction n with
    | zero => intro x h; omega
    | succ n ih =>
      intro x h
      rcases part_cases x with ⟨a, c, d, e, ps, rfl⟩ | ⟨g1, g2, g3, g4⟩
      · refine h2 a c d e ps fun p hp => ih p ?_
        have := List.sizeOf_lt_of_mem hp
        simp at h
        omega
      · exact h1 x g1 g2 g3 g4
  exact fun x => go (sizeOf x + 1) x (Nat.lt_succ_self _)
theorem prs_map : ∀ (x : D) (up : Option Nat) (upA : D) (pl i b : Nat), (prs x up upA pl i b).map PR.part = flatP x := by
  intro x
  refine part_ind (Q := fun x => ∀ (up : Option Nat) (upA : D) (pl i b : Nat), (prs x up upA pl i b).map PR.part = flatP x) (fun x g1 _ _ g4 up upA pl i b => by rw [g4, g1]; rfl) (fun a c d e ps ih up upA pl i b => ?_) x
  rw [prs_w, flatP_w, List.map_cons]
  congr 1
  have go : ∀ (l : List D), (∀ p ∈ l, p ∈ ps) → ∀ (up : Option Nat) (upA : D) (pl i b : Nat), (prss l up upA pl i b).map PR.part = flatPs l := by
    intro l
    induction l with
    | nil => intros; rfl
    | cons q l il =>
      intro hm up upA pl i b
      rw [prss, List.map_append, flatPs, il (fun p hp => hm p (List.mem_cons_of_mem _ hp)), ih q (hm q (List.mem_cons_self ..))]
  exact go ps (fun _ h => h) _ _ _ _ _
theorem prss_map : ∀ (l : List D) (up : Option Nat) (upA : D) (pl i b : Nat), (prss l up upA pl i b).map PR.part = flatPs l
  | [], _, _, _, _, _ => rfl
  | q :: l, up, upA, pl, i, b => by rw [prss, List.map_append, flatPs, prss_map l, prs_map]
theorem prs_len (x : D) (up : Option Nat) (upA : D) (pl i b : Nat) : (prs x up upA pl i b).length = sz x := by
  rw [← List.length_map (f := PR.part), prs_map]
  rfl
theorem prss_len (x : List D) (up : Option Nat) (upA : D) (pl i b : Nat) : (prss x up upA pl i b).length = szs x := by
  rw [← List.length_map (f := PR.part), prss_map]
  rfl
theorem prs_head (x : D) (up : Option Nat) (upA : D) (pl i b : Nat) : (prs x up upA pl i b)[0]? = some ⟨x, up, upA, pl, i, b⟩ := by
  rcases part_cases x with ⟨a, c, d, e, ps, rfl⟩ | ⟨g1, g2, g3, g4⟩
  · rw [prs_w]; rfl
  · rw [g4]; rfl
theorem sz_pos (x : D) : 1 ≤ sz x := by
  rcases part_cases x with ⟨a, c, d, e, ps, rfl⟩ | ⟨g1, g2, g3, g4⟩
  · unfold sz; rw [flatP_w]; simp
  · unfold sz; rw [g1]; simp
theorem prss_at : ∀ (ps : List D) (up : Option Nat) (upA : D) (pl i b a : Nat) (p : D), ps[a]? = some p → (prss ps up upA pl i b)[szs (ps.take a)]? = some ⟨p, up, upA, pl + a, i + szs (ps.take a), b + cszs (ps.take a)⟩
  | [], _, _, _, _, _, _, _, h => by simp at h
  | q :: ps, up, upA, pl, i, b, 0, p, h => by
    simp at h
    subst h
    rw [prss, List.getElem?_append_left (by rw [prs_len]; have := sz_pos q; simp [szs, flatPs]; omega)]
    have := prs_head q up upA pl i b
    simpa [szs, flatPs, cszs] using this
  | q :: ps, up, upA, pl, i, b, a + 1, p, h => by
    have ih := prss_at ps up upA (pl + 1) (i + sz q) (b + csz q) a p (by simpa using h)
    rw [prss, List.take_succ_cons, szs_cons, cszs, List.getElem?_append_right (by rw [prs_len]; omega), prs_len, show sz q + szs (ps.take a) - sz q = szs (ps.take a) by omega, ih]
    simp only [Option.some.injEq, PR.mk.injEq, true_and]
    omega
/-- who stands beneath whom -/
def KB (i : Nat) (B : List PR) : Prop := ∀ r ∈ B, ∀ (a : Nat) (p : D), (partsOf r.part)[a]? = some p → i ≤ r.ix + 1 + szs ((partsOf r.part).take a) ∧
  B[r.ix + 1 + szs ((partsOf r.part).take a) - i]? = some ⟨p, some r.ix, .loc r.ad, a, r.ix + 1 + szs ((partsOf r.part).take a), r.ad + 2 + cszs ((partsOf r.part).take a)⟩
theorem KB.app {i : Nat} {A B : List PR} (h1 : KB i A) (h2 : KB (i + A.length) B) : KB i (A ++ B) := fun r hr a p hp => by
  rcases List.mem_append.mp hr with hr | hr
  · obtain ⟨g1, g2⟩ := h1 r hr a p hp
    exact ⟨g1, by rw [List.getElem?_append_left (List.getElem?_eq_some_iff.mp g2).1]; exact g2⟩
  · obtain ⟨g1, g2⟩ := h2 r hr a p hp
    refine ⟨by omega, ?_⟩
    rw [List.getElem?_append_right (by omega), ← g2]
    congr 1
    omega
theorem prss_KB {ps : List D} (ih : ∀ p ∈ ps, ∀ (up : Option Nat) (upA : D) (pl i b : Nat), KB i (prs p up upA pl i b)) : ∀ (l : List D), (∀ p ∈ l, p ∈ ps) → ∀ (up : Option Nat) (upA : D) (pl i b : Nat), KB i (prss l up upA pl i b)
  | [], _, _, _, _, _, _ => fun r hr => by cases hr
  | q :: l, hm, up, upA, pl, i, b => by
    rw [prss]
    refine KB.app (ih q (hm q (List.mem_cons_self ..)) _ _ _ _ _) ?_
    rw [prs_len]
    exact prss_KB ih l (fun p hp => hm p (List.mem_cons_of_mem _ hp)) _ _ _ _ _
theorem prs_KB : ∀ (x : D) (up : Option Nat) (upA : D) (pl i b : Nat), KB i (prs x up upA pl i b) := by
  intro x
  refine part_ind (Q := fun x => ∀ (up : Option Nat) (upA : D) (pl i b : Nat), KB i (prs x up upA pl i b)) (fun x _ _ g3 g4 up upA pl i b => ?_) (fun a c d e ps ih up upA pl i b => ?_) x
  · rw [g4]
    intro r hr a p hp
    have : r = ⟨x, up, upA, pl, i, b⟩ := List.mem_singleton.mp hr
    subst this
    rw [show partsOf (PR.part ⟨x, up, upA, pl, i, b⟩) = [] from g3] at hp
    simp at hp
  · rw [prs_w]
    have hk := prss_KB ih ps (fun _ h => h) (some i) (.loc b) 0 (i + 1) (b + 2)
    intro r hr a' p hp
    rcases List.mem_cons.mp hr with rfl | hr
    · dsimp only at hp ⊢
      rw [partsOf_w] at hp ⊢
      refine ⟨by omega, ?_⟩
      have := prss_at ps (some i) (.loc b) 0 (i + 1) (b + 2) a' p hp
      rw [show i + 1 + szs (ps.take a') - i = szs (ps.take a') + 1 by omega, List.getElem?_cons_succ, this]
      simp
    · obtain ⟨g1, g2⟩ := hk r hr a' p hp
      refine ⟨by omega, ?_⟩
      rw [← g2, show r.ix + 1 + szs ((partsOf r.part).take a') - i = (r.ix + 1 + szs ((partsOf r.part).take a') - (i + 1)) + 1 by omega, List.getElem?_cons_succ]
end LawK
namespace LawK
open PySem PySem.Spec PyProof.Rows L2 Ev
/-! ### where the posts stand -/
def rcs (B : List PR) : Nat := (B.flatMap rc).length
theorem rcs_app (A B : List PR) : rcs (A ++ B) = rcs A + rcs B := by unfold rcs; rw [List.flatMap_append, List.length_append]
theorem rcs_cons (r : PR) (B : List PR) : rcs (r :: B) = (rc r).length + rcs B := by unfold rcs; rw [List.flatMap_cons, List.length_append]
theorem rc_len (r : PR) : (rc r).length = if isW r.part then 2 else 1 := by unfold rc; split <;> rfl
theorem isW_w (a c d e : D) (ps : List D) : isW (.tup [.str "warden", a, c, d, e, .tup ps]) = match a with
  | .str _ => true
  | _ => false := by
  cases a <;> rfl
/-- every warden has a name that is a text -/
def okW (x : D) : Prop := ∀ p ∈ flatP x, (∃ a c d e ps, p = .tup [.str "warden", .str a, c, d, e, .tup ps]) ∨ (partsOf p = [] ∧ isW p = false)
theorem pv_kids {k : Nat} {x : D} (h : pv k x = true) : (isW x = true ∧ ∃ k' nm u a b ps, k = k' + 1 ∧ x = .tup [.str "warden", .str nm, .str u, .int a, .int b, .tup ps] ∧ ∀ p ∈ ps, pv k' p = true) ∨
    (isW x = false ∧ ∃ nm u, x = .tup [.str "worker", .str nm, .str u]) := by
  cases pv_shape h with
  | w nm u hn => exact .inr ⟨rfl, nm, u, rfl⟩
  | d k' nm u a b ps e hn h8 h1 hp => exact .inl ⟨by unfold isW; simp [kn], k', nm, u, a, b, ps, e, rfl, hp⟩
def Adr (i b : Nat) (B : List PR) : Prop := ∀ (j : Nat) (r : PR), B[j]? = some r → r.ix = i + j ∧ r.ad = b + rcs (B.take j)
theorem Adr.app {i b : Nat} {A B : List PR} (h1 : Adr i b A) (h2 : Adr (i + A.length) (b + rcs A) B) : Adr i b (A ++ B) := fun j r hr => by
  by_cases hj : j < A.length
  · rw [List.getElem?_append_left hj] at hr
    obtain ⟨g1, g2⟩ := h1 j r hr
    exact ⟨g1, by rw [g2, List.take_append_of_le_length (by omega)]⟩
  · obtain ⟨t, rfl⟩ : ∃ t, j = A.length + t := ⟨j - A.length, by omega⟩
    rw [List.getElem?_append_right (by omega), Nat.add_sub_cancel_left] at hr
    obtain ⟨g1, g2⟩ := h2 t r hr
    refine ⟨by omega, ?_⟩
    have e : A.take (A.length + t) = A := List.take_of_length_le (by omega)
    rw [g2, List.take_append, rcs_app, e, Nat.add_sub_cancel_left]
    omega
theorem prs_Adr : ∀ (k : Nat) (x : D), pv k x = true → ∀ (up : Option Nat) (upA : D) (pl i b : Nat), Adr i b (prs x up upA pl i b) ∧ rcs (prs x up upA pl i b) = csz x := by
  intro k
  induction k with
  | zero =>
    intro x h up upA pl i b
    rcases pv_kids h with ⟨_, k', nm, u, a, b', ps, e, _⟩ | ⟨h0, nm, u, rfl⟩
    · cases e
    · rw [show prs (.tup [.str "worker", .str nm, .str u]) up upA pl i b = [⟨.tup [.str "worker", .str nm, .str u], up, upA, pl, i, b⟩] by simp [prs]]
      refine ⟨fun j r hr => ?_, ?_⟩
      · have hj : j = 0 := by have := (List.getElem?_eq_some_iff.mp hr).1; simpa using this
        subst hj
        simp at hr
        subst hr
        exact ⟨rfl, rfl⟩
      · rw [rcs_cons, rc_len, h0]
        simp [rcs, csz]
  | succ k ih =>
    intro x h up upA pl i b
    rcases pv_kids h with ⟨h0, k', nm, u, a, b', ps, e, rfl, hp⟩ | ⟨h0, nm, u, rfl⟩
    · cases e
      have go : ∀ (l : List D), (∀ p ∈ l, p ∈ ps) → ∀ (up : Option Nat) (upA : D) (pl i b : Nat), Adr i b (prss l up upA pl i b) ∧ rcs (prss l up upA pl i b) = cszs l := by
        intro l
        induction l with
        | nil => exact fun _ up upA pl i b => ⟨fun j r hr => by simp [prss] at hr, rfl⟩
        | cons q l il =>
          intro hm up upA pl i b
          obtain ⟨a1, a2⟩ := ih q (hp q (hm q (List.mem_cons_self ..))) up upA pl i b
          obtain ⟨b1, b2⟩ := il (fun p hp => hm p (List.mem_cons_of_mem _ hp)) up upA (pl + 1) (i + sz q) (b + csz q)
          rw [prss, cszs]
          exact ⟨Adr.app a1 (by rw [prs_len, a2]; exact b1), by rw [rcs_app, a2, b2]⟩
      obtain ⟨b1, b2⟩ := go ps (fun _ h => h) (some i) (.loc b) 0 (i + 1) (b + 2)
      rw [prs_w, csz_w]
      have hl : rcs [⟨.tup [.str "warden", .str nm, .str u, .int a, .int b', .tup ps], up, upA, pl, i, b⟩] = 2 := by
        rw [rcs_cons, rc_len, h0]
        rfl
      refine ⟨Adr.app (A := [_]) (fun j r hr => ?_) (by rw [hl]; exact b1), by rw [rcs_cons, b2, rc_len, h0]; rfl⟩
      have hj : j = 0 := by have := (List.getElem?_eq_some_iff.mp hr).1; simpa using this
      subst hj
      simp at hr
      subst hr
      exact ⟨rfl, rfl⟩
    · rw [show prs (.tup [.str "worker", .str nm, .str u]) up upA pl i b = [⟨.tup [.str "worker", .str nm, .str u], up, upA, pl, i, b⟩] by simp [prs]]
      refine ⟨fun j r hr => ?_, ?_⟩
      · have hj : j = 0 := by have := (List.getElem?_eq_some_iff.mp hr).1; simpa using this
        subst hj
        simp at hr
        subst hr
        exact ⟨rfl, rfl⟩
      · rw [rcs_cons, rc_len, h0]
        simp [rcs, csz]
/-- the posts are well placed -/
structure LW (L : List PR) : Prop where
  ix : ∀ (i : Nat) (r : PR), L[i]? = some r → r.ix = i
  kb : KB 0 L
  sep : ∀ (i j : Nat) (r q : PR), L[i]? = some r → L[j]? = some q → i < j → r.ad + (if isW r.part then 2 else 1) ≤ q.ad
theorem rcs_take_le {B : List PR} {i j : Nat} {r : PR} (hr : B[i]? = some r) (h : i < j) : rcs (B.take i) + (rc r).length ≤ rcs (B.take j) := by
  have e : B.take (i + 1) = B.take i ++ [r] := by rw [List.take_add_one, hr]; rfl
  have e2 : B.take j = B.take (i + 1) ++ (B.take j).drop (i + 1) := by
    have := List.take_append_drop (i + 1) (B.take j)
    rw [List.take_take, Nat.min_eq_left (by omega)] at this
    exact this.symm
  rw [e2, rcs_app, e, rcs_app, rcs_cons]
  omega
theorem lw_prs {k : Nat} {x : D} (h : pv k x = true) (b : Nat) : LW (prs x none .non 0 0 b) where
  ix := fun i r hr => by have := ((prs_Adr k x h none .non 0 0 b).1 i r hr).1; omega
  kb := prs_KB x none .non 0 0 b
  sep := fun i j r q hr hq hij => by
    have g1 := ((prs_Adr k x h none .non 0 0 b).1 i r hr).2
    have g2 := ((prs_Adr k x h none .non 0 0 b).1 j q hq).2
    have := rcs_take_le hr hij
    rw [rc_len] at this
    omega
/-- the store holds the posts as they stand -/
structure HS (T : Store) (L : List PR) (m : Nat → PM) : Prop where
  post : ∀ (i : Nat) (r : PR), L[i]? = some r → T[r.ad]? = some (postC r (m i))
  kids : ∀ (i : Nat) (r : PR), L[i]? = some r → isW r.part = true → T[r.ad + 1]? = some (kidsL r)
theorem flatMap_at {f : PR → List Cell} : ∀ {B : List PR} {j : Nat} {r : PR} {t : Nat}, B[j]? = some r → t < (f r).length → (B.flatMap f)[((B.take j).flatMap f).length + t]? = (f r)[t]?
  | [], _, _, _, h, _ => by simp at h
  | q :: B, 0, r, t, h, ht => by
    simp at h
    subst h
    rw [List.flatMap_cons, List.take_zero, List.flatMap_nil, List.length_nil, Nat.zero_add, List.getElem?_append_left ht]
  | q :: B, j + 1, r, t, h, ht => by
    have ih := flatMap_at (f := f) (B := B) (j := j) (t := t) (by simpa using h) ht
    rw [List.flatMap_cons, List.take_succ_cons, List.flatMap_cons, List.length_append, List.getElem?_append_right (by omega), ← ih]
    congr 1
    omega
theorem hs_new {k : Nat} {x : D} (h : pv k x = true) (S : Store) : HS (S ++ (prs x none .non 0 0 S.length).flatMap rc) (prs x none .non 0 0 S.length) fun _ => m0 where
  post := fun i r hr => by
    have g := ((prs_Adr k x h none .non 0 0 S.length).1 i r hr).2
    rw [List.getElem?_append_right (by omega), show r.ad - S.length = rcs ((prs x none .non 0 0 S.length).take i) + 0 by omega]
    exact flatMap_at (f := rc) hr (by rw [rc_len]; split <;> omega)
  kids := fun i r hr hw => by
    have g := ((prs_Adr k x h none .non 0 0 S.length).1 i r hr).2
    rw [List.getElem?_append_right (by omega), show r.ad + 1 - S.length = rcs ((prs x none .non 0 0 S.length).take i) + 1 by omega]
    have e := flatMap_at (f := rc) (t := 1) hr (by rw [rc_len, hw]; decide)
    unfold rcs
    rw [e]
    unfold rc
    rw [if_pos hw]
    rfl
end LawK
namespace LawK
open PySem PySem.Spec PyProof.Rows L2 Ev
/-! ### instances: the fields by their names -/
theorem at0 (n : Nat) {f : Str} (h : f ∈ (["part", "warden", "place", "inner", "living", "total", "letters", "kept"] : List Str)) : (parOf Tt n).atr 0 f = true := by
  have : ∀ f ∈ (["part", "warden", "place", "inner", "living", "total", "letters", "kept"] : List Str), atrOf atrT 0 f = true := by decide +kernel
  exact this f h
theorem at1 (n : Nat) {f : Str} (h : f ∈ (["top", "posts", "now", "given", "rows"] : List Str)) : (parOf Tt n).atr 1 f = true := by
  have : ∀ f ∈ (["top", "posts", "now", "given", "rows"] : List Str), atrOf atrT 1 f = true := by decide +kernel
  exact this f h
theorem nw : ¬ ((Str.ofString "worker") = (Str.ofString "warden")) := by decide
theorem set_same {S : Store} {n : Nat} {c : Cell} (h : S[n]? = some c) : S.set n c = S := by
  apply List.ext_getElem?
  intro i
  by_cases hi : n = i
  · subst hi
    rw [List.getElem?_set_self (List.getElem?_eq_some_iff.mp h).1, h]
  · rw [List.getElem?_set_ne hi]
theorem setAt_new {atr : Nat → Str → Bool} {δ : Ev.Env} {c : Nat} {fs : List (Str × D)} {f : Str} {d : D} {S : Store} (h2 : atr c f = true) (h3 : fs.length < 100) : setAt atr δ f d (.loc S.length) (S ++ [.ins c fs]) = .nx δ (S ++ [.ins c (putF f d fs)]) := by
  rw [setAt_is _ (by simp) h2 h3]
  simp
theorem post_init (n : Nat) (S : Store) (p w : D) (a : Nat) : callF Tt (n + 1) 24 [.loc S.length, p, w, .int (a : Int)] (S ++ [.ins 0 []]) =
    .ok .non (S ++ [.ins 0 [("part", p), ("warden", w), ("place", .int (a : Int)), ("inner", .lst []), ("living", .bl false), ("total", .int 0), ("letters", .lst []), ("kept", .lst [])]]) := by
  rw [callF_is (fd := f_Post_init) rfl rfl]
  show endF false (S ++ [.ins 0 []]) (evB (parOf Tt n) [s_Post_init_0, s_Post_init_1, s_Post_init_2, s_Post_init_3, s_Post_init_4, s_Post_init_5, s_Post_init_6, s_Post_init_7] [some (.loc S.length), some p, some w, some (.int (a : Int))] (S ++ [.ins 0 []])) = _
  have st : ∀ (f : Str) (e : E) (d : D) (fs : List (Str × D)), f ∈ (["part", "warden", "place", "inner", "living", "total", "letters", "kept"] : List Str) → fs.length < 100 → evE (parOf Tt n) e [some (.loc S.length), some p, some w, some (.int (a : Int))] (S ++ [.ins 0 fs]) = .ok d (S ++ [.ins 0 fs]) →
      evS (parOf Tt n) (.setA (.var 0) f e) [some (.loc S.length), some p, some w, some (.int (a : Int))] (S ++ [.ins 0 fs]) = .nx [some (.loc S.length), some p, some w, some (.int (a : Int))] (S ++ [.ins 0 (putF f d fs)]) := fun f e d fs hf hl he => by
    rw [evS_setA, he, thenS_ok]
    simp only [evE_var, List.getElem?_cons_zero, ofV_some, thenS_ok]
    exact setAt_new (at0 n hf) hl
  rw [evB_cons, s_Post_init_0, st "part" _ p [] (by simp) (by simp) (by simp), seq_nx,
    evB_cons, s_Post_init_1, st "warden" _ w (putF "part" p []) (by simp) (Nat.lt_of_le_of_lt (show _ ≤ 1 from Nat.le_refl _) (by omega)) (by simp), seq_nx]
  rw [show putF "warden" w (putF "part" p []) = ([("part", p), ("warden", w)] : List (Str × D)) by rfl]
  rw [evB_cons, s_Post_init_2, st "place" _ (.int (a : Int)) _ (by simp) (by simp) (by simp), seq_nx, show putF "place" (.int (a : Int)) [("part", p), ("warden", w)] = ([("part", p), ("warden", w), ("place", .int (a : Int))] : List (Str × D)) by rfl]
  rw [evB_cons, s_Post_init_3, st "inner" _ (.lst []) _ (by simp) (by simp) (by simp), seq_nx, show putF "inner" (.lst []) [("part", p), ("warden", w), ("place", .int (a : Int))] = ([("part", p), ("warden", w), ("place", .int (a : Int)), ("inner", .lst [])] : List (Str × D)) by rfl]
  rw [evB_cons, s_Post_init_4, st "living" _ (.bl false) _ (by simp) (by simp) (by simp), seq_nx, show putF "living" (.bl false) [("part", p), ("warden", w), ("place", .int (a : Int)), ("inner", .lst [])] = ([("part", p), ("warden", w), ("place", .int (a : Int)), ("inner", .lst []), ("living", .bl false)] : List (Str × D)) by rfl]
  rw [evB_cons, s_Post_init_5, st "total" _ (.int 0) _ (by simp) (by simp) (by simp), seq_nx, show putF "total" (.int 0) [("part", p), ("warden", w), ("place", .int (a : Int)), ("inner", .lst []), ("living", .bl false)] = ([("part", p), ("warden", w), ("place", .int (a : Int)), ("inner", .lst []), ("living", .bl false), ("total", .int 0)] : List (Str × D)) by rfl]
  rw [evB_cons, s_Post_init_6, st "letters" _ (.lst []) _ (by simp) (by simp) (by simp), seq_nx, show putF "letters" (.lst []) [("part", p), ("warden", w), ("place", .int (a : Int)), ("inner", .lst []), ("living", .bl false), ("total", .int 0)] = ([("part", p), ("warden", w), ("place", .int (a : Int)), ("inner", .lst []), ("living", .bl false), ("total", .int 0), ("letters", .lst [])] : List (Str × D)) by rfl]
  rw [evB_cons, s_Post_init_7, st "kept" _ (.lst []) _ (by simp) (by simp) (by simp), seq_nx, show putF "kept" (.lst []) [("part", p), ("warden", w), ("place", .int (a : Int)), ("inner", .lst []), ("living", .bl false), ("total", .int 0), ("letters", .lst [])] = ([("part", p), ("warden", w), ("place", .int (a : Int)), ("inner", .lst []), ("living", .bl false), ("total", .int 0), ("letters", .lst []), ("kept", .lst [])] : List (Str × D)) by rfl]
  rfl
/-- a new post, not yet a warden's -/
def newC (p w : D) (a : Nat) (inn : D) : Cell := .ins 0 [("part", p), ("warden", w), ("place", .int (a : Int)), ("inner", inn), ("living", .bl false), ("total", .int 0), ("letters", .lst []), ("kept", .lst [])]
theorem post_make (n : Nat) (S : Store) (p w : D) (a : Nat) (δ : Ev.Env) (h0 : δ[0]? = some (some p)) (h1 : δ[1]? = some (some w)) (h2 : δ[2]? = some (some (.int (a : Int)))) :
    evE (parOf Tt (n + 1)) (.make 0 [.var 0, .var 1, .var 2]) δ S = .ok (.loc S.length) (S ++ [newC p w a (.lst [])]) := by
  rw [evE_make (f := 24) rfl]
  simp only [evEs_cons, evEs_nil, evE_var, h0, h1, h2, ofV_some, bind_ok, parOf_cf]
  rw [post_init n S p w a]
  rfl
/-! ### a part of a plan, and all beneath it, as posts -/
theorem rc_w {r : PR} (h : isW r.part = true) : rc r = [newC r.part r.upA r.pl (.loc (r.ad + 1)), kidsL r] := by
  unfold rc postC innO
  rw [if_pos h, if_pos h]
  rfl
theorem rc_n {r : PR} (h : isW r.part = false) : rc r = [newC r.part r.upA r.pl (.lst [])] := by
  unfold rc postC innO
  rw [h]
  rfl
/-- the turns of a comprehension that makes posts -/
theorem laid_turns {f : D → Store → R (Option D)} : ∀ (ps : List D) (i0 : Nat) (S : Store) (n : Nat) (acc : List D) (up : Option Nat) (upA : D) (i : Nat), acc.length + ps.length ≤ 1000 → S[n]? = some (.lst acc) → n < S.length →
    (∀ (a : Nat) p, ps[a]? = some p → ∀ (S : Store) (i : Nat), f (.tup [.int ((i0 + a : Nat) : Int), p]) S = .ok (some (.loc S.length)) (S ++ (prs p up upA (i0 + a) i S.length).flatMap rc)) →
    (∀ p ∈ ps, ∀ (S : Store) pl i, rcs (prs p up upA pl i S.length) = csz p) →
    compT n [] f ((ps.mapIdx fun a p => (.tup [.int ((i0 + a : Nat) : Int), p] : D))) S = .ok (.loc n) (S.set n (.lst (acc ++ (locA S.length ps).map .loc)) ++ (prss ps up upA i0 i S.length).flatMap rc)
  | [], i0, S, n, acc, up, upA, i, _, hn, hl, _, _ => by
    simp only [List.mapIdx_nil, compT, locA, List.map_nil, List.append_nil, prss, List.flatMap_nil]
    rw [if_pos stays0]
    congr 1
    exact (set_same hn).symm
  | p :: ps, i0, S, n, acc, up, upA, i, hk, hn, hl, hf, hr => by
    have hl2 : acc.length + ps.length + 1 ≤ 1000 := by simpa [Nat.add_assoc] using hk
    have f0 := hf 0 p rfl S i
    rw [List.mapIdx_cons]
    unfold compT
    rw [if_pos stays0, show ((0 : Nat) : Nat) = 0 from rfl, f0, R.bind0]
    have hn2 : (S ++ (prs p up upA (i0 + 0) i S.length).flatMap rc)[n]? = some (.lst acc) := by rw [List.getElem?_append_left hl]; exact hn
    rw [hn2]
    dsimp only
    rw [if_pos (by rw [LIM_nat]; omega)]
    have lr : (prs p up upA (i0 + 0) i S.length).flatMap rc = (prs p up upA i0 i S.length).flatMap rc := rfl
    rw [lr, List.set_append_left _ _ hl]
    have szl : (S.set n (.lst (acc ++ (some (D.loc S.length)).toList)) ++ (prs p up upA i0 i S.length).flatMap rc).length = S.length + csz p := by
      have := hr p (List.mem_cons_self ..) S i0 i
      unfold rcs at this
      rw [List.length_append, List.length_set, this]
    have ih := laid_turns (f := f) ps (i0 + 1) (S.set n (.lst (acc ++ (some (D.loc S.length)).toList)) ++ (prs p up upA i0 i S.length).flatMap rc) n (acc ++ (some (D.loc S.length)).toList) up upA (i + sz p) (by simp; omega)
      (by rw [List.getElem?_append_left (by rw [List.length_set]; exact hl), List.getElem?_set_self hl]) (by rw [szl]; omega)
      (fun a q hq S i => by
        have := hf (a + 1) q (by simpa using hq) S i
        rw [show i0 + (a + 1) = i0 + 1 + a by omega] at this
        exact this) (fun q hq => hr q (List.mem_cons_of_mem _ hq))
    have fe : (fun (a : Nat) (p : D) => (D.tup [.int ((i0 + (a + 1) : Nat) : Int), p])) = fun (a : Nat) (p : D) => (D.tup [.int ((i0 + 1 + a : Nat) : Int), p]) := by
      funext a p
      rw [show i0 + (a + 1) = i0 + 1 + a by omega]
    rw [fe, ih, szl]
    congr 1
    rw [List.set_append_left _ _ (by rw [List.length_set]; exact hl), List.set_set, List.append_assoc, prss, List.flatMap_append, locA, List.map_cons]
    simp
theorem laid_out : ∀ (k n : Nat) (x : D), k ≤ 6 → pv k x = true → ∀ (S : Store) (w : D) (a : Nat) (up : Option Nat) (i : Nat), callF Tt (n + k + 2) 25 [x, w, .int (a : Int)] S = .ok (.loc S.length) (S ++ (prs x up w a i S.length).flatMap rc) := by
  intro k
  induction k with
  | zero =>
    intro n x hk h S w a up i
    rcases pv_kids h with ⟨_, k', nm, u, a, b', ps, e, _⟩ | ⟨h0, nm, u, rfl⟩
    · cases e
    rw [callF_is (fd := f_laid_out) rfl rfl]
    show endF false S (evB (parOf Tt (n + 1)) [s_laid_out_0, s_laid_out_1, s_laid_out_2] [some (.tup [.str "worker", .str nm, .str u]), some w, some (.int (a : Int)), none, none, none] S) = _
    rw [evB_cons, s_laid_out_0, evS_set, post_make n S _ w a _ rfl rfl rfl, thenS_ok, seq_nx, evB_cons]
    rw [show prs (.tup [.str "worker", .str nm, .str u]) up w a i S.length = [⟨.tup [.str "worker", .str nm, .str u], up, w, a, i, S.length⟩] by simp [prs]]
    have g : ∀ S, op2 S .get (.tup [.str "worker", .str nm, .str u]) (.int 0) = some (.str "worker") := fun _ => rfl
    rw [List.flatMap_cons, rc_n h0]
    simp [s_laid_out_1, s_laid_out_2, g, nw]
  | succ k ih =>
    intro n x hk h S w a up i
    rcases pv_kids h with ⟨h0, k', nm, u, v1, v2, ps, e, rfl, hp⟩ | ⟨h0, nm, u, rfl⟩
    · cases e
      have h8 : ps.length ≤ 8 := by
        cases pv_shape h with
        | d _ _ _ _ _ _ e hn h8 h1 hp => exact h8
      rw [callF_is (fd := f_laid_out) rfl rfl]
      show endF false S (evB (parOf Tt (n + (k + 1) + 1)) [s_laid_out_0, s_laid_out_1, s_laid_out_2] [some (.tup [.str "warden", .str nm, .str u, .int v1, .int v2, .tup ps]), some w, some (.int (a : Int)), none, none, none] S) = _
      rw [evB_cons, s_laid_out_0, evS_set, post_make (n + (k + 1)) S _ w a _ rfl rfl rfl, thenS_ok, seq_nx, evB_cons]
      have g : ∀ S, op2 S .get (.tup [.str "warden", .str nm, .str u, .int v1, .int v2, .tup ps]) (.int 0) = some (.str "warden") := fun _ => rfl
      have g5 : ∀ S, op2 S .get (.tup [.str "warden", .str nm, .str u, .int v1, .int v2, .tup ps]) (.int 5) = some (.tup ps) := fun _ => rfl
      generalize hx : (D.tup [.str "warden", .str nm, .str u, .int v1, .int v2, .tup ps]) = x at *
      simp only [List.set_cons_succ, List.set_cons_zero]
      have cm : evE (parOf Tt (n + (k + 1) + 1)) (.cmp true (.call 25 [.var 5, .var 3, .var 4]) [4, 5] (.pr 4 5) .enm [.op2 .get (.var 0) (.lit (.int 5))] []) [some x, some w, some (.int (a : Int)), some (.loc S.length), none, none] (S ++ [newC x w a (.lst [])]) =
          .ok (.loc (S.length + 1)) (S ++ [newC x w a (.lst []), .lst ((locA (S.length + 2) ps).map .loc)] ++ (prss ps (some i) (.loc S.length) 0 (i + 1) (S.length + 2)).flatMap rc) := by
        rw [evE_cmp]
        unfold evCmp
        have w1 : evEs (parOf Tt (n + (k + 1) + 1)) [.op2 .get (.var 0) (.lit (.int 5))] [some x, some w, some (.int (a : Int)), some (.loc S.length), none, none] (S ++ [newC x w a (.lst [])]) = .ok [.tup ps] (S ++ [newC x w a (.lst [])]) := by simp [g5]
        rw [w1, bind_ok]
        have w2 : walkOf (S ++ [newC x w a (.lst [])]) .enm [.tup ps] = some (ps.mapIdx fun i x => .tup [.int i, x], []) := rfl
        rw [w2]
        dsimp only
        unfold compM
        rw [if_pos (by rw [LIM_nat]; simp; omega), if_pos rfl]
        have lt := laid_turns (f := turnC [4, 5] (.pr 4 5) (evIfs (parOf Tt (n + (k + 1) + 1)) []) (evE (parOf Tt (n + (k + 1) + 1)) (.call 25 [.var 5, .var 3, .var 4])) [some x, some w, some (.int (a : Int)), some (.loc S.length), none, none]) ps 0 (S ++ [newC x w a (.lst [])] ++ [.lst []]) (S.length + 1) [] (some i) (.loc S.length) (i + 1) (by simp; omega) (by simp) (by simp)
          (fun a' p hp' S' i' => by
            have e := ih (n + 1 + 0) p (by omega) (hp p (List.mem_of_getElem? hp')) S' (.loc S.length) (0 + a') (some i) i'
            rw [show n + 1 + 0 + k + 2 = n + (k + 1) + 1 + 1 by omega] at e
            have e2 : callF Tt (n + (k + 1) + 1) 25 [p, .loc S.length, .int ((0 + a' : Nat) : Int)] S' = .ok (.loc S'.length) (S' ++ (prs p (some i) (.loc S.length) (0 + a') i' S'.length).flatMap rc) := by
              have e := ih n p (by omega) (hp p (List.mem_of_getElem? hp')) S' (.loc S.length) (0 + a') (some i) i'
              rw [show n + k + 2 = n + (k + 1) + 1 by omega] at e
              exact e
            unfold turnC
            simp only [setT, wipeE, List.set_cons_succ, List.set_cons_zero, evIfs_nil, bind_ok, if_true, evE_call, evEs_cons, evEs_nil, evE_var, List.getElem?_cons_succ, List.getElem?_cons_zero, ofV_some, parOf_cf, e2])
          (fun p hp' S' pl i' => (prs_Adr k p (hp p hp') (some i) (.loc S.length) pl i' S'.length).2)
        have fe : (fun (i : Nat) (x : D) => (D.tup [.int ((0 + i : Nat) : Int), x])) = fun (i : Nat) (x : D) => (D.tup [.int (i : Int), x]) := by
          funext i x
          rw [Nat.zero_add]
        rw [fe] at lt
        have sl : (S ++ [newC x w a (.lst [])]).length = S.length + 1 := by simp
        rw [sl, lt]
        have sl2 : (S ++ [newC x w a (.lst [])] ++ [Cell.lst []]).length = S.length + 2 := by simp
        rw [sl2]
        congr 2
        rw [List.append_assoc, List.set_append_right _ _ (by omega), show S.length + 1 - S.length = 1 by omega]
        rfl
      have sA : setAt (parOf Tt (n + (k + 1) + 1)).atr [some x, some w, some (.int (a : Int)), some (.loc S.length), none, none] "inner" (.loc (S.length + 1)) (.loc S.length) (S ++ [newC x w a (.lst []), .lst ((locA (S.length + 2) ps).map .loc)] ++ (prss ps (some i) (.loc S.length) 0 (i + 1) (S.length + 2)).flatMap rc) =
          .nx [some x, some w, some (.int (a : Int)), some (.loc S.length), none, none] (S ++ [newC x w a (.loc (S.length + 1)), .lst ((locA (S.length + 2) ps).map .loc)] ++ (prss ps (some i) (.loc S.length) 0 (i + 1) (S.length + 2)).flatMap rc) := by
        rw [setAt_is _ (c := 0) (fs := [("part", x), ("warden", w), ("place", .int (a : Int)), ("inner", .lst []), ("living", .bl false), ("total", .int 0), ("letters", .lst []), ("kept", .lst [])]) (by simp [newC]) (at0 _ (by simp)) (by simp)]
        congr 1
        rw [List.append_assoc, List.set_append_right _ _ (by omega), Nat.sub_self, List.append_assoc]
        rfl
      have pe : prs x up w a i S.length = ⟨x, up, w, a, i, S.length⟩ :: prss ps (some i) (.loc S.length) 0 (i + 1) (S.length + 2) := by rw [← hx, prs_w]
      have po : partsOf x = ps := by rw [← hx, partsOf_w]
      have r0 : rc ⟨x, up, w, a, i, S.length⟩ = [newC x w a (.loc (S.length + 1)), .lst ((locA (S.length + 2) ps).map .loc)] := by
        rw [rc_w (by exact h0)]
        unfold kidsL
        rw [show PR.part ⟨x, up, w, a, i, S.length⟩ = x from rfl, po]
      rw [pe, List.flatMap_cons, r0]
      have e1 : evS (parOf Tt (n + (k + 1) + 1)) s_laid_out_1 [some x, some w, some (.int (a : Int)), some (.loc S.length), none, none] (S ++ [newC x w a (.lst [])]) = .nx [some x, some w, some (.int (a : Int)), some (.loc S.length), none, none] (S ++ [newC x w a (.loc (S.length + 1)), .lst ((locA (S.length + 2) ps).map .loc)] ++ (prss ps (some i) (.loc S.length) 0 (i + 1) (S.length + 2)).flatMap rc) := by
        rw [s_laid_out_1, evS_ite]
        simp only [evE_op2, evE_var, evE_lit, List.getElem?_cons_zero, ofV_some, bind_ok, g, ofO_some, o_eqS, thenS_ok]
        rw [show ((Str.ofString "warden" : Str) == Str.ofString "warden") = true from beq_self_eq_true _, ifB_bl, if_pos rfl, evB_cons, evS_setA, cm, thenS_ok]
        simp only [evE_var, List.getElem?_cons_succ, List.getElem?_cons_zero, ofV_some, thenS_ok]
        rw [sA, seq_nx, evB_nil]
      rw [e1, seq_nx]
      simp [s_laid_out_2]
    · rw [callF_is (fd := f_laid_out) rfl rfl]
      show endF false S (evB (parOf Tt (n + (k + 1) + 1)) [s_laid_out_0, s_laid_out_1, s_laid_out_2] [some (.tup [.str "worker", .str nm, .str u]), some w, some (.int (a : Int)), none, none, none] S) = _
      rw [evB_cons, s_laid_out_0, evS_set, post_make (n + (k + 1)) S _ w a _ rfl rfl rfl, thenS_ok, seq_nx, evB_cons]
      rw [show prs (.tup [.str "worker", .str nm, .str u]) up w a i S.length = [⟨.tup [.str "worker", .str nm, .str u], up, w, a, i, S.length⟩] by simp [prs]]
      have g : ∀ S, op2 S .get (.tup [.str "worker", .str nm, .str u]) (.int 0) = some (.str "worker") := fun _ => rfl
      rw [List.flatMap_cons, rc_n h0]
      simp [s_laid_out_1, s_laid_out_2, g, nw]
end LawK
namespace LawK
open PySem PySem.Spec PyProof.Rows L2 Ev
/-! ### the posts as they stand -/
def seg (L : List PR) (i s : Nat) : List PR := (L.drop i).take s
theorem seg_app (L : List PR) (i x y : Nat) : seg L i x ++ seg L (i + x) y = seg L i (x + y) := by
  unfold seg
  rw [← List.drop_drop, List.take_add]
theorem seg_one {L : List PR} {i : Nat} {r : PR} (h : L[i]? = some r) : seg L i 1 = [r] := by
  unfold seg
  have hi := (List.getElem?_eq_some_iff.mp h).1
  rw [List.drop_eq_getElem_cons hi]
  have : L[i] = r := (List.getElem?_eq_some_iff.mp h).2
  rw [this]
  rfl
theorem seg_len (L : List PR) (i s : Nat) : (seg L i s).length ≤ L.length := by unfold seg; simp; omega
def locsD (B : List PR) : List D := B.map fun r => .loc r.ad
def upm {α : Type} (m : Nat → α) (i : Nat) (v : α) : Nat → α := fun j => if j = i then v else m j
section
variable {L : List PR} {T : Store} {m : Nat → PM}
theorem LW.ne (w : LW L) {i j : Nat} {r q : PR} (hr : L[i]? = some r) (hq : L[j]? = some q) (h : i ≠ j) : r.ad ≠ q.ad := by
  rcases Nat.lt_or_gt_of_ne h with h | h
  · have := w.sep i j r q hr hq h
    split at this <;> omega
  · have := w.sep j i q r hq hr h
    split at this <;> omega
theorem LW.ne1 (w : LW L) {i j : Nat} {r q : PR} (hr : L[i]? = some r) (hq : L[j]? = some q) (hw : isW q.part = true) : r.ad ≠ q.ad + 1 := by
  rcases Nat.lt_trichotomy i j with h | h | h
  · have := w.sep i j r q hr hq h
    split at this <;> omega
  · subst h
    rw [hr] at hq; cases hq
    omega
  · have := w.sep j i q r hq hr h
    rw [if_pos hw] at this
    omega
theorem HS.set (h : HS T L m) (w : LW L) {i : Nat} {r : PR} (hr : L[i]? = some r) (v : PM) : HS (T.set r.ad (postC r v)) L (upm m i v) where
  post := fun j q hq => by
    unfold upm
    by_cases hj : j = i
    · subst hj
      rw [hr] at hq; cases hq
      rw [if_pos rfl, List.getElem?_set_self (List.getElem?_eq_some_iff.mp (h.post j r hr)).1]
    · rw [if_neg hj, List.getElem?_set_ne (w.ne hr hq (Ne.symm hj))]
      exact h.post j q hq
  kids := fun j q hq hw => by
    rw [List.getElem?_set_ne (w.ne1 hr hq hw)]
    exact h.kids j q hq hw
/-- the rest of the store is as it was -/
structure Same (L : List PR) (T T' : Store) : Prop where
  len : T'.length = T.length
  at_ : ∀ n, (∀ (i : Nat) (r : PR), L[i]? = some r → n ≠ r.ad) → T'[n]? = T[n]?
theorem Same.refl : Same L T T := ⟨rfl, fun _ _ => rfl⟩
theorem Same.trans {T1 T2 : Store} (a : Same L T T1) (b : Same L T1 T2) : Same L T T2 := ⟨b.len.trans a.len, fun n h => (b.at_ n h).trans (a.at_ n h)⟩
theorem Same.set {i : Nat} {r : PR} (hr : L[i]? = some r) (c : Cell) : Same L T (T.set r.ad c) := ⟨List.length_set, fun n h => List.getElem?_set_ne (Ne.symm (h i r hr))⟩
/-- a field of a post is read -/
theorem HS.rd (h : HS T L m) (n : Nat) {i : Nat} {r : PR} (hr : L[i]? = some r) {f : Str} (hf : f ∈ (["part", "warden", "place", "inner", "living", "total", "letters", "kept"] : List Str)) :
    attO (parOf Tt n).atr T (.loc r.ad) f = look f [("part", r.part), ("warden", r.upA), ("place", .int (r.pl : Int)), ("inner", innO r), ("living", .bl (m i).liv), ("total", .int (m i).tot), ("letters", letD (m i).lets), ("kept", .lst (intsD (m i).kept))] :=
  attO_is (h.post i r hr) (at0 n hf)
theorem HS.part (h : HS T L m) (n : Nat) {i : Nat} {r : PR} (hr : L[i]? = some r) : attO (parOf Tt n).atr T (.loc r.ad) "part" = some r.part := by rw [h.rd n hr (by simp)]; rfl
theorem HS.ward (h : HS T L m) (n : Nat) {i : Nat} {r : PR} (hr : L[i]? = some r) : attO (parOf Tt n).atr T (.loc r.ad) "warden" = some r.upA := by rw [h.rd n hr (by simp)]; rfl
theorem HS.place (h : HS T L m) (n : Nat) {i : Nat} {r : PR} (hr : L[i]? = some r) : attO (parOf Tt n).atr T (.loc r.ad) "place" = some (.int (r.pl : Int)) := by rw [h.rd n hr (by simp)]; rfl
theorem HS.inner (h : HS T L m) (n : Nat) {i : Nat} {r : PR} (hr : L[i]? = some r) : attO (parOf Tt n).atr T (.loc r.ad) "inner" = some (innO r) := by rw [h.rd n hr (by simp)]; rfl
theorem HS.living (h : HS T L m) (n : Nat) {i : Nat} {r : PR} (hr : L[i]? = some r) : attO (parOf Tt n).atr T (.loc r.ad) "living" = some (.bl (m i).liv) := by rw [h.rd n hr (by simp)]; rfl
theorem HS.total (h : HS T L m) (n : Nat) {i : Nat} {r : PR} (hr : L[i]? = some r) : attO (parOf Tt n).atr T (.loc r.ad) "total" = some (.int (m i).tot) := by rw [h.rd n hr (by simp)]; rfl
theorem HS.letters (h : HS T L m) (n : Nat) {i : Nat} {r : PR} (hr : L[i]? = some r) : attO (parOf Tt n).atr T (.loc r.ad) "letters" = some (letD (m i).lets) := by rw [h.rd n hr (by simp)]; rfl
theorem HS.kept (h : HS T L m) (n : Nat) {i : Nat} {r : PR} (hr : L[i]? = some r) : attO (parOf Tt n).atr T (.loc r.ad) "kept" = some (.lst (intsD (m i).kept)) := by rw [h.rd n hr (by simp)]; rfl
/-- a field of a post is written -/
theorem HS.wr_living (h : HS T L m) (n : Nat) (δ : Ev.Env) {i : Nat} {r : PR} (hr : L[i]? = some r) (b : Bool) : setAt (parOf Tt n).atr δ "living" (.bl b) (.loc r.ad) T = .nx δ (T.set r.ad (postC r { m i with liv := b })) :=
  setAt_is δ (h.post i r hr) (at0 n (by simp)) (by simp)
theorem HS.wr_total (h : HS T L m) (n : Nat) (δ : Ev.Env) {i : Nat} {r : PR} (hr : L[i]? = some r) (b : Int) : setAt (parOf Tt n).atr δ "total" (.int b) (.loc r.ad) T = .nx δ (T.set r.ad (postC r { m i with tot := b })) :=
  setAt_is δ (h.post i r hr) (at0 n (by simp)) (by simp)
theorem HS.wr_letters (h : HS T L m) (n : Nat) (δ : Ev.Env) {i : Nat} {r : PR} (hr : L[i]? = some r) (b : List (Int × D)) : setAt (parOf Tt n).atr δ "letters" (letD b) (.loc r.ad) T = .nx δ (T.set r.ad (postC r { m i with lets := b })) :=
  setAt_is δ (h.post i r hr) (at0 n (by simp)) (by simp)
theorem HS.wr_kept (h : HS T L m) (n : Nat) (δ : Ev.Env) {i : Nat} {r : PR} (hr : L[i]? = some r) (b : List Int) : setAt (parOf Tt n).atr δ "kept" (.lst (intsD b)) (.loc r.ad) T = .nx δ (T.set r.ad (postC r { m i with kept := b })) :=
  setAt_is δ (h.post i r hr) (at0 n (by simp)) (by simp)
/-- who stands right beneath a warden -/
theorem LW.kid (w : LW L) {i : Nat} {r : PR} (hr : L[i]? = some r) {a : Nat} {p : D} (hp : (partsOf r.part)[a]? = some p) :
    L[i + 1 + szs ((partsOf r.part).take a)]? = some ⟨p, some i, .loc r.ad, a, i + 1 + szs ((partsOf r.part).take a), r.ad + 2 + cszs ((partsOf r.part).take a)⟩ := by
  have hi := w.ix i r hr
  obtain ⟨_, g⟩ := w.kb r (List.mem_of_getElem? hr) a p hp
  rw [hi, Nat.sub_zero] at g
  exact g
/-- what a loop over the posts beneath one goes through -/
theorem HS.walk (h : HS T L m) {k i : Nat} {r : PR} (hr : L[i]? = some r) (hk : pv k r.part = true) : ∃ ch, walkOf T .ex [innO r] = some ((locA (r.ad + 2) (partsOf r.part)).map .loc, ch) ∧ (∀ T', HS T' L m → stays T' ch = true) ∧ ∀ T' m', HS T' L m' → stays T' ch = true := by
  unfold innO
  rcases pv_kids hk with ⟨hw, k', nm, u, a, b, ps, e, hx, hp⟩ | ⟨hw, nm, u, hx⟩
  · rw [if_pos hw]
    have c := h.kids i r hr hw
    have la : lstAt T (.loc (r.ad + 1)) = some (r.ad + 1, (locA (r.ad + 2) (partsOf r.part)).map .loc) := by
      unfold lstAt
      dsimp only
      rw [c]
      rfl
    refine ⟨[(r.ad + 1, (locA (r.ad + 2) (partsOf r.part)).map .loc)], ?_, fun T' h' => stays_one (h'.kids i r hr hw), fun T' m' h' => stays_one (h'.kids i r hr hw)⟩
    simp [walkOf, la]
  · rw [hw]
    refine ⟨[], ?_, fun _ _ => stays_nil, fun _ _ _ => stays_nil⟩
    rw [hx]
    rfl
theorem pv_part {k : Nat} {x : D} (h : pv k x = true) {a : Nat} {p : D} (hp : (partsOf x)[a]? = some p) : ∃ k', k = k' + 1 ∧ pv k' p = true := by
  rcases pv_kids h with ⟨hw, k', nm, u, a', b, ps, e, hx, hps⟩ | ⟨hw, nm, u, hx⟩
  · subst hx
    rw [partsOf_w] at hp
    exact ⟨k', e, hps p (List.mem_of_getElem? hp)⟩
  · subst hx
    simp [partsOf] at hp
theorem sz_parts {k : Nat} {x : D} (h : pv k x = true) : sz x = 1 + szs (partsOf x) := by
  rcases pv_kids h with ⟨hw, k', nm, u, a', b, ps, e, hx, hps⟩ | ⟨hw, nm, u, hx⟩
  · subst hx
    unfold sz szs
    rw [flatP_w, partsOf_w, List.length_cons]
    omega
  · subst hx
    simp [sz, szs, flatP, partsOf, flatPs]
theorem locs_at {r : PR} {a : Nat} {y : D} (h : ((locA (r.ad + 2) (partsOf r.part)).map D.loc)[a]? = some y) : ∃ p, (partsOf r.part)[a]? = some p ∧ y = .loc (r.ad + 2 + cszs ((partsOf r.part).take a)) := by
  rw [List.getElem?_map] at h
  obtain ⟨j, h1, h2⟩ := Option.map_eq_some_iff.mp h
  have ha : a < (partsOf r.part).length := by
    have := (List.getElem?_eq_some_iff.mp h1).1
    rwa [locA_len] at this
  rw [locA_at _ _ _ ha] at h1
  cases h1
  exact ⟨(partsOf r.part)[a], by simp [ha], h2.symm⟩
theorem szs_take {ps : List D} {a : Nat} {p : D} (h : ps[a]? = some p) : szs (ps.take (a + 1)) = szs (ps.take a) + sz p := by
  rw [List.take_add_one, h, szs_app]
  simp [szs, sz, flatPs]
theorem all_of (h : HS T L m) (w : LW L) (hL : L.length ≤ 1000) : ∀ (k n i : Nat) (r : PR), L[i]? = some r → pv k r.part = true → callF Tt (n + k + 1) 26 [.loc r.ad] T = .ok (.lst (locsD (seg L i (sz r.part)))) T := by
  intro k
  induction k with
  | zero =>
    intro n i r hr hk
    obtain ⟨ch, w2, st, _⟩ := h.walk hr hk
    have pn : partsOf r.part = [] := by
      rcases pv_kids hk with ⟨_, k', nm, u, a', b, ps, e, _⟩ | ⟨hw, nm, u, hx⟩
      · cases e
      · rw [hx]; rfl
    rw [pn] at w2
    have szr := sz_parts hk
    rw [pn] at szr
    have szr : sz r.part = 1 := szr
    rw [callF_is (fd := f_all_of) rfl rfl]
    show endF false T (evB (parOf Tt (n + 0)) [s_all_of_0, s_all_of_1, s_all_of_2] [some (.loc r.ad), none, none] T) = _
    have e0 : evS (parOf Tt (n + 0)) s_all_of_0 [some (.loc r.ad), none, none] T = .nx [some (.loc r.ad), some (.lst [.loc r.ad]), none] T := by simp [s_all_of_0]
    have inn := h.inner (n + 0) hr
    have e1 : evS (parOf Tt (n + 0)) s_all_of_1 [some (.loc r.ad), some (.lst [.loc r.ad]), none] T = .nx [some (.loc r.ad), some (.lst [.loc r.ad]), none] T := by
      rw [s_all_of_1, evS_for, sFor_is (ds := [innO r]) (S1 := T) (by simp only [evEs_cons, evEs_nil, evE_att, evE_var, List.getElem?_cons_zero, ofV_some, bind_ok, inn, ofO_some]) w2]
      simp only [locA, List.map_nil, forL]
      rw [if_pos (st T h)]
    rw [evB_cons, e0, seq_nx, evB_cons, e1, seq_nx, szr, seg_one hr]
    simp [s_all_of_2, locsD]
  | succ k ih =>
    intro n i r hr hk
    obtain ⟨ch, w2, st, _⟩ := h.walk hr hk
    have szr := sz_parts hk
    rw [callF_is (fd := f_all_of) rfl rfl]
    show endF false T (evB (parOf Tt (n + (k + 1))) [s_all_of_0, s_all_of_1, s_all_of_2] [some (.loc r.ad), none, none] T) = _
    have e0 : evS (parOf Tt (n + (k + 1))) s_all_of_0 [some (.loc r.ad), none, none] T = .nx [some (.loc r.ad), some (.lst [.loc r.ad]), none] T := by simp [s_all_of_0]
    have inn := h.inner (n + (k + 1)) hr
    obtain ⟨δ', S', e, o, hδ, hS⟩ := forL_run (ch := ch) (tg := .nm 2) (f := fun δ S => evB (parOf Tt (n + (k + 1))) b_all_of_1 δ S) (fun a δ S' => ∃ o, δ = [some (.loc r.ad), some (.lst (locsD (seg L i (1 + szs ((partsOf r.part).take a))))), o] ∧ S' = T)
      (xs := (locA (r.ad + 2) (partsOf r.part)).map .loc) (k := 0) (δ := [some (.loc r.ad), some (.lst [.loc r.ad]), none]) (S := T) ⟨none, by rw [List.take_zero, show 1 + szs [] = 1 from rfl, seg_one hr]; rfl, rfl⟩ (fun _ _ _ ⟨_, _, e⟩ => by rw [e]; exact st T h) (by
      rintro a y δ S1 hy ⟨o, rfl, rfl⟩
      rw [Nat.zero_add]
      obtain ⟨p, hp, rfl⟩ := locs_at hy
      obtain ⟨k', ek, hpk⟩ := pv_part hk hp
      cases ek
      have kd := w.kid hr hp
      have c := ih n _ _ kd hpk
      rw [show n + k + 1 = n + (k + 1) by omega] at c
      dsimp only at c
      refine ⟨[some (.loc r.ad), some (.lst (locsD (seg L i (1 + szs ((partsOf r.part).take a))))), some (.loc (r.ad + 2 + cszs ((partsOf r.part).take a)))], rfl, [some (.loc r.ad), some (.lst (locsD (seg L i (1 + szs ((partsOf r.part).take (a + 1)))))), some (.loc (r.ad + 2 + cszs ((partsOf r.part).take a)))], S1, ?_, some (.loc (r.ad + 2 + cszs ((partsOf r.part).take a))), rfl, rfl⟩
      have s1 := seg_len L i (1 + szs ((partsOf r.part).take a))
      have s2 := seg_len L (i + 1 + szs ((partsOf r.part).take a)) (sz p)
      have ad := o_addL S1 (locsD (seg L i (1 + szs ((partsOf r.part).take a)))) (locsD (seg L (i + 1 + szs ((partsOf r.part).take a)) (sz p))) (by rw [LIM_nat]; unfold locsD; rw [List.length_map, List.length_map]; omega)
      have sa : locsD (seg L i (1 + szs ((partsOf r.part).take a))) ++ locsD (seg L (i + 1 + szs ((partsOf r.part).take a)) (sz p)) = locsD (seg L i (1 + szs ((partsOf r.part).take (a + 1)))) := by
        unfold locsD
        rw [← List.map_append, Nat.add_assoc i 1, seg_app, szs_take hp, Nat.add_assoc]
      rw [sa] at ad
      show evB (parOf Tt (n + (k + 1))) b_all_of_1 [some (.loc r.ad), some (.lst (locsD (seg L i (1 + szs ((partsOf r.part).take a))))), some (.loc (r.ad + 2 + cszs ((partsOf r.part).take a)))] S1 = _
      simp only [b_all_of_1, evB_cons, evB_nil, evS_set, evE_op2, evE_call, evEs_cons, evEs_nil, evE_var, List.getElem?_cons_succ, List.getElem?_cons_zero, ofV_some, bind_ok, parOf_cf, c, ad, ofO_some, thenS_ok, seq_nx]
      rfl)
    have e1 : evS (parOf Tt (n + (k + 1))) s_all_of_1 [some (.loc r.ad), some (.lst [.loc r.ad]), none] T = .nx [some (.loc r.ad), some (.lst (locsD (seg L i (sz r.part)))), o] T := by
      rw [s_all_of_1, evS_for, sFor_is (ds := [innO r]) (S1 := T) (by simp only [evEs_cons, evEs_nil, evE_att, evE_var, List.getElem?_cons_zero, ofV_some, bind_ok, inn, ofO_some]) w2, e, hδ, hS]
      rw [Nat.zero_add, List.length_map, locA_len, List.take_length, szr]
    rw [evB_cons, e0, seq_nx, evB_cons, e1, seq_nx]
    simp [s_all_of_2]
end
end LawK
namespace LawK
open PySem PySem.Spec PyProof.Rows L2 Ev
/-! ### a part begins -/
def bgP (p : PM) : PM := { p with liv := true, tot := 0, kept := [] }
def bg (m : Nat → PM) (i s : Nat) : Nat → PM := fun j => if i ≤ j ∧ j < i + s then bgP (m j) else m j
theorem bg_app (m : Nat → PM) (i x y : Nat) : bg (bg m i x) (i + x) y = bg m i (x + y) := by
  funext j
  unfold bg
  by_cases h1 : i ≤ j ∧ j < i + x
  · have h2 : ¬ (i + x ≤ j ∧ j < i + x + y) := by omega
    have h3 : i ≤ j ∧ j < i + (x + y) := by omega
    simp only [if_pos h1, if_neg h2, if_pos h3]
  · by_cases h2 : i + x ≤ j ∧ j < i + x + y
    · have h3 : i ≤ j ∧ j < i + (x + y) := by omega
      simp only [if_neg h1, if_pos h2, if_pos h3]
    · have h3 : ¬ (i ≤ j ∧ j < i + (x + y)) := by omega
      simp only [if_neg h1, if_neg h2, if_neg h3]
theorem bg_one (m : Nat → PM) (i : Nat) : upm m i (bgP (m i)) = bg m i 1 := by
  funext j
  unfold bg upm
  by_cases h : j = i
  · subst h
    rw [if_pos rfl, if_pos (by omega)]
  · rw [if_neg h, if_neg (by omega)]
theorem upm_upm {α : Type} (m : Nat → α) (i : Nat) (u v : α) : upm (upm m i u) i v = upm m i v := by
  funext j
  unfold upm
  by_cases h : j = i <;> simp [h]
theorem upm_at {α : Type} (m : Nat → α) (i : Nat) (u : α) : upm m i u i = u := by simp [upm]
def evD (w : Str) (r : PR) : D := .tup [.str w, .str (nmP r.part)]
def rowsB (B : List PR) : List D := B.map (evD "begins")
theorem part_1 {k : Nat} {x : D} (h : pv k x = true) (S : Store) : op2 S .get x (.int 1) = some (.str (nmP x)) := by
  rcases pv_kids h with ⟨hw, k', nm, u, a', b, ps, e, hx, hps⟩ | ⟨hw, nm, u, hx⟩ <;> subst hx <;> rfl
section
variable {L : List PR} {T : Store} {m : Nat → PM}
theorem begin_head (n : Nat) (h : HS T L m) (w : LW L) {k i : Nat} {r : PR} (hr : L[i]? = some r) (hk : pv k r.part = true) : ∃ T', HS T' L (bg m i 1) ∧ Same L T T' ∧
    ∀ rest, evB (parOf Tt n) (s_begin_0 :: s_begin_1 :: s_begin_2 :: s_begin_3 :: rest) [some (.loc r.ad), none, none] T = evB (parOf Tt n) rest [some (.loc r.ad), some (.lst [evD "begins" r]), none] T' := by
  have a1 := h.wr_living n [some (.loc r.ad), none, none] hr true
  have h1 := h.set w hr { m i with liv := true }
  have a2 := h1.wr_total n [some (.loc r.ad), none, none] hr 0
  have h2 := h1.set w hr { upm m i { m i with liv := true } i with tot := 0 }
  have a3 := h2.wr_kept n [some (.loc r.ad), none, none] hr []
  have h3 := h2.set w hr { upm (upm m i { m i with liv := true }) i { upm m i { m i with liv := true } i with tot := 0 } i with kept := [] }
  generalize hT : (((T.set r.ad (postC r { m i with liv := true })).set r.ad (postC r { upm m i { m i with liv := true } i with tot := 0 })).set r.ad (postC r { upm (upm m i { m i with liv := true }) i { upm m i { m i with liv := true } i with tot := 0 } i with kept := [] })) = T' at a3 h3
  have me : upm (upm (upm m i { m i with liv := true }) i { upm m i { m i with liv := true } i with tot := 0 }) i { upm (upm m i { m i with liv := true }) i { upm m i { m i with liv := true } i with tot := 0 } i with kept := [] } = bg m i 1 := by
    rw [← bg_one]
    simp only [upm_upm, upm_at]
    rfl
  rw [me] at h3
  refine ⟨T', h3, ?_, fun rest => ?_⟩
  · rw [← hT]
    exact ((Same.set hr _).trans (Same.set hr _)).trans (Same.set hr _)
  · have g := part_1 hk T'
    have p := h3.part n hr
    have e0 : evS (parOf Tt n) s_begin_0 [some (.loc r.ad), none, none] T = .nx [some (.loc r.ad), none, none] (T.set r.ad (postC r { m i with liv := true })) := by
      rw [s_begin_0, evS_setA]
      simp only [evE_lit, thenS_ok, evE_var, List.getElem?_cons_zero, ofV_some]
      exact a1
    have e1 : evS (parOf Tt n) s_begin_1 [some (.loc r.ad), none, none] (T.set r.ad (postC r { m i with liv := true })) = .nx [some (.loc r.ad), none, none] ((T.set r.ad (postC r { m i with liv := true })).set r.ad (postC r { upm m i { m i with liv := true } i with tot := 0 })) := by
      rw [s_begin_1, evS_setA]
      simp only [evE_lit, thenS_ok, evE_var, List.getElem?_cons_zero, ofV_some]
      exact a2
    have e2 : evS (parOf Tt n) s_begin_2 [some (.loc r.ad), none, none] ((T.set r.ad (postC r { m i with liv := true })).set r.ad (postC r { upm m i { m i with liv := true } i with tot := 0 })) = .nx [some (.loc r.ad), none, none] T' := by
      rw [s_begin_2, evS_setA]
      simp only [evE_lst, evEs_nil, bind_ok, List.length_nil, Nat.zero_le, if_true, newL_f, thenS_ok, evE_var, List.getElem?_cons_zero, ofV_some]
      exact a3
    have e3 : evS (parOf Tt n) s_begin_3 [some (.loc r.ad), none, none] T' = .nx [some (.loc r.ad), some (.lst [evD "begins" r]), none] T' := by
      simp only [s_begin_3, evS_set, evE_lst, evEs_cons, evEs_nil, evE_tup, evE_lit, evE_op2, evE_att, evE_var, List.getElem?_cons_zero, ofV_some, bind_ok, p, ofO_some, g]
      simp [evD]
    rw [evB_cons, e0, seq_nx, evB_cons, e1, seq_nx, evB_cons, e2, seq_nx, evB_cons, e3, seq_nx]
theorem begin_is (w : LW L) (hL : L.length ≤ 1000) : ∀ (k n i : Nat) (r : PR) (T : Store) (m : Nat → PM), HS T L m → L[i]? = some r → pv k r.part = true →
    ∃ T', callF Tt (n + k + 1) 27 [.loc r.ad] T = .ok (.lst (rowsB (seg L i (sz r.part)))) T' ∧ HS T' L (bg m i (sz r.part)) ∧ Same L T T' := by
  intro k
  induction k with
  | zero =>
    intro n i r T m h hr hk
    obtain ⟨T1, h1, s1, e1⟩ := begin_head (n + 0) h w hr hk
    obtain ⟨ch, w2, st, _⟩ := h1.walk hr hk
    have pn : partsOf r.part = [] := by
      rcases pv_kids hk with ⟨_, k', nm, u, a', b, ps, e, _⟩ | ⟨hw, nm, u, hx⟩
      · cases e
      · rw [hx]; rfl
    rw [pn] at w2
    have szr := sz_parts hk
    rw [pn] at szr
    have szr : sz r.part = 1 := szr
    refine ⟨T1, ?_, by rw [szr]; exact h1, s1⟩
    rw [callF_is (fd := f_begin) rfl rfl]
    show endF false T (evB (parOf Tt (n + 0)) [s_begin_0, s_begin_1, s_begin_2, s_begin_3, s_begin_4, s_begin_5] [some (.loc r.ad), none, none] T) = _
    rw [e1]
    have inn := h1.inner (n + 0) hr
    have e4 : evS (parOf Tt (n + 0)) s_begin_4 [some (.loc r.ad), some (.lst [evD "begins" r]), none] T1 = .nx [some (.loc r.ad), some (.lst [evD "begins" r]), none] T1 := by
      rw [s_begin_4, evS_for, sFor_is (ds := [innO r]) (S1 := T1) (by simp only [evEs_cons, evEs_nil, evE_att, evE_var, List.getElem?_cons_zero, ofV_some, bind_ok, inn, ofO_some]) w2]
      simp only [locA, List.map_nil, forL]
      rw [if_pos (st T1 h1)]
    rw [evB_cons, e4, seq_nx, szr, seg_one hr]
    simp [s_begin_5, rowsB]
  | succ k ih =>
    intro n i r T m h hr hk
    obtain ⟨T1, h1, s1, e1⟩ := begin_head (n + (k + 1)) h w hr hk
    obtain ⟨ch, w2, _, st⟩ := h1.walk hr hk
    have szr := sz_parts hk
    have inn := h1.inner (n + (k + 1)) hr
    obtain ⟨δ', S', e, o, hδ, hS, sS⟩ := forL_run (ch := ch) (tg := .nm 2) (f := fun δ S => evB (parOf Tt (n + (k + 1))) b_begin_4 δ S) (fun a δ S' => ∃ o, δ = [some (.loc r.ad), some (.lst (rowsB (seg L i (1 + szs ((partsOf r.part).take a))))), o] ∧ HS S' L (bg m i (1 + szs ((partsOf r.part).take a))) ∧ Same L T S')
      (xs := (locA (r.ad + 2) (partsOf r.part)).map .loc) (k := 0) (δ := [some (.loc r.ad), some (.lst [evD "begins" r]), none]) (S := T1) ⟨none, by rw [List.take_zero, show 1 + szs [] = 1 from rfl, seg_one hr]; rfl, by rw [List.take_zero, show 1 + szs [] = 1 from rfl]; exact h1, s1⟩ (fun _ _ _ ⟨_, _, e, _⟩ => st _ _ e) (by
      rintro a y δ S1 hy ⟨o, rfl, hS1, sS1⟩
      rw [Nat.zero_add] at hS1 ⊢
      obtain ⟨p, hp, rfl⟩ := locs_at hy
      obtain ⟨k', ek, hpk⟩ := pv_part hk hp
      cases ek
      have kd := w.kid hr hp
      obtain ⟨T2, c, h2, s2⟩ := ih n _ _ S1 _ hS1 kd hpk
      rw [show n + k + 1 = n + (k + 1) by omega] at c
      dsimp only at c h2
      rw [Nat.add_assoc i 1, bg_app, Nat.add_assoc, ← szs_take hp] at h2
      refine ⟨[some (.loc r.ad), some (.lst (rowsB (seg L i (1 + szs ((partsOf r.part).take a))))), some (.loc (r.ad + 2 + cszs ((partsOf r.part).take a)))], rfl, [some (.loc r.ad), some (.lst (rowsB (seg L i (1 + szs ((partsOf r.part).take (a + 1)))))), some (.loc (r.ad + 2 + cszs ((partsOf r.part).take a)))], T2, ?_, some (.loc (r.ad + 2 + cszs ((partsOf r.part).take a))), rfl, h2, sS1.trans s2⟩
      have l1 := seg_len L i (1 + szs ((partsOf r.part).take a))
      have l2 := seg_len L (i + 1 + szs ((partsOf r.part).take a)) (sz p)
      have ad := o_addL T2 (rowsB (seg L i (1 + szs ((partsOf r.part).take a)))) (rowsB (seg L (i + 1 + szs ((partsOf r.part).take a)) (sz p))) (by rw [LIM_nat]; unfold rowsB; rw [List.length_map, List.length_map]; omega)
      have sa : rowsB (seg L i (1 + szs ((partsOf r.part).take a))) ++ rowsB (seg L (i + 1 + szs ((partsOf r.part).take a)) (sz p)) = rowsB (seg L i (1 + szs ((partsOf r.part).take (a + 1)))) := by
        unfold rowsB
        rw [← List.map_append, Nat.add_assoc i 1, seg_app, szs_take hp, Nat.add_assoc]
      rw [sa] at ad
      show evB (parOf Tt (n + (k + 1))) b_begin_4 [some (.loc r.ad), some (.lst (rowsB (seg L i (1 + szs ((partsOf r.part).take a))))), some (.loc (r.ad + 2 + cszs ((partsOf r.part).take a)))] S1 = _
      simp only [b_begin_4, evB_cons, evB_nil, evS_set, evE_op2, evE_call, evEs_cons, evEs_nil, evE_var, List.getElem?_cons_succ, List.getElem?_cons_zero, ofV_some, bind_ok, parOf_cf, c, ad, ofO_some, thenS_ok, seq_nx]
      rfl)
    rw [Nat.zero_add, List.length_map, locA_len, List.take_length, ← szr] at hS
    refine ⟨S', ?_, hS, sS⟩
    rw [callF_is (fd := f_begin) rfl rfl]
    show endF false T (evB (parOf Tt (n + (k + 1))) [s_begin_0, s_begin_1, s_begin_2, s_begin_3, s_begin_4, s_begin_5] [some (.loc r.ad), none, none] T) = _
    rw [e1]
    have e4 : evS (parOf Tt (n + (k + 1))) s_begin_4 [some (.loc r.ad), some (.lst [evD "begins" r]), none] T1 = .nx [some (.loc r.ad), some (.lst (rowsB (seg L i (sz r.part)))), o] S' := by
      rw [s_begin_4, evS_for, sFor_is (ds := [innO r]) (S1 := T1) (by simp only [evEs_cons, evEs_nil, evE_att, evE_var, List.getElem?_cons_zero, ofV_some, bind_ok, inn, ofO_some]) w2, e, hδ]
      rw [Nat.zero_add, List.length_map, locA_len, List.take_length, szr]
    rw [evB_cons, e4, seq_nx]
    simp [s_begin_5]
end
end LawK
namespace LawK
open PySem PySem.Spec PyProof.Rows L2 Ev
/-! ### a house -/
def houC (t : Nat) (L : List PR) (now given : Int) (rows : List D) : Cell := .ins 1 [("top", .loc t), ("posts", .lst (locsD L)), ("now", .int now), ("given", .int given), ("rows", .lst rows)]
structure HO (T : Store) (h t : Nat) (L : List PR) (m : Nat → PM) (now given : Int) (rows : List D) : Prop where
  hs : HS T L m
  cell : T[h]? = some (houC t L now given rows)
  off : ∀ (i : Nat) (r : PR), L[i]? = some r → h ≠ r.ad ∧ (isW r.part = true → h ≠ r.ad + 1)
  top : ∃ r, L[0]? = some r ∧ r.ad = t
theorem HS.congr {T : Store} {L : List PR} {m m' : Nat → PM} (h : HS T L m) (e : ∀ i, i < L.length → m i = m' i) : HS T L m' where
  post := fun i r hr => by rw [← e i (List.getElem?_eq_some_iff.mp hr).1]; exact h.post i r hr
  kids := h.kids
theorem HS.other {T : Store} {L : List PR} {m : Nat → PM} (h : HS T L m) {k : Nat} (off : ∀ (i : Nat) (r : PR), L[i]? = some r → k ≠ r.ad ∧ (isW r.part = true → k ≠ r.ad + 1)) (c : Cell) : HS (T.set k c) L m where
  post := fun i r hr => by rw [List.getElem?_set_ne (off i r hr).1]; exact h.post i r hr
  kids := fun i r hr hw => by rw [List.getElem?_set_ne ((off i r hr).2 hw)]; exact h.kids i r hr hw
theorem setAt_hou {n : Nat} {δ : Ev.Env} {fs : List (Str × D)} {f : Str} {d : D} {S C : Store} (h2 : f ∈ (["top", "posts", "now", "given", "rows"] : List Str)) (h3 : fs.length < 100) :
    setAt (parOf Tt n).atr δ f d (.loc S.length) (S ++ [.ins 1 fs] ++ C) = .nx δ (S ++ [.ins 1 (putF f d fs)] ++ C) := by
  rw [setAt_is _ (c := 1) (fs := fs) (by simp) (at1 n h2) h3]
  congr 1
  rw [List.append_assoc, List.set_append_right _ _ (by omega), Nat.sub_self, List.append_assoc]
  rfl
theorem attO_hou {n : Nat} {fs : List (Str × D)} {f : Str} {S C : Store} (h2 : f ∈ (["top", "posts", "now", "given", "rows"] : List Str)) : attO (parOf Tt n).atr (S ++ [.ins 1 fs] ++ C) (.loc S.length) f = look f fs :=
  attO_is (c := 1) (by simp) (at1 n h2)
def m1 : PM := ⟨true, 0, [], []⟩
theorem house_init_no (n q : Nat) (S : Store) (x : D) (h : okS q x = true) (hp : planD x = false) (s : D) : callF Tt (n + 12) 28 [s, x] S = .exn 0 S := by
  rw [callF_is (fd := f_House_init) rfl rfl]
  show endF false S (evB (parOf Tt (n + 11)) [s_House_init_0, s_House_init_1, s_House_init_2, s_House_init_3, s_House_init_4, s_House_init_5] [some s, some x] S) = _
  have e := is_plan n q S x h
  rw [hp] at e
  have e0 : evS (parOf Tt (n + 11)) s_House_init_0 [some s, some x] S = .exn 0 [some s, some x] S := by simp [s_House_init_0, e]
  rw [evB_cons, e0, seq_exn, endF_exnF]
/-- House(plan) of what is none -/
theorem house_no (n q : Nat) (S : Store) (x : D) (h : okS q x = true) (hp : planD x = false) (e : E) (δ : Ev.Env) (he : ∀ S, evE (parOf Tt (n + 12)) e δ S = .ok x S) : evE (parOf Tt (n + 12)) (.make 1 [e]) δ S = .exn 0 (S ++ [.ins 1 []]) := by
  rw [evE_make (f := 28) rfl]
  simp only [evEs_cons, evEs_nil, he, bind_ok, parOf_cf]
  have e0 := house_init_no n q (S ++ [.ins 1 []]) x h hp (.loc S.length)
  rw [e0, bind_exn]
theorem init_ends (n : Nat) (S0 : Store) (x y : D) (T : Store) (δ : Ev.Env) (e : evB (parOf Tt (n + 11)) [s_House_init_0, s_House_init_1, s_House_init_2, s_House_init_3, s_House_init_4, s_House_init_5] [some y, some x] S0 = .nx δ T) : callF Tt (n + 12) 28 [y, x] S0 = .ok .non T := by
  rw [callF_is (fd := f_House_init) rfl rfl]
  show endF false S0 (evB (parOf Tt (n + 11)) [s_House_init_0, s_House_init_1, s_House_init_2, s_House_init_3, s_House_init_4, s_House_init_5] [some y, some x] S0) = _
  rw [e, endF_nx, fin_false]
theorem house_init (n q : Nat) (S : Store) (x : D) (h : okS q x = true) (hp : planD x = true) (hl : sz x ≤ 1000) : ∃ T, callF Tt (n + 12) 28 [.loc S.length, x] (S ++ [.ins 1 []]) = .ok .non T ∧
    HO T S.length (S.length + 1) (prs x none .non 0 0 (S.length + 1)) (fun _ => m1) 0 0 (rowsB (prs x none .non 0 0 (S.length + 1))) ∧ ∀ i, i < S.length → T[i]? = S[i]? := by
  have hw : wardD 6 x = true := by
    unfold planD at hp
    rw [Bool.and_eq_true] at hp
    exact hp.1
  have pv6 : pv 6 x = true := by unfold pv; rw [hw, Bool.or_true]
  have e := is_plan n q (S ++ [.ins 1 []]) x h
  rw [hp] at e
  have lo := laid_out 6 (n + 3) x (by omega) pv6 (S ++ [.ins 1 []]) .non 0 none 0
  have sl : ∀ c : Cell, (S ++ [c]).length = S.length + 1 := fun c => by simp
  rw [sl] at lo
  have lo : callF Tt (n + 11) 25 [x, .non, .int 0] (S ++ [.ins 1 []]) = .ok (.loc (S.length + 1)) (S ++ [.ins 1 []] ++ (prs x none .non 0 0 (S.length + 1)).flatMap rc) := lo
  have hsn : ∀ c : Cell, HS (S ++ [c] ++ (prs x none .non 0 0 (S.length + 1)).flatMap rc) (prs x none .non 0 0 (S.length + 1)) fun _ => m0 := fun c => by
    have := hs_new pv6 (S ++ [c])
    rw [sl] at this
    exact this
  have w := lw_prs pv6 (S.length + 1)
  have hd := prs_head x none .non 0 0 (S.length + 1)
  have len := prs_len x none .non 0 0 (S.length + 1)
  have off : ∀ (i : Nat) (r : PR), (prs x none .non 0 0 (S.length + 1))[i]? = some r → S.length + 1 ≤ r.ad := fun i r hr => by
    have := ((prs_Adr 6 x pv6 none .non 0 0 (S.length + 1)).1 i r hr).2
    omega
  generalize hL : prs x none .non 0 0 (S.length + 1) = L at *
  have sg : seg L 0 (sz x) = L := by
    unfold seg
    rw [List.drop_zero, ← len, List.take_length]
  generalize hC : L.flatMap rc = C at *
  have al := fun c => all_of (hsn c) w (by omega) 6 (n + 4) 0 _ hd pv6
  dsimp only at al
  rw [sg] at al
  have al : ∀ c : Cell, callF Tt (n + 11) 26 [.loc (S.length + 1)] (S ++ [c] ++ C) = .ok (.lst (locsD L)) (S ++ [c] ++ C) := al
  -- the fields, one behind another
  have e0 : evS (parOf Tt (n + 11)) s_House_init_0 [some (.loc S.length), some x] (S ++ [.ins 1 []]) = .nx [some (.loc S.length), some x] (S ++ [.ins 1 []]) := by simp [s_House_init_0, e]
  have e1 : evS (parOf Tt (n + 11)) s_House_init_1 [some (.loc S.length), some x] (S ++ [.ins 1 []]) = .nx [some (.loc S.length), some x] (S ++ [.ins 1 [("top", .loc (S.length + 1))]] ++ C) := by
    rw [s_House_init_1, evS_setA]
    simp only [evE_call, evEs_cons, evEs_nil, evE_var, evE_lit, List.getElem?_cons_succ, List.getElem?_cons_zero, ofV_some, bind_ok, parOf_cf, lo, thenS_ok]
    exact setAt_hou (by simp) (by simp)
  have t1 := attO_hou (n := n + 11) (f := "top") (fs := [("top", .loc (S.length + 1))]) (S := S) (C := C) (by simp)
  have t1 : attO (parOf Tt (n + 11)).atr (S ++ [.ins 1 [("top", .loc (S.length + 1))]] ++ C) (.loc S.length) "top" = some (.loc (S.length + 1)) := t1
  have e2 : evS (parOf Tt (n + 11)) s_House_init_2 [some (.loc S.length), some x] (S ++ [.ins 1 [("top", .loc (S.length + 1))]] ++ C) = .nx [some (.loc S.length), some x] (S ++ [.ins 1 [("top", .loc (S.length + 1)), ("posts", .lst (locsD L))]] ++ C) := by
    rw [s_House_init_2, evS_setA]
    simp only [evE_call, evEs_cons, evEs_nil, evE_att, evE_var, evE_lit, List.getElem?_cons_succ, List.getElem?_cons_zero, ofV_some, bind_ok, parOf_cf, t1, ofO_some, al, thenS_ok]
    exact setAt_hou (by simp) (by simp)
  have e3 : evS (parOf Tt (n + 11)) s_House_init_3 [some (.loc S.length), some x] (S ++ [.ins 1 [("top", .loc (S.length + 1)), ("posts", .lst (locsD L))]] ++ C) = .nx [some (.loc S.length), some x] (S ++ [.ins 1 [("top", .loc (S.length + 1)), ("posts", .lst (locsD L)), ("now", .int 0)]] ++ C) := by
    rw [s_House_init_3, evS_setA]
    simp only [evE_lit, evE_var, List.getElem?_cons_zero, ofV_some, thenS_ok]
    exact setAt_hou (by simp) (by simp)
  have e4 : evS (parOf Tt (n + 11)) s_House_init_4 [some (.loc S.length), some x] (S ++ [.ins 1 [("top", .loc (S.length + 1)), ("posts", .lst (locsD L)), ("now", .int 0)]] ++ C) = .nx [some (.loc S.length), some x] (S ++ [.ins 1 [("top", .loc (S.length + 1)), ("posts", .lst (locsD L)), ("now", .int 0), ("given", .int 0)]] ++ C) := by
    rw [s_House_init_4, evS_setA]
    simp only [evE_lit, evE_var, List.getElem?_cons_zero, ofV_some, thenS_ok]
    exact setAt_hou (by simp) (by simp)
  have t4 := attO_hou (n := n + 11) (f := "top") (fs := [("top", .loc (S.length + 1)), ("posts", .lst (locsD L)), ("now", .int 0), ("given", .int 0)]) (S := S) (C := C) (by simp)
  have t4 : attO (parOf Tt (n + 11)).atr (S ++ [.ins 1 [("top", .loc (S.length + 1)), ("posts", .lst (locsD L)), ("now", .int 0), ("given", .int 0)]] ++ C) (.loc S.length) "top" = some (.loc (S.length + 1)) := t4
  obtain ⟨T, cb, hT, sT⟩ := begin_is w (by omega) 6 (n + 4) 0 _ _ _ (hsn (.ins 1 [("top", .loc (S.length + 1)), ("posts", .lst (locsD L)), ("now", .int 0), ("given", .int 0)])) hd pv6
  dsimp only at cb hT
  rw [sg] at cb
  have cb : callF Tt (n + 11) 27 [.loc (S.length + 1)] (S ++ [.ins 1 [("top", .loc (S.length + 1)), ("posts", .lst (locsD L)), ("now", .int 0), ("given", .int 0)]] ++ C) = .ok (.lst (rowsB L)) T := cb
  have old : ∀ i, i ≤ S.length → T[i]? = (S ++ [.ins 1 [("top", .loc (S.length + 1)), ("posts", .lst (locsD L)), ("now", .int 0), ("given", .int 0)]] ++ C)[i]? := fun i hi => sT.at_ i fun j r hr e => by
    have := off j r hr
    omega
  have cH : T[S.length]? = some (.ins 1 [("top", .loc (S.length + 1)), ("posts", .lst (locsD L)), ("now", .int 0), ("given", .int 0)]) := by rw [old _ (Nat.le_refl _)]; simp
  have e5 : evS (parOf Tt (n + 11)) s_House_init_5 [some (.loc S.length), some x] (S ++ [.ins 1 [("top", .loc (S.length + 1)), ("posts", .lst (locsD L)), ("now", .int 0), ("given", .int 0)]] ++ C) = .nx [some (.loc S.length), some x] (T.set S.length (houC (S.length + 1) L 0 0 (rowsB L))) := by
    rw [s_House_init_5, evS_setA]
    simp only [evE_call, evEs_cons, evEs_nil, evE_att, evE_var, evE_lit, List.getElem?_cons_succ, List.getElem?_cons_zero, ofV_some, bind_ok, parOf_cf, t4, ofO_some, cb, thenS_ok]
    exact setAt_is _ cH (at1 _ (by simp)) (by simp)
  refine ⟨T.set S.length (houC (S.length + 1) L 0 0 (rowsB L)), ?_, ⟨?_, ?_, ?_, ⟨_, hd, rfl⟩⟩, fun i hi => ?_⟩
  · refine init_ends n _ _ _ _ [some (.loc S.length), some x] ?_
    rw [evB_cons, e0, seq_nx, evB_cons, e1, seq_nx, evB_cons, e2, seq_nx, evB_cons, e3, seq_nx, evB_cons, e4, seq_nx, evB_cons, e5, seq_nx, evB_nil]
  · refine (hT.congr fun i hi => ?_).other (fun i r hr => ?_) _
    · unfold bg
      rw [if_pos (by omega)]
      rfl
    · have := off i r hr
      exact ⟨by omega, fun _ => by omega⟩
  · rw [List.getElem?_set_self (List.getElem?_eq_some_iff.mp cH).1]
  · intro i r hr
    have := off i r hr
    exact ⟨by omega, fun _ => by omega⟩
  · rw [List.getElem?_set_ne (by omega), old i (by omega), List.append_assoc, List.getElem?_append_left hi]
/-- House(plan) -/
theorem house_make (n q : Nat) (S : Store) (x : D) (h : okS q x = true) (hp : planD x = true) (hl : sz x ≤ 1000) (e : E) (δ : Ev.Env) (he : ∀ S, evE (parOf Tt (n + 12)) e δ S = .ok x S) : ∃ T, evE (parOf Tt (n + 12)) (.make 1 [e]) δ S = .ok (.loc S.length) T ∧
    HO T S.length (S.length + 1) (prs x none .non 0 0 (S.length + 1)) (fun _ => m1) 0 0 (rowsB (prs x none .non 0 0 (S.length + 1))) ∧ ∀ i, i < S.length → T[i]? = S[i]? := by
  obtain ⟨T, e1, h1, h2⟩ := house_init n q S x h hp hl
  refine ⟨T, ?_, h1, h2⟩
  rw [evE_make (f := 28) rfl]
  simp only [evEs_cons, evEs_nil, he, bind_ok, parOf_cf, e1, ifNon_non]
end LawK
namespace LawK
open PySem PySem.Spec PyProof.Rows L2 Ev
/-! ### comprehensions over what is made of a list -/
theorem compF_map {α : Type} {ch : List (Nat × List D)} {f : D → Store → R (Option D)} {S : Store} (φ : α → D) (γ : α → Option D) (hs : stays S ch = true) : ∀ {ys : List α} {acc : List D}, (∀ y ∈ ys, ∀ acc, f (φ y) (S ++ [.lst acc]) = .ok (γ y) (S ++ [.lst acc])) → (∀ y ∈ ys, clos S.length (γ y).toList = true) →
    compF ch f S (ys.map φ) acc = .ok (.lst (acc ++ ys.filterMap γ)) S
  | [], acc, _, _ => by simp [compF, hs]
  | y :: ys, acc, h, hc => by
    rw [List.map_cons]
    unfold compF
    rw [if_pos hs, h y (List.mem_cons_self ..) acc, R.bind0, if_pos ⟨rfl, hc y (List.mem_cons_self ..)⟩, compF_map φ γ hs (fun y hy => h y (List.mem_cons_of_mem _ hy)) fun y hy => hc y (List.mem_cons_of_mem _ hy)]
    cases hg : γ y <;> simp [hg]
theorem evCmp_M {α : Type} {ik : IK} {tg : Tg} {vs : List Nat} {gi : Ev.Env → Store → R (List D)} {ti : Ev.Env → Store → R Bool} {fe : Ev.Env → Store → R D} {δ : Ev.Env} {S S1 : Store} {ds : List D} {ys : List α} {ch : List (Nat × List D)} (φ : α → D) (γ : α → Option D)
    (h1 : gi δ S = .ok ds S1) (h2 : walkOf S1 ik ds = some (ys.map φ, ch)) (hs : stays S1 ch = true) (hl : ys.length ≤ LIM) (h : ∀ y ∈ ys, ∀ acc, turnC vs tg ti fe δ (φ y) (S1 ++ [.lst acc]) = .ok (γ y) (S1 ++ [.lst acc])) (hc : ∀ y ∈ ys, clos S1.length (γ y).toList = true) :
    evCmp false ik tg vs gi ti fe δ S = .ok (.lst (ys.filterMap γ)) S1 := by
  unfold evCmp compM
  rw [h1, bind_ok, h2]
  dsimp only
  rw [if_pos (by rw [List.length_map]; exact hl)]
  have := compF_map (acc := []) φ γ hs h hc
  simpa using this
/-! ### what a house tells -/
theorem HS.app {T : Store} {L : List PR} {m : Nat → PM} (h : HS T L m) (U : Store) : HS (T ++ U) L m where
  post := fun i r hr => by
    have := h.post i r hr
    rw [List.getElem?_append_left (List.getElem?_eq_some_iff.mp this).1]
    exact this
  kids := fun i r hr hw => by
    have := h.kids i r hr hw
    rw [List.getElem?_append_left (List.getElem?_eq_some_iff.mp this).1]
    exact this
def PVL (L : List PR) : Prop := ∀ (i : Nat) (r : PR), L[i]? = some r → ∃ k, k ≤ 6 ∧ pv k r.part = true
theorem flat_pv : ∀ (k : Nat) (x : D), pv k x = true → ∀ p ∈ flatP x, ∃ k', k' ≤ k ∧ pv k' p = true := by
  intro k
  induction k with
  | zero =>
    intro x h p hp
    rcases pv_kids h with ⟨_, k', nm, u, a, b, ps, e, _⟩ | ⟨_, nm, u, rfl⟩
    · cases e
    · have : p = .tup [.str "worker", .str nm, .str u] := by simpa [flatP] using hp
      rw [this]
      exact ⟨0, Nat.le_refl _, h⟩
  | succ k ih =>
    intro x h p hp
    rcases pv_kids h with ⟨_, k', nm, u, a, b, ps, e, rfl, hps⟩ | ⟨_, nm, u, rfl⟩
    · cases e
      rw [flatP_w] at hp
      rcases List.mem_cons.mp hp with rfl | hp
      · exact ⟨k + 1, Nat.le_refl _, h⟩
      · have go : ∀ l : List D, (∀ q ∈ l, q ∈ ps) → p ∈ flatPs l → ∃ k', k' ≤ k + 1 ∧ pv k' p = true := by
          intro l
          induction l with
          | nil => intro _ hp; cases hp
          | cons q l il =>
            intro hm hp
            rw [flatPs] at hp
            rcases List.mem_append.mp hp with hp | hp
            · obtain ⟨k', h1, h2⟩ := ih q (hps q (hm q (List.mem_cons_self ..))) p hp
              exact ⟨k', by omega, h2⟩
            · exact il (fun q hq => hm q (List.mem_cons_of_mem _ hq)) hp
        exact go ps (fun _ h => h) hp
    · have : p = .tup [.str "worker", .str nm, .str u] := by simpa [flatP] using hp
      rw [this]
      exact ⟨k + 1, Nat.le_refl _, h⟩
theorem prs_PVL {x : D} (h : pv 6 x = true) (up : Option Nat) (upA : D) (pl i b : Nat) : PVL (prs x up upA pl i b) := fun j r hr => by
  have hm : r.part ∈ (prs x up upA pl i b).map PR.part := List.mem_map.mpr ⟨r, List.mem_of_getElem? hr, rfl⟩
  rw [prs_map] at hm
  exact flat_pv 6 x h _ hm
def wordP (x : D) : Str := if isW x then "warden" else "worker"
theorem part_w0 {k : Nat} {x : D} (h : pv k x = true) (S : Store) : op2 S .get x (.int 0) = some (.str (wordP x)) := by
  unfold wordP
  rcases pv_kids h with ⟨hw, k', nm, u, a', b, ps, e, hx, hps⟩ | ⟨hw, nm, u, hx⟩
  · rw [if_pos hw]; subst hx; rfl
  · rw [hw]; subst hx; rfl
def fitB (s : Str) (ws : List Str) (r : PR) : Bool := nmP r.part == s && ws.any (· == wordP r.part)
section
variable {T : Store} {h t : Nat} {L : List PR} {m : Nat → PM} {now given : Int} {rows : List D}
theorem HO.att (H : HO T h t L m now given rows) (n : Nat) {f : Str} (hf : f ∈ (["top", "posts", "now", "given", "rows"] : List Str)) : attO (parOf Tt n).atr T (.loc h) f = look f [("top", .loc t), ("posts", .lst (locsD L)), ("now", .int now), ("given", .int given), ("rows", .lst rows)] :=
  attO_is H.cell (at1 n hf)
theorem HO.app (H : HO T h t L m now given rows) (U : Store) : HO (T ++ U) h t L m now given rows where
  hs := H.hs.app U
  cell := by
    have := H.cell
    rw [List.getElem?_append_left (List.getElem?_eq_some_iff.mp this).1]
    exact this
  off := H.off
  top := H.top
/-- a method of the house is found -/
theorem HO.meth (H : HO T h t L m now given rows) {x : Str} (hx : x ∈ (["post_of", "post_here", "need_open", "send", "work", "done", "fail", "settled", "is_open", "hour", "here", "history", "waits", "sum_of", "hours"] : List Str)) : insOf T (.loc h) 1 x = true := by
  refine insOf_is H.cell ?_
  have k : ∀ x ∈ (["post_of", "post_here", "need_open", "send", "work", "done", "fail", "settled", "is_open", "hour", "here", "history", "waits", "sum_of", "hours"] : List Str), x ≠ "top" ∧ x ≠ "posts" ∧ x ≠ "now" ∧ x ≠ "given" ∧ x ≠ "rows" := by decide +kernel
  obtain ⟨k1, k2, k3, k4, k5⟩ := k x hx
  simp only [look, if_neg k1, if_neg k2, if_neg k3, if_neg k4, if_neg k5]
/-- the loop over the posts -/
theorem find_loop (n : Nat) (hs : HS T L m) (pvl : PVL L) (s : Str) (ws : List Str) (sf : D) : ∀ (k : Nat) (o : Option D), ∃ o',
    forL [] (.nm 3) (fun δ S => evB (parOf Tt n) [.ite (.and (.op2 .eq (.op2 .get (.att (.var 3) "part") (.lit (.int 1))) (.var 1)) (.op2 .in_ (.op2 .get (.att (.var 3) "part") (.lit (.int 0))) (.var 2))) [.ret (.var 3)] []] δ S) (locsD (L.drop k)) [some sf, some (.str s), some (.tup (strD ws)), o] T =
    match (L.drop k).find? (fitB s ws) with
    | some r => .rt (.loc r.ad) T
    | none => .nx [some sf, some (.str s), some (.tup (strD ws)), o'] T := by
  have go : ∀ (j k : Nat) (o : Option D), L.length - k = j → ∃ o', forL [] (.nm 3) (fun δ S => evB (parOf Tt n) [.ite (.and (.op2 .eq (.op2 .get (.att (.var 3) "part") (.lit (.int 1))) (.var 1)) (.op2 .in_ (.op2 .get (.att (.var 3) "part") (.lit (.int 0))) (.var 2))) [.ret (.var 3)] []] δ S) (locsD (L.drop k)) [some sf, some (.str s), some (.tup (strD ws)), o] T =
      match (L.drop k).find? (fitB s ws) with
      | some r => .rt (.loc r.ad) T
      | none => .nx [some sf, some (.str s), some (.tup (strD ws)), o'] T := by
    intro j
    induction j with
    | zero =>
      intro k o hk
      have e : L.drop k = [] := List.drop_of_length_le (by omega)
      refine ⟨o, ?_⟩
      rw [e]
      simp [locsD, forL, stays_nil]
    | succ j ih =>
      intro k o hk
      have hk2 : k < L.length := by omega
      have hr : L[k]? = some L[k] := by simp [hk2]
      obtain ⟨d, hd, hp⟩ := pvl k _ hr
      have g0 := part_w0 hp T
      have g1 := part_1 hp T
      have pa := hs.part n hr
      have it := in_tup T (wordP L[k].part) ws
      rw [List.drop_eq_getElem_cons hk2]
      obtain ⟨o', e⟩ := ih (k + 1) (some (.loc L[k].ad)) (by omega)
      have body : evB (parOf Tt n) [.ite (.and (.op2 .eq (.op2 .get (.att (.var 3) "part") (.lit (.int 1))) (.var 1)) (.op2 .in_ (.op2 .get (.att (.var 3) "part") (.lit (.int 0))) (.var 2))) [.ret (.var 3)] []] [some sf, some (.str s), some (.tup (strD ws)), some (.loc L[k].ad)] T =
          if fitB s ws L[k] = true then .rt (.loc L[k].ad) T else .nx [some sf, some (.str s), some (.tup (strD ws)), some (.loc L[k].ad)] T := by
        have c : evE (parOf Tt n) (.and (.op2 .eq (.op2 .get (.att (.var 3) "part") (.lit (.int 1))) (.var 1)) (.op2 .in_ (.op2 .get (.att (.var 3) "part") (.lit (.int 0))) (.var 2))) [some sf, some (.str s), some (.tup (strD ws)), some (.loc L[k].ad)] T = .ok (.bl (fitB s ws L[k])) T := by
          simp only [evE_and, evE_op2, evE_att, evE_var, evE_lit, List.getElem?_cons_succ, List.getElem?_cons_zero, ofV_some, bind_ok, pa, ofO_some, g0, g1, it, o_eqS, ifB_bl]
          unfold fitB
          cases nmP L[k].part == s <;> simp
        rw [evB_cons, evS_ite, c, thenS_ok, ifB_bl]
        cases fitB s ws L[k] <;> simp
      refine ⟨o', ?_⟩
      show forL [] (.nm 3) _ (.loc L[k].ad :: locsD (L.drop (k + 1))) _ T = _
      unfold forL
      rw [if_pos stays_nil]
      simp only [setT, List.set_cons_succ, List.set_cons_zero, body]
      rw [List.find?_cons]
      cases hf : fitB s ws L[k] with
      | true => simp
      | false => simpa using e
  exact fun k o => go _ k o rfl
theorem post_of (H : HO T h t L m now given rows) (pvl : PVL L) (n : Nat) {s : Str} (hs : nameD (.str s) = true) (ws : List Str) : callF Tt (n + 2) 29 [.loc h, .str s, .tup (strD ws)] T =
    match L.find? (fitB s ws) with
    | some r => .ok (.loc r.ad) T
    | none => .exn 2 T := by
  have nm := is_name n T (x := .str s) rfl (fun s' e => by
    cases e
    simp only [nameD, Bool.and_eq_true, decide_eq_true_eq] at hs
    omega)
  rw [hs] at nm
  rw [callF_is (fd := f_House_post_of) rfl rfl]
  show endF false T (evB (parOf Tt (n + 1)) [s_House_post_of_0, s_House_post_of_1] [some (.loc h), some (.str s), some (.tup (strD ws)), none] T) = _
  have po : attO (parOf Tt (n + 1)).atr T (.loc h) "posts" = some (.lst (locsD L)) := by rw [H.att (n + 1) (by simp)]; rfl
  obtain ⟨o', e⟩ := find_loop (n + 1) H.hs pvl s ws (.loc h) 0 none
  rw [List.drop_zero] at e
  have e0 : evS (parOf Tt (n + 1)) s_House_post_of_0 [some (.loc h), some (.str s), some (.tup (strD ws)), none] T = match L.find? (fitB s ws) with
    | some r => .rt (.loc r.ad) T
    | none => .nx [some (.loc h), some (.str s), some (.tup (strD ws)), o'] T := by
    rw [s_House_post_of_0, evS_ite]
    simp only [evE_call, evEs_cons, evEs_nil, evE_var, List.getElem?_cons_succ, List.getElem?_cons_zero, ofV_some, bind_ok, parOf_cf, nm, thenS_ok, ifB_bl, if_true]
    rw [evB_cons, evS_for, sFor_is (ds := [.lst (locsD L)]) (S1 := T) (xs := locsD L) (ch := []) (by simp only [evEs_cons, evEs_nil, evE_att, evE_var, List.getElem?_cons_zero, ofV_some, bind_ok, po, ofO_some]) rfl, e]
    cases L.find? (fitB s ws) <;> rfl
  rw [evB_cons, e0]
  cases L.find? (fitB s ws) with
  | some r => rfl
  | none => simp [s_House_post_of_1]
/-- what is no name -/
theorem post_of_no (n : Nat) {x : D} (sf : D) (hs : sim x = true) (hl : ∀ s, x = .str s → s.length ≤ 1000) (hx : nameD x = false) (ws : D) : callF Tt (n + 2) 29 [sf, x, ws] T = .exn 2 T := by
  have nm := is_name n T hs hl
  rw [hx] at nm
  rw [callF_is (fd := f_House_post_of) rfl rfl]
  show endF false T (evB (parOf Tt (n + 1)) [s_House_post_of_0, s_House_post_of_1] [some sf, some x, some ws, none] T) = _
  have e0 : evS (parOf Tt (n + 1)) s_House_post_of_0 [some sf, some x, some ws, none] T = .nx [some sf, some x, some ws, none] T := by simp [s_House_post_of_0, nm]
  rw [evB_cons, e0, seq_nx]
  simp [s_House_post_of_1]
theorem find_one (nd : (L.map fun r => nmP r.part).Nodup) {i : Nat} {r : PR} (hr : L[i]? = some r) {ws : List Str} (hw : ws.any (· == wordP r.part) = true) : L.find? (fitB (nmP r.part) ws) = some r := by
  have hf : fitB (nmP r.part) ws r = true := by unfold fitB; rw [hw]; simp
  cases e : L.find? (fitB (nmP r.part) ws) with
  | none =>
    have := List.find?_eq_none.mp e r (List.mem_of_getElem? hr)
    exact absurd hf this
  | some q =>
    have hq := List.find?_some e
    have hm := List.mem_of_find?_eq_some e
    obtain ⟨j, hj, ej⟩ := List.mem_iff_getElem.mp hm
    have hqn : nmP q.part = nmP r.part := by
      unfold fitB at hq
      rw [Bool.and_eq_true] at hq
      exact eq_of_beq hq.1
    have hi := (List.getElem?_eq_some_iff.mp hr).1
    have ei := (List.getElem?_eq_some_iff.mp hr).2
    have : (L.map fun r => nmP r.part)[j]'(by simpa using hj) = (L.map fun r => nmP r.part)[i]'(by simpa using hi) := by
      rw [List.getElem_map, List.getElem_map, ej, ei, hqn]
    have hij := (List.getElem_inj nd).mp this
    subst hij
    rw [← ej, ei]
/-- the post of a name, where the part is here -/
theorem post_here (H : HO T h t L m now given rows) (pvl : PVL L) (n : Nat) {s : Str} (hs : nameD (.str s) = true) (ws : List Str) {i : Nat} {r : PR} (hr : L[i]? = some r) (hf : L.find? (fitB s ws) = some r) : callF Tt (n + 3) 30 [.loc h, .str s, .tup (strD ws)] T =
    if (m i).liv = true then .ok (.loc r.ad) T else .exn 3 T := by
  have po := post_of H pvl n hs ws
  rw [hf] at po
  dsimp only at po
  rw [callF_is (fd := f_House_post_here) rfl rfl]
  show endF false T (evB (parOf Tt (n + 2)) [s_House_post_here_0, s_House_post_here_1, s_House_post_here_2] [some (.loc h), some (.str s), some (.tup (strD ws)), none] T) = _
  have me := H.meth (x := "post_of") (by simp)
  have e0 : evS (parOf Tt (n + 2)) s_House_post_here_0 [some (.loc h), some (.str s), some (.tup (strD ws)), none] T = .nx [some (.loc h), some (.str s), some (.tup (strD ws)), some (.loc r.ad)] T := by
    rw [s_House_post_here_0, evS_set, evE_meth]
    simp only [evE_var, List.getElem?_cons_succ, List.getElem?_cons_zero, ofV_some, bind_ok, me, if_true, evEs_cons, evEs_nil, parOf_cf, po, thenS_ok]
    rfl
  have lv := H.hs.living (n + 2) hr
  rw [parOf_atr] at lv
  rw [evB_cons, e0, seq_nx]
  cases hl : (m i).liv <;> rw [hl] at lv <;> simp [s_House_post_here_1, s_House_post_here_2, lv]
theorem post_here_no (H : HO T h t L m now given rows) (n : Nat) {x : D} {ws : D} (hp : callF Tt (n + 2) 29 [.loc h, x, ws] T = .exn 2 T) : callF Tt (n + 3) 30 [.loc h, x, ws] T = .exn 2 T := by
  rw [callF_is (fd := f_House_post_here) rfl rfl]
  show endF false T (evB (parOf Tt (n + 2)) [s_House_post_here_0, s_House_post_here_1, s_House_post_here_2] [some (.loc h), some x, some ws, none] T) = _
  have me := H.meth (x := "post_of") (by simp)
  have e0 : evS (parOf Tt (n + 2)) s_House_post_here_0 [some (.loc h), some x, some ws, none] T = .exn 2 [some (.loc h), some x, some ws, none] T := by
    rw [s_House_post_here_0, evS_set, evE_meth]
    simp only [evE_var, List.getElem?_cons_succ, List.getElem?_cons_zero, ofV_some, bind_ok, me, if_true, evEs_cons, evEs_nil, parOf_cf, hp, thenS_exn]
  rw [evB_cons, e0, seq_exn, endF_exnF]
theorem is_open (H : HO T h t L m now given rows) (n : Nat) : callF Tt (n + 1) 31 [.loc h] T = .ok (.bl (m 0).liv) T := by
  obtain ⟨r, hr, rfl⟩ := H.top
  have lv := H.hs.living n hr
  have tp : attO (parOf Tt n).atr T (.loc h) "top" = some (.loc r.ad) := by rw [H.att n (by simp)]; rfl
  rw [callF_is (fd := f_House_is_open) rfl rfl]
  show endF false T (evB (parOf Tt n) [.ret (.att (.att (.var 0) "top") "living")] [some (.loc h)] T) = _
  simp only [evB_cons, evS_ret, evE_att, evE_var, List.getElem?_cons_zero, ofV_some, bind_ok, tp, ofO_some, lv, thenS_ok, seq_rt, endF_rt, fin_false]
theorem hour (H : HO T h t L m now given rows) (n : Nat) : callF Tt (n + 1) 32 [.loc h] T = .ok (.int now) T := by
  have tp : attO (parOf Tt n).atr T (.loc h) "now" = some (.int now) := by rw [H.att n (by simp)]; rfl
  rw [callF_is (fd := f_House_hour) rfl rfl]
  show endF false T (evB (parOf Tt n) [.ret (.att (.var 0) "now")] [some (.loc h)] T) = _
  simp only [evB_cons, evS_ret, evE_att, evE_var, List.getElem?_cons_zero, ofV_some, bind_ok, tp, ofO_some, thenS_ok, seq_rt, endF_rt, fin_false]
theorem history (H : HO T h t L m now given rows) (n : Nat) : callF Tt (n + 1) 34 [.loc h] T = .ok (.lst rows) T := by
  have tp : attO (parOf Tt n).atr T (.loc h) "rows" = some (.lst rows) := by rw [H.att n (by simp)]; rfl
  rw [callF_is (fd := f_House_history) rfl rfl]
  show endF false T (evB (parOf Tt n) [.ret (.lof false (.att (.var 0) "rows"))] [some (.loc h)] T) = _
  rw [evB_cons, evS_ret, evE_lof]
  simp only [evE_att, evE_var, List.getElem?_cons_zero, ofV_some, bind_ok, tp, ofO_some]
  rfl
def hereL (L : List PR) (m : Nat → PM) : List Str := (L.zipIdx.filter fun p => (m p.2).liv).map fun p => nmP p.1.part
theorem zip_locs (L : List PR) : locsD L = L.zipIdx.map fun p => .loc p.1.ad := by
  unfold locsD
  have : ∀ (L : List PR) (k : Nat), L.map (fun r => D.loc r.ad) = (L.zipIdx k).map fun p => .loc p.1.ad := by
    intro L
    induction L with
    | nil => intro k; rfl
    | cons r L ih => intro k; rw [List.zipIdx_cons, List.map_cons, List.map_cons, ← ih]
  exact this L 0
theorem zip_at {L : List PR} {p : PR × Nat} (h : p ∈ L.zipIdx) : L[p.2]? = some p.1 := by
  have := List.mem_zipIdx h
  simp at this
  obtain ⟨h1, h2⟩ := this
  rw [List.getElem?_eq_getElem h1]
  exact congrArg some h2.symm
theorem here (H : HO T h t L m now given rows) (pvl : PVL L) (hL : L.length ≤ 1000) (n : Nat) : callF Tt (n + 1) 33 [.loc h] T = .ok (.lst (strD (hereL L m))) T := by
  have po : attO (parOf Tt n).atr T (.loc h) "posts" = some (.lst (locsD L)) := by rw [H.att n (by simp)]; rfl
  rw [callF_is (fd := f_House_here) rfl rfl]
  show endF false T (evB (parOf Tt n) [.ret (.cmp false (.op2 .get (.att (.var 1) "part") (.lit (.int 1))) [1] (.nm 1) .ex [.att (.var 0) "posts"] [.att (.var 1) "living"])] [some (.loc h), none] T) = _
  rw [evB_cons, evS_ret, evE_cmp, evCmp_M (α := PR × Nat) (ys := L.zipIdx) (S1 := T) (ds := [.lst (locsD L)]) (ch := []) (fun p => .loc p.1.ad) (fun p => if (m p.2).liv then some (.str (nmP p.1.part)) else none)
    (by simp only [evEs_cons, evEs_nil, evE_att, evE_var, List.getElem?_cons_zero, ofV_some, bind_ok, po, ofO_some]) (by rw [← zip_locs]; rfl) stays_nil (by rw [LIM_nat]; simp; omega) (fun p hp acc => ?_) (fun p hp => ?_)]
  · rw [thenS_ok, seq_rt, endF_rt, fin_false]
    congr 2
    unfold hereL strD
    rw [List.map_map]
    generalize L.zipIdx = Z
    induction Z with
    | nil => rfl
    | cons p Z ih => cases hl : (m p.2).liv <;> simp [hl, ih]
  · have hr := zip_at hp
    obtain ⟨d, _, hpv⟩ := pvl _ _ hr
    have g1 := part_1 hpv (T ++ [.lst acc])
    have pa := (H.hs.app [.lst acc]).part n hr
    have lv := (H.hs.app [.lst acc]).living n hr
    unfold turnC
    simp only [setT, wipeE, List.set_cons_succ, List.set_cons_zero, evIfs_one, evE_att, evE_op2, evE_lit, evE_var, List.getElem?_cons_succ, List.getElem?_cons_zero, ofV_some, bind_ok, lv, ofO_some, ifB_bl]
    rw [parOf_atr] at pa
    cases hl : (m p.2).liv <;> simp [pa, g1]
  · split <;> rfl
end
end LawK
namespace LawK
open PySem PySem.Spec PyProof.Rows L2 Ev
/-! ### questions of one part -/
theorem counting (n : Nat) (S : Store) (ks : List Int) (now span : Int) (hl : ks.length ≤ 10000000) : callF Tt (n + 1) 23 [.lst (intsD ks), .int now, .int span] S = .ok (.lst (intsD (ks.filter fun k => decide (now - span < k)))) S := by
  rw [callF_is (fd := f_counting) rfl rfl]
  show endF true S (evB (parOf Tt n) [.ret (.cmp false (.var 3) [3] (.nm 3) .ex [.var 0] [.op2 .gt (.var 3) (.op2 .sub (.var 1) (.var 2))])] [some (.lst (intsD ks)), some (.int now), some (.int span), none] S) = _
  rw [evB_cons, evS_ret, evE_cmp, evCmp_F (S1 := S) (ds := [.lst (intsD ks)]) (xs := intsD ks) (ch := []) (keepI fun k => decide (now - span < k)) (by simp) rfl stays_nil (by rw [LIM_nat]; unfold intsD; rw [List.length_map]; omega) (fun x hx acc => ?_) (fun x hx => ?_), filterMap_ints]
  · rw [thenS_ok, seq_rt, endF_rt]
    exact fin_clo (clos_ints 0 _)
  · obtain ⟨i, rfl, _⟩ := mem_ints hx
    unfold turnC
    simp only [setT, wipeE, List.set_cons_succ, List.set_cons_zero, evIfs_one, evE_op2, evE_var, List.getElem?_cons_succ, List.getElem?_cons_zero, ofV_some, bind_ok, o_sub, ofO_some, o_gt, ifB_bl, keepI]
    by_cases h : now - span < i <;> simp [h]
  · obtain ⟨i, rfl, _⟩ := mem_ints hx
    simp only [keepI]
    split <;> rfl
def numsD (l : List (Int × D)) : D := .lst (intsD (l.map (·.1)))
section
variable {T : Store} {h t : Nat} {L : List PR} {m : Nat → PM} {now given : Int} {rows : List D}
theorem waits (H : HO T h t L m now given rows) (pvl : PVL L) (n : Nat) {s : Str} (hs : nameD (.str s) = true) {i : Nat} {r : PR} (hr : L[i]? = some r) (hf : L.find? (fitB s ["worker"]) = some r) (hl : (m i).lets.length ≤ 10000000) : callF Tt (n + 3) 35 [.loc h, .str s] T = .ok (numsD (m i).lets) T := by
  have po := post_of H pvl n hs ["worker"]
  rw [hf] at po
  dsimp only at po
  rw [callF_is (fd := f_House_waits) rfl rfl]
  show endF false T (evB (parOf Tt (n + 2)) [.ret (.cmp false (.op2 .get (.var 2) (.lit (.int 0))) [2] (.nm 2) .ex [.att (.meth 1 29 "post_of" (.var 0) [.var 1, .tup [.lit (.str "worker")]]) "letters"] [])] [some (.loc h), some (.str s), none] T) = _
  have me := H.meth (x := "post_of") (by simp)
  have le := H.hs.letters (n + 2) hr
  rw [evB_cons, evS_ret, evE_cmp, evCmp_M (S1 := T) (ds := [letD (m i).lets]) (ys := (m i).lets) (ch := []) (fun p => .tup [.int p.1, p.2]) (fun p => some (.int p.1)) ?_ rfl stays_nil (by rw [LIM_nat]; omega) (fun p hp acc => ?_) (fun p hp => rfl)]
  · rw [thenS_ok, seq_rt, endF_rt, fin_false]
    unfold numsD intsD
    rw [List.map_map, List.filterMap_eq_map']
    rfl
  · have tu : evE (parOf Tt (n + 2)) (.tup [.lit (.str "worker")]) [some (.loc h), some (.str s), none] T = .ok (.tup (strD ["worker"])) T := by simp [strD]
    simp only [evEs_cons, evEs_nil, evE_att, evE_meth, evE_var, List.getElem?_cons_succ, List.getElem?_cons_zero, ofV_some, bind_ok, me, if_true, tu, parOf_cf, po, le, ofO_some]
  · unfold turnC
    have g : op2 (T ++ [.lst acc]) .get (.tup [.int p.1, p.2]) (.int 0) = some (.int p.1) := rfl
    simp only [setT, wipeE, List.set_cons_succ, List.set_cons_zero, evIfs_nil, evE_op2, evE_lit, evE_var, List.getElem?_cons_succ, List.getElem?_cons_zero, ofV_some, bind_ok, g, ofO_some, if_true]
theorem sum_of (H : HO T h t L m now given rows) (pvl : PVL L) (n : Nat) {s : Str} (hs : nameD (.str s) = true) {i : Nat} {r : PR} (hr : L[i]? = some r) (hf : L.find? (fitB s ["worker"]) = some r) : callF Tt (n + 4) 36 [.loc h, .str s] T = if (m i).liv = true then .ok (.int (m i).tot) T else .exn 3 T := by
  have po := post_here H pvl n hs ["worker"] hr hf
  rw [callF_is (fd := f_House_sum_of) rfl rfl]
  show endF false T (evB (parOf Tt (n + 3)) [.ret (.att (.meth 1 30 "post_here" (.var 0) [.var 1, .tup [.lit (.str "worker")]]) "total")] [some (.loc h), some (.str s)] T) = _
  have me := H.meth (x := "post_here") (by simp)
  have le := H.hs.total (n + 3) hr
  have tu : evE (parOf Tt (n + 3)) (.tup [.lit (.str "worker")]) [some (.loc h), some (.str s)] T = .ok (.tup (strD ["worker"])) T := by simp [strD]
  rw [evB_cons, evS_ret, evE_att, evE_meth]
  simp only [evEs_cons, evEs_nil, evE_var, List.getElem?_cons_succ, List.getElem?_cons_zero, ofV_some, bind_ok, me, if_true, tu, parOf_cf, po]
  cases hl : (m i).liv
  · rfl
  · simp only [if_true, bind_ok, le, ofO_some, thenS_ok, seq_rt, endF_rt, fin_false]
def spanP (x : D) : Int := match x with
  | .tup [_, _, _, _, .int b, _] => b
  | _ => 0
theorem part_4 {k : Nat} {x : D} (h : pv k x = true) (hw : isW x = true) (S : Store) : op2 S .get x (.int 4) = some (.int (spanP x)) := by
  rcases pv_kids h with ⟨_, k', nm, u, a', b, ps, e, hx, hps⟩ | ⟨hw', nm, u, hx⟩
  · subst hx; rfl
  · rw [hw] at hw'; cases hw'
theorem hours (H : HO T h t L m now given rows) (pvl : PVL L) (n : Nat) {s : Str} (hs : nameD (.str s) = true) {i : Nat} {r : PR} (hr : L[i]? = some r) (hf : L.find? (fitB s ["warden"]) = some r) (hw : isW r.part = true) (hl : (m i).kept.length ≤ 10000000) :
    callF Tt (n + 4) 37 [.loc h, .str s] T = if (m i).liv = true then .ok (.lst (intsD ((m i).kept.filter fun k => decide (now - spanP r.part < k)))) T else .exn 3 T := by
  have po := post_here H pvl n hs ["warden"] hr hf
  rw [callF_is (fd := f_House_hours) rfl rfl]
  show endF false T (evB (parOf Tt (n + 3)) [s_House_hours_0, s_House_hours_1] [some (.loc h), some (.str s), none] T) = _
  have me := H.meth (x := "post_here") (by simp)
  have ke := H.hs.kept (n + 3) hr
  have pa := H.hs.part (n + 3) hr
  have nw : attO (parOf Tt (n + 3)).atr T (.loc h) "now" = some (.int now) := by rw [H.att (n + 3) (by simp)]; rfl
  obtain ⟨d, _, hp⟩ := pvl i r hr
  have g4 := part_4 hp hw T
  have co := counting (n + 2) T (m i).kept now (spanP r.part) hl
  have tu : evE (parOf Tt (n + 3)) (.tup [.lit (.str "warden")]) [some (.loc h), some (.str s), none] T = .ok (.tup (strD ["warden"])) T := by simp [strD]
  rw [evB_cons, s_House_hours_0, evS_set, evE_meth]
  simp only [evEs_cons, evEs_nil, evE_var, List.getElem?_cons_succ, List.getElem?_cons_zero, ofV_some, bind_ok, me, if_true, tu, parOf_cf, po]
  cases hl : (m i).liv
  · rfl
  · simp only [if_true, thenS_ok, seq_nx, List.set_cons_succ, List.set_cons_zero, s_House_hours_1, evB_cons, evS_ret, evE_call, evEs_cons, evEs_nil, evE_att, evE_op2, evE_lit, evE_var, List.getElem?_cons_succ, List.getElem?_cons_zero, ofV_some, bind_ok, ke, nw, pa, ofO_some, g4, parOf_cf, co, seq_rt, endF_rt, fin_false]
end
end LawK
namespace LawK
open PySem PySem.Spec PyProof.Rows L2 Ev
theorem strD_mem {ws : List Str} {x : D} (h : x ∈ strD ws) : ∃ w, x = .str w ∧ w ∈ ws := by
  obtain ⟨w, hw, rfl⟩ := List.mem_map.mp h
  exact ⟨w, rfl, hw⟩
theorem law_texts (n : Nat) (S : Store) (ws : List Str) (hl : ws.length ≤ 10000000) : callF Tt (n + 1) 38 [.lst (strD ws)] S = .ok (.bl true) S := by
  rw [callF_is (fd := f_law_texts) rfl rfl]
  show endF true S (evB (parOf Tt n) [.ret (.and (.op1 (.isi .list) (.var 0)) (.op2 .eq (.cmp false (.var 1) [1] (.nm 1) .ex [.var 0] [.not (.op1 (.isi .str) (.var 1))]) (.lst false [])))] [some (.lst (strD ws)), none] S) = _
  have cm := evCmp_F (ik := .ex) (tg := .nm 1) (vs := [1]) (gi := evEs (parOf Tt n) [.var 0]) (ti := evIfs (parOf Tt n) [.not (.op1 (.isi .str) (.var 1))]) (fe := evE (parOf Tt n) (.var 1)) (δ := [some (.lst (strD ws)), none]) (S := S) (S1 := S) (ds := [.lst (strD ws)]) (xs := strD ws) (ch := []) (fun _ => none)
    (by simp) rfl stays_nil (by rw [LIM_nat]; unfold strD; rw [List.length_map]; omega) (fun x hx acc => by
      obtain ⟨w, rfl, _⟩ := strD_mem hx
      unfold turnC
      simp [setT, wipeE, tyIs]) (fun x hx => rfl)
  have nl : (strD ws).filterMap (fun _ => (none : Option D)) = [] := by simp
  rw [nl] at cm
  have ty : ∀ S, op1 S (.isi .list) (.lst (strD ws)) = some (.bl true) := fun _ => rfl
  have en : op2 S .eq (.lst []) (.lst []) = some (.bl true) := rfl
  simp only [evB_cons, evS_ret, evE_and, evE_op1, evE_op2, evE_cmp, evE_var, evE_lst, evEs_nil, List.getElem?_cons_zero, ofV_some, bind_ok, ty, ofO_some, ifB_bl, if_true]
  have cm2 : evCmp false .ex (.nm 1) [1] (evEs (parOf Tt n) [.var 0]) (evIfs (parOf Tt n) [.not (.op1 (.isi .str) (.var 1))]) (evE (parOf Tt n) (.var 1)) [some (.lst (strD ws)), none] S = .ok (.lst []) S := cm
  rw [cm2]
  simp only [bind_ok, List.length_nil, Nat.zero_le, if_true, newL_f, en, ofO_some, thenS_ok, seq_rt, endF_rt]
  exact fin_bl S true
theorem law_events (n : Nat) (S : Store) (B : List PR) : callF Tt (n + 1) 39 [.lst (rowsB B)] S = .ok (.bl true) S := by
  rw [callF_is (fd := f_law_events) rfl rfl]
  show endF true S (evB (parOf Tt n) [s_law_events_0, s_law_events_1, s_law_events_2] [some (.lst (rowsB B)), none] S) = _
  obtain ⟨δ', S', e, o, hδ, hS⟩ := forL_run (ch := []) (tg := .nm 1) (f := fun δ S => evB (parOf Tt n) b_law_events_1 δ S) (fun i δ S' => ∃ o, δ = [some (.lst (rowsB B)), o] ∧ S' = S)
    (xs := rowsB B) (k := 0) (δ := [some (.lst (rowsB B)), none]) (S := S) ⟨none, rfl, rfl⟩ (fun _ _ _ _ => stays_nil) (by
    rintro i y δ S1 hy ⟨o, rfl, rfl⟩
    obtain ⟨r, _, rfl⟩ := List.mem_map.mp (List.mem_of_getElem? hy)
    refine ⟨_, rfl, [some (.lst (rowsB B)), some (evD "begins" r)], S1, ?_, _, rfl, rfl⟩
    have g0 : op2 S1 .get (.tup [.str "begins", .str (nmP r.part)]) (.int 0) = some (.str "begins") := rfl
    have g1 : op2 S1 .get (.tup [.str "begins", .str (nmP r.part)]) (.int 1) = some (.str (nmP r.part)) := rfl
    simp [b_law_events_1, evD, ix1, tyIs])
  have e0 : evS (parOf Tt n) s_law_events_0 [some (.lst (rowsB B)), none] S = .nx [some (.lst (rowsB B)), none] S := by simp [s_law_events_0, tyIs]
  have e1 : evS (parOf Tt n) s_law_events_1 [some (.lst (rowsB B)), none] S = .nx [some (.lst (rowsB B)), o] S := by
    rw [s_law_events_1, evS_for, sFor_is (ds := [.lst (rowsB B)]) (S1 := S) (xs := rowsB B) (ch := []) (by simp) rfl, e, hδ, hS]
  rw [evB_cons, e0, seq_nx, evB_cons, e1, seq_nx]
  simp [s_law_events_2]
theorem law_refused (n q : Nat) (S : Store) (x : D) (h : okS q x = true) (hp : planD x = false) : callF Tt (n + 13) 40 [x] S = .ok (.bl true) S := by
  rw [callF_is (fd := f_law_refused) rfl rfl]
  show endF true S (evB (parOf Tt (n + 12)) [s_law_refused_0, s_law_refused_1] [some x, none] S) = _
  have hn := house_no n q S x h hp (.var 0) [some x, none] (fun _ => by simp)
  have e0 : evS (parOf Tt (n + 12)) s_law_refused_0 [some x, none] S = .rt (.bl true) (S ++ [.ins 1 []]) := by
    rw [s_law_refused_0, evS_try, evB_cons, evS_ex, hn, thenS_exn, seq_exn, tryR_exn _ _ _ (by omega)]
    rfl
  rw [evB_cons, e0, seq_rt, endF_rt]
  exact fin_bl' S _ true
theorem NRd.of {S T : Store} {b : Nat} {R : List NR} (h : NRd S b R) (e : ∀ i, i < S.length → T[i]? = S[i]?) : NRd T b R :=
  have up : ∀ {k : Nat} {c : Cell}, S[k]? = some c → T[k]? = some c := fun h => by rw [e _ (List.getElem?_eq_some_iff.mp h).1]; exact h
  ⟨up h.lst, fun i r hr => up (h.dic i r hr), fun i r hr => up (h.inn i r hr)⟩
/-- the posts' names and kinds are those of the nodes -/
theorem HallF.posts {R : List NR} {nms : List Str} {x : D} (h : HallF R nms x) (b : Nat) : (prs x none .non 0 0 b).map (fun r => kn r.part) = (pre R 6 0).map (rn R nms) := by
  rw [← h.fl, ← prs_map x none .non 0 0 b, List.map_map]
  rfl
theorem HallF.sz {R : List NR} {nms : List Str} {x : D} (h : HallF R nms x) : LawK.sz x ≤ 60 := by
  have := congrArg List.length h.fl
  rw [List.length_map, List.length_map] at this
  have h2 := h.ord.2.2
  unfold LawK.sz
  omega
theorem posts_at {R : List NR} {nms : List Str} {x : D} (h : HallF R nms x) (b a : Nat) {j : Nat} (hj : (pre R 6 0)[a]? = some j) : ∃ r, (prs x none .non 0 0 b)[a]? = some r ∧ kn r.part = rn R nms j := by
  have e := h.posts b
  have e2 : ((prs x none .non 0 0 b).map fun r => kn r.part)[a]? = ((pre R 6 0).map (rn R nms))[a]? := by rw [e]
  rw [List.getElem?_map, List.getElem?_map, hj] at e2
  obtain ⟨r, hr, hk⟩ := Option.map_eq_some_iff.mp e2
  exact ⟨r, hr, hk⟩
theorem posts_nodup {R : List NR} {nms : List Str} {x : D} (h : HallF R nms x) (b : Nat) : ((prs x none .non 0 0 b).map fun r => nmP r.part) = (pre R 6 0).map (fun j => nms.getD j "") ∧ ((prs x none .non 0 0 b).map fun r => nmP r.part).Nodup := by
  have e := congrArg (List.map Prod.snd) (h.posts b)
  rw [List.map_map, List.map_map] at e
  have e : (prs x none .non 0 0 b).map (fun r => nmP r.part) = (pre R 6 0).map (fun j => nms.getD j "") := e
  obtain ⟨h1, h2, h3⟩ := h.ord
  exact ⟨e, by rw [e]; exact nodup_getD h.nod h1 fun i hi => by rw [h.nlen]; exact h2 i hi⟩
theorem getD_name {R : List NR} {nms : List Str} {x : D} (h : HallF R nms x) {j : Nat} (hj : j < R.length) : nameD (.str (nms.getD j "")) = true := getD_ok h.nm j (by rw [h.nlen]; exact hj)
end LawK
namespace LawK
open PySem PySem.Spec PyProof.Rows L2 Ev
def hallD (b : Nat) (nms : List Str) (G : List D) (x : D) (gs : List Nat) : D := .dic ["nodes", "names", "parts", "plan", "order"] [.loc b, .lst (strD nms), .lst G, x, .lst (natD gs)]
section
variable {b : Nat} {nms : List Str} {G : List D} {x : D} {gs : List Nat} (S : Store)
theorem hall_nodes : op2 S .get (hallD b nms G x gs) (.str "nodes") = some (.loc b) := rfl
theorem hall_names : op2 S .get (hallD b nms G x gs) (.str "names") = some (.lst (strD nms)) := rfl
theorem hall_plan : op2 S .get (hallD b nms G x gs) (.str "plan") = some x := rfl
theorem hall_order : op2 S .get (hallD b nms G x gs) (.str "order") = some (.lst (natD gs)) := rfl
end
theorem flats_rowsB (n : Nat) (B : List PR) : flats (n + 1) (rowsB B) = true := flats_of fun y hy => by
  obtain ⟨r, _, rfl⟩ := List.mem_map.mp hy
  rfl
theorem clos_rowsB (n : Nat) (B : List PR) : clos n (rowsB B) = true := clos_of fun y hy => by
  obtain ⟨r, _, rfl⟩ := List.mem_map.mp hy
  rfl
theorem ne_self {S : Store} {xs : List D} (h : flats 59 xs = true) : op2 S .ne (.lst xs) (.lst xs) = some (.bl false) := (eq_self (S := S) (a := .lst xs) (b := .lst xs) rfl rfl h).2
/-- one turn of the last loop -/
theorem turn8 (n : Nat) {T : Store} {b h t : Nat} {R : List NR} {nms : List Str} {G : List D} {x : D} {gs : List Nat} {L : List PR} {rows : List D} (nr : NRd T b R) (H : HO T h t L (fun _ => m1) 0 0 rows) (pvl : PVL L)
    (nd : (L.map fun r => nmP r.part).Nodup) {i j : Nat} {r : PR} (hr : L[i]? = some r) (hk : kn r.part = rn R nms j) (hj : j < R.length) (hjn : j < nms.length) (hn : nameD (.str (nms.getD j "")) = true) (a0 a3 a4 a6 o7 : Option D) :
    evB (parOf Tt (n + 4)) b_law_8 [a0, some (hallD (b + 2) nms G x gs), some (.loc h), a3, a4, some (.int (j : Int)), a6, o7] T = .nx [a0, some (hallD (b + 2) nms G x gs), some (.loc h), a3, a4, some (.int (j : Int)), a6, some (.str (nms.getD j ""))] T := by
  have g := get_nameD T nms j hjn
  have hrj : R[j]? = some R[j] := by simp [hj]
  have q1 := nr.node hj
  have q2 := nr.wd hrj
  have hN : nmP r.part = nms.getD j "" := congrArg Prod.snd hk
  have hW : isW r.part = R[j].wd := by
    have e := congrArg Prod.fst hk
    unfold rn at e
    rw [hrj] at e
    exact e
  rw [← hN] at g hn ⊢
  have hall1 := hall_names (b := b + 2) (nms := nms) (G := G) (x := x) (gs := gs) T
  have hall2 := hall_nodes (b := b + 2) (nms := nms) (G := G) (x := x) (gs := gs) T
  generalize hallD (b + 2) nms G x gs = hd at *
  have e0 : evS (parOf Tt (n + 4)) (.set 7 (.op2 .get (.op2 .get (.var 1) (.lit (.str "names"))) (.var 5))) [a0, some hd, some (.loc h), a3, a4, some (.int (j : Int)), a6, o7] T = .nx [a0, some hd, some (.loc h), a3, a4, some (.int (j : Int)), a6, some (.str (nmP r.part))] T := by
    simp only [evS_set, evE_op2, evE_var, evE_lit, List.getElem?_cons_succ, List.getElem?_cons_zero, ofV_some, bind_ok, hall1, ofO_some, g, thenS_ok, List.set_cons_succ, List.set_cons_zero]
  rw [b_law_8, evB_cons, e0, seq_nx]
  have wd : ∀ T', T' = T → evE (parOf Tt (n + 4)) (.op2 .get (.op2 .get (.op2 .get (.var 1) (.lit (.str "nodes"))) (.var 5)) (.lit (.str "warden"))) [a0, some hd, some (.loc h), a3, a4, some (.int (j : Int)), a6, some (.str (nmP r.part))] T' = .ok (.bl (isW r.part)) T' := by
    rintro _ rfl
    simp only [evE_op2, evE_var, evE_lit, List.getElem?_cons_succ, List.getElem?_cons_zero, ofV_some, bind_ok, hall2, ofO_some, q1, q2, hW]
  have wd := wd T rfl
  have me := fun {y : Str} (hy : y ∈ (["post_of", "post_here", "need_open", "send", "work", "done", "fail", "settled", "is_open", "hour", "here", "history", "waits", "sum_of", "hours"] : List Str)) => H.meth hy
  have fit : ∀ w : Str, w = wordP r.part → L.find? (fitB (nmP r.part) [w]) = some r := fun w e => find_one nd hr (ws := [w]) (by rw [e]; simp)
  have nn : ∀ S, op2 S .ne (.lst []) (.lst []) = some (.bl false) := fun _ => rfl
  cases hw : isW r.part
  · rw [hw] at wd
    have fo := fit "worker" (by unfold wordP; rw [hw]; rfl)
    have wa := waits H pvl (n + 1) hn hr fo (by decide)
    have su := sum_of H pvl n hn hr fo
    have lw := law_whole (n + 3) T (x := .int 0) rfl
    have wa : callF Tt (n + 4) 35 [.loc h, .str (nmP r.part)] T = .ok (.lst []) T := wa
    have su : callF Tt (n + 4) 36 [.loc h, .str (nmP r.part)] T = .ok (.int 0) T := su
    have lw : callF Tt (n + 4) 9 [.int 0] T = .ok (.bl true) T := lw
    have m1 := me (y := "waits") (by simp)
    have m2 := me (y := "sum_of") (by simp)
    rw [evB_cons, evS_ite, evE_and, wd, bind_ok, ifB_bl, if_neg (by simp), thenS_ok, ifB_bl, if_neg (by simp), evB_nil, seq_nx, evB_cons, evS_ite, evE_not, wd, bind_ok, ifB_bl, if_neg (by simp), thenS_ok, ifB_bl, if_pos rfl]
    have co : evE (parOf Tt (n + 4)) (.or (.op2 .ne (.meth 1 35 "waits" (.var 2) [.var 7]) (.lst false [])) (.or (.not (.call 9 [.meth 1 36 "sum_of" (.var 2) [.var 7]])) (.op2 .ne (.meth 1 36 "sum_of" (.var 2) [.var 7]) (.lit (.int 0))))) [a0, some hd, some (.loc h), a3, a4, some (.int (j : Int)), a6, some (.str (nmP r.part))] T = .ok (.bl false) T := by
      simp only [evE_or, evE_op2, evE_not, evE_call, evE_meth, evE_lst, evE_lit, evEs_cons, evEs_nil, evE_var, List.getElem?_cons_succ, List.getElem?_cons_zero, ofV_some, bind_ok, m1, m2, if_true, parOf_cf, wa, su, lw, List.length_nil, Nat.zero_le, newL_f, nn, ofO_some, ifB_bl, o_neI]
      simp
    rw [evB_cons, evS_ite, co, thenS_ok, ifB_bl, if_neg (by simp), evB_nil, seq_nx, evB_nil, seq_nx, evB_nil]
  · rw [hw] at wd
    have fo := fit "warden" (by unfold wordP; rw [hw]; rfl)
    have ho := hours H pvl n hn hr fo hw (by decide)
    have ho : callF Tt (n + 4) 37 [.loc h, .str (nmP r.part)] T = .ok (.lst []) T := ho
    have m1 := me (y := "hours") (by simp)
    have co : evE (parOf Tt (n + 4)) (.op2 .ne (.meth 1 37 "hours" (.var 2) [.var 7]) (.lst false [])) [a0, some hd, some (.loc h), a3, a4, some (.int (j : Int)), a6, some (.str (nmP r.part))] T = .ok (.bl false) T := by
      simp only [evE_op2, evE_meth, evE_lst, evEs_cons, evEs_nil, evE_var, List.getElem?_cons_succ, List.getElem?_cons_zero, ofV_some, bind_ok, m1, if_true, parOf_cf, ho, List.length_nil, Nat.zero_le, newL_f, nn, ofO_some]
    rw [evB_cons, evS_ite, evE_and, wd, bind_ok, ifB_bl, if_pos rfl, co, thenS_ok, ifB_bl, if_neg (by simp), evB_nil, seq_nx, evB_cons, evS_ite, evE_not, wd, bind_ok, ifB_bl, if_pos rfl, thenS_ok, ifB_bl, if_neg (by simp), evB_nil, seq_nx, evB_nil]
/-- the law's end, behind the house -/
theorem law_end (n : Nat) {T : Store} {b h t : Nat} {R : List NR} {nms : List Str} {G : List D} {x : D} (nr : NRd T b R) (hf : HallF R nms x) (c : Nat) (H : HO T h t (prs x none .non 0 0 c) (fun _ => m1) 0 0 (rowsB (prs x none .non 0 0 c))) (a0 a3 a4 a5 a6 a7 : Option D) :
    evB (parOf Tt (n + 4)) [s_law_3, s_law_4, s_law_5, s_law_6, s_law_7, s_law_8, s_law_9] [a0, some (hallD (b + 2) nms G x (pre R 6 0)), some (.loc h), a3, a4, a5, a6, a7] T = .rt (.bl true) T := by
  have hw := hf.wd
  have pv6 : pv 6 x = true := by unfold pv; rw [hw, Bool.or_true]
  have pvl := prs_PVL pv6 none .non 0 0 c
  obtain ⟨o1, o2, o3⟩ := hf.ord
  obtain ⟨pn, nd⟩ := posts_nodup hf c
  have plen : (prs x none .non 0 0 c).length ≤ 60 := by rw [prs_len]; exact hf.sz
  have pat := fun a j => posts_at hf c a (j := j)
  generalize hL : prs x none .non 0 0 c = L at *
  generalize hgs : pre R 6 0 = gs at *
  have hall1 := hall_names (b := b + 2) (nms := nms) (G := G) (x := x) (gs := gs)
  have hall2 := hall_order (b := b + 2) (nms := nms) (G := G) (x := x) (gs := gs)
  generalize hNL : gs.map (fun j => nms.getD j "") = NL at *
  have lNL : NL.length ≤ 60 := by rw [← hNL, List.length_map]; exact o3
  have t8 := fun {i j : Nat} {r : PR} (hr : L[i]? = some r) (hk : kn r.part = rn R nms j) (hj : j < R.length) (a0 a3 a4 a6 o7 : Option D) => turn8 n (G := G) (x := x) (gs := gs) nr H pvl nd hr hk hj (by rw [hf.nlen]; exact hj) (getD_name hf hj) a0 a3 a4 a6 o7
  generalize hallD (b + 2) nms G x gs = hd at *
  have e3 : evS (parOf Tt (n + 4)) s_law_3 [a0, some hd, some (.loc h), a3, a4, a5, a6, a7] T = .nx [a0, some hd, some (.loc h), some (.lst (strD NL)), a4, a5, a6, a7] T := by
    rw [s_law_3, evS_set, evE_cmp, evCmp_M (α := Nat) (ys := gs) (S1 := T) (ds := [.lst (natD gs)]) (ch := []) (fun k => .int (k : Int)) (fun k => some (.str (nms.getD k ""))) (by simp only [evEs_cons, evEs_nil, evE_op2, evE_lit, evE_var, List.getElem?_cons_succ, List.getElem?_cons_zero, ofV_some, bind_ok, hall2, ofO_some]) rfl stays_nil (by rw [LIM_nat]; omega) (fun k hk acc => ?_) (fun k hk => rfl)]
    · rw [thenS_ok, List.filterMap_eq_map', ← hNL, strD, List.map_map]
      rfl
    · have g := get_nameD (T ++ [.lst acc]) nms k (by rw [hf.nlen]; exact o2 k hk)
      unfold turnC
      simp only [setT, wipeE, List.set_cons_succ, List.set_cons_zero, evIfs_nil, evE_op2, evE_lit, evE_var, List.getElem?_cons_succ, List.getElem?_cons_zero, ofV_some, bind_ok, hall1, ofO_some, g, if_true]
  have me := fun {y : Str} (hy : y ∈ (["post_of", "post_here", "need_open", "send", "work", "done", "fail", "settled", "is_open", "hour", "here", "history", "waits", "sum_of", "hours"] : List Str)) => H.meth hy
  have mo := me (y := "is_open") (by simp)
  have mh := me (y := "hour") (by simp)
  have mr := me (y := "here") (by simp)
  have mi := me (y := "history") (by simp)
  have io := is_open H (n + 3)
  have ho := hour H (n + 3)
  have lw := law_whole (n + 3) T (x := .int 0) rfl
  have lw : callF Tt (n + 4) 9 [.int 0] T = .ok (.bl true) T := lw
  have he := here H pvl (by omega) (n + 3)
  have hi := history H (n + 3)
  have hl : hereL L (fun _ => m1) = NL := by
    rw [← pn]
    unfold hereL
    have : ∀ (L : List PR) (k : Nat), ((L.zipIdx k).filter fun p => ((fun _ => m1) p.2 : PM).liv).map (fun p => nmP p.1.part) = L.map fun r => nmP r.part := by
      intro L
      induction L with
      | nil => intro k; rfl
      | cons r L ih => intro k; rw [List.zipIdx_cons, List.filter_cons_of_pos (by rfl), List.map_cons, List.map_cons, ih]
    exact this L 0
  rw [hl] at he
  have isn : ∀ S, op2 S .isnt (.bl true) (.bl true) = some (.bl false) := fun _ => rfl
  have e4 : evS (parOf Tt (n + 4)) s_law_4 [a0, some hd, some (.loc h), some (.lst (strD NL)), a4, a5, a6, a7] T = .nx [a0, some hd, some (.loc h), some (.lst (strD NL)), a4, a5, a6, a7] T := by
    have co : evE (parOf Tt (n + 4)) (.or (.op2 .isnt (.meth 1 31 "is_open" (.var 2) []) (.lit (.bl true))) (.or (.not (.call 9 [.meth 1 32 "hour" (.var 2) []])) (.op2 .ne (.meth 1 32 "hour" (.var 2) []) (.lit (.int 0))))) [a0, some hd, some (.loc h), some (.lst (strD NL)), a4, a5, a6, a7] T = .ok (.bl false) T := by
      simp only [evE_or, evE_op2, evE_not, evE_call, evE_meth, evE_lit, evEs_cons, evEs_nil, evE_var, List.getElem?_cons_succ, List.getElem?_cons_zero, ofV_some, bind_ok, mo, mh, if_true, parOf_cf, io, ho, lw, m1, isn, ofO_some, ifB_bl, o_neI]
      simp
    rw [s_law_4, evS_ite, co, thenS_ok, ifB_bl, if_neg (by simp), evB_nil]
  have lt := law_texts (n + 3) T NL (by omega)
  have ns : op2 T .ne (.lst (strD NL)) (.lst (strD NL)) = some (.bl false) := ne_self (flats_strD _ _)
  have e5 : evS (parOf Tt (n + 4)) s_law_5 [a0, some hd, some (.loc h), some (.lst (strD NL)), a4, a5, a6, a7] T = .nx [a0, some hd, some (.loc h), some (.lst (strD NL)), a4, a5, a6, a7] T := by
    have co : evE (parOf Tt (n + 4)) (.or (.not (.call 38 [.meth 1 33 "here" (.var 2) []])) (.op2 .ne (.meth 1 33 "here" (.var 2) []) (.var 3))) [a0, some hd, some (.loc h), some (.lst (strD NL)), a4, a5, a6, a7] T = .ok (.bl false) T := by
      simp only [evE_or, evE_op2, evE_not, evE_call, evE_meth, evE_lit, evEs_cons, evEs_nil, evE_var, List.getElem?_cons_succ, List.getElem?_cons_zero, ofV_some, bind_ok, mr, if_true, parOf_cf, he, lt, ns, ofO_some, ifB_bl]
      simp
    rw [s_law_5, evS_ite, co, thenS_ok, ifB_bl, if_neg (by simp), evB_nil]
  have e6 : evS (parOf Tt (n + 4)) s_law_6 [a0, some hd, some (.loc h), some (.lst (strD NL)), a4, a5, a6, a7] T = .nx [a0, some hd, some (.loc h), some (.lst (strD NL)), some (.lst (rowsB L)), a5, a6, a7] T := by
    simp only [s_law_6, evS_set, evE_meth, evEs_nil, evE_var, List.getElem?_cons_succ, List.getElem?_cons_zero, ofV_some, bind_ok, mi, if_true, parOf_cf, hi, thenS_ok]
    rfl
  have le := law_events (n + 3) T L
  have rb : rowsB L = NL.map fun w => .tup [.str "begins", .str w] := by
    rw [← pn, List.map_map]
    rfl
  have nr2 : op2 T .ne (.lst (rowsB L)) (.lst (rowsB L)) = some (.bl false) := ne_self (flats_rowsB _ _)
  have e7 : evS (parOf Tt (n + 4)) s_law_7 [a0, some hd, some (.loc h), some (.lst (strD NL)), some (.lst (rowsB L)), a5, a6, a7] T = .nx [a0, some hd, some (.loc h), some (.lst (strD NL)), some (.lst (rowsB L)), a5, a6, a7] T := by
    have cm : evE (parOf Tt (n + 4)) (.cmp false (.tup [.lit (.str "begins"), .var 7]) [7] (.nm 7) .ex [.var 3] []) [a0, some hd, some (.loc h), some (.lst (strD NL)), some (.lst (rowsB L)), a5, a6, a7] T = .ok (.lst (rowsB L)) T := by
      rw [evE_cmp, evCmp_M (α := Str) (ys := NL) (S1 := T) (ds := [.lst (strD NL)]) (ch := []) (fun w => .str w) (fun w => some (.tup [.str "begins", .str w])) (by simp only [evEs_cons, evEs_nil, evE_var, List.getElem?_cons_succ, List.getElem?_cons_zero, ofV_some, bind_ok]) rfl stays_nil (by rw [LIM_nat]; omega) (fun k hk acc => ?_) (fun k hk => rfl)]
      · rw [List.filterMap_eq_map', rb]
      · unfold turnC
        simp [setT, wipeE]
    have co : evE (parOf Tt (n + 4)) (.or (.not (.call 39 [.var 4])) (.op2 .ne (.var 4) (.cmp false (.tup [.lit (.str "begins"), .var 7]) [7] (.nm 7) .ex [.var 3] []))) [a0, some hd, some (.loc h), some (.lst (strD NL)), some (.lst (rowsB L)), a5, a6, a7] T = .ok (.bl false) T := by
      have c1 : evE (parOf Tt (n + 4)) (.not (.call 39 [.var 4])) [a0, some hd, some (.loc h), some (.lst (strD NL)), some (.lst (rowsB L)), a5, a6, a7] T = .ok (.bl false) T := by
        simp only [evE_not, evE_call, evEs_cons, evEs_nil, evE_var, List.getElem?_cons_succ, List.getElem?_cons_zero, ofV_some, bind_ok, parOf_cf, le, ifB_bl]
        simp
      rw [evE_or, c1, bind_ok, ifB_bl, if_neg (by simp), evE_op2, evE_var]
      simp only [List.getElem?_cons_succ, List.getElem?_cons_zero, ofV_some, bind_ok]
      rw [cm, bind_ok, nr2, ofO_some]
    rw [s_law_7, evS_ite, co, thenS_ok, ifB_bl, if_neg (by simp), evB_nil]
  obtain ⟨δ', S', e, p5, p7, hδ, hS⟩ := forL_run (ch := []) (tg := .nm 5) (f := fun δ S => evB (parOf Tt (n + 4)) b_law_8 δ S) (fun i δ S' => ∃ p5 p7, δ = [a0, some hd, some (.loc h), some (.lst (strD NL)), some (.lst (rowsB L)), p5, a6, p7] ∧ S' = T)
    (xs := natD gs) (k := 0) (δ := [a0, some hd, some (.loc h), some (.lst (strD NL)), some (.lst (rowsB L)), a5, a6, a7]) (S := T) ⟨a5, a7, rfl, rfl⟩ (fun _ _ _ _ => stays_nil) (by
    rintro i y δ S1 hy ⟨p5, p7, rfl, rfl⟩
    unfold natD at hy
    rw [List.getElem?_map] at hy
    obtain ⟨j, h1, rfl⟩ := Option.map_eq_some_iff.mp hy
    obtain ⟨r, hr, hk⟩ := pat i j h1
    refine ⟨[a0, some hd, some (.loc h), some (.lst (strD NL)), some (.lst (rowsB L)), some (.int (j : Int)), a6, p7], rfl, _, S1, t8 hr hk (o2 j (List.mem_of_getElem? h1)) a0 _ _ a6 p7, some (.int (j : Int)), some (.str (nms.getD j "")), rfl, rfl⟩)
  have e8 : evS (parOf Tt (n + 4)) s_law_8 [a0, some hd, some (.loc h), some (.lst (strD NL)), some (.lst (rowsB L)), a5, a6, a7] T = .nx [a0, some hd, some (.loc h), some (.lst (strD NL)), some (.lst (rowsB L)), p5, a6, p7] T := by
    rw [s_law_8, evS_for, sFor_is (ds := [.lst (natD gs)]) (S1 := T) (xs := natD gs) (ch := []) (by simp only [evEs_cons, evEs_nil, evE_op2, evE_lit, evE_var, List.getElem?_cons_succ, List.getElem?_cons_zero, ofV_some, bind_ok, hall2, ofO_some]) rfl, e, hδ, hS]
  rw [evB_cons, e3, seq_nx, evB_cons, e4, seq_nx, evB_cons, e5, seq_nx, evB_cons, e6, seq_nx, evB_cons, e7, seq_nx, evB_cons, e8, seq_nx]
  simp [s_law_9]
end LawK
namespace LawK
open PySem PySem.Spec PyProof.Rows L2 Ev
theorem law_is (ns : List Int) (hl : ns.length ≤ 63) : ∃ S, callF Tt 17 41 [.scr ns] [] = .ok (.bl true) S := by
  rw [callF_is (fd := f_law) rfl rfl]
  show ∃ S, endF true [] (evB (parOf Tt 16) [s_law_0, s_law_1, s_law_2, s_law_3, s_law_4, s_law_5, s_law_6, s_law_7, s_law_8, s_law_9] [some (.scr ns), none, none, none, none, none, none, none] []) = _
  have c13 : ∀ S, callF Tt 16 8 [.scr ns, .int 13] S = .ok (.int (ns.getD 13 0)) S := fun S => cell_at 15 ns 13 S
  have c14 : ∀ S, callF Tt 16 8 [.scr ns, .int 14] S = .ok (.int (ns.getD 14 0)) S := fun S => cell_at 15 ns 14 S
  generalize ns.getD 13 0 = z13 at c13
  generalize ns.getD 14 0 = z14 at c14
  obtain ⟨S1, x, R, nms, G, eh, tk, nr, hf⟩ := law_house 6 [] ns
  have eh : callF Tt 16 16 [.scr ns] [] = .ok (hallD 2 nms G x (pre R 6 0)) S1 := eh
  have nr : NRd S1 0 R := nr
  have hp := hall_plan (b := 2) (nms := nms) (G := G) (x := x) (gs := pre R 6 0)
  have okx : okS 13 x = true := okP_S hf.ok
  -- the law goes on behind its second statement
  have goon : ∀ p6, ∃ S, evB (parOf Tt 16) [s_law_2, s_law_3, s_law_4, s_law_5, s_law_6, s_law_7, s_law_8, s_law_9] [some (.scr ns), some (hallD 2 nms G x (pre R 6 0)), none, none, none, none, p6, none] S1 = .rt (.bl true) S := fun p6 => by
    obtain ⟨T, e2, H, old⟩ := house_make 4 13 S1 x okx hf.plan (by have := hf.sz; omega) (.op2 .get (.var 1) (.lit (.str "plan"))) [some (.scr ns), some (hallD 2 nms G x (pre R 6 0)), none, none, none, none, p6, none] (fun S => by
      simp only [evE_op2, evE_var, evE_lit, List.getElem?_cons_succ, List.getElem?_cons_zero, ofV_some, bind_ok, hp, ofO_some])
    refine ⟨T, ?_⟩
    rw [evB_cons, s_law_2, evS_set, e2, thenS_ok, seq_nx]
    exact law_end 12 (nr.of old) hf _ H _ _ _ _ _ _
  have e0 : evS (parOf Tt 16) s_law_0 [some (.scr ns), none, none, none, none, none, none, none] [] = .nx [some (.scr ns), some (hallD 2 nms G x (pre R 6 0)), none, none, none, none, none, none] S1 := by simp [s_law_0, eh]
  have fin : ∀ {S : Store}, endF true [] (.rt (.bl true) S) = .ok (.bl true) [] := fun {S} => by
    rw [endF_rt]
    exact fin_bl' [] S true
  generalize hallD 2 nms G x (pre R 6 0) = hd at *
  refine ⟨[], ?_⟩
  rw [evB_cons, e0, seq_nx, evB_cons]
  by_cases h3 : z13 % 3 = 1
  · obtain ⟨y, oky, ey⟩ := spoilt 8 6 13 x z14 hf.ok (by omega)
    have ey : ∀ S, callF Tt 16 22 [x, .int z14, .int 8] S = .ok y S := ey
    have oky : okS 14 y = true := oky
    have lp := law_is_plan 5 14 S1 y oky (by omega)
    rw [← plans_agree] at lp
    have lp : callF Tt 16 20 [y] S1 = .ok (.bl (planD y)) S1 := lp
    cases hpy : planD y
    · rw [hpy] at lp
      have lr := law_refused 3 14 S1 y oky hpy
      have lr : callF Tt 16 40 [y] S1 = .ok (.bl true) S1 := lr
      rw [show evS (parOf Tt 16) s_law_1 [some (.scr ns), some hd, none, none, none, none, none, none] S1 = .rt (.bl true) S1 by simp [s_law_1, c13, h3, c14, ey, lp, lr, hp], seq_rt]
      exact fin
    · rw [hpy] at lp
      rw [show evS (parOf Tt 16) s_law_1 [some (.scr ns), some hd, none, none, none, none, none, none] S1 = .nx [some (.scr ns), some hd, none, none, none, none, some y, none] S1 by simp [s_law_1, c13, h3, c14, ey, lp, hp], seq_nx]
      obtain ⟨S, e⟩ := goon (some y)
      rw [e]
      exact fin
  · rw [show evS (parOf Tt 16) s_law_1 [some (.scr ns), some hd, none, none, none, none, none, none] S1 = .nx [some (.scr ns), some hd, none, none, none, none, none, none] S1 by simp [s_law_1, c13, h3], seq_nx]
    obtain ⟨S, e⟩ := goon none
    rw [e]
    exact fin
end LawK
namespace LawK
open PySem PySem.Spec PyProof.Rows L2 Ev
def d_is_number : He.DefD := ⟨("is_number", none), "is_number", "is_number", defArgs (top 18), defBody (top 18), defScope (top 18), [], []⟩
def d_is_name : He.DefD := ⟨("is_name", none), "is_name", "is_name", defArgs (top 19), defBody (top 19), defScope (top 19), [], []⟩
def d_is_word_of : He.DefD := ⟨("is_word_of", none), "is_word_of", "is_word_of", defArgs (top 20), defBody (top 20), defScope (top 20), [], []⟩
def d_is_row : He.DefD := ⟨("is_row", none), "is_row", "is_row", defArgs (top 21), defBody (top 21), defScope (top 21), [], []⟩
def d_is_worker : He.DefD := ⟨("is_worker", none), "is_worker", "is_worker", defArgs (top 22), defBody (top 22), defScope (top 22), [], []⟩
def d_is_warden : He.DefD := ⟨("is_warden", none), "is_warden", "is_warden", defArgs (top 23), defBody (top 23), defScope (top 23), [], []⟩
def d_names_of : He.DefD := ⟨("names_of", none), "names_of", "names_of", defArgs (top 24), defBody (top 24), defScope (top 24), [], []⟩
def d_is_plan : He.DefD := ⟨("is_plan", none), "is_plan", "is_plan", defArgs (top 25), defBody (top 25), defScope (top 25), [], []⟩
def d_law_cell_at : He.DefD := ⟨("_law_cell_at", none), "_law_cell_at", "_law_cell_at", defArgs (top 37), defBody (top 37), defScope (top 37), [], []⟩
def d_law_whole : He.DefD := ⟨("_law_whole", none), "_law_whole", "_law_whole", defArgs (top 38), defBody (top 38), defScope (top 38), [], []⟩
def d_law_names : He.DefD := ⟨("_law_names", none), "_law_names", "_law_names", defArgs (top 39), defBody (top 39), defScope (top 39), [], []⟩
def d_law_nodes : He.DefD := ⟨("_law_nodes", none), "_law_nodes", "_law_nodes", defArgs (top 40), defBody (top 40), defScope (top 40), [], []⟩
def d_law_under : He.DefD := ⟨("_law_under", none), "_law_under", "_law_under", defArgs (top 41), defBody (top 41), defScope (top 41), [], []⟩
def d_law_many_by : He.DefD := ⟨("_law_many_by", none), "_law_many_by", "_law_many_by", defArgs (top 42), defBody (top 42), defScope (top 42), [], []⟩
def d_law_span_by : He.DefD := ⟨("_law_span_by", none), "_law_span_by", "_law_span_by", defArgs (top 43), defBody (top 43), defScope (top 43), [], []⟩
def d_law_part : He.DefD := ⟨("_law_part", none), "_law_part", "_law_part", defArgs (top 44), defBody (top 44), defScope (top 44), [], []⟩
def d_law_house : He.DefD := ⟨("_law_house", none), "_law_house", "_law_house", defArgs (top 45), defBody (top 45), defScope (top 45), [], []⟩
def d_law_is_name : He.DefD := ⟨("_law_is_name", none), "_law_is_name", "_law_is_name", defArgs (top 46), defBody (top 46), defScope (top 46), [], []⟩
def d_law_is_part : He.DefD := ⟨("_law_is_part", none), "_law_is_part", "_law_is_part", defArgs (top 47), defBody (top 47), defScope (top 47), [], []⟩
def d_law_all_names : He.DefD := ⟨("_law_all_names", none), "_law_all_names", "_law_all_names", defArgs (top 48), defBody (top 48), defScope (top 48), [], []⟩
def d_law_is_plan : He.DefD := ⟨("_law_is_plan", none), "_law_is_plan", "_law_is_plan", defArgs (top 49), defBody (top 49), defScope (top 49), [], []⟩
def d_law_odd_by : He.DefD := ⟨("_law_odd_by", none), "_law_odd_by", "_law_odd_by", defArgs (top 50), defBody (top 50), defScope (top 50), [], []⟩
def d_law_spoilt : He.DefD := ⟨("_law_spoilt", none), "_law_spoilt", "_law_spoilt", defArgs (top 51), defBody (top 51), defScope (top 51), [], []⟩
def d_counting : He.DefD := ⟨("counting", none), "counting", "counting", defArgs (top 28), defBody (top 28), defScope (top 28), [], []⟩
def d_Post_init : He.DefD := ⟨("Post", some "__init__"), "__init__", "Post.__init__", defArgs (mtop 30 0), defBody (mtop 30 0), defScope (mtop 30 0), [], []⟩
def d_laid_out : He.DefD := ⟨("laid_out", none), "laid_out", "laid_out", defArgs (top 31), defBody (top 31), defScope (top 31), [], []⟩
def d_all_of : He.DefD := ⟨("all_of", none), "all_of", "all_of", defArgs (top 32), defBody (top 32), defScope (top 32), [], []⟩
def d_begin : He.DefD := ⟨("begin", none), "begin", "begin", defArgs (top 33), defBody (top 33), defScope (top 33), [], []⟩
def d_House_init : He.DefD := ⟨("House", some "__init__"), "__init__", "House.__init__", defArgs (mtop 35 0), defBody (mtop 35 0), defScope (mtop 35 0), [], []⟩
def d_House_post_of : He.DefD := ⟨("House", some "post_of"), "post_of", "House.post_of", defArgs (mtop 35 1), defBody (mtop 35 1), defScope (mtop 35 1), [], []⟩
def d_House_post_here : He.DefD := ⟨("House", some "post_here"), "post_here", "House.post_here", defArgs (mtop 35 2), defBody (mtop 35 2), defScope (mtop 35 2), [], []⟩
def d_House_is_open : He.DefD := ⟨("House", some "is_open"), "is_open", "House.is_open", defArgs (mtop 35 9), defBody (mtop 35 9), defScope (mtop 35 9), [], []⟩
def d_House_hour : He.DefD := ⟨("House", some "hour"), "hour", "House.hour", defArgs (mtop 35 10), defBody (mtop 35 10), defScope (mtop 35 10), [], []⟩
def d_House_here : He.DefD := ⟨("House", some "here"), "here", "House.here", defArgs (mtop 35 11), defBody (mtop 35 11), defScope (mtop 35 11), [], []⟩
def d_House_history : He.DefD := ⟨("House", some "history"), "history", "House.history", defArgs (mtop 35 12), defBody (mtop 35 12), defScope (mtop 35 12), [], []⟩
def d_House_waits : He.DefD := ⟨("House", some "waits"), "waits", "House.waits", defArgs (mtop 35 13), defBody (mtop 35 13), defScope (mtop 35 13), [], []⟩
def d_House_sum_of : He.DefD := ⟨("House", some "sum_of"), "sum_of", "House.sum_of", defArgs (mtop 35 14), defBody (mtop 35 14), defScope (mtop 35 14), [], []⟩
def d_House_hours : He.DefD := ⟨("House", some "hours"), "hours", "House.hours", defArgs (mtop 35 15), defBody (mtop 35 15), defScope (mtop 35 15), [], []⟩
def d_law_texts : He.DefD := ⟨("_law_texts", none), "_law_texts", "_law_texts", defArgs (top 53), defBody (top 53), defScope (top 53), [], []⟩
def d_law_events : He.DefD := ⟨("_law_events", none), "_law_events", "_law_events", defArgs (top 54), defBody (top 54), defScope (top 54), [], []⟩
def d_law_refused : He.DefD := ⟨("_law_refused", none), "_law_refused", "_law_refused", defArgs (top 55), defBody (top 55), defScope (top 55), [], []⟩
def d_law : He.DefD := ⟨("law", none), "law", "law", defArgs (top 56), defBody (top 56), defScope (top 56), [], []⟩
def d_kinds : He.DefD := ⟨("_law_kinds", none), "_law_kinds", "_law_kinds", defArgs (top 52), defBody (top 52), defScope (top 52), [], []⟩
def fnD : List He.DefD := [d_is_number, d_is_name, d_is_word_of, d_is_row, d_is_worker, d_is_warden, d_names_of, d_is_plan, d_law_cell_at, d_law_whole, d_law_names, d_law_nodes, d_law_under, d_law_many_by, d_law_span_by, d_law_part, d_law_house, d_law_is_name, d_law_is_part, d_law_all_names, d_law_is_plan, d_law_odd_by, d_law_spoilt, d_counting, d_Post_init, d_laid_out, d_all_of, d_begin, d_House_init, d_House_post_of, d_House_post_here, d_House_is_open, d_House_hour, d_House_here, d_House_history, d_House_waits, d_House_sum_of, d_House_hours, d_law_texts, d_law_events, d_law_refused, d_law, d_kinds]
def faD : List He.Fa := [.glo "is_number", .glo "is_name", .glo "is_word_of", .glo "is_row", .glo "is_worker", .glo "is_warden", .glo "names_of", .glo "is_plan", .glo "_law_cell_at", .glo "_law_whole", .glo "_law_names", .glo "_law_nodes", .glo "_law_under", .glo "_law_many_by", .glo "_law_span_by", .glo "_law_part", .glo "_law_house", .glo "_law_is_name", .glo "_law_is_part", .glo "_law_all_names", .glo "_law_is_plan", .glo "_law_odd_by", .glo "_law_spoilt", .glo "counting", .glo "laid_out", .glo "all_of", .glo "begin", .glo "_law_texts", .glo "_law_events", .glo "_law_refused", .glo "law", .free "ValueError", .free "bool", .free "enumerate", .free "int", .free "isinstance", .free "len", .free "list", .free "min", .free "range", .free "sorted", .free "str", .free "tuple", .free "zip", .str "SIGNS" "abcdefghijklmnopqrstuvwxyz", .int "LONGEST" 8, .int "MOST" 1000000000, .int "MOST_NAMES" 60, .int "MOST_PARTS" 8, .int "DEEPEST" 6, .glo "_law_kinds", .glo "HouseError", .glo "BadPlan", .exc "BadPlan", .exm "BadPlan" "HouseError" true, .glo "BadLetter", .exc "BadLetter", .exm "BadLetter" "HouseError" true, .glo "Stranger", .exc "Stranger", .exm "Stranger" "HouseError" true, .glo "Gone", .exc "Gone", .exm "Gone" "HouseError" true, .glo "Nothing", .exc "Nothing", .exm "Nothing" "HouseError" true, .glo "Closed", .exc "Closed", .exm "Closed" "HouseError" true, .glo "BadHistory", .exc "BadHistory", .exm "BadHistory" "HouseError" true, .glo "BadText", .exc "BadText", .exm "BadText" "HouseError" true, .glo "Post", .cls "Post", .mkr "Post", .noat "Post" "part", .noat "Post" "warden", .noat "Post" "place", .noat "Post" "inner", .noat "Post" "living", .noat "Post" "total", .noat "Post" "letters", .noat "Post" "kept", .glo "House", .cls "House", .mkr "House", .noat "House" "top", .noat "House" "posts", .noat "House" "now", .noat "House" "given", .noat "House" "rows", .meth "House" "post_of", .meth "House" "post_here", .meth "House" "is_open", .meth "House" "hour", .meth "House" "here", .meth "House" "history", .meth "House" "waits", .meth "House" "sum_of", .meth "House" "hours"]
abbrev R : PySem.W.OpenRow := PySem.W.OpenLaw.row PySem.Challenge.rw_wardhouse_k04_houses_made
abbrev hk : PySem.W.Hook := Ev.hookM 4 faD fnD
def ob (s : PySem.W.SharedT) : He.AlD × Bool := Ev.obM 4 faD fnD (HandSHeadRun.getT s)
theorem ob_eq (s : PySem.W.SharedT) : ob s = hk.obs s.abs := Ev.obM_eq (HandSHeadRun.getT_eq s)
def names : List PySem.Str := (["_wall", "HouseError", "BadPlan", "BadLetter", "Stranger", "Gone", "Nothing", "Closed", "BadHistory", "BadText", "SIGNS", "LONGEST", "MOST", "MOST_NAMES", "MOST_PARTS", "DEEPEST", "is_number", "is_name", "is_word_of", "is_row", "is_worker", "is_warden", "names_of", "is_plan", "is_letter", "counting", "Post", "laid_out", "all_of", "begin"] : List PySem.Str) ++ (["House", "_law_cell_at", "_law_whole", "_law_names", "_law_nodes", "_law_under", "_law_many_by", "_law_span_by", "_law_part", "_law_house", "_law_is_name", "_law_is_part", "_law_all_names", "_law_is_plan", "_law_odd_by", "_law_spoilt", "_law_kinds", "_law_texts", "_law_events", "_law_refused"] : List PySem.Str)
theorem run (w : World) : HandSHeadRun.RunEq R (PySem.W.view R.prog [56]) hk ob 4000 names w := by
  intro os
  kernel_rfl
def clsN : List Str := ["Post", "House"]
theorem dk_is_number {K : PySem.W.Frag} (c : He.SaysD faD fnD K) : ∃ fd, DefOk K sg0 f_is_number "is_number" "is_number" (top 18) (He.fAd K d_is_number.at_) fd := by
  obtain ⟨fd, Fd⟩ := c.def_ 0 (d := d_is_number) rfl
  exact ⟨fd, Fd, Fd.bindsN fun _ _ _ _ _ _ us hl => (match us, hl with | [_, _, _], _ => rfl), sc_is_number, 40, 40, ck_is_number⟩
theorem dk_is_name {K : PySem.W.Frag} (c : He.SaysD faD fnD K) : ∃ fd, DefOk K sg0 f_is_name "is_name" "is_name" (top 19) (He.fAd K d_is_name.at_) fd := by
  obtain ⟨fd, Fd⟩ := c.def_ 1 (d := d_is_name) rfl
  exact ⟨fd, Fd, Fd.bindsN fun _ _ _ _ _ _ us hl => (match us, hl with | [_], _ => rfl), sc_is_name, 40, 40, ck_is_name⟩
theorem dk_is_word_of {K : PySem.W.Frag} (c : He.SaysD faD fnD K) : ∃ fd, DefOk K sg0 f_is_word_of "is_word_of" "is_word_of" (top 20) (He.fAd K d_is_word_of.at_) fd := by
  obtain ⟨fd, Fd⟩ := c.def_ 2 (d := d_is_word_of) rfl
  exact ⟨fd, Fd, Fd.bindsN fun _ _ _ _ _ _ us hl => (match us, hl with | [_, _], _ => rfl), sc_is_word_of, 40, 40, ck_is_word_of⟩
theorem dk_is_row {K : PySem.W.Frag} (c : He.SaysD faD fnD K) : ∃ fd, DefOk K sg0 f_is_row "is_row" "is_row" (top 21) (He.fAd K d_is_row.at_) fd := by
  obtain ⟨fd, Fd⟩ := c.def_ 3 (d := d_is_row) rfl
  exact ⟨fd, Fd, Fd.bindsN fun _ _ _ _ _ _ us hl => (match us, hl with | [_, _, _], _ => rfl), sc_is_row, 40, 40, ck_is_row⟩
theorem dk_is_worker {K : PySem.W.Frag} (c : He.SaysD faD fnD K) : ∃ fd, DefOk K sg0 f_is_worker "is_worker" "is_worker" (top 22) (He.fAd K d_is_worker.at_) fd := by
  obtain ⟨fd, Fd⟩ := c.def_ 4 (d := d_is_worker) rfl
  exact ⟨fd, Fd, Fd.bindsN fun _ _ _ _ _ _ us hl => (match us, hl with | [_], _ => rfl), sc_is_worker, 40, 40, ck_is_worker⟩
theorem dk_is_warden {K : PySem.W.Frag} (c : He.SaysD faD fnD K) : ∃ fd, DefOk K sg0 f_is_warden "is_warden" "is_warden" (top 23) (He.fAd K d_is_warden.at_) fd := by
  obtain ⟨fd, Fd⟩ := c.def_ 5 (d := d_is_warden) rfl
  exact ⟨fd, Fd, Fd.bindsN fun _ _ _ _ _ _ us hl => (match us, hl with | [_, _], _ => rfl), sc_is_warden, 40, 40, ck_is_warden⟩
theorem dk_names_of {K : PySem.W.Frag} (c : He.SaysD faD fnD K) : ∃ fd, DefOk K sg0 f_names_of "names_of" "names_of" (top 24) (He.fAd K d_names_of.at_) fd := by
  obtain ⟨fd, Fd⟩ := c.def_ 6 (d := d_names_of) rfl
  exact ⟨fd, Fd, Fd.bindsN fun _ _ _ _ _ _ us hl => (match us, hl with | [_], _ => rfl), sc_names_of, 40, 40, ck_names_of⟩
theorem dk_is_plan {K : PySem.W.Frag} (c : He.SaysD faD fnD K) : ∃ fd, DefOk K sg0 f_is_plan "is_plan" "is_plan" (top 25) (He.fAd K d_is_plan.at_) fd := by
  obtain ⟨fd, Fd⟩ := c.def_ 7 (d := d_is_plan) rfl
  exact ⟨fd, Fd, Fd.bindsN fun _ _ _ _ _ _ us hl => (match us, hl with | [_], _ => rfl), sc_is_plan, 40, 40, ck_is_plan⟩
theorem dk_law_cell_at {K : PySem.W.Frag} (c : He.SaysD faD fnD K) : ∃ fd, DefOk K sg0 f_law_cell_at "_law_cell_at" "_law_cell_at" (top 37) (He.fAd K d_law_cell_at.at_) fd := by
  obtain ⟨fd, Fd⟩ := c.def_ 8 (d := d_law_cell_at) rfl
  exact ⟨fd, Fd, Fd.bindsN fun _ _ _ _ _ _ us hl => (match us, hl with | [_, _], _ => rfl), sc_law_cell_at, 40, 40, ck_law_cell_at⟩
theorem dk_law_whole {K : PySem.W.Frag} (c : He.SaysD faD fnD K) : ∃ fd, DefOk K sg0 f_law_whole "_law_whole" "_law_whole" (top 38) (He.fAd K d_law_whole.at_) fd := by
  obtain ⟨fd, Fd⟩ := c.def_ 9 (d := d_law_whole) rfl
  exact ⟨fd, Fd, Fd.bindsN fun _ _ _ _ _ _ us hl => (match us, hl with | [_], _ => rfl), sc_law_whole, 40, 40, ck_law_whole⟩
theorem dk_law_names {K : PySem.W.Frag} (c : He.SaysD faD fnD K) : ∃ fd, DefOk K sg0 f_law_names "_law_names" "_law_names" (top 39) (He.fAd K d_law_names.at_) fd := by
  obtain ⟨fd, Fd⟩ := c.def_ 10 (d := d_law_names) rfl
  exact ⟨fd, Fd, Fd.bindsN fun _ _ _ _ _ _ us hl => (match us, hl with | [_, _], _ => rfl), sc_law_names, 40, 40, ck_law_names⟩
theorem dk_law_nodes {K : PySem.W.Frag} (c : He.SaysD faD fnD K) : ∃ fd, DefOk K sg0 f_law_nodes "_law_nodes" "_law_nodes" (top 40) (He.fAd K d_law_nodes.at_) fd := by
  obtain ⟨fd, Fd⟩ := c.def_ 11 (d := d_law_nodes) rfl
  exact ⟨fd, Fd, Fd.bindsN fun _ _ _ _ _ _ us hl => (match us, hl with | [_, _], _ => rfl), sc_law_nodes, 40, 40, ck_law_nodes⟩
theorem dk_law_under {K : PySem.W.Frag} (c : He.SaysD faD fnD K) : ∃ fd, DefOk K sg0 f_law_under "_law_under" "_law_under" (top 41) (He.fAd K d_law_under.at_) fd := by
  obtain ⟨fd, Fd⟩ := c.def_ 12 (d := d_law_under) rfl
  exact ⟨fd, Fd, Fd.bindsN fun _ _ _ _ _ _ us hl => (match us, hl with | [_, _], _ => rfl), sc_law_under, 40, 40, ck_law_under⟩
theorem dk_law_many_by {K : PySem.W.Frag} (c : He.SaysD faD fnD K) : ∃ fd, DefOk K sg0 f_law_many_by "_law_many_by" "_law_many_by" (top 42) (He.fAd K d_law_many_by.at_) fd := by
  obtain ⟨fd, Fd⟩ := c.def_ 13 (d := d_law_many_by) rfl
  exact ⟨fd, Fd, Fd.bindsN fun _ _ _ _ _ _ us hl => (match us, hl with | [_], _ => rfl), sc_law_many_by, 40, 40, ck_law_many_by⟩
theorem dk_law_span_by {K : PySem.W.Frag} (c : He.SaysD faD fnD K) : ∃ fd, DefOk K sg0 f_law_span_by "_law_span_by" "_law_span_by" (top 43) (He.fAd K d_law_span_by.at_) fd := by
  obtain ⟨fd, Fd⟩ := c.def_ 14 (d := d_law_span_by) rfl
  exact ⟨fd, Fd, Fd.bindsN fun _ _ _ _ _ _ us hl => (match us, hl with | [_], _ => rfl), sc_law_span_by, 40, 40, ck_law_span_by⟩
theorem dk_law_part {K : PySem.W.Frag} (c : He.SaysD faD fnD K) : ∃ fd, DefOk K sg0 f_law_part "_law_part" "_law_part" (top 44) (He.fAd K d_law_part.at_) fd := by
  obtain ⟨fd, Fd⟩ := c.def_ 15 (d := d_law_part) rfl
  exact ⟨fd, Fd, Fd.bindsN fun _ _ _ _ _ _ us hl => (match us, hl with | [_, _, _], _ => rfl), sc_law_part, 40, 40, ck_law_part⟩
theorem dk_law_house {K : PySem.W.Frag} (c : He.SaysD faD fnD K) : ∃ fd, DefOk K sg0 f_law_house "_law_house" "_law_house" (top 45) (He.fAd K d_law_house.at_) fd := by
  obtain ⟨fd, Fd⟩ := c.def_ 16 (d := d_law_house) rfl
  exact ⟨fd, Fd, Fd.bindsN fun _ _ _ _ _ _ us hl => (match us, hl with | [_], _ => rfl), sc_law_house, 40, 40, ck_law_house⟩
theorem dk_law_is_name {K : PySem.W.Frag} (c : He.SaysD faD fnD K) : ∃ fd, DefOk K sg0 f_law_is_name "_law_is_name" "_law_is_name" (top 46) (He.fAd K d_law_is_name.at_) fd := by
  obtain ⟨fd, Fd⟩ := c.def_ 17 (d := d_law_is_name) rfl
  exact ⟨fd, Fd, Fd.bindsN fun _ _ _ _ _ _ us hl => (match us, hl with | [_], _ => rfl), sc_law_is_name, 40, 40, ck_law_is_name⟩
theorem dk_law_is_part {K : PySem.W.Frag} (c : He.SaysD faD fnD K) : ∃ fd, DefOk K sg0 f_law_is_part "_law_is_part" "_law_is_part" (top 47) (He.fAd K d_law_is_part.at_) fd := by
  obtain ⟨fd, Fd⟩ := c.def_ 18 (d := d_law_is_part) rfl
  exact ⟨fd, Fd, Fd.bindsN fun _ _ _ _ _ _ us hl => (match us, hl with | [_, _], _ => rfl), sc_law_is_part, 40, 40, ck_law_is_part⟩
theorem dk_law_all_names {K : PySem.W.Frag} (c : He.SaysD faD fnD K) : ∃ fd, DefOk K sg0 f_law_all_names "_law_all_names" "_law_all_names" (top 48) (He.fAd K d_law_all_names.at_) fd := by
  obtain ⟨fd, Fd⟩ := c.def_ 19 (d := d_law_all_names) rfl
  exact ⟨fd, Fd, Fd.bindsN fun _ _ _ _ _ _ us hl => (match us, hl with | [_], _ => rfl), sc_law_all_names, 40, 40, ck_law_all_names⟩
theorem dk_law_is_plan {K : PySem.W.Frag} (c : He.SaysD faD fnD K) : ∃ fd, DefOk K sg0 f_law_is_plan "_law_is_plan" "_law_is_plan" (top 49) (He.fAd K d_law_is_plan.at_) fd := by
  obtain ⟨fd, Fd⟩ := c.def_ 20 (d := d_law_is_plan) rfl
  exact ⟨fd, Fd, Fd.bindsN fun _ _ _ _ _ _ us hl => (match us, hl with | [_], _ => rfl), sc_law_is_plan, 40, 40, ck_law_is_plan⟩
theorem dk_law_odd_by {K : PySem.W.Frag} (c : He.SaysD faD fnD K) : ∃ fd, DefOk K sg0 f_law_odd_by "_law_odd_by" "_law_odd_by" (top 50) (He.fAd K d_law_odd_by.at_) fd := by
  obtain ⟨fd, Fd⟩ := c.def_ 21 (d := d_law_odd_by) rfl
  exact ⟨fd, Fd, Fd.bindsN fun _ _ _ _ _ _ us hl => (match us, hl with | [_, _], _ => rfl), sc_law_odd_by, 40, 40, ck_law_odd_by⟩
theorem dk_law_spoilt {K : PySem.W.Frag} (c : He.SaysD faD fnD K) : ∃ fd, DefOk K sg0 f_law_spoilt "_law_spoilt" "_law_spoilt" (top 51) (He.fAd K d_law_spoilt.at_) fd := by
  obtain ⟨fd, Fd⟩ := c.def_ 22 (d := d_law_spoilt) rfl
  exact ⟨fd, Fd, Fd.bindsN fun _ _ _ _ _ _ us hl => (match us, hl with | [_, _, _], _ => rfl), sc_law_spoilt, 40, 40, ck_law_spoilt⟩
theorem dk_counting {K : PySem.W.Frag} (c : He.SaysD faD fnD K) : ∃ fd, DefOk K sg0 f_counting "counting" "counting" (top 28) (He.fAd K d_counting.at_) fd := by
  obtain ⟨fd, Fd⟩ := c.def_ 23 (d := d_counting) rfl
  exact ⟨fd, Fd, Fd.bindsN fun _ _ _ _ _ _ us hl => (match us, hl with | [_, _, _], _ => rfl), sc_counting, 40, 40, ck_counting⟩
theorem dk_Post_init {K : PySem.W.Frag} (c : He.SaysD faD fnD K) : ∃ fd, DefOk K sg0 f_Post_init "__init__" "Post.__init__" (mtop 30 0) (He.fAd K d_Post_init.at_) fd := by
  obtain ⟨fd, Fd⟩ := c.def_ 24 (d := d_Post_init) rfl
  exact ⟨fd, Fd, Fd.bindsN fun _ _ _ _ _ _ us hl => (match us, hl with | [_, _, _, _], _ => rfl), sc_Post_init, 40, 40, ck_Post_init⟩
theorem dk_laid_out {K : PySem.W.Frag} (c : He.SaysD faD fnD K) : ∃ fd, DefOk K sg0 f_laid_out "laid_out" "laid_out" (top 31) (He.fAd K d_laid_out.at_) fd := by
  obtain ⟨fd, Fd⟩ := c.def_ 25 (d := d_laid_out) rfl
  exact ⟨fd, Fd, Fd.bindsN fun _ _ _ _ _ _ us hl => (match us, hl with | [_, _, _], _ => rfl), sc_laid_out, 40, 40, ck_laid_out⟩
theorem dk_all_of {K : PySem.W.Frag} (c : He.SaysD faD fnD K) : ∃ fd, DefOk K sg0 f_all_of "all_of" "all_of" (top 32) (He.fAd K d_all_of.at_) fd := by
  obtain ⟨fd, Fd⟩ := c.def_ 26 (d := d_all_of) rfl
  exact ⟨fd, Fd, Fd.bindsN fun _ _ _ _ _ _ us hl => (match us, hl with | [_], _ => rfl), sc_all_of, 40, 40, ck_all_of⟩
theorem dk_begin {K : PySem.W.Frag} (c : He.SaysD faD fnD K) : ∃ fd, DefOk K sg0 f_begin "begin" "begin" (top 33) (He.fAd K d_begin.at_) fd := by
  obtain ⟨fd, Fd⟩ := c.def_ 27 (d := d_begin) rfl
  exact ⟨fd, Fd, Fd.bindsN fun _ _ _ _ _ _ us hl => (match us, hl with | [_], _ => rfl), sc_begin, 40, 40, ck_begin⟩
theorem dk_House_init {K : PySem.W.Frag} (c : He.SaysD faD fnD K) : ∃ fd, DefOk K sg0 f_House_init "__init__" "House.__init__" (mtop 35 0) (He.fAd K d_House_init.at_) fd := by
  obtain ⟨fd, Fd⟩ := c.def_ 28 (d := d_House_init) rfl
  exact ⟨fd, Fd, Fd.bindsN fun _ _ _ _ _ _ us hl => (match us, hl with | [_, _], _ => rfl), sc_House_init, 40, 40, ck_House_init⟩
theorem dk_House_post_of {K : PySem.W.Frag} (c : He.SaysD faD fnD K) : ∃ fd, DefOk K sg0 f_House_post_of "post_of" "House.post_of" (mtop 35 1) (He.fAd K d_House_post_of.at_) fd := by
  obtain ⟨fd, Fd⟩ := c.def_ 29 (d := d_House_post_of) rfl
  exact ⟨fd, Fd, Fd.bindsN fun _ _ _ _ _ _ us hl => (match us, hl with | [_, _, _], _ => rfl), sc_House_post_of, 40, 40, ck_House_post_of⟩
theorem dk_House_post_here {K : PySem.W.Frag} (c : He.SaysD faD fnD K) : ∃ fd, DefOk K sg0 f_House_post_here "post_here" "House.post_here" (mtop 35 2) (He.fAd K d_House_post_here.at_) fd := by
  obtain ⟨fd, Fd⟩ := c.def_ 30 (d := d_House_post_here) rfl
  exact ⟨fd, Fd, Fd.bindsN fun _ _ _ _ _ _ us hl => (match us, hl with | [_, _, _], _ => rfl), sc_House_post_here, 40, 40, ck_House_post_here⟩
theorem dk_House_is_open {K : PySem.W.Frag} (c : He.SaysD faD fnD K) : ∃ fd, DefOk K sg0 f_House_is_open "is_open" "House.is_open" (mtop 35 9) (He.fAd K d_House_is_open.at_) fd := by
  obtain ⟨fd, Fd⟩ := c.def_ 31 (d := d_House_is_open) rfl
  exact ⟨fd, Fd, Fd.bindsN fun _ _ _ _ _ _ us hl => (match us, hl with | [_], _ => rfl), sc_House_is_open, 40, 40, ck_House_is_open⟩
theorem dk_House_hour {K : PySem.W.Frag} (c : He.SaysD faD fnD K) : ∃ fd, DefOk K sg0 f_House_hour "hour" "House.hour" (mtop 35 10) (He.fAd K d_House_hour.at_) fd := by
  obtain ⟨fd, Fd⟩ := c.def_ 32 (d := d_House_hour) rfl
  exact ⟨fd, Fd, Fd.bindsN fun _ _ _ _ _ _ us hl => (match us, hl with | [_], _ => rfl), sc_House_hour, 40, 40, ck_House_hour⟩
theorem dk_House_here {K : PySem.W.Frag} (c : He.SaysD faD fnD K) : ∃ fd, DefOk K sg0 f_House_here "here" "House.here" (mtop 35 11) (He.fAd K d_House_here.at_) fd := by
  obtain ⟨fd, Fd⟩ := c.def_ 33 (d := d_House_here) rfl
  exact ⟨fd, Fd, Fd.bindsN fun _ _ _ _ _ _ us hl => (match us, hl with | [_], _ => rfl), sc_House_here, 40, 40, ck_House_here⟩
theorem dk_House_history {K : PySem.W.Frag} (c : He.SaysD faD fnD K) : ∃ fd, DefOk K sg0 f_House_history "history" "House.history" (mtop 35 12) (He.fAd K d_House_history.at_) fd := by
  obtain ⟨fd, Fd⟩ := c.def_ 34 (d := d_House_history) rfl
  exact ⟨fd, Fd, Fd.bindsN fun _ _ _ _ _ _ us hl => (match us, hl with | [_], _ => rfl), sc_House_history, 40, 40, ck_House_history⟩
theorem dk_House_waits {K : PySem.W.Frag} (c : He.SaysD faD fnD K) : ∃ fd, DefOk K sg0 f_House_waits "waits" "House.waits" (mtop 35 13) (He.fAd K d_House_waits.at_) fd := by
  obtain ⟨fd, Fd⟩ := c.def_ 35 (d := d_House_waits) rfl
  exact ⟨fd, Fd, Fd.bindsN fun _ _ _ _ _ _ us hl => (match us, hl with | [_, _], _ => rfl), sc_House_waits, 40, 40, ck_House_waits⟩
theorem dk_House_sum_of {K : PySem.W.Frag} (c : He.SaysD faD fnD K) : ∃ fd, DefOk K sg0 f_House_sum_of "sum_of" "House.sum_of" (mtop 35 14) (He.fAd K d_House_sum_of.at_) fd := by
  obtain ⟨fd, Fd⟩ := c.def_ 36 (d := d_House_sum_of) rfl
  exact ⟨fd, Fd, Fd.bindsN fun _ _ _ _ _ _ us hl => (match us, hl with | [_, _], _ => rfl), sc_House_sum_of, 40, 40, ck_House_sum_of⟩
theorem dk_House_hours {K : PySem.W.Frag} (c : He.SaysD faD fnD K) : ∃ fd, DefOk K sg0 f_House_hours "hours" "House.hours" (mtop 35 15) (He.fAd K d_House_hours.at_) fd := by
  obtain ⟨fd, Fd⟩ := c.def_ 37 (d := d_House_hours) rfl
  exact ⟨fd, Fd, Fd.bindsN fun _ _ _ _ _ _ us hl => (match us, hl with | [_, _], _ => rfl), sc_House_hours, 40, 40, ck_House_hours⟩
theorem dk_law_texts {K : PySem.W.Frag} (c : He.SaysD faD fnD K) : ∃ fd, DefOk K sg0 f_law_texts "_law_texts" "_law_texts" (top 53) (He.fAd K d_law_texts.at_) fd := by
  obtain ⟨fd, Fd⟩ := c.def_ 38 (d := d_law_texts) rfl
  exact ⟨fd, Fd, Fd.bindsN fun _ _ _ _ _ _ us hl => (match us, hl with | [_], _ => rfl), sc_law_texts, 40, 40, ck_law_texts⟩
theorem dk_law_events {K : PySem.W.Frag} (c : He.SaysD faD fnD K) : ∃ fd, DefOk K sg0 f_law_events "_law_events" "_law_events" (top 54) (He.fAd K d_law_events.at_) fd := by
  obtain ⟨fd, Fd⟩ := c.def_ 39 (d := d_law_events) rfl
  exact ⟨fd, Fd, Fd.bindsN fun _ _ _ _ _ _ us hl => (match us, hl with | [_], _ => rfl), sc_law_events, 40, 40, ck_law_events⟩
theorem dk_law_refused {K : PySem.W.Frag} (c : He.SaysD faD fnD K) : ∃ fd, DefOk K sg0 f_law_refused "_law_refused" "_law_refused" (top 55) (He.fAd K d_law_refused.at_) fd := by
  obtain ⟨fd, Fd⟩ := c.def_ 40 (d := d_law_refused) rfl
  exact ⟨fd, Fd, Fd.bindsN fun _ _ _ _ _ _ us hl => (match us, hl with | [_], _ => rfl), sc_law_refused, 40, 40, ck_law_refused⟩
theorem dk_law {K : PySem.W.Frag} (c : He.SaysD faD fnD K) : ∃ fd, DefOk K sg0 f_law "law" "law" (top 56) (He.fAd K d_law.at_) fd := by
  obtain ⟨fd, Fd⟩ := c.def_ 41 (d := d_law) rfl
  exact ⟨fd, Fd, Fd.bindsN fun _ _ _ _ _ _ us hl => (match us, hl with | [_], _ => rfl), sc_law, 40, 40, ck_law⟩
theorem facts {K : PySem.W.Frag} {h : Heap} {mg : Str → Option Value} (X : K.In h) (G : h.Ns mainGlobals mg) (c : He.SaysD faD fnD K) (kb : kitsB K = true) : TOk (iA K clsN) (kA K) K mg Tt sg0 := by
  refine ⟨fun x i h => ?_, fun x i h => ?_, fun x h => ?_, ?_, ?_, ?_, ?_⟩
  · have h := lookup_mem (show fns.lookup x = some i from h)
    simp only [fns, List.mem_cons, Prod.mk.injEq, List.not_mem_nil, or_false] at h
    rcases h with ⟨rfl, rfl⟩ | ⟨rfl, rfl⟩ | ⟨rfl, rfl⟩ | ⟨rfl, rfl⟩ | ⟨rfl, rfl⟩ | ⟨rfl, rfl⟩ | ⟨rfl, rfl⟩ | ⟨rfl, rfl⟩ | ⟨rfl, rfl⟩ | ⟨rfl, rfl⟩ | ⟨rfl, rfl⟩ | ⟨rfl, rfl⟩ | ⟨rfl, rfl⟩ | ⟨rfl, rfl⟩ | ⟨rfl, rfl⟩ | ⟨rfl, rfl⟩ | ⟨rfl, rfl⟩ | ⟨rfl, rfl⟩ | ⟨rfl, rfl⟩ | ⟨rfl, rfl⟩ | ⟨rfl, rfl⟩ | ⟨rfl, rfl⟩ | ⟨rfl, rfl⟩ | ⟨rfl, rfl⟩ | ⟨rfl, rfl⟩ | ⟨rfl, rfl⟩ | ⟨rfl, rfl⟩ | ⟨rfl, rfl⟩ | ⟨rfl, rfl⟩ | ⟨rfl, rfl⟩ | ⟨rfl, rfl⟩
    · obtain ⟨fd, dk⟩ := dk_is_number c
      exact ⟨f_is_number, (top 18), _, fd, rfl, dk, He.glo_ok X G (c.fact 0 (f := .glo "is_number") rfl)⟩
    · obtain ⟨fd, dk⟩ := dk_is_name c
      exact ⟨f_is_name, (top 19), _, fd, rfl, dk, He.glo_ok X G (c.fact 1 (f := .glo "is_name") rfl)⟩
    · obtain ⟨fd, dk⟩ := dk_is_word_of c
      exact ⟨f_is_word_of, (top 20), _, fd, rfl, dk, He.glo_ok X G (c.fact 2 (f := .glo "is_word_of") rfl)⟩
    · obtain ⟨fd, dk⟩ := dk_is_row c
      exact ⟨f_is_row, (top 21), _, fd, rfl, dk, He.glo_ok X G (c.fact 3 (f := .glo "is_row") rfl)⟩
    · obtain ⟨fd, dk⟩ := dk_is_worker c
      exact ⟨f_is_worker, (top 22), _, fd, rfl, dk, He.glo_ok X G (c.fact 4 (f := .glo "is_worker") rfl)⟩
    · obtain ⟨fd, dk⟩ := dk_is_warden c
      exact ⟨f_is_warden, (top 23), _, fd, rfl, dk, He.glo_ok X G (c.fact 5 (f := .glo "is_warden") rfl)⟩
    · obtain ⟨fd, dk⟩ := dk_names_of c
      exact ⟨f_names_of, (top 24), _, fd, rfl, dk, He.glo_ok X G (c.fact 6 (f := .glo "names_of") rfl)⟩
    · obtain ⟨fd, dk⟩ := dk_is_plan c
      exact ⟨f_is_plan, (top 25), _, fd, rfl, dk, He.glo_ok X G (c.fact 7 (f := .glo "is_plan") rfl)⟩
    · obtain ⟨fd, dk⟩ := dk_law_cell_at c
      exact ⟨f_law_cell_at, (top 37), _, fd, rfl, dk, He.glo_ok X G (c.fact 8 (f := .glo "_law_cell_at") rfl)⟩
    · obtain ⟨fd, dk⟩ := dk_law_whole c
      exact ⟨f_law_whole, (top 38), _, fd, rfl, dk, He.glo_ok X G (c.fact 9 (f := .glo "_law_whole") rfl)⟩
    · obtain ⟨fd, dk⟩ := dk_law_names c
      exact ⟨f_law_names, (top 39), _, fd, rfl, dk, He.glo_ok X G (c.fact 10 (f := .glo "_law_names") rfl)⟩
    · obtain ⟨fd, dk⟩ := dk_law_nodes c
      exact ⟨f_law_nodes, (top 40), _, fd, rfl, dk, He.glo_ok X G (c.fact 11 (f := .glo "_law_nodes") rfl)⟩
    · obtain ⟨fd, dk⟩ := dk_law_under c
      exact ⟨f_law_under, (top 41), _, fd, rfl, dk, He.glo_ok X G (c.fact 12 (f := .glo "_law_under") rfl)⟩
    · obtain ⟨fd, dk⟩ := dk_law_many_by c
      exact ⟨f_law_many_by, (top 42), _, fd, rfl, dk, He.glo_ok X G (c.fact 13 (f := .glo "_law_many_by") rfl)⟩
    · obtain ⟨fd, dk⟩ := dk_law_span_by c
      exact ⟨f_law_span_by, (top 43), _, fd, rfl, dk, He.glo_ok X G (c.fact 14 (f := .glo "_law_span_by") rfl)⟩
    · obtain ⟨fd, dk⟩ := dk_law_part c
      exact ⟨f_law_part, (top 44), _, fd, rfl, dk, He.glo_ok X G (c.fact 15 (f := .glo "_law_part") rfl)⟩
    · obtain ⟨fd, dk⟩ := dk_law_house c
      exact ⟨f_law_house, (top 45), _, fd, rfl, dk, He.glo_ok X G (c.fact 16 (f := .glo "_law_house") rfl)⟩
    · obtain ⟨fd, dk⟩ := dk_law_is_name c
      exact ⟨f_law_is_name, (top 46), _, fd, rfl, dk, He.glo_ok X G (c.fact 17 (f := .glo "_law_is_name") rfl)⟩
    · obtain ⟨fd, dk⟩ := dk_law_is_part c
      exact ⟨f_law_is_part, (top 47), _, fd, rfl, dk, He.glo_ok X G (c.fact 18 (f := .glo "_law_is_part") rfl)⟩
    · obtain ⟨fd, dk⟩ := dk_law_all_names c
      exact ⟨f_law_all_names, (top 48), _, fd, rfl, dk, He.glo_ok X G (c.fact 19 (f := .glo "_law_all_names") rfl)⟩
    · obtain ⟨fd, dk⟩ := dk_law_is_plan c
      exact ⟨f_law_is_plan, (top 49), _, fd, rfl, dk, He.glo_ok X G (c.fact 20 (f := .glo "_law_is_plan") rfl)⟩
    · obtain ⟨fd, dk⟩ := dk_law_odd_by c
      exact ⟨f_law_odd_by, (top 50), _, fd, rfl, dk, He.glo_ok X G (c.fact 21 (f := .glo "_law_odd_by") rfl)⟩
    · obtain ⟨fd, dk⟩ := dk_law_spoilt c
      exact ⟨f_law_spoilt, (top 51), _, fd, rfl, dk, He.glo_ok X G (c.fact 22 (f := .glo "_law_spoilt") rfl)⟩
    · obtain ⟨fd, dk⟩ := dk_counting c
      exact ⟨f_counting, (top 28), _, fd, rfl, dk, He.glo_ok X G (c.fact 23 (f := .glo "counting") rfl)⟩
    · obtain ⟨fd, dk⟩ := dk_laid_out c
      exact ⟨f_laid_out, (top 31), _, fd, rfl, dk, He.glo_ok X G (c.fact 24 (f := .glo "laid_out") rfl)⟩
    · obtain ⟨fd, dk⟩ := dk_all_of c
      exact ⟨f_all_of, (top 32), _, fd, rfl, dk, He.glo_ok X G (c.fact 25 (f := .glo "all_of") rfl)⟩
    · obtain ⟨fd, dk⟩ := dk_begin c
      exact ⟨f_begin, (top 33), _, fd, rfl, dk, He.glo_ok X G (c.fact 26 (f := .glo "begin") rfl)⟩
    · obtain ⟨fd, dk⟩ := dk_law_texts c
      exact ⟨f_law_texts, (top 53), _, fd, rfl, dk, He.glo_ok X G (c.fact 27 (f := .glo "_law_texts") rfl)⟩
    · obtain ⟨fd, dk⟩ := dk_law_events c
      exact ⟨f_law_events, (top 54), _, fd, rfl, dk, He.glo_ok X G (c.fact 28 (f := .glo "_law_events") rfl)⟩
    · obtain ⟨fd, dk⟩ := dk_law_refused c
      exact ⟨f_law_refused, (top 55), _, fd, rfl, dk, He.glo_ok X G (c.fact 29 (f := .glo "_law_refused") rfl)⟩
    · obtain ⟨fd, dk⟩ := dk_law c
      exact ⟨f_law, (top 56), _, fd, rfl, dk, He.glo_ok X G (c.fact 30 (f := .glo "law") rfl)⟩
  · have h := lookup_mem (show con.lookup x = some i from h)
    simp only [con, List.mem_cons, Prod.mk.injEq, List.not_mem_nil, or_false] at h
    rcases h with ⟨rfl, rfl⟩ | ⟨rfl, rfl⟩ | ⟨rfl, rfl⟩ | ⟨rfl, rfl⟩ | ⟨rfl, rfl⟩ | ⟨rfl, rfl⟩
    · obtain ⟨t, e⟩ := He.str_ok X G (c.fact 44 (f := .str "SIGNS" "abcdefghijklmnopqrstuvwxyz") rfl)
      exact ⟨.str "abcdefghijklmnopqrstuvwxyz", _, e, ⟨t, rfl⟩, fun d hd F ι => by cases hd; exact .str _ (by decide +kernel)⟩
    · obtain ⟨t, e⟩ := He.int_ok X G (c.fact 45 (f := .int "LONGEST" 8) rfl)
      exact ⟨.int 8, _, e, ⟨t, rfl⟩, fun d hd F ι => by cases hd; exact .int _⟩
    · obtain ⟨t, e⟩ := He.int_ok X G (c.fact 46 (f := .int "MOST" 1000000000) rfl)
      exact ⟨.int 1000000000, _, e, ⟨t, rfl⟩, fun d hd F ι => by cases hd; exact .int _⟩
    · obtain ⟨t, e⟩ := He.int_ok X G (c.fact 47 (f := .int "MOST_NAMES" 60) rfl)
      exact ⟨.int 60, _, e, ⟨t, rfl⟩, fun d hd F ι => by cases hd; exact .int _⟩
    · obtain ⟨t, e⟩ := He.int_ok X G (c.fact 48 (f := .int "MOST_PARTS" 8) rfl)
      exact ⟨.int 8, _, e, ⟨t, rfl⟩, fun d hd F ι => by cases hd; exact .int _⟩
    · obtain ⟨t, e⟩ := He.int_ok X G (c.fact 49 (f := .int "DEEPEST" 6) rfl)
      exact ⟨.int 6, _, e, ⟨t, rfl⟩, fun d hd F ι => by cases hd; exact .int _⟩
  · have h := List.contains_iff_mem.mp (show free.contains x = true from h)
    simp only [free, List.mem_cons, List.not_mem_nil, or_false] at h
    rcases h with rfl | rfl | rfl | rfl | rfl | rfl | rfl | rfl | rfl | rfl | rfl | rfl | rfl
    · exact He.free_ok X G (c.fact 31 (f := .free "ValueError") rfl)
    · exact He.free_ok X G (c.fact 32 (f := .free "bool") rfl)
    · exact He.free_ok X G (c.fact 33 (f := .free "enumerate") rfl)
    · exact He.free_ok X G (c.fact 34 (f := .free "int") rfl)
    · exact He.free_ok X G (c.fact 35 (f := .free "isinstance") rfl)
    · exact He.free_ok X G (c.fact 36 (f := .free "len") rfl)
    · exact He.free_ok X G (c.fact 37 (f := .free "list") rfl)
    · exact He.free_ok X G (c.fact 38 (f := .free "min") rfl)
    · exact He.free_ok X G (c.fact 39 (f := .free "range") rfl)
    · exact He.free_ok X G (c.fact 40 (f := .free "sorted") rfl)
    · exact He.free_ok X G (c.fact 41 (f := .free "str") rfl)
    · exact He.free_ok X G (c.fact 42 (f := .free "tuple") rfl)
    · exact He.free_ok X G (c.fact 43 (f := .free "zip") rfl)
  · obtain ⟨fd, Fd⟩ := c.def_ 42 (d := d_kinds) rfl
    refine xok_mk X G (fun i hi => ?_) (c.fact 51 (f := .glo "HouseError") rfl) (He.free_ok X G (c.fact 35 (f := .free "isinstance") rfl)) (He.free_ok X G (c.fact 39 (f := .free "range") rfl)) (He.free_ok X G (c.fact 31 (f := .free "ValueError") rfl)) kb ⟨top 52, _, fd, Fd, He.glo_ok X G (c.fact 50 (f := .glo "_law_kinds") rfl), Fd.bindsN fun _ _ _ _ _ _ us hl => (match us, hl with | [_], _ => rfl), sc_kinds, ck_kinds⟩
    have h8 : i = 0 ∨ i = 1 ∨ i = 2 ∨ i = 3 ∨ i = 4 ∨ i = 5 ∨ i = 6 ∨ i = 7 := by omega
    rcases h8 with rfl | rfl | rfl | rfl | rfl | rfl | rfl | rfl
    · exact ⟨(c.fact 52 (f := .glo "BadPlan") rfl), (c.fact 53 (f := .exc "BadPlan") rfl), (c.fact 54 (f := .exm "BadPlan" "HouseError" true) rfl)⟩
    · exact ⟨(c.fact 55 (f := .glo "BadLetter") rfl), (c.fact 56 (f := .exc "BadLetter") rfl), (c.fact 57 (f := .exm "BadLetter" "HouseError" true) rfl)⟩
    · exact ⟨(c.fact 58 (f := .glo "Stranger") rfl), (c.fact 59 (f := .exc "Stranger") rfl), (c.fact 60 (f := .exm "Stranger" "HouseError" true) rfl)⟩
    · exact ⟨(c.fact 61 (f := .glo "Gone") rfl), (c.fact 62 (f := .exc "Gone") rfl), (c.fact 63 (f := .exm "Gone" "HouseError" true) rfl)⟩
    · exact ⟨(c.fact 64 (f := .glo "Nothing") rfl), (c.fact 65 (f := .exc "Nothing") rfl), (c.fact 66 (f := .exm "Nothing" "HouseError" true) rfl)⟩
    · exact ⟨(c.fact 67 (f := .glo "Closed") rfl), (c.fact 68 (f := .exc "Closed") rfl), (c.fact 69 (f := .exm "Closed" "HouseError" true) rfl)⟩
    · exact ⟨(c.fact 70 (f := .glo "BadHistory") rfl), (c.fact 71 (f := .exc "BadHistory") rfl), (c.fact 72 (f := .exm "BadHistory" "HouseError" true) rfl)⟩
    · exact ⟨(c.fact 73 (f := .glo "BadText") rfl), (c.fact 74 (f := .exc "BadText") rfl), (c.fact 75 (f := .exm "BadText" "HouseError" true) rfl)⟩
  · intro c0 f0 h
    have h2 : (c0, f0) ∈ ([(0, "part"), (0, "warden"), (0, "place"), (0, "inner"), (0, "living"), (0, "total"), (0, "letters"), (0, "kept"), (1, "top"), (1, "posts"), (1, "now"), (1, "given"), (1, "rows")] : List (Nat × Str)) := atr_mem (by decide +kernel) h
    simp only [List.mem_cons, Prod.mk.injEq, List.not_mem_nil, or_false] at h2
    rcases h2 with ⟨rfl, rfl⟩ | ⟨rfl, rfl⟩ | ⟨rfl, rfl⟩ | ⟨rfl, rfl⟩ | ⟨rfl, rfl⟩ | ⟨rfl, rfl⟩ | ⟨rfl, rfl⟩ | ⟨rfl, rfl⟩ | ⟨rfl, rfl⟩ | ⟨rfl, rfl⟩ | ⟨rfl, rfl⟩ | ⟨rfl, rfl⟩ | ⟨rfl, rfl⟩
    · exact ⟨He.cls_ok (c.fact 77 (f := .cls "Post") rfl), He.noat_ok (c.fact 79 (f := .noat "Post" "part") rfl)⟩
    · exact ⟨He.cls_ok (c.fact 77 (f := .cls "Post") rfl), He.noat_ok (c.fact 80 (f := .noat "Post" "warden") rfl)⟩
    · exact ⟨He.cls_ok (c.fact 77 (f := .cls "Post") rfl), He.noat_ok (c.fact 81 (f := .noat "Post" "place") rfl)⟩
    · exact ⟨He.cls_ok (c.fact 77 (f := .cls "Post") rfl), He.noat_ok (c.fact 82 (f := .noat "Post" "inner") rfl)⟩
    · exact ⟨He.cls_ok (c.fact 77 (f := .cls "Post") rfl), He.noat_ok (c.fact 83 (f := .noat "Post" "living") rfl)⟩
    · exact ⟨He.cls_ok (c.fact 77 (f := .cls "Post") rfl), He.noat_ok (c.fact 84 (f := .noat "Post" "total") rfl)⟩
    · exact ⟨He.cls_ok (c.fact 77 (f := .cls "Post") rfl), He.noat_ok (c.fact 85 (f := .noat "Post" "letters") rfl)⟩
    · exact ⟨He.cls_ok (c.fact 77 (f := .cls "Post") rfl), He.noat_ok (c.fact 86 (f := .noat "Post" "kept") rfl)⟩
    · exact ⟨He.cls_ok (c.fact 88 (f := .cls "House") rfl), He.noat_ok (c.fact 90 (f := .noat "House" "top") rfl)⟩
    · exact ⟨He.cls_ok (c.fact 88 (f := .cls "House") rfl), He.noat_ok (c.fact 91 (f := .noat "House" "posts") rfl)⟩
    · exact ⟨He.cls_ok (c.fact 88 (f := .cls "House") rfl), He.noat_ok (c.fact 92 (f := .noat "House" "now") rfl)⟩
    · exact ⟨He.cls_ok (c.fact 88 (f := .cls "House") rfl), He.noat_ok (c.fact 93 (f := .noat "House" "given") rfl)⟩
    · exact ⟨He.cls_ok (c.fact 88 (f := .cls "House") rfl), He.noat_ok (c.fact 94 (f := .noat "House" "rows") rfl)⟩
  · intro x i h
    have h := lookup_mem (show maks.lookup x = some i from h)
    simp only [maks, List.mem_cons, Prod.mk.injEq, List.not_mem_nil, or_false] at h
    rcases h with ⟨rfl, rfl⟩ | ⟨rfl, rfl⟩
    · obtain ⟨fd, dk⟩ := dk_Post_init c
      exact ⟨24, f_Post_init, _, _, _, _, fd, rfl, rfl, dk, He.mkr_ok (c.fact 78 (f := .mkr "Post") rfl), He.glo_ok X G (c.fact 76 (f := .glo "Post") rfl)⟩
    · obtain ⟨fd, dk⟩ := dk_House_init c
      exact ⟨28, f_House_init, _, _, _, _, fd, rfl, rfl, dk, He.mkr_ok (c.fact 89 (f := .mkr "House") rfl), He.glo_ok X G (c.fact 87 (f := .glo "House") rfl)⟩
  · intro c0 m0 f0 h
    have h := List.contains_iff_mem.mp (show mets.contains ((c0, m0), f0) = true from h)
    simp only [mets, List.mem_cons, Prod.mk.injEq, List.not_mem_nil, or_false] at h
    rcases h with ⟨⟨rfl, rfl⟩, rfl⟩ | ⟨⟨rfl, rfl⟩, rfl⟩ | ⟨⟨rfl, rfl⟩, rfl⟩ | ⟨⟨rfl, rfl⟩, rfl⟩ | ⟨⟨rfl, rfl⟩, rfl⟩ | ⟨⟨rfl, rfl⟩, rfl⟩ | ⟨⟨rfl, rfl⟩, rfl⟩ | ⟨⟨rfl, rfl⟩, rfl⟩ | ⟨⟨rfl, rfl⟩, rfl⟩
    · obtain ⟨fd, dk⟩ := dk_House_post_of c
      exact ⟨f_House_post_of, _, _, _, _, fd, rfl, dk, He.cls_ok (c.fact 88 (f := .cls "House") rfl), He.meth_ok (c.fact 95 (f := .meth "House" "post_of") rfl)⟩
    · obtain ⟨fd, dk⟩ := dk_House_post_here c
      exact ⟨f_House_post_here, _, _, _, _, fd, rfl, dk, He.cls_ok (c.fact 88 (f := .cls "House") rfl), He.meth_ok (c.fact 96 (f := .meth "House" "post_here") rfl)⟩
    · obtain ⟨fd, dk⟩ := dk_House_is_open c
      exact ⟨f_House_is_open, _, _, _, _, fd, rfl, dk, He.cls_ok (c.fact 88 (f := .cls "House") rfl), He.meth_ok (c.fact 97 (f := .meth "House" "is_open") rfl)⟩
    · obtain ⟨fd, dk⟩ := dk_House_hour c
      exact ⟨f_House_hour, _, _, _, _, fd, rfl, dk, He.cls_ok (c.fact 88 (f := .cls "House") rfl), He.meth_ok (c.fact 98 (f := .meth "House" "hour") rfl)⟩
    · obtain ⟨fd, dk⟩ := dk_House_here c
      exact ⟨f_House_here, _, _, _, _, fd, rfl, dk, He.cls_ok (c.fact 88 (f := .cls "House") rfl), He.meth_ok (c.fact 99 (f := .meth "House" "here") rfl)⟩
    · obtain ⟨fd, dk⟩ := dk_House_history c
      exact ⟨f_House_history, _, _, _, _, fd, rfl, dk, He.cls_ok (c.fact 88 (f := .cls "House") rfl), He.meth_ok (c.fact 100 (f := .meth "House" "history") rfl)⟩
    · obtain ⟨fd, dk⟩ := dk_House_waits c
      exact ⟨f_House_waits, _, _, _, _, fd, rfl, dk, He.cls_ok (c.fact 88 (f := .cls "House") rfl), He.meth_ok (c.fact 101 (f := .meth "House" "waits") rfl)⟩
    · obtain ⟨fd, dk⟩ := dk_House_sum_of c
      exact ⟨f_House_sum_of, _, _, _, _, fd, rfl, dk, He.cls_ok (c.fact 88 (f := .cls "House") rfl), He.meth_ok (c.fact 102 (f := .meth "House" "sum_of") rfl)⟩
    · obtain ⟨fd, dk⟩ := dk_House_hours c
      exact ⟨f_House_hours, _, _, _, _, fd, rfl, dk, He.cls_ok (c.fact 88 (f := .cls "House") rfl), He.meth_ok (c.fact 103 (f := .meth "House" "hours") rfl)⟩
end LawK
open PySem PySem.W PySem.Calls PyProof.Rows
theorem PySem.Challenge.cw_wardhouse_k04_houses_made_holds : PySem.Challenge.rw_wardhouse_k04_houses_made.Holds := by
  w_on; o_law
  refine HandSHeadRun.head_any (r := OpenLaw.row PySem.Challenge.rw_wardhouse_k04_houses_made) (q := view (OpenLaw.row PySem.Challenge.rw_wardhouse_k04_houses_made).prog [56]) (H := LawK.hk) (ob := LawK.ob) (M := 4000) (loose := LawK.names) (d := HandSHeadRun.topDef (OpenLaw.row PySem.Challenge.rw_wardhouse_k04_houses_made).prog 56) (kwd := []) LawK.ob_eq
    (by kernel_rfl) (fun s => by kernel_rfl) LawK.run (by kernel_rfl) (by kernel_rfl) (by kernel_rfl) (by rfl) (by first | assumption | decide +kernel) (by decide +kernel) ⟨rfl, rfl, rfl, rfl, rfl, by decide +kernel⟩ ?hw ?hc
  case hw => w_witness2
  case hc =>
    refine L2.walk_ofE (l := PySem.Challenge.rw_wardhouse_k04_houses_made) (n := 63) (k := 34) (x := "_law_script") (CX := Ev.CXm (PySem.Challenge.rw_wardhouse_k04_houses_made).prog) rfl (by decide) (by kernel_rfl) ⟨rfl, by decide, by decide⟩ ?F (fun H s e s' z => Ev.cxm_no H s e s' z)
    intro w mg fa h Y G hmg0
    obtain ⟨K, KX, c, kb⟩ := Y
    have hmg : mg ("law" : PySem.Str) = some (.ref fa) := by
      have e : (HandSHeadRun.topDef (OpenLaw.row PySem.Challenge.rw_wardhouse_k04_houses_made).prog 56).name = ("law" : PySem.Str) := by kernel_rfl
      rw [← e]
      exact hmg0
    have T := LawK.facts KX G c kb
    obtain ⟨fdt, dk⟩ := LawK.dk_law c
    have e := hmg.symm.trans (He.glo_ok KX G (c.fact 30 (f := .glo "law") rfl))
    cases e
    have b := L2.FunD.bindsA (ps := ["_law_script"]) dk.fn fun _ _ _ _ _ _ us hl => match us, hl with | [_], _ => rfl
    refine ⟨K, fdt, Ev.spF (Ev.iA K LawK.clsN) (Ev.kA K) K (Ev.callF LawK.Tt 17 41), KX, fun s v => b s [v] rfl, fun H a ns hl _ hS => ?_, fun base kb gb => ?_⟩
    · obtain ⟨S, hlaw⟩ := LawK.law_is ns hl
      exact Ev.law_ends hS hlaw
    · exact Ev.fn_cx (Ev.fn_body (n := 16) (k := 32) dk rfl (Ev.gok_all T 16 LawK.f_law.N))
