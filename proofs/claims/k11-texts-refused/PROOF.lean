import PyProof.Rows.All
import Wide.All
import OpenK.AllK
import Wide.FinOn
import HandS.Base
import HandS.Call
import HandS.List
import HandS.Comp
import HandS.Dict
import HandS.Iter
import HandS.Text
import HandS.Walk
import HandS.Words
import HandS.Exc
import HandS.TryOnly
import HandS.ExcOwn
import HandS.WordsExc
import HandS.WordsList
import HandS.IsInst
import HandS.Conv
import HandS.Style
import HandS.Deep
import HandS.Defaults
import HandS.TupAny
import HandS.ExcCtx
import HandS.HotCalls
import HandS.ExcIs
import HandS.SetFor
import PyProof.Rows.SortShellAny
import HandS.Small
import HandS.Codes
import HandS.Head0
import HandS.Head1
import HandS.Head2
import HandS.HeadEnd
import HandS.HeadHook1
import HandS.HeadHook2
import KE.KStateDown
import Lean
import PySem.Challenge.RW_wardhouse_k11_texts_refused
set_option Elab.async false
set_option linter.all false
set_option maxRecDepth 100000
set_option maxHeartbeats 0
/-! Ev: a small evaluator of our own over plain data and a store of what may change; later it is tied to the judgements of HandS. -/
namespace Ev
open PySem

/-- plain data: what never changes is told by value, what may change by its place in the store -/
inductive D where
  | non | bl (b : Bool) | int (i : Int) | str (x : Str)
  | scr (ns : List Int)
  | tup (xs : List D) | lst (xs : List D) | dic (ks : List Str) (vs : List D)
  | loc (n : Nat)
  | opq (a : Nat)

instance : Inhabited D := ⟨.non⟩

/-- a place of the store -/
inductive Cell where
  | lst (xs : List D) | dic (kvs : List (Str × D)) | ins (c : Nat) (fs : List (Str × D)) | dead

abbrev Store := List Cell
abbrev Env := List (Option D)

inductive R (α : Type) where
  | ok (a : α) (S : Store) | exn (c : Nat) (S : Store) | stuck

def R.bind {α β : Type} : R α → (α → Store → R β) → R β
  | .ok a S, f => f a S
  | .exn c S, _ => .exn c S
  | .stuck, _ => .stuck

inductive RS where
  | nx (δ : Env) (S : Store) | rt (d : D) (S : Store) | exn (c : Nat) (δ : Env) (S : Store) | stuck

inductive O2 where
  | add | sub | mul | fdiv | mod | pow | eq | ne | lt | le | gt | ge | is_ | isnt | in_ | notin | get | mn | mx
  deriving DecidableEq, Repr

inductive Ty where
  | int | bool | str | tuple | list
  deriving DecidableEq, Repr

inductive O1 where
  | len | tuple | sorted | int | str | neg | isi (t : Ty) | upper
  deriving DecidableEq, Repr

inductive IK where
  | ex | rng1 | rng2 | enm | zip
  deriving DecidableEq, Repr

inductive Tg where
  | nm (i : Nat) | pr (i j : Nat)
  deriving DecidableEq, Repr

inductive E where
  | var (i : Nat)
  | lit (d : D)
  | con (k : Nat)
  | op2 (o : O2) (a b : E)
  | op1 (o : O1) (a : E)
  | not (a : E) | and (a b : E) | or (a b : E)
  | ite (c a b : E)
  | chn (o1 o2 : O2) (a b c : E)
  | tup (es : List E) | lst (m : Bool) (es : List E) | dic (m : Bool) (ks : List Str) (es : List E)
  | add (m : Bool) (a b : E) | mul (m : Bool) (a b : E)
  | lof (m : Bool) (a : E)
  | call (f : Nat) (es : List E)
  | make (c : Nat) (es : List E)
  | meth (c f : Nat) (m : Str) (o : E) (es : List E)
  | att (o : E) (f : Str)
  | slf (o lo : E) | slt (o hi : E) | rev (o : E)
  | cmp (m : Bool) (elt : E) (vs : List Nat) (tg : Tg) (ik : IK) (its : List E) (ifs : List E)
  | app (o e : E) | pop (o : E) | popAt (o e : E) | idx (o e : E) | cnt (o e : E) | join (o e : E) | split (o e : E) | upp (o : E)
  | lrg (m : Bool) (a b : E)
  | dof (a : E)

/-- what an except suite gives back: whether the class is that one; the list of its class; a thing of its own -/
inductive Hd where
  | eqK (k : Nat) | kinds | ret (d : D)
def hdD : Hd → Nat → D
  | .eqK k, c => .bl (decide (c = k))
  | .kinds, c => .lst [.int c]
  | .ret d, _ => d

inductive S where
  | set (i : Nat) (e : E)
  | setA (o : E) (f : Str) (e : E)
  | setI (o i e : E)
  | ex (e : E)
  | ite (c : E) (a b : List S)
  | for_ (tg : Tg) (ik : IK) (its : List E) (b : List S)
  | whl (c : E) (b : List S)
  | ret (e : E)
  | raise (c : Nat)
  | tryN (b : List S) (h : Hd)
  | nev

/-! ### the operations -/
def LIM : Nat := 16777216
mutual
/-- Python's == on data -/
def eqD : D → D → Bool
  | .non, .non => true
  | .bl a, .bl b => a == b
  | .bl a, .int j => (if a then 1 else 0) == j
  | .int i, .bl b => i == (if b then 1 else 0)
  | .int i, .int j => i == j
  | .str x, .str y => x == y
  | .lst xs, .lst ys => eqDs xs ys
  | .tup xs, .tup ys => eqDs xs ys
  | _, _ => false
def eqDs : List D → List D → Bool
  | [], [] => true
  | x :: xs, y :: ys => eqD x y && eqDs xs ys
  | _, _ => false
end
mutual
/-- none, truths, numbers, texts, tuples and lists of such, at most so deep -/
def flat : Nat → D → Bool
  | _, .non | _, .bl _ | _, .int _ | _, .str _ => true
  | n, .lst xs | n, .tup xs => (match n with
    | 0 => false
    | n + 1 => flats n xs)
  | _, _ => false
def flats : Nat → List D → Bool
  | _, [] => true
  | n, x :: xs => flat n x && flats n xs
end
/-- the items of a list -/
def items (S : Store) : D → Option (List D)
  | .lst xs => some xs
  | .loc n => (match S[n]? with
    | some (.lst xs) => some xs
    | _ => none)
  | _ => none
/-- a list told by value, for == and in -/
def byVal (S : Store) : D → D
  | .loc n => (match S[n]? with
    | some (.lst xs) => .lst xs
    | _ => .loc n)
  | d => d
def isFlat (d : D) : Bool := flat 60 d
def isNon : D → Bool
  | .non => true
  | _ => false
/-- x is y, y a None or a truth -/
def isD : D → D → Option Bool
  | .bl a, .bl b => some (a == b)
  | x, .non => some (isNon x)
  | _, _ => none
def ixD (xs : List D) (i : Int) : Option D := L2.atI xs i
def look (f : Str) : List (Str × D) → Option D
  | [] => none
  | (g, d) :: r => if f = g then some d else look f r
def lookD (f : Str) : List Str → List D → Option D
  | g :: ks, d :: ds => if f = g then some d else lookD f ks ds
  | _, _ => none
def putF (f : Str) (d : D) : List (Str × D) → List (Str × D)
  | [] => [(f, d)]
  | (g, e) :: r => if f = g then (g, d) :: r else (g, e) :: putF f d r
/-- a dict's key written: in its place, or at the end -/
def putD (f : Str) (d : D) (kvs : List (Str × D)) : List (Str × D) := if kvs.any (fun kv => decide (kv.1 = f)) = true then kvs.map (fun kv => if kv.1 = f then (kv.1, d) else kv) else kvs ++ [(f, d)]

/-- a list's sum with another list, as the items of the new one -/
def addL (S : Store) (a b : D) : Option (List D) :=
  match items S a, items S b with
  | some xs, some ys => if xs.length + ys.length ≤ LIM then some (xs ++ ys) else none
  | _, _ => none
def mulL (S : Store) (a b : D) : Option (List D) :=
  match items S a, b with
  | some xs, .int k => if k < 2 ^ 62 ∧ -(2 ^ 62) ≤ k ∧ xs.length * k.toNat ≤ LIM then some (List.replicate k.toNat xs).flatten else none
  | _, _ => none

def inT (a : D) (ys : List D) : Option Bool := if flat 0 a && flats 0 ys then some (ys.any fun y => eqD y a) else none
def inL (S : Store) (a b : D) : Option Bool := match items S b with
  | some ys => if flat 15 a && flats 15 ys then some (ys.any fun y => eqD y a) else none
  | none => none
def getC : Option Cell → D → Option D
  | some (.lst xs), .int i => ixD xs i
  | some (.dic kvs), .str f => look f kvs
  | _, _ => none
def op2 (S : Store) : O2 → D → D → Option D
  | .add, .int i, .int j => some (.int (i + j))
  | .add, .str x, .str y => if x.length + y.length ≤ LIM then some (.str (x ++ y)) else none
  | .add, .tup xs, .tup ys => if xs.length + ys.length ≤ LIM then some (.tup (xs ++ ys)) else none
  | .add, a, b => (addL S a b).map .lst
  | .sub, .int i, .int j => some (.int (i - j))
  | .mul, .int i, .int j => if -(2 ^ 64) < i ∧ i < 2 ^ 64 then some (.int (i * j)) else none
  | .mul, a, b => (mulL S a b).map .lst
  | .fdiv, .int i, .int j => if 0 < j ∧ j < 1073741824 then some (.int (i / j)) else none
  | .mod, .int i, .int j => if 0 < j then some (.int (i % j)) else none
  | .pow, .int i, .int j => if 0 ≤ j ∧ j ≤ 1000 ∧ i.natAbs < 1000 then some (.int (i ^ j.toNat)) else none
  | .lt, .int i, .int j => some (.bl (decide (i < j)))
  | .le, .int i, .int j => some (.bl (decide (i ≤ j)))
  | .gt, .int i, .int j => some (.bl (decide (j < i)))
  | .ge, .int i, .int j => some (.bl (decide (j ≤ i)))
  | .mn, .int i, .int j => some (.int (if j < i then j else i))
  | .mx, .int i, .int j => some (.int (if j > i then j else i))
  | .eq, a, b => if isFlat (byVal S a) && isFlat (byVal S b) then some (.bl (eqD (byVal S a) (byVal S b))) else none
  | .ne, a, b => if isFlat (byVal S a) && isFlat (byVal S b) then some (.bl (!eqD (byVal S a) (byVal S b))) else none
  | .is_, a, b => (isD a b).map .bl
  | .isnt, a, b => (isD a b).map fun c => .bl (!c)
  | .in_, .str x, .str y => if x.length = 1 then some (.bl (y.cps.toList.contains (x.cps.getD 0 0))) else none
  | .notin, .str x, .str y => if x.length = 1 then some (.bl (!y.cps.toList.contains (x.cps.getD 0 0))) else none
  | .in_, a, .tup ys => (inT a ys).map .bl
  | .notin, a, .tup ys => (inT a ys).map fun c => .bl (!c)
  | .in_, a, b => (inL S a b).map .bl
  | .notin, a, b => (inL S a b).map fun c => .bl (!c)
  | .get, .tup xs, .int i => ixD xs i
  | .get, .scr ns, .int i => (L2.atI ns i).map .int
  | .get, .str x, .int i => if x.length ≤ LIM then (L2.atI x.cps.toList i).map fun c => .str ⟨#[c]⟩ else none
  | .get, .dic ks vs, .str f => lookD f ks vs
  | .get, .lst xs, .int i => ixD xs i
  | .get, .loc n, d => getC S[n]? d
  | _, _, _ => none

def tyIs (S : Store) : Ty → D → Option Bool
  | t, .non => some false
  | t, .bl _ => some (match t with | .int | .bool => true | _ => false)
  | t, .int _ => some (match t with | .int => true | _ => false)
  | t, .str _ => some (match t with | .str => true | _ => false)
  | t, .scr _ => none
  | t, .tup _ => some (match t with | .tuple => true | _ => false)
  | t, .lst _ => some (match t with | .list => true | _ => false)
  | t, .dic _ _ => some false
  | t, .opq _ => none
  | t, .loc n => (match S[n]? with
    | some (.lst _) => some (match t with | .list => true | _ => false)
    | some (.dic _) => some false
    | _ => none)

def strsOf : List D → Option (List Str)
  | [] => some []
  | .str x :: r => (strsOf r).map (x :: ·)
  | _ => none
/-- ascii small letters: their upper case is known -/
def upperS (x : Str) : Str := ⟨(x.cps.toList.map fun c => if 97 ≤ c ∧ c ≤ 122 then c - 32 else c).toArray⟩
def ascii (x : Str) : Bool := x.cps.toList.all (· < 128)

def strLe (a b : Str) : Bool := !decide (b.cps.toList < a.cps.toList)
def op1 (S : Store) : O1 → D → Option D
  | .len, .str x => if x.length ≤ LIM then some (.int x.length) else none
  | .len, .tup xs => some (.int xs.length)
  | .len, .scr ns => some (.int ns.length)
  | .len, d => (items S d).map fun xs => .int xs.length
  | .tuple, d => (items S d).map fun xs => .tup xs
  | .sorted, d => (match items S d with
    | some xs => (strsOf xs).map fun ss => .lst ((ss.mergeSort strLe).map .str)
    | none => none)
  | .int, .bl b => some (.int (if b then 1 else 0))
  | .int, .str x => if x.length ≤ 640 then (intText? x).map .int else none
  | .str, .int i => if i.natAbs < 2 ^ 128 then some (.str (toString i)) else none
  | .neg, .int i => some (.int (-i))
  | .isi t, d => (tyIs S t d).map .bl
  | .upper, .str x => if ascii x && decide (x.length ≤ 1000) then some (.str (upperS x)) else none
  | _, _ => none

/-- x[lo:hi] of a list -/
def cutG {α : Type} (xs : List α) (lo hi : Option Int) : List α := (xs.drop (HT.sIx xs.length 0 lo)).take (HT.sIx xs.length xs.length hi - HT.sIx xs.length 0 lo)
def cutD (S : Store) (lo hi : Option Int) : D → Option D
  | .str x => if x.length ≤ LIM then some (.str (L2.cutS x lo hi)) else none
  | .tup xs => some (.tup (cutG xs lo hi))
  | .scr ns => some (.lst ((cutG ns lo hi).map .int))
  | d => (items S d).map fun xs => .lst (cutG xs lo hi)

/-! ### lists that may change -/
def alloc (S : Store) (c : Cell) : R D := .ok (.loc S.length) (S ++ [c])
/-- a new list: by value, or as a place of the store -/
def newL (m : Bool) (xs : List D) (S : Store) : R D := if m then alloc S (.lst xs) else .ok (.lst xs) S
def newD (m : Bool) (ks : List Str) (vs : List D) (S : Store) : R D := if m then alloc S (.dic (ks.zip vs)) else .ok (.dic ks vs) S
def ofO (S : Store) : Option D → R D
  | some d => .ok d S
  | none => .stuck
def lofL (S : Store) : D → Option (List D)
  | .tup xs => some xs
  | d => items S d
def lstAt (S : Store) : D → Option (Nat × List D)
  | .loc n => (match S[n]? with
    | some (.lst xs) => some (n, xs)
    | _ => none)
  | _ => none
def idxD : List D → D → Option Nat
  | [], _ => none
  | x :: xs, d => if eqD x d then some 0 else (idxD xs d).map (· + 1)
def cntD (xs : List D) (d : D) : Nat := (xs.filter fun x => eqD x d).length
def rngD (a b : Int) : List D := (List.range (b - a).toNat).map fun (i : Nat) => .int (a + i)
/-- what is walked: its items, and the places that must stay as they are -/
def walkOf (S : Store) : IK → List D → Option (List D × List (Nat × List D))
  | .ex, [.tup xs] => some (xs, [])
  | .ex, [.scr ns] => some (ns.map .int, [])
  | .ex, [.str x] => some (x.cps.toList.map fun c => .str ⟨#[c]⟩, [])
  | .ex, [.lst xs] => some (xs, [])
  | .ex, [.loc n] => (lstAt S (.loc n)).map fun p => (p.2, [p])
  | .rng1, [.int b] => if b < 2 ^ 62 ∧ -(2 ^ 62) ≤ b then some (rngD 0 b, []) else none
  | .rng2, [.int a, .int b] => if (b < 2 ^ 62 ∧ -(2 ^ 62) ≤ b) ∧ (a < 2 ^ 62 ∧ -(2 ^ 62) ≤ a) then some (rngD a b, []) else none
  | .enm, [.lst xs] => some (xs.mapIdx fun i x => .tup [.int i, x], [])
  | .enm, [.loc n] => (lstAt S (.loc n)).map fun p => (p.2.mapIdx fun i x => .tup [.int i, x], [p])
  | .zip, [.lst xs, .lst ys] => some (List.zipWith (fun x y => .tup [x, y]) xs ys, [])
  | _, _ => none
open Classical in
noncomputable def stays (S : Store) (ch : List (Nat × List D)) : Bool := decide (∀ p ∈ ch, S[p.1]? = some (.lst p.2))
def setT : Tg → D → Env → Option Env
  | .nm i, d, δ => some (δ.set i (some d))
  | .pr i j, .tup [x, y], δ => some ((δ.set i (some x)).set j (some y))
  | _, _, _ => none
def wipeE (δ : Env) : List Nat → Env
  | [] => δ
  | v :: vs => (wipeE δ vs).set v none
mutual
/-- no place at or behind n is named -/
def clo (n : Nat) : D → Bool
  | .tup xs | .lst xs | .dic _ xs => clos n xs
  | .loc k => decide (k < n)
  | _ => true
def clos (n : Nat) : List D → Bool
  | [] => true
  | x :: xs => clo n x && clos n xs
end
/-- no error may come out of it -/
def R.bind0 {α β : Type} : R α → (α → Store → R β) → R β
  | .ok a S, f => f a S
  | _, _ => .stuck
open Classical in
/-- a comprehension's turns: f tells of an item whether it is kept, and what is made of it; the list that grows stands behind the store -/
noncomputable def compF (ch : List (Nat × List D)) (f : D → Store → R (Option D)) (S : Store) : List D → List D → R D
  | [], acc => if stays S ch then .ok (.lst acc) S else .stuck
  | x :: xs, acc => if stays S ch then (f x (S ++ [.lst acc])).bind0 fun o S' => if S' = S ++ [.lst acc] ∧ clos S.length o.toList = true then compF ch f S xs (acc ++ o.toList) else .stuck else .stuck
noncomputable def compT (n : Nat) (ch : List (Nat × List D)) (f : D → Store → R (Option D)) : List D → Store → R D
  | [], S => if stays S ch then .ok (.loc n) S else .stuck
  | x :: xs, S => if stays S ch then (f x S).bind0 fun o S' => (match S'[n]? with
    | some (.lst acc) => if acc.length < LIM then compT n ch f xs (S'.set n (.lst (acc ++ o.toList))) else .stuck
    | _ => .stuck) else .stuck
noncomputable def compM (m : Bool) (ch : List (Nat × List D)) (f : D → Store → R (Option D)) (xs : List D) (S : Store) : R D :=
  if xs.length ≤ LIM then (if m then compT S.length ch f xs (S ++ [.lst []]) else compF ch f S xs []) else .stuck
open Classical in
noncomputable def dispM (m : Bool) (ks : List Str) (r : R (List D)) (S : Store) : R D :=
  r.bind fun vs S' => if ks.length = vs.length ∧ ks.Nodup ∧ ks.length ≤ 15 then (if m then (match S'[S.length]? with
    | some (.dic []) => .ok (.loc S.length) (S'.set S.length (.dic (ks.zip vs)))
    | _ => .stuck) else if S' = S ++ [.dic []] ∧ clos S.length vs = true then .ok (.dic ks vs) S else .stuck) else .stuck
noncomputable def forL (ch : List (Nat × List D)) (tg : Tg) (f : Env → Store → RS) : List D → Env → Store → RS
  | [], δ, S => if stays S ch then .nx δ S else .stuck
  | x :: xs, δ, S => if stays S ch then (match setT tg x δ with
    | some δ' => (match f δ' S with
      | .nx δ2 S2 => forL ch tg f xs δ2 S2
      | r => r)
    | none => .stuck) else .stuck
def whlL (c : Env → Store → R D) (f : Env → Store → RS) : Nat → Env → Store → RS
  | 0, _, _ => .stuck
  | n + 1, δ, S => (match c δ S with
    | .ok (.bl true) S1 => (match f δ S1 with
      | .nx δ2 S2 => whlL c f n δ2 S2
      | r => r)
    | .ok (.bl false) S1 => .nx δ S1
    | .exn k S1 => .exn k δ S1
    | _ => .stuck)

/-- what surrounds: calls of defs, of methods, the making of an instance, the constants; whether the class c has no attribute f of its own -/
structure Par where
  cf : Nat → List D → Store → R D
  ini : Nat → Option Nat
  con : Nat → Option D
  atr : Nat → Str → Bool
  wf : Nat

/-- the cell of an instance -/
def insAt (S : Store) : D → Option (Nat × Nat × List (Str × D))
  | .loc n => (match S[n]? with
    | some (.ins c fs) => some (n, c, fs)
    | _ => none)
  | _ => none
/-- it is an instance of that class, without an attribute of that name -/
def insOf (S : Store) (x : D) (c : Nat) (m : Str) : Bool := match insAt S x with
  | some (_, c', fs) => decide (c' = c) && (look m fs).isNone
  | none => false
def attO (atr : Nat → Str → Bool) (S : Store) (x : D) (f : Str) : Option D := match insAt S x with
  | some (_, c, fs) => if atr c f then look f fs else none
  | none => none
def cmp2 (S : Store) (o : O2) (x y : D) : Option Bool := match op2 S o x y with
  | some (.bl b) => some b
  | _ => none

/-- methods of lists and texts -/
def isStr : D → Bool
  | .str _ => true
  | _ => false
def appD (x y : D) (S : Store) : R D := match lstAt S x with
  | some (n, xs) => if xs.length < LIM then .ok .non (S.set n (.lst (xs ++ [y]))) else .stuck
  | none => .stuck
def popD (x : D) (S : Store) : R D := match lstAt S x with
  | some (n, xs) => (match xs.getLast? with
    | some y => .ok y (S.set n (.lst xs.dropLast))
    | none => .stuck)
  | none => .stuck
def popAtD (x y : D) (S : Store) : R D := match lstAt S x, y with
  | some (n, y :: xs), .int 0 => .ok y (S.set n (.lst xs))
  | _, _ => .stuck
def idxO (S : Store) (x y : D) : Option D := match items S x with
  | some xs => if flat 15 y && flats 15 xs then (idxD xs y).map fun (n : Nat) => .int n else none
  | none => none
def cntO (S : Store) (x y : D) : Option D := match items S x with
  | some xs => if flat 0 y && flats 0 xs then some (.int (cntD xs y)) else none
  | none => none
def joinO (S : Store) (x y : D) : Option D := match x, (items S y).bind strsOf with
  | .str z, some xs => if (xs.map Str.length).sum + xs.length * z.length ≤ LIM then some (.str (Str.join z xs)) else none
  | _, _ => none
def splitO : D → D → Option D
  | .str z, .str w => if w.length = 1 ∧ w.cps.all (· < 256) = true ∧ z.length + 2 ≤ LIM then some (.lst ((PySem.Txt.split z w).map .str)) else none
  | _, _ => none

noncomputable section
mutual
def evE (P : Par) : E → Env → Store → R D
  | .var i, δ, S => (match δ[i]? with
    | some (some d) => .ok d S
    | _ => .stuck)
  | .lit d, _, S => .ok d S
  | .con k, _, S => ofO S (P.con k)
  | .op2 o a b, δ, S => (evE P a δ S).bind fun x S => (evE P b δ S).bind fun y S => ofO S (op2 S o x y)
  | .op1 o a, δ, S => (evE P a δ S).bind fun x S => ofO S (op1 S o x)
  | .not a, δ, S => (evE P a δ S).bind fun x S => (match x with
    | .bl b => .ok (.bl (!b)) S
    | _ => .stuck)
  | .and a b, δ, S => (evE P a δ S).bind fun x S => (match x with
    | .bl true => evE P b δ S
    | .bl false => .ok (.bl false) S
    | _ => .stuck)
  | .or a b, δ, S => (evE P a δ S).bind fun x S => (match x with
    | .bl false => evE P b δ S
    | .bl true => .ok (.bl true) S
    | _ => .stuck)
  | .ite c a b, δ, S => (evE P c δ S).bind fun x S => (match x with
    | .bl true => evE P a δ S
    | .bl false => evE P b δ S
    | _ => .stuck)
  | .chn o1 o2 a b c, δ, S => (evE P a δ S).bind fun x S => (evE P b δ S).bind fun y S => (match cmp2 S o1 x y with
    | some true => (evE P c δ S).bind fun z S => ofO S ((cmp2 S o2 y z).map .bl)
    | some false => .ok (.bl false) S
    | none => .stuck)
  | .tup es, δ, S => (evEs P es δ S).bind fun ds S => if ds.length ≤ LIM then .ok (.tup ds) S else .stuck
  | .lst m es, δ, S => (evEs P es δ S).bind fun ds S => if ds.length ≤ LIM then newL m ds S else .stuck
  | .dic m ks es, δ, S => if ks = [] then newD m ks [] S else dispM m ks (evEs P es δ (S ++ [.dic []])) S
  | .add m a b, δ, S => (evE P a δ S).bind fun x S => (evE P b δ S).bind fun y S => (match addL S x y with
    | some xs => newL m xs S
    | none => .stuck)
  | .mul m a b, δ, S => (evE P a δ S).bind fun x S => (evE P b δ S).bind fun y S => (match mulL S x y with
    | some xs => newL m xs S
    | none => .stuck)
  | .lof m a, δ, S => (evE P a δ S).bind fun x S => (match lofL S x with
    | some xs => newL m xs S
    | none => .stuck)
  | .call f es, δ, S => (evEs P es δ S).bind fun ds S => P.cf f ds S
  | .make c es, δ, S => (evEs P es δ S).bind fun ds S => (match P.ini c with
    | some f => (P.cf f (.loc S.length :: ds) (S ++ [.ins c []])).bind fun r S' => (match r with
      | .non => .ok (.loc S.length) S'
      | _ => .stuck)
    | none => .stuck)
  | .meth c f m o es, δ, S => (evE P o δ S).bind fun x S => if insOf S x c m then (evEs P es δ S).bind fun ds S => P.cf f (x :: ds) S else .stuck
  | .att o f, δ, S => (evE P o δ S).bind fun x S => ofO S (attO P.atr S x f)
  | .slf o lo, δ, S => (evE P o δ S).bind fun x S => (evE P lo δ S).bind fun i S => (match i with
    | .int i => ofO S (cutD S (some i) none x)
    | _ => .stuck)
  | .slt o hi, δ, S => (evE P o δ S).bind fun x S => (evE P hi δ S).bind fun i S => (match i with
    | .int i => ofO S (cutD S none (some i) x)
    | _ => .stuck)
  | .rev o, δ, S => (evE P o δ S).bind fun x S => (match x with
    | .tup xs => .ok (.tup xs.reverse) S
    | .scr _ => .stuck
    | x => (match items S x with
      | some xs => .ok (.lst xs.reverse) S
      | none => .stuck))
  | .cmp m elt vs tg ik its ifs, δ, S => (evEs P its δ S).bind fun ds S => (match walkOf S ik ds with
    | some (xs, ch) => compM m ch (fun x S => (match setT tg x (wipeE δ vs) with
        | some δ' => (evIfs P ifs δ' S).bind fun b S => if b then (evE P elt δ' S).bind fun d S => .ok (some d) S else .ok none S
        | none => .stuck)) xs S
    | none => .stuck)
  | .app o e, δ, S => (evE P o δ S).bind fun x S => if (lstAt S x).isSome then (evE P e δ S).bind fun y S => appD x y S else .stuck
  | .pop o, δ, S => (evE P o δ S).bind fun x S => popD x S
  | .popAt o e, δ, S => (evE P o δ S).bind fun x S => if (lstAt S x).isSome then (evE P e δ S).bind fun y S => popAtD x y S else .stuck
  | .idx o e, δ, S => (evE P o δ S).bind fun x S => if (items S x).isSome then (evE P e δ S).bind fun y S => ofO S (idxO S x y) else .stuck
  | .cnt o e, δ, S => (evE P o δ S).bind fun x S => if (items S x).isSome then (evE P e δ S).bind fun y S => ofO S (cntO S x y) else .stuck
  | .join o e, δ, S => (evE P o δ S).bind fun x S => if isStr x then (evE P e δ S).bind fun y S => ofO S (joinO S x y) else .stuck
  | .split o e, δ, S => (evE P o δ S).bind fun x S => if isStr x then (evE P e δ S).bind fun y S => ofO S (splitO x y) else .stuck
  | .upp o, δ, S => (evE P o δ S).bind fun x S => ofO S (op1 S .upper x)
  | .lrg m a b, δ, S => (evE P a δ S).bind fun x S => (evE P b δ S).bind fun y S => (match x, y with
    | .int i, .int j => if 0 ≤ i ∧ i ≤ 100000 ∧ 0 ≤ j ∧ j ≤ 100000 then newL m (rngD i j) S else .stuck
    | _, _ => .stuck)
  | .dof a, δ, S => .stuck
def evEs (P : Par) : List E → Env → Store → R (List D)
  | [], _, S => .ok [] S
  | e :: es, δ, S => (evE P e δ S).bind fun d S => (evEs P es δ S).bind fun ds S => .ok (d :: ds) S
def evIfs (P : Par) : List E → Env → Store → R Bool
  | [], _, S => .ok true S
  | [e], δ, S => (evE P e δ S).bind fun d S => (match d with
    | .bl b => .ok b S
    | _ => .stuck)
  | _, _, _ => .stuck
end

/-- an expression's outcome within a statement -/
def thenS (δ : Env) : R D → (D → Store → RS) → RS
  | .ok d S, f => f d S
  | .exn c S, _ => .exn c δ S
  | .stuck, _ => .stuck

mutual
def evS (P : Par) : S → Env → Store → RS
  | .set i e, δ, S => thenS δ (evE P e δ S) fun d S => .nx (δ.set i (some d)) S
  | .setA o f e, δ, S => thenS δ (evE P e δ S) fun d S => thenS δ (evE P o δ S) fun x S => (match insAt S x with
    | some (n, c, fs) => if P.atr c f = true ∧ fs.length < 100 then .nx δ (S.set n (.ins c (putF f d fs))) else .stuck
    | none => .stuck)
  | .setI o i e, δ, S => thenS δ (evE P e δ S) fun d S => thenS δ (evE P o δ S) fun x S => thenS δ (evE P i δ S) fun k S => (match x with
    | .loc n => (match S[n]?, k with
      | some (.lst xs), .int j => (match L2.ixN xs.length j with
        | some j => .nx δ (S.set n (.lst (xs.set j d)))
        | none => .stuck)
      | some (.dic kvs), .str f => if kvs.length < 1000 then .nx δ (S.set n (.dic (putD f d kvs))) else .stuck
      | _, _ => .stuck)
    | _ => .stuck)
  | .ex e, δ, S => thenS δ (evE P e δ S) fun _ S => .nx δ S
  | .ite c a b, δ, S => thenS δ (evE P c δ S) fun d S => (match d with
    | .bl true => evB P a δ S
    | .bl false => evB P b δ S
    | _ => .stuck)
  | .for_ tg ik its b, δ, S => (match evEs P its δ S with
    | .ok ds S => (match walkOf S ik ds with
      | some (xs, ch) => forL ch tg (fun δ S => evB P b δ S) xs δ S
      | none => .stuck)
    | .exn c S => .exn c δ S
    | .stuck => .stuck)
  | .whl c b, δ, S => whlL (fun δ S => evE P c δ S) (fun δ S => evB P b δ S) P.wf δ S
  | .ret e, δ, S => thenS δ (evE P e δ S) fun d S => .rt d S
  | .raise c, δ, S => .exn c δ S
  | .nev, _, _ => .stuck
  | .tryN b h, δ, S => (match evB P b δ S with
    | .exn c _ S' => if c < 8 then .rt (hdD h c) S' else .stuck
    | r => r)
def evB (P : Par) : List S → Env → Store → RS
  | [], δ, S => .nx δ S
  | s :: r, δ, S => (match evS P s δ S with
    | .nx δ S => evB P r δ S
    | x => x)
end
end
end Ev
namespace Ev
open PySem PySem.Spec PyProof.Rows L2

/-! ### data and values: F what is fixed of the heap, ι where the store's places stand -/
def okStr (x : Str) : Bool := PyData.strOk x
mutual
inductive Rep (K : PySem.W.Frag) (F : Hp) (ι : List Addr) : V → D → Prop
  | non : Rep K F ι .non .non
  | bl (b : Bool) : Rep K F ι (.bl b) (.bl b)
  | int (i : Int) : Rep K F ι (.int i) (.int i)
  | str (x : Str) : okStr x = true → Rep K F ι (.str x) (.str x)
  | scr {a : Addr} {ns : List Int} : SqL K F a (ns.map V.int) → Rep K F ι (.ref a) (.scr ns)
  | tup {a : Addr} {vs : List V} {ds : List D} : SqT K F a vs → Reps K F ι vs ds → Rep K F ι (.ref a) (.tup ds)
  | lst {a : Addr} {vs : List V} {ds : List D} : F a = some (.lst vs) → Reps K F ι vs ds → Rep K F ι (.ref a) (.lst ds)
  | dic {a : Addr} {kvs : List (Key × V)} {ks : List Str} {ds : List D} : F a = some (.dK kvs) → kvs.map (·.1) = ks.map Sum.inr → Reps K F ι (kvs.map (·.2)) ds → Rep K F ι (.ref a) (.dic ks ds)
  | loc {n : Nat} {a : Addr} : ι[n]? = some a → Rep K F ι (.ref a) (.loc n)
  | opq (a : Addr) : Rep K F ι (.ref a) (.opq a)
inductive Reps (K : PySem.W.Frag) (F : Hp) (ι : List Addr) : List V → List D → Prop
  | nil : Reps K F ι [] []
  | cons {v : V} {d : D} {vs : List V} {ds : List D} : Rep K F ι v d → Reps K F ι vs ds → Reps K F ι (v :: vs) (d :: ds)
end

/-- more is fixed, more places stand -/
structure Ext (F : Hp) (ι : List Addr) (F' : Hp) (ι' : List Addr) : Prop where
  fx : ∀ a o, F a = some o → F' a = some o
  pl : ∀ (n : Nat) (a : Addr), ι[n]? = some a → ι'[n]? = some a
theorem Ext.refl (F : Hp) (ι : List Addr) : Ext F ι F ι := ⟨fun _ _ h => h, fun _ _ h => h⟩
theorem Ext.trans {F F1 F2 : Hp} {ι ι1 ι2 : List Addr} (a : Ext F ι F1 ι1) (b : Ext F1 ι1 F2 ι2) : Ext F ι F2 ι2 := ⟨fun c o h => b.fx c o (a.fx c o h), fun n c h => b.pl n c (a.pl n c h)⟩

section
variable {K : PySem.W.Frag} {F F' : Hp} {ι ι' : List Addr} {a : Addr} {vs : List V}
theorem SqL.up (e : ∀ a o, F a = some o → F' a = some o) (h : SqL K F a vs) : SqL K F' a vs := by
  rcases h with (h | ⟨o, h⟩) | h
  · exact .inl (.inl (e _ _ h))
  · exact .inl (.inr ⟨o, e _ _ h⟩)
  · exact .inr h
theorem SqT.up (e : ∀ a o, F a = some o → F' a = some o) (h : SqT K F a vs) : SqT K F' a vs := by
  rcases h with (h | ⟨o, h⟩) | h
  · exact .inl (.inl (e _ _ h))
  · exact .inl (.inr ⟨o, e _ _ h⟩)
  · exact .inr h
mutual
theorem Rep.up (e : Ext F ι F' ι') : ∀ (d : D) (v : V), Rep K F ι v d → Rep K F' ι' v d
  | .non, _, h => by cases h; exact .non
  | .bl _, _, h => by cases h; exact .bl _
  | .int _, _, h => by cases h; exact .int _
  | .str _, _, h => by cases h with | str _ h => exact .str _ h
  | .scr _, _, h => by cases h with | scr h => exact .scr (SqL.up e.fx h)
  | .tup ds, _, h => by cases h with | tup h h2 => exact .tup (SqT.up e.fx h) (Reps.up e ds _ h2)
  | .lst ds, _, h => by cases h with | lst h h2 => exact .lst (e.fx _ _ h) (Reps.up e ds _ h2)
  | .dic _ ds, _, h => by cases h with | dic h h1 h2 => exact .dic (e.fx _ _ h) h1 (Reps.up e ds _ h2)
  | .loc _, _, h => by cases h with | loc h => exact .loc (e.pl _ _ h)
  | .opq _, _, h => by cases h; exact .opq _
theorem Reps.up (e : Ext F ι F' ι') : ∀ (ds : List D) (vs : List V), Reps K F ι vs ds → Reps K F' ι' vs ds
  | [], _, h => by cases h; exact .nil
  | d :: ds, _, h => by cases h with | cons h h2 => exact .cons (Rep.up e d _ h) (Reps.up e ds _ h2)
end
theorem Rep.ext {v : V} {d : D} (h : Rep K F ι v d) (e : Ext F ι F' ι') : Rep K F' ι' v d := Rep.up e d v h
theorem Reps.ext {vs : List V} {ds : List D} (h : Reps K F ι vs ds) (e : Ext F ι F' ι') : Reps K F' ι' vs ds := Reps.up e ds vs h
theorem Reps.len {ds : List D} : ∀ {vs : List V}, Reps K F ι vs ds → vs.length = ds.length := by
  induction ds with
  | nil => intro vs h; cases h; rfl
  | cons d ds ih => intro vs h; cases h with | cons _ h => rw [List.length_cons, List.length_cons, ih h]
theorem Reps.get {ds : List D} : ∀ {vs : List V} {i : Nat} {d : D}, Reps K F ι vs ds → ds[i]? = some d → ∃ v, vs[i]? = some v ∧ Rep K F ι v d := by
  induction ds with
  | nil => intro vs i d h e; simp at e
  | cons x ds ih =>
    intro vs i d h e
    cases h with
    | cons h1 h2 =>
      cases i with
      | zero => simp at e; subst e; exact ⟨_, rfl, h1⟩
      | succ i => obtain ⟨v, e2, r⟩ := ih h2 (by simpa using e); exact ⟨v, by simpa using e2, r⟩
theorem Reps.getV {ds : List D} : ∀ {vs : List V} {i : Nat} {v : V}, Reps K F ι vs ds → vs[i]? = some v → ∃ d, ds[i]? = some d ∧ Rep K F ι v d := by
  induction ds with
  | nil => intro vs i d h e; cases h; simp at e
  | cons x ds ih =>
    intro vs i d h e
    cases h with
    | cons h1 h2 =>
      cases i with
      | zero => simp at e; subst e; exact ⟨_, rfl, h1⟩
      | succ i => obtain ⟨v, e2, r⟩ := ih h2 (by simpa using e); exact ⟨v, by simpa using e2, r⟩
theorem Reps.app {xs : List D} : ∀ {us ws : List V} {ys : List D}, Reps K F ι us xs → Reps K F ι ws ys → Reps K F ι (us ++ ws) (xs ++ ys) := by
  induction xs with
  | nil => intro us ws ys h g; cases h; exact g
  | cons x xs ih => intro us ws ys h g; cases h with | cons h1 h2 => exact .cons h1 (ih h2 g)
theorem Reps.take {xs : List D} : ∀ {us : List V} (n : Nat), Reps K F ι us xs → Reps K F ι (us.take n) (xs.take n) := by
  induction xs with
  | nil => intro us n h; cases h; simp; exact .nil
  | cons x xs ih =>
    intro us n h
    cases h with
    | cons h1 h2 =>
      cases n with
      | zero => simp; exact .nil
      | succ n => simp; exact .cons h1 (ih n h2)
theorem Reps.drop {xs : List D} : ∀ {us : List V} (n : Nat), Reps K F ι us xs → Reps K F ι (us.drop n) (xs.drop n) := by
  induction xs with
  | nil => intro us n h; cases h; simp; exact .nil
  | cons x xs ih =>
    intro us n h
    cases h with
    | cons h1 h2 =>
      cases n with
      | zero => exact .cons h1 h2
      | succ n => simp; exact ih n h2
theorem Reps.rev {xs : List D} : ∀ {us : List V}, Reps K F ι us xs → Reps K F ι us.reverse xs.reverse := by
  induction xs with
  | nil => intro us h; cases h; exact .nil
  | cons x xs ih =>
    intro us h
    cases h with
    | cons h1 h2 => rw [List.reverse_cons, List.reverse_cons]; exact (ih h2).app (.cons h1 .nil)
theorem Reps.set {xs : List D} : ∀ {us : List V} (n : Nat) {v : V} {d : D}, Reps K F ι us xs → Rep K F ι v d → Reps K F ι (us.set n v) (xs.set n d) := by
  induction xs with
  | nil => intro us n v d h r; cases h; exact .nil
  | cons x xs ih =>
    intro us n v d h r
    cases h with
    | cons h1 h2 =>
      cases n with
      | zero => exact .cons r h2
      | succ n => exact .cons h1 (ih n h2 r)
theorem Reps.rep {xs : List D} {us : List V} (h : Reps K F ι us xs) : ∀ n : Nat, Reps K F ι (List.replicate n us).flatten (List.replicate n xs).flatten
  | 0 => .nil
  | n + 1 => by rw [List.replicate_succ, List.replicate_succ, List.flatten_cons, List.flatten_cons]; exact h.app (Reps.rep h n)
theorem Reps.dropLast {xs : List D} {us : List V} (h : Reps K F ι us xs) : Reps K F ι us.dropLast xs.dropLast := by
  rw [List.dropLast_eq_take, List.dropLast_eq_take, h.len]
  exact h.take _
theorem Reps.ints : ∀ (ns : List Int), Reps K F ι (ns.map V.int) (ns.map D.int)
  | [] => .nil
  | n :: ns => .cons (.int n) (Reps.ints ns)
end

/-! ### the store -/
/-- a pair of a dict, of an instance -/
inductive RepK (K : PySem.W.Frag) (F : Hp) (ι : List Addr) : List (Key × V) → List (Str × D) → Prop
  | nil : RepK K F ι [] []
  | cons {f : Str} {v : V} {d : D} {l : List (Key × V)} {r : List (Str × D)} : Rep K F ι v d → RepK K F ι l r → RepK K F ι ((Sum.inr f, v) :: l) ((f, d) :: r)
inductive RepF (K : PySem.W.Frag) (F : Hp) (ι : List Addr) : List (Str × V) → List (Str × D) → Prop
  | nil : RepF K F ι [] []
  | cons {f : Str} {v : V} {d : D} {l : List (Str × V)} {r : List (Str × D)} : Rep K F ι v d → RepF K F ι l r → RepF K F ι ((f, v) :: l) ((f, d) :: r)
def CellAt (cA : Nat → Addr) (K : PySem.W.Frag) (F : Hp) (ι : List Addr) : Cell → Option HO → Prop
  | .lst ds, o => ∃ vs, o = some (.lst vs) ∧ Reps K F ι vs ds
  | .dic kvs, o => ∃ l, o = some (.dK l) ∧ RepK K F ι l kvs
  | .ins c fs, o => ∃ dx l, o = some (.ins (cA c) dx l) ∧ RepF K F ι l fs
  | .dead, _ => True
def live : Cell → Prop
  | .dead => False
  | _ => True
structure Rel (cA : Nat → Addr) (K : PySem.W.Frag) (F : Hp) (ι : List Addr) (S : Store) (H : Hp) : Prop where
  sub : ∀ a o, F a = some o → H a = some o
  len : ι.length = S.length
  cell : ∀ (n : Nat) (c : Cell), S[n]? = some c → live c → ∃ a, ι[n]? = some a ∧ F a = none ∧ CellAt cA K F ι c (H a)
  inj : ∀ (i j : Nat) (a : Addr) (c c' : Cell), ι[i]? = some a → ι[j]? = some a → S[i]? = some c → S[j]? = some c' → live c → live c' → i = j
section
variable {cA : Nat → Addr} {K : PySem.W.Frag} {F F' H H' : Hp} {ι ι' : List Addr} {S S' : Store} {a p : Addr} {o : HO} {c : Cell}
theorem RepK.ext (e : Ext F ι F' ι') {l : List (Key × V)} {r : List (Str × D)} (h : RepK K F ι l r) : RepK K F' ι' l r := by
  induction h with
  | nil => exact .nil
  | cons h _ ih => exact .cons (h.ext e) ih
theorem RepF.ext (e : Ext F ι F' ι') {l : List (Str × V)} {r : List (Str × D)} (h : RepF K F ι l r) : RepF K F' ι' l r := by
  induction h with
  | nil => exact .nil
  | cons h _ ih => exact .cons (h.ext e) ih
theorem CellAt.ext (e : Ext F ι F' ι') : ∀ {c : Cell} {o : Option HO}, CellAt cA K F ι c o → CellAt cA K F' ι' c o
  | .lst _, _, ⟨vs, h1, h2⟩ => ⟨vs, h1, h2.ext e⟩
  | .dic _, _, ⟨l, h1, h2⟩ => ⟨l, h1, h2.ext e⟩
  | .ins _ _, _, ⟨dx, l, h1, h2⟩ => ⟨dx, l, h1, h2.ext e⟩
  | .dead, _, _ => True.intro
theorem CellAt.some {c : Cell} {o : Option HO} (h : CellAt cA K F ι c o) (l : live c) : ∃ u, o = some u := by
  cases c with
  | lst _ => obtain ⟨_, e, _⟩ := h; exact ⟨_, e⟩
  | dic _ => obtain ⟨_, e, _⟩ := h; exact ⟨_, e⟩
  | ins _ _ => obtain ⟨_, _, e, _⟩ := h; exact ⟨_, e⟩
  | dead => exact l.elim
theorem Rel.cellNe (r : Rel cA K F ι S H) (hp : H p = none) {n : Nat} {a : Addr} (hc : S[n]? = some c) (hl : live c) (ha : ι[n]? = some a) : a ≠ p := by
  obtain ⟨a', e, _, q⟩ := r.cell n c hc hl
  rw [ha] at e; cases e
  obtain ⟨u, e⟩ := q.some hl
  exact ne_of_none e hp
theorem Rel.freeF (r : Rel cA K F ι S H) (hp : H p = none) : F p = none := by
  cases e : F p with
  | none => rfl
  | some o => rw [r.sub _ _ e] at hp; cases hp
theorem Ext.fresh (hp : F p = none) (o : HO) : Ext F ι (upd F p o) ι := ⟨fun a u h => by rw [upd_ne (ne_of_none h hp)]; exact h, fun _ _ h => h⟩
/-- something new that never changes -/
theorem Rel.fresh (r : Rel cA K F ι S H) (hp : H p = none) (o : HO) : Rel cA K (upd F p o) ι S (upd H p o) where
  sub := fun a u h => by
    by_cases e : a = p
    · subst e; rw [upd_same] at h ⊢; exact h
    · rw [upd_ne e] at h ⊢; exact r.sub a u h
  len := r.len
  cell := fun n c hc hl => by
    obtain ⟨a, h1, h2, h3⟩ := r.cell n c hc hl
    have ne : a ≠ p := r.cellNe hp hc hl h1
    exact ⟨a, h1, by rw [upd_ne ne]; exact h2, by rw [upd_ne ne]; exact h3.ext (Ext.fresh (r.freeF hp) o)⟩
  inj := r.inj
/-- garbage: a new object that nobody names -/
theorem Rel.junk (r : Rel cA K F ι S H) (k : ∀ a o, H a = some o → H' a = some o) : Rel cA K F ι S H' where
  sub := fun a u h => k _ _ (r.sub a u h)
  len := r.len
  cell := fun n c hc hl => by
    obtain ⟨a, h1, h2, h3⟩ := r.cell n c hc hl
    obtain ⟨u, e⟩ := h3.some hl
    refine ⟨a, h1, h2, ?_⟩
    rw [k _ _ e]
    rw [e] at h3
    exact h3
  inj := r.inj
theorem Ext.more (F : Hp) (ι : List Addr) (l : List Addr) : Ext F ι F (ι ++ l) := ⟨fun _ _ h => h, fun n a h => by
  rw [List.getElem?_append_left (List.getElem?_eq_some_iff.mp h).1]; exact h⟩
/-- a new place -/
theorem Rel.place (r : Rel cA K F ι S H) (hp : H p = none) (c : Cell) (hc : CellAt cA K F ι c (some o)) : Rel cA K F (ι ++ [p]) (S ++ [c]) (upd H p o) where
  sub := fun a u h => by
    have h' := r.sub a u h
    rw [upd_ne (ne_of_none h' hp)]; exact h'
  len := by rw [List.length_append, List.length_append, r.len]; rfl
  cell := fun n c' hc' hl => by
    by_cases hn : n < S.length
    · rw [List.getElem?_append_left hn] at hc'
      obtain ⟨a, h1, h2, h3⟩ := r.cell n c' hc' hl
      have ne : a ≠ p := r.cellNe hp hc' hl h1
      exact ⟨a, (Ext.more F ι [p]).pl _ _ h1, h2, by rw [upd_ne ne]; exact h3.ext (Ext.more F ι [p])⟩
    · have hn2 : n = S.length := by
        have := (List.getElem?_eq_some_iff.mp hc').1
        simp at this; omega
      subst hn2
      simp at hc'
      subst hc'
      refine ⟨p, by rw [← r.len]; simp, r.freeF hp, ?_⟩
      rw [upd_same]
      exact hc.ext (Ext.more F ι [p])
  inj := fun i j a c1 c2 h1 h2 h3 h4 l1 l2 => by
    have key : ∀ (i : Nat) (c1 : Cell), (ι ++ [p])[i]? = some a → (S ++ [c])[i]? = some c1 → live c1 → (i < S.length ∧ ι[i]? = some a ∧ S[i]? = some c1 ∧ a ≠ p) ∨ (i = S.length ∧ a = p) := by
      intro i c1 h1 h3 l1
      by_cases hi : i < S.length
      · rw [List.getElem?_append_left (by rw [r.len]; exact hi)] at h1
        rw [List.getElem?_append_left hi] at h3
        exact .inl ⟨hi, h1, h3, r.cellNe hp h3 l1 h1⟩
      · have hi2 : i = S.length := by
          have := (List.getElem?_eq_some_iff.mp h3).1
          simp at this; omega
        subst hi2
        rw [← r.len] at h1
        simp at h1
        exact .inr ⟨rfl, h1.symm⟩
    rcases key i c1 h1 h3 l1 with ⟨_, x1, x2, x3⟩ | ⟨x1, x2⟩
    · rcases key j c2 h2 h4 l2 with ⟨_, y1, y2, y3⟩ | ⟨y1, y2⟩
      · exact r.inj i j a c1 c2 x1 y1 x2 y2 l1 l2
      · exact absurd y2 x3
    · rcases key j c2 h2 h4 l2 with ⟨_, y1, y2, y3⟩ | ⟨y1, y2⟩
      · exact absurd x2 y3
      · rw [x1, y1]
/-- a place is written -/
theorem Rel.write {n : Nat} {c0 : Cell} (r : Rel cA K F ι S H) (h0 : S[n]? = some c0) (l0 : live c0) (ha : ι[n]? = some a) (c : Cell) (hc : CellAt cA K F ι c (some o)) : Rel cA K F ι (S.set n c) (upd H a o) where
  sub := fun b u h => by
    obtain ⟨a', e, hF, _⟩ := r.cell n c0 h0 l0
    rw [ha] at e; cases e
    have ne : b ≠ a := fun z => by rw [z, hF] at h; cases h
    rw [upd_ne ne]; exact r.sub b u h
  len := by rw [List.length_set, r.len]
  cell := fun m c' hc' hl => by
    have hn : n < S.length := (List.getElem?_eq_some_iff.mp h0).1
    obtain ⟨a', e, hF, _⟩ := r.cell n c0 h0 l0
    rw [ha] at e; cases e
    by_cases hm : m = n
    · subst hm
      rw [List.getElem?_set_self hn] at hc'
      cases hc'
      exact ⟨a, ha, hF, by rw [upd_same]; exact hc⟩
    · rw [List.getElem?_set_ne (Ne.symm hm)] at hc'
      obtain ⟨b, h1, h2, h3⟩ := r.cell m c' hc' hl
      have ne : b ≠ a := fun z => by
        subst z
        exact hm (r.inj m n b c' c0 h1 ha hc' h0 hl l0)
      exact ⟨b, h1, h2, by rw [upd_ne ne]; exact h3⟩
  inj := fun i j b c1 c2 h1 h2 h3 h4 l1 l2 => by
    have hn : n < S.length := (List.getElem?_eq_some_iff.mp h0).1
    have key : ∀ (i : Nat) (c1 : Cell), (S.set n c)[i]? = some c1 → live c1 → ∃ c3, S[i]? = some c3 ∧ live c3 := by
      intro i c1 h l
      by_cases hi : i = n
      · subst hi; exact ⟨c0, h0, l0⟩
      · rw [List.getElem?_set_ne (Ne.symm hi)] at h; exact ⟨c1, h, l⟩
    obtain ⟨c3, q1, q2⟩ := key i c1 h3 l1
    obtain ⟨c4, q3, q4⟩ := key j c2 h4 l2
    exact r.inj i j b c3 c4 h1 h2 q1 q3 q2 q4
end
end Ev
namespace Ev
open PySem PySem.Spec PyProof.Rows L2

theorem LIM_eq : LIM = sizeLine := by rw [sizeLine_eq]; rfl

/-! ### == of data -/
mutual
def toP : D → PyData
  | .bl b => .bool b | .int i => .int i | .str x => .str x
  | .tup xs => .tuple (toPs xs) | .lst xs => .list (toPs xs)
  | _ => .none
def toPs : List D → List PyData
  | [] => []
  | x :: xs => toP x :: toPs xs
end
section
variable {K : PySem.W.Frag} {F H : Hp} {ι : List Addr}
mutual
theorem dp_of (sub : ∀ a o, F a = some o → H a = some o) : ∀ (d : D) (n : Nat) (v : V), flat n d = true → Rep K F ι v d → Dp K H v (toP d)
  | .non, _, _, _, h => by cases h; exact .non
  | .bl _, _, _, _, h => by cases h; exact .bl _
  | .int _, _, _, _, h => by cases h; exact .int _
  | .str _, _, _, _, h => by cases h; exact .str _
  | .scr _, _, _, f, _ => by simp [flat] at f
  | .tup ds, 0, _, f, _ => by simp [flat] at f
  | .tup ds, n + 1, _, f, h => by
    cases h with
    | tup h h2 => rw [toP]; exact .tup (SqT.up sub h) (dps_of sub ds n _ (by simpa [flat] using f) h2)
  | .lst ds, 0, _, f, _ => by simp [flat] at f
  | .lst ds, n + 1, _, f, h => by
    cases h with
    | lst h h2 => rw [toP]; exact .lst (SqL.of (sub _ _ h)) (dps_of sub ds n _ (by simpa [flat] using f) h2)
  | .dic _ _, _, _, f, _ => by simp [flat] at f
  | .loc _, _, _, f, _ => by simp [flat] at f
  | .opq _, _, _, f, _ => by simp [flat] at f
theorem dps_of (sub : ∀ a o, F a = some o → H a = some o) : ∀ (ds : List D) (n : Nat) (vs : List V), flats n ds = true → Reps K F ι vs ds → DpAll K H vs (toPs ds)
  | [], _, _, _, h => by cases h; exact .nil
  | d :: ds, n, _, f, h => by
    cases h with
    | cons h1 h2 =>
      have f2 : flat n d = true ∧ flats n ds = true := by simpa [flats] using f
      rw [toPs]
      exact .cons (dp_of sub d n _ f2.1 h1) (dps_of sub ds n _ f2.2 h2)
end
mutual
theorem lay_of : ∀ (d : D) (n : Nat) (v : V), flat n d = true → Rep K F ι v d → PyData.canLay0 (toP d) = true ∧ (toP d).depth ≤ n
  | .non, _, _, _, h => by simp [toP, PyData.canLay0, PyData.depth]
  | .bl _, _, _, _, h => by simp [toP, PyData.canLay0, PyData.depth]
  | .int _, _, _, _, h => by simp [toP, PyData.canLay0, PyData.depth]
  | .str _, _, _, _, h => by
    cases h with
    | str _ h => simp only [toP, PyData.canLay0, PyData.depth]; exact ⟨h, Nat.zero_le _⟩
  | .scr _, _, _, f, _ => by simp [flat] at f
  | .tup ds, 0, _, f, _ => by simp [flat] at f
  | .tup ds, n + 1, _, f, h => by
    cases h with
    | tup h h2 =>
      obtain ⟨a, b⟩ := lays_of ds n _ (by simpa [flat] using f) h2
      simp only [toP, PyData.canLay0, PyData.depth]
      exact ⟨a, by omega⟩
  | .lst ds, 0, _, f, _ => by simp [flat] at f
  | .lst ds, n + 1, _, f, h => by
    cases h with
    | lst h h2 =>
      obtain ⟨a, b⟩ := lays_of ds n _ (by simpa [flat] using f) h2
      simp only [toP, PyData.canLay0, PyData.depth]
      exact ⟨a, by omega⟩
  | .dic _ _, _, _, f, _ => by simp [flat] at f
  | .loc _, _, _, f, _ => by simp [flat] at f
  | .opq _, _, _, f, _ => by simp [flat] at f
theorem lays_of : ∀ (ds : List D) (n : Nat) (vs : List V), flats n ds = true → Reps K F ι vs ds → PyData.canLayAll0 (toPs ds) = true ∧ PyData.depthAll (toPs ds) ≤ n
  | [], _, _, _, h => by simp [toPs, PyData.canLayAll0, PyData.depthAll]
  | d :: ds, n, _, f, h => by
    cases h with
    | cons h1 h2 =>
      have f2 : flat n d = true ∧ flats n ds = true := by simpa [flats] using f
      obtain ⟨a1, b1⟩ := lay_of d n _ f2.1 h1
      obtain ⟨a2, b2⟩ := lays_of ds n _ f2.2 h2
      simp only [toPs, PyData.canLayAll0, PyData.depthAll, a1, a2, Bool.and_self]
      exact ⟨trivial, by omega⟩
end
theorem shaped_of {d : D} {n : Nat} {v : V} (hn : n ≤ 64) (f : flat n d = true) (h : Rep K F ι v d) : SeqAt.shaped (toP d) = true := by
  obtain ⟨a, b⟩ := lay_of d n v f h
  unfold SeqAt.shaped
  rw [a, decide_eq_true (by omega)]
  rfl
end
mutual
theorem eqv_of : ∀ (a : D) (n m : Nat) (b : D), flat n a = true → flat m b = true → PyData.eqv (toP a) (toP b) = eqD a b
  | .non, n, m, b, f, g => by cases b <;> first | (cases m <;> simp [flat] at g; done) | simp [flat, toP, PyData.eqv, eqD] at *
  | .bl _, n, m, b, f, g => by cases b <;> first | (cases m <;> simp [flat] at g; done) | simp [flat, toP, PyData.eqv, eqD] at *
  | .int _, n, m, b, f, g => by cases b <;> first | (cases m <;> simp [flat] at g; done) | simp [flat, toP, PyData.eqv, eqD] at *
  | .str _, n, m, b, f, g => by cases b <;> first | (cases m <;> simp [flat] at g; done) | simp [flat, toP, PyData.eqv, eqD] at *
  | .scr _, n, _, _, f, _ => by simp [flat] at f
  | .dic _ _, n, _, _, f, _ => by simp [flat] at f
  | .loc _, n, _, _, f, _ => by simp [flat] at f
  | .opq _, n, _, _, f, _ => by simp [flat] at f
  | .tup xs, 0, _, _, f, _ => by simp [flat] at f
  | .tup xs, n + 1, m, b, f, g => by
    have f' : flats n xs = true := by simpa [flat] using f
    cases b with
    | tup ys =>
      cases m with
      | zero => simp [flat] at g
      | succ m =>
        have g' : flats m ys = true := by simpa [flat] using g
        simp only [toP, PyData.eqv, eqD]
        exact eqvs_of xs n m ys f' g'
    | _ => first | (cases m <;> simp [flat] at g; done) | simp [flat, toP, PyData.eqv, eqD] at *
  | .lst xs, 0, _, _, f, _ => by simp [flat] at f
  | .lst xs, n + 1, m, b, f, g => by
    have f' : flats n xs = true := by simpa [flat] using f
    cases b with
    | lst ys =>
      cases m with
      | zero => simp [flat] at g
      | succ m =>
        have g' : flats m ys = true := by simpa [flat] using g
        simp only [toP, PyData.eqv, eqD]
        exact eqvs_of xs n m ys f' g'
    | _ => first | (cases m <;> simp [flat] at g; done) | simp [flat, toP, PyData.eqv, eqD] at *
theorem eqvs_of : ∀ (xs : List D) (n m : Nat) (ys : List D), flats n xs = true → flats m ys = true → PyData.eqvAll (toPs xs) (toPs ys) = eqDs xs ys
  | [], n, m, ys, f, g => by cases ys <;> simp [toPs, PyData.eqvAll, eqDs]
  | x :: xs, n, m, ys, f, g => by
    cases ys with
    | nil => simp [toPs, PyData.eqvAll, eqDs]
    | cons y ys =>
      have f2 : flat n x = true ∧ flats n xs = true := by simpa [flats] using f
      have g2 : flat m y = true ∧ flats m ys = true := by simpa [flats] using g
      simp only [toPs, PyData.eqvAll, eqDs]
      rw [eqv_of x n m y f2.1 g2.1, eqvs_of xs n m ys f2.2 g2.2]
end

/-! ### one operation on two values -/
section
variable {cA : Nat → Addr}
def rOp (cA : Nat → Addr) (K : PySem.W.Frag) (op : Store → D → D → Option D) : R2 := fun x y H Q => ∃ F ι S a b d, Rel cA K F ι S H ∧ Rep K F ι x a ∧ Rep K F ι y b ∧ op S a b = some d ∧
  ∀ F' H' v, Ext F ι F' ι → Rel cA K F' ι S H' → Rep K F' ι v d → Q v H'
variable {K : PySem.W.Frag} {F H : Hp} {ι : List Addr} {S : Store} {a : D} {x : V}
theorem items_at (r : Rel cA K F ι S H) {xs : List D} (h : Rep K F ι x a) (e : items S a = some xs) : ∃ p vs, x = .ref p ∧ H p = some (.lst vs) ∧ Reps K F ι vs xs := by
  cases h with
  | lst h1 h2 => simp [items] at e; subst e; exact ⟨_, _, rfl, r.sub _ _ h1, h2⟩
  | @loc n p h1 =>
    simp only [items] at e
    split at e
    · rename_i ys hy
      simp at e
      subst e
      obtain ⟨q, e1, e2, vs, e3, e4⟩ := r.cell n _ hy trivial
      rw [h1] at e1
      cases e1
      exact ⟨_, vs, rfl, e3, e4⟩
    · cases e
  | _ => simp [items] at e
/-- a list, a place told by value -/
theorem val_at (r : Rel cA K F ι S H) {n : Nat} (h : Rep K F ι x a) (f : flat n (byVal S a) = true) (hn : n ≤ 64) : Dp K H x (toP (byVal S a)) ∧ SeqAt.shaped (toP (byVal S a)) = true := by
  cases a with
  | loc m =>
    simp only [byVal] at f ⊢
    split at f
    · rename_i ys hy
      cases n with
      | zero => simp [flat] at f
      | succ n =>
        have f' : flats n ys = true := by simpa [flat] using f
        cases h with
        | loc h1 =>
          obtain ⟨q, e1, e2, vs, e3, e4⟩ := r.cell m _ hy trivial
          rw [h1] at e1
          cases e1
          obtain ⟨l1, l2⟩ := lays_of ys n _ f' e4
          refine ⟨by rw [toP]; exact .lst (SqL.of e3) (dps_of r.sub ys n _ f' e4), ?_⟩
          unfold SeqAt.shaped
          simp only [toP, PyData.canLay0, PyData.depth, l1]
          rw [decide_eq_true (by omega)]
          rfl
    · simp [flat] at f
  | _ => exact ⟨dp_of r.sub _ n _ f h, shaped_of hn f h⟩
/-- a new list -/
theorem fin_lst {Q : VK} {ds : List D} {vs : List V} {p : Addr} (r : Rel cA K F ι S H) (hp : H p = none) (h : Reps K F ι vs ds) (q : ∀ F' H' v, Ext F ι F' ι → Rel cA K F' ι S H' → Rep K F' ι v (.lst ds) → Q v H') : Q (.ref p) (upd H p (.lst vs)) := by
  have e := Ext.fresh (F := F) (ι := ι) (r.freeF hp) (.lst vs)
  exact q _ _ _ e (r.fresh hp _) (.lst upd_same (h.ext e))
theorem fin_tup {Q : VK} {ds : List D} {vs : List V} {p : Addr} (r : Rel cA K F ι S H) (hp : H p = none) (h : Reps K F ι vs ds) (q : ∀ F' H' v, Ext F ι F' ι → Rel cA K F' ι S H' → Rep K F' ι v (.tup ds) → Q v H') : Q (.ref p) (upd H p (.tup vs)) := by
  have e := Ext.fresh (F := F) (ι := ι) (r.freeF hp) (.tup vs)
  exact q _ _ _ e (r.fresh hp _) (.tup (SqT.of upd_same) (h.ext e))
theorem repStr {z : Str} (h : z.cps.toList.all (· < 0x110000) = true) : Rep K F ι (.str z) (.str z) := .str z (by
  unfold okStr PyData.strOk
  rw [← Array.all_toList]; exact h)
theorem strRep {z : Str} {v : V} (h : Rep K F ι v (.str z)) : v = .str z ∧ z.cps.toList.all (· < 0x110000) = true := by
  cases h with
  | str _ h => exact ⟨rfl, by unfold okStr PyData.strOk at h; rw [← Array.all_toList] at h; exact h⟩

variable {X : Cx}
theorem ok_add : OpR X (binaryOp .Add) (rOp cA X.K fun S => op2 S .add) := by
  intro pins s σ H x y v u Q I rx ry h
  obtain ⟨F, ι, S, a, b, d, r, ra, rb, e, q⟩ := h
  have lists : (addL S a b).map D.lst = some d → wpAny (model X.prog X.w) X.A (binaryOp .Add v u) (EP X pins σ Q) X.xe s := fun e => by
    obtain ⟨zs, e1, rfl⟩ := Option.map_eq_some_iff.mp e
    unfold addL at e1
    split at e1
    · rename_i xs ys h1 h2
      split at e1
      · rename_i hl
        cases e1
        obtain ⟨p, vs, rfl, hp, hv⟩ := items_at r ra h1
        obtain ⟨p', ws, rfl, hp', hw⟩ := items_at r rb h2
        refine op_cat pins s σ H _ _ v u Q I rx ry ⟨p, p', vs, ws, rfl, rfl, hp, hp', by rw [hv.len, hw.len, ← LIM_eq]; exact hl, fun c hc => ?_⟩
        exact fin_lst r hc (hv.app hw) q
      · cases e1
    · cases e1
  cases a with
  | int i =>
    cases b with
    | int j =>
      simp only [op2, Option.some.injEq] at e
      subst e
      cases ra; cases rb
      exact op_add pins s σ H _ _ v u Q I rx ry ⟨i, j, rfl, rfl, q F H _ (Ext.refl ..) r (.int _)⟩
    | _ => exact lists (by simpa only [op2] using e)
  | str z =>
    cases b with
    | str w =>
      simp only [op2] at e
      split at e
      · rename_i hl
        cases e
        obtain ⟨rfl, o1⟩ := strRep ra
        obtain ⟨rfl, o2⟩ := strRep rb
        refine op_add_str pins s σ H _ _ v u Q I rx ry ⟨z, w, rfl, rfl, by rw [← LIM_eq]; exact hl, q F H _ (Ext.refl ..) r (repStr ?_)⟩
        show (z.cps ++ w.cps).toList.all _ = true
        rw [Array.toList_append, List.all_append, o1, o2]; rfl
      · cases e
    | _ => exact lists (by simpa only [op2] using e)
  | tup xs =>
    cases b with
    | tup ys =>
      simp only [op2] at e
      split at e
      · rename_i hl
        cases e
        cases ra with
        | tup h1 h2 =>
          cases rb with
          | tup g1 g2 =>
            refine op_catA pins s σ H _ _ v u Q I rx ry ⟨_, _, _, _, rfl, rfl, SqT.up r.sub h1, SqT.up r.sub g1, by rw [h2.len, g2.len, ← LIM_eq]; exact hl, fun z => ?_, fun z1 z => ?_, fun z1 z2 c hc => ?_⟩
            · subst z
              cases h2
              exact q F H _ (Ext.refl ..) r (.tup g1 g2)
            · subst z
              cases g2
              rw [List.append_nil] at q
              exact q F H _ (Ext.refl ..) r (.tup h1 h2)
            · exact fin_tup r hc (h2.app g2) q
      · cases e
    | _ => exact lists (by simpa only [op2] using e)
  | _ => exact lists (by simpa only [op2] using e)
/-- ints in, a scalar out -/
theorem ok_int {f : Value → Value → Sem Value} {C : Int → Int → Prop} {g : Int → Int → V} {op : Store → D → D → Option D} (h : OpR X f (rI C g))
    (hi : ∀ S a b d, op S a b = some d → ∃ i j, a = .int i ∧ b = .int j ∧ C i j ∧ ∀ F ι, Rep X.K F ι (g i j) d) : OpR X f (rOp cA X.K op) := by
  intro pins s σ H x y v u Q I rx ry q
  obtain ⟨F, ι, S, a, b, d, r, ra, rb, e, q⟩ := q
  obtain ⟨i, j, rfl, rfl, c, hr⟩ := hi _ _ _ _ e
  cases ra; cases rb
  exact h pins s σ H _ _ v u Q I rx ry ⟨i, j, rfl, rfl, c, q F H _ (Ext.refl ..) r (hr ..)⟩
theorem rI0_rI {f : Value → Value → Sem Value} {g : Int → Int → V} (h : OpR X f (rI0 g)) : OpR X f (rI (fun _ _ => True) g) := by
  intro pins s σ H x y v u Q I rx ry q
  obtain ⟨i, j, e1, e2, _, q⟩ := q
  exact h pins s σ H x y v u Q I rx ry ⟨i, j, e1, e2, q⟩
theorem ok_sub : OpR X (binaryOp .Sub) (rOp cA X.K fun S => op2 S .sub) := ok_int (rI0_rI op_sub) fun S a b d e => by
  cases a <;> cases b <;> simp [op2] at e
  subst e; exact ⟨_, _, rfl, rfl, trivial, fun _ _ => .int _⟩
theorem ok_fdiv : OpR X (binaryOp .FloorDiv) (rOp cA X.K fun S => op2 S .fdiv) := ok_int op_fdiv fun S a b d e => by
  cases a <;> cases b <;> simp [op2] at e
  obtain ⟨h, e⟩ := e
  subst e; exact ⟨_, _, rfl, rfl, h, fun _ _ => .int _⟩
theorem ok_mod : OpR X (binaryOp .Mod) (rOp cA X.K fun S => op2 S .mod) := ok_int op_mod fun S a b d e => by
  cases a <;> cases b <;> simp [op2] at e
  obtain ⟨h, e⟩ := e
  subst e; exact ⟨_, _, rfl, rfl, h, fun _ _ => .int _⟩
theorem ok_pow : OpR X (binaryOp .Pow) (rOp cA X.K fun S => op2 S .pow) := ok_int op_pow fun S a b d e => by
  cases a <;> cases b <;> simp [op2] at e
  obtain ⟨⟨h1, h2, h3⟩, e⟩ := e
  subst e; exact ⟨_, _, rfl, rfl, ⟨h1, by omega, Nat.lt_trans h3 (by decide)⟩, fun _ _ => .int _⟩
theorem ok_lt : OpR X (compareOp .Lt) (rOp cA X.K fun S => op2 S .lt) := ok_int (rI0_rI op_lt) fun S a b d e => by
  cases a <;> cases b <;> simp [op2] at e
  subst e; exact ⟨_, _, rfl, rfl, trivial, fun _ _ => .bl _⟩
theorem ok_le : OpR X (compareOp .LtE) (rOp cA X.K fun S => op2 S .le) := ok_int (rI0_rI op_le) fun S a b d e => by
  cases a <;> cases b <;> simp [op2] at e
  subst e; exact ⟨_, _, rfl, rfl, trivial, fun _ _ => .bl _⟩
theorem ok_gt : OpR X (compareOp .Gt) (rOp cA X.K fun S => op2 S .gt) := ok_int (rI0_rI op_gt) fun S a b d e => by
  cases a <;> cases b <;> simp [op2] at e
  subst e; exact ⟨_, _, rfl, rfl, trivial, fun _ _ => .bl _⟩
theorem ok_ge : OpR X (compareOp .GtE) (rOp cA X.K fun S => op2 S .ge) := ok_int (rI0_rI op_ge) fun S a b d e => by
  cases a <;> cases b <;> simp [op2] at e
  subst e; exact ⟨_, _, rfl, rfl, trivial, fun _ _ => .bl _⟩
theorem ok_mul : OpR X (binaryOp .Mult) (rOp cA X.K fun S => op2 S .mul) := by
  intro pins s σ H x y v u Q I rx ry h
  obtain ⟨F, ι, S, a, b, d, r, ra, rb, e, q⟩ := h
  have lists : (mulL S a b).map D.lst = some d → wpAny (model X.prog X.w) X.A (binaryOp .Mult v u) (EP X pins σ Q) X.xe s := fun e => by
    obtain ⟨zs, e1, rfl⟩ := Option.map_eq_some_iff.mp e
    unfold mulL at e1
    split at e1
    · rename_i xs k h1 he
      split at e1
      · rename_i hl
        cases e1
        obtain ⟨p, vs, rfl, hp, hv⟩ := items_at r ra h1
        cases rb
        refine op_rep pins s σ H _ _ v u Q I rx ry ⟨p, k, vs, rfl, rfl, hp, by omega, by omega, by rw [hv.len, ← LIM_eq]; exact hl.2.2, fun c hc => ?_⟩
        exact fin_lst r hc (hv.rep _) q
      · cases e1
    · cases e1
  cases a with
  | int i =>
    cases b with
    | int j =>
      simp only [op2] at e
      split at e
      · rename_i hl
        cases e
        cases ra; cases rb
        exact op_mul pins s σ H _ _ v u Q I rx ry ⟨i, j, rfl, rfl, .inl hl, q F H _ (Ext.refl ..) r (.int _)⟩
      · cases e
    | _ => exact lists (by simpa only [op2] using e)
  | _ => exact lists (by simpa only [op2] using e)
theorem ok_eq (hu : X.A.units + 64 < cLine) : OpR X (compareOp .Eq) (rOp cA X.K fun S => op2 S .eq) := by
  intro pins s σ H x y v u Q I rx ry h
  obtain ⟨F, ι, S, a, b, d, r, ra, rb, e, q⟩ := h
  simp only [op2] at e
  split at e
  · rename_i hf
    obtain ⟨f1, f2⟩ := Bool.and_eq_true_iff.mp hf
    cases e
    obtain ⟨d1, s1⟩ := val_at r ra f1 (by decide)
    obtain ⟨d2, s2⟩ := val_at r rb f2 (by decide)
    refine op_eqD hu pins s σ H _ _ v u Q I rx ry ⟨_, _, d1, d2, s1, s2, ?_⟩
    rw [eqv_of _ _ _ _ f1 f2]
    exact q F H _ (Ext.refl ..) r (.bl _)
  · cases e
theorem ok_ne (hu : X.A.units + 64 < cLine) : OpR X (compareOp .NotEq) (rOp cA X.K fun S => op2 S .ne) := by
  intro pins s σ H x y v u Q I rx ry h
  obtain ⟨F, ι, S, a, b, d, r, ra, rb, e, q⟩ := h
  simp only [op2] at e
  split at e
  · rename_i hf
    obtain ⟨f1, f2⟩ := Bool.and_eq_true_iff.mp hf
    cases e
    obtain ⟨d1, s1⟩ := val_at r ra f1 (by decide)
    obtain ⟨d2, s2⟩ := val_at r rb f2 (by decide)
    refine op_neD hu pins s σ H _ _ v u Q I rx ry ⟨_, _, d1, d2, s1, s2, ?_⟩
    rw [eqv_of _ _ _ _ f1 f2]
    exact q F H _ (Ext.refl ..) r (.bl _)
  · cases e
theorem isNon_of {v : V} {d : D} (h : Rep K F ι v d) : decide (v = .non) = isNon d := by
  cases h <;> simp [isNon]
theorem ok_is : OpR X (compareOp .Is) (rOp cA X.K fun S => op2 S .is_) := by
  intro pins s σ H x y v u Q I rx ry h
  obtain ⟨F, ι, S, a, b, d, r, ra, rb, e, q⟩ := h
  simp only [op2] at e
  obtain ⟨c, e1, rfl⟩ := Option.map_eq_some_iff.mp e
  unfold isD at e1
  split at e1
  · cases e1
    cases ra; cases rb
    refine op_isBl pins s σ H _ _ v u Q I rx ry ⟨_, _, rfl, rfl, ?_⟩
    rw [← Bool.beq_eq_decide_eq]
    exact q F H _ (Ext.refl ..) r (.bl _)
  · cases e1
    cases rb
    refine op_isN pins s σ H _ _ v u Q I rx ry ⟨rfl, ?_⟩
    rw [isNon_of ra]
    exact q F H _ (Ext.refl ..) r (.bl _)
  · cases e1
theorem ok_isnt : OpR X (compareOp .IsNot) (rOp cA X.K fun S => op2 S .isnt) := by
  intro pins s σ H x y v u Q I rx ry h
  obtain ⟨F, ι, S, a, b, d, r, ra, rb, e, q⟩ := h
  simp only [op2] at e
  obtain ⟨c, e1, rfl⟩ := Option.map_eq_some_iff.mp e
  unfold isD at e1
  split at e1
  · cases e1
    cases ra; cases rb
    refine op_notBl pins s σ H _ _ v u Q I rx ry ⟨_, _, rfl, rfl, ?_⟩
    rw [← Bool.beq_eq_decide_eq]
    exact q F H _ (Ext.refl ..) r (.bl _)
  · cases e1
    cases rb
    refine op_notN pins s σ H _ _ v u Q I rx ry ⟨rfl, ?_⟩
    rw [isNon_of ra]
    exact q F H _ (Ext.refl ..) r (.bl _)
  · cases e1
end
end Ev
namespace Ev
open PySem PySem.Spec PyProof.Rows L2
section
variable {cA : Nat → Addr} {K : PySem.W.Frag} {F H : Hp} {ι : List Addr} {S : Store} {a : D} {x : V} {X : Cx}

/-! ### in -/
theorem flat0_V {d : D} {v : V} (f : flat 0 d = true) (h : Rep K F ι v d) : flatV v = true := by
  cases h <;> first | rfl | simp [flat] at f
theorem flats0_V : ∀ {ds : List D} {vs : List V}, flats 0 ds = true → Reps K F ι vs ds → vs.all flatV = true
  | [], _, _, h => by cases h; rfl
  | d :: ds, _, f, h => by
    cases h with
    | cons h1 h2 =>
      have f2 : flat 0 d = true ∧ flats 0 ds = true := by simpa [flats] using f
      rw [List.all_cons, flat0_V f2.1 h1, flats0_V f2.2 h2]
      rfl
theorem eqV_eqD {d e : D} {v w : V} (f : flat 0 d = true) (g : flat 0 e = true) (h : Rep K F ι v d) (h' : Rep K F ι w e) : eqV v w = eqD d e := by
  cases h <;> first | (simp [flat] at f; done) | (cases h' <;> first | (simp [flat] at g; done) | rfl)
theorem any_eqD {e : D} {w : V} (g : flat 0 e = true) (h' : Rep K F ι w e) : ∀ {ds : List D} {vs : List V}, flats 0 ds = true → Reps K F ι vs ds → (vs.any fun v => eqV v w) = ds.any fun d => eqD d e
  | [], _, _, h => by cases h; rfl
  | d :: ds, _, f, h => by
    cases h with
    | cons h1 h2 =>
      have f2 : flat 0 d = true ∧ flats 0 ds = true := by simpa [flats] using f
      rw [List.any_cons, List.any_cons, eqV_eqD f2.1 g h1 h', any_eqD g h' f2.2 h2]
theorem anyP_eqD {e : D} {n m : Nat} (g : flat n e = true) : ∀ {ds : List D}, flats m ds = true → ((toPs ds).any fun z => PyData.eqv z (toP e)) = ds.any fun d => eqD d e
  | [], _ => rfl
  | d :: ds, f => by
    have f2 : flat m d = true ∧ flats m ds = true := by simpa [flats] using f
    rw [toPs, List.any_cons, List.any_cons, eqv_of d m n e f2.1 g, anyP_eqD g f2.2]
theorem items_dp (r : Rel cA K F ι S H) {n : Nat} (hn : n < 64) {xs : List D} (h : Rep K F ι x a) (e : items S a = some xs) (f : flats n xs = true) : Dp K H x (.list (toPs xs)) ∧ SeqAt.shaped (.list (toPs xs)) = true := by
  obtain ⟨p, vs, rfl, hp, hv⟩ := items_at r h e
  obtain ⟨l1, l2⟩ := lays_of xs n _ f hv
  refine ⟨.lst (SqL.of hp) (dps_of r.sub xs n _ f hv), ?_⟩
  show (PyData.canLayAll0 (toPs xs) && decide (PyData.depthAll (toPs xs) + 1 ≤ 64)) = true
  rw [l1, decide_eq_true (by omega)]
  rfl
theorem one_sign {z : Str} (h : z.length = 1) : z = ⟨#[z.cps.getD 0 0]⟩ := by
  obtain ⟨⟨l⟩⟩ := z
  match l, h with
  | [c], _ => rfl
  | [], h => simp [Str.length] at h
  | _ :: _ :: _, h => simp [Str.length] at h
theorem ok_in (hu : X.A.units + 65 < cLine) : OpR X (compareOp .In) (rOp cA X.K fun S => op2 S .in_) := by
  intro pins s σ H x y v u Q I rx ry h
  obtain ⟨F, ι, S, a, b, d, r, ra, rb, e, q⟩ := h
  have lists : (inL S a b).map (D.bl) = some d → wpAny (model X.prog X.w) X.A (compareOp .In v u) (EP X pins σ Q) X.xe s := fun e => by
    obtain ⟨c, e1, rfl⟩ := Option.map_eq_some_iff.mp e
    unfold inL at e1
    split at e1
    · rename_i ys hy
      split at e1
      · rename_i hf
        obtain ⟨f1, f2⟩ := Bool.and_eq_true_iff.mp hf
        cases e1
        obtain ⟨p1, p2⟩ := items_dp r (by decide) rb hy f2
        refine op_inD hu pins s σ H _ _ v u Q I rx ry ⟨_, _, dp_of r.sub a 15 _ f1 ra, p1, shaped_of (by decide) f1 ra, p2, ?_⟩
        rw [anyP_eqD f1 f2]
        exact q F H _ (Ext.refl ..) r (.bl _)
      · cases e1
    · cases e1
  have tups : ∀ ys, b = .tup ys → (inT a ys).map (D.bl) = some d → wpAny (model X.prog X.w) X.A (compareOp .In v u) (EP X pins σ Q) X.xe s := fun ys eb em => by
    subst eb
    obtain ⟨c, e1, rfl⟩ := Option.map_eq_some_iff.mp em
    unfold inT at e1
    split at e1
    · rename_i hf
      obtain ⟨f1, f2⟩ := Bool.and_eq_true_iff.mp hf
      cases e1
      cases rb with
      | tup h1 h2 =>
        refine op_in_seq pins s σ H _ _ v u Q I rx ry ⟨_, _, rfl, .inr (SqT.up r.sub h1), flat0_V f1 ra, flats0_V f2 h2, ?_⟩
        have e1 : inV x _ = _ := any_eqD f1 ra f2 h2
        rw [if_neg Bool.false_ne_true, e1]
        exact q F H _ (Ext.refl ..) r (.bl _)
    · cases e1
  cases b with
  | str w =>
    cases a with
    | str z =>
      simp only [op2] at e
      split at e
      · rename_i hl
        cases e
        obtain ⟨rfl, _⟩ := strRep ra
        obtain ⟨rfl, _⟩ := strRep rb
        refine op_in_sign pins s σ H _ _ v u Q I rx ry ⟨z.cps.getD 0 0, w, congrArg V.str (one_sign hl), rfl, ?_⟩
        rw [← List.contains_eq_mem]
        exact q F H _ (Ext.refl ..) r (.bl _)
      · cases e
    | _ => exact lists e
  | tup ys =>
    cases a <;> exact tups ys rfl e
  | _ => cases a <;> exact lists e
theorem ok_notin (hu : X.A.units + 65 < cLine) : OpR X (compareOp .NotIn) (rOp cA X.K fun S => op2 S .notin) := by
  intro pins s σ H x y v u Q I rx ry h
  obtain ⟨F, ι, S, a, b, d, r, ra, rb, e, q⟩ := h
  have lists : (inL S a b).map (fun c => D.bl (!c)) = some d → wpAny (model X.prog X.w) X.A (compareOp .NotIn v u) (EP X pins σ Q) X.xe s := fun e => by
    obtain ⟨c, e1, rfl⟩ := Option.map_eq_some_iff.mp e
    unfold inL at e1
    split at e1
    · rename_i ys hy
      split at e1
      · rename_i hf
        obtain ⟨f1, f2⟩ := Bool.and_eq_true_iff.mp hf
        cases e1
        obtain ⟨p1, p2⟩ := items_dp r (by decide) rb hy f2
        refine op_notInD hu pins s σ H _ _ v u Q I rx ry ⟨_, _, dp_of r.sub a 15 _ f1 ra, p1, shaped_of (by decide) f1 ra, p2, ?_⟩
        rw [anyP_eqD f1 f2]
        exact q F H _ (Ext.refl ..) r (.bl _)
      · cases e1
    · cases e1
  have tups : ∀ ys, b = .tup ys → (inT a ys).map (fun c => D.bl (!c)) = some d → wpAny (model X.prog X.w) X.A (compareOp .NotIn v u) (EP X pins σ Q) X.xe s := fun ys eb em => by
    subst eb
    obtain ⟨c, e1, rfl⟩ := Option.map_eq_some_iff.mp em
    unfold inT at e1
    split at e1
    · rename_i hf
      obtain ⟨f1, f2⟩ := Bool.and_eq_true_iff.mp hf
      cases e1
      cases rb with
      | tup h1 h2 =>
        refine op_notIn_seq pins s σ H _ _ v u Q I rx ry ⟨_, _, rfl, .inr (SqT.up r.sub h1), flat0_V f1 ra, flats0_V f2 h2, ?_⟩
        have e1 : inV x _ = _ := any_eqD f1 ra f2 h2
        rw [if_pos rfl, e1]
        exact q F H _ (Ext.refl ..) r (.bl _)
    · cases e1
  cases b with
  | str w =>
    cases a with
    | str z =>
      simp only [op2] at e
      split at e
      · rename_i hl
        cases e
        obtain ⟨rfl, _⟩ := strRep ra
        obtain ⟨rfl, _⟩ := strRep rb
        refine op_notIn_sign pins s σ H _ _ v u Q I rx ry ⟨z.cps.getD 0 0, w, congrArg V.str (one_sign hl), rfl, ?_⟩
        rw [← List.contains_eq_mem]
        exact q F H _ (Ext.refl ..) r (.bl _)
      · cases e
    | _ => exact lists e
  | tup ys =>
    cases a <;> exact tups ys rfl e
  | _ => cases a <;> exact lists e

/-! ### o[i] -/
def rIxD : R2 := fun x y H Q => ∃ a v, x = .ref a ∧ DGet H a y (some v) ∧ Q v H
theorem ix_dic (hu : X.A.units + 1 < cLine) : IxR X rIxD := by
  intro value slice pins s σ H x y v u Q I rx ry h hs
  obtain ⟨a, z, rfl, g, q⟩ := h
  cases rx
  have hT := dict_typeIs I g
  unfold subscriptTail
  refine wpAny_bind ?_
  rw [getitemInPython_of_ne hT.not_modules]
  refine wpAny_bind (wpAny_specialOf hT PySem.F.slot_dict_getitem.lookup ?_)
  have fin : wpAny (model X.prog X.w) X.A (subscripted slice false (.ref a) u) (fun r s₃ => wpAny (model X.prog X.w) X.A (letTemporaryGo value (.ref a) r >>= fun _ => pure r) (EP X pins σ Q) X.xe s₃) X.xe s := by
    rw [hs]
    exact wpAny_operating (wpAny_mono (d_getItem (Q := EP X pins σ Q) (E := X.xe) hu I g ry fun w' s3 I3 rw' => ⟨z, H, I3, rw', q⟩) (fun r s₃ h₃ => wpAny_bind (wpAny_letTemporaryGo (wpAny_pure h₃))) fun _ _ x => x)
  first
    | exact wpAny_pure (wpAny_bind fin)
    | exact wpAny_bind (wpAny_pure (wpAny_bind fin))
    | exact wpAny_bind fin
theorem atI_rel {xs : List D} {vs : List V} {i : Int} {d : D} (h : Reps K F ι vs xs) (e : ixD xs i = some d) : ∃ v, atI vs i = some v ∧ Rep K F ι v d := by
  unfold ixD atI at e
  unfold atI
  rw [h.len]
  obtain ⟨j, e1, e2⟩ := Option.bind_eq_some_iff.mp e
  obtain ⟨v, e3, r⟩ := h.get e2
  exact ⟨v, by rw [e1]; exact e3, r⟩
theorem look_K {f : Str} {d : D} : ∀ {l : List (Key × V)} {kvs : List (Str × D)}, RepK K F ι l kvs → look f kvs = some d → ∃ v, valV l (Sum.inr f) = some v ∧ Rep K F ι v d := by
  intro l kvs h
  induction h with
  | nil => intro e; cases e
  | @cons g v e l r h1 h2 ih =>
    intro e'
    simp only [look] at e'
    split at e'
    · rename_i hg
      cases e'
      subst hg
      exact ⟨v, valV_pos rfl, h1⟩
    · rename_i hg
      obtain ⟨w, e2, r2⟩ := ih e'
      exact ⟨w, by rw [valV_neg (by simp; exact fun z => hg z.symm)]; exact e2, r2⟩
theorem lookD_K {f : Str} {d : D} : ∀ {kvs : List (Key × V)} {ks : List Str} {ds : List D}, kvs.map (·.1) = ks.map Sum.inr → Reps K F ι (kvs.map (·.2)) ds → lookD f ks ds = some d → ∃ v, valV kvs (Sum.inr f) = some v ∧ Rep K F ι v d
  | [], [], _, _, _, e => by simp [lookD] at e
  | [], _ :: _, _, h, _, _ => by simp at h
  | _ :: _, [], _, h, _, _ => by simp at h
  | (k, v) :: kvs, g :: ks, ds, h, h2, e => by
    simp at h
    obtain ⟨rfl, h⟩ := h
    cases h2 with
    | cons h3 h4 =>
      simp only [lookD] at e
      split at e
      · rename_i hg
        cases e
        subst hg
        exact ⟨v, valV_pos rfl, h3⟩
      · rename_i hg
        obtain ⟨w, e2, r2⟩ := lookD_K h h4 e
        exact ⟨w, by rw [valV_neg (by simp; exact fun z => hg z.symm)]; exact e2, r2⟩
theorem atI_map {α β : Type} (f : α → β) (xs : List α) (i : Int) : atI (xs.map f) i = (atI xs i).map f := by
  unfold atI
  rw [List.length_map]
  cases ixN xs.length i with
  | none => rfl
  | some j => simp
theorem ok_get (hu : X.A.units + 1 < cLine) : IxR X (rOp cA X.K fun S => op2 S .get) := by
  intro value slice pins s σ H x y v u Q I rx ry h hs
  obtain ⟨F, ι, S, a, b, d, r, ra, rb, e, q⟩ := h
  cases a with
  | tup xs =>
    cases b <;> first | (simp [op2] at e; done) | skip
    rename_i i
    simp only [op2] at e
    cases ra with
    | tup h1 h2 =>
      cases rb
      obtain ⟨w, e1, rw'⟩ := atI_rel h2 e
      exact ix_tup value slice pins s σ H _ _ v u Q I rx ry ⟨_, _, i, w, rfl, rfl, SqT.up r.sub h1, e1, q F H _ (Ext.refl ..) r rw'⟩ hs
  | scr ns =>
    cases b <;> first | (simp [op2] at e; done) | skip
    rename_i i
    simp only [op2] at e
    obtain ⟨n, e1, rfl⟩ := Option.map_eq_some_iff.mp e
    cases ra with
    | scr h1 =>
      cases rb
      exact ix_list value slice pins s σ H _ _ v u Q I rx ry ⟨_, _, i, .int n, rfl, rfl, SqL.up r.sub h1, by rw [atI_map, e1]; rfl, q F H _ (Ext.refl ..) r (.int _)⟩ hs
  | str z =>
    cases b <;> first | (simp [op2] at e; done) | skip
    rename_i i
    simp only [op2] at e
    split at e
    · rename_i hl
      obtain ⟨c, e1, rfl⟩ := Option.map_eq_some_iff.mp e
      obtain ⟨rfl, o1⟩ := strRep ra
      cases rb
      refine ix_str value slice pins s σ H _ _ v u Q I rx ry ⟨z, i, c, rfl, rfl, by rw [← LIM_eq]; exact hl, e1, q F H _ (Ext.refl ..) r (repStr ?_)⟩ hs
      obtain ⟨j, _, e2, _⟩ := atI_get e1
      have := List.all_eq_true.mp o1 c (List.mem_of_getElem? e2)
      simpa using this
    · cases e
  | dic ks vs =>
    cases b <;> first | (simp [op2] at e; done) | skip
    rename_i f
    simp only [op2] at e
    cases ra with
    | dic h1 h2 h3 =>
      obtain ⟨rfl, _⟩ := strRep rb
      obtain ⟨w, e1, rw'⟩ := lookD_K h2 h3 e
      refine ix_dic hu value slice pins s σ H _ _ v u Q I rx ry ⟨_, w, rfl, ?_, q F H _ (Ext.refl ..) r rw'⟩ hs
      rw [← e1]
      exact DGet.k (k := Sum.inr f) (r.sub _ _ h1)
  | lst xs =>
    cases b <;> first | (simp [op2] at e; done) | skip
    rename_i i
    simp only [op2] at e
    cases ra with
    | lst h1 h2 =>
      cases rb
      obtain ⟨w, e1, rw'⟩ := atI_rel h2 e
      exact ix_list value slice pins s σ H _ _ v u Q I rx ry ⟨_, _, i, w, rfl, rfl, SqL.of (r.sub _ _ h1), e1, q F H _ (Ext.refl ..) r rw'⟩ hs
  | loc n =>
    have e' : getC S[n]? b = some d := by cases b <;> exact e
    cases hc : S[n]? with
    | none => rw [hc] at e'; cases e'
    | some c =>
      rw [hc] at e'
      cases ra with
      | loc hl =>
        cases c with
        | lst xs =>
          cases b <;> first | (simp [getC] at e'; done) | skip
          rename_i i
          obtain ⟨p, e1, e2, vs, e3, e4⟩ := r.cell n _ hc trivial
          rw [hl] at e1; cases e1
          cases rb
          obtain ⟨w, e5, rw'⟩ := atI_rel e4 e'
          exact ix_list value slice pins s σ H _ _ v u Q I rx ry ⟨_, _, i, w, rfl, rfl, SqL.of e3, e5, q F H _ (Ext.refl ..) r rw'⟩ hs
        | dic kvs =>
          cases b <;> first | (simp [getC] at e'; done) | skip
          rename_i f
          obtain ⟨p, e1, e2, l, e3, e4⟩ := r.cell n _ hc trivial
          rw [hl] at e1; cases e1
          obtain ⟨rfl, _⟩ := strRep rb
          obtain ⟨w, e5, rw'⟩ := look_K e4 e'
          refine ix_dic hu value slice pins s σ H _ _ v u Q I rx ry ⟨_, w, rfl, ?_, q F H _ (Ext.refl ..) r rw'⟩ hs
          rw [← e5]
          exact DGet.k (k := Sum.inr f) e3
        | _ => cases b <;> simp [getC] at e'
  | _ => cases b <;> simp [op2] at e

/-! ### calls of built-ins with one value -/
def rOp1 (cA : Nat → Addr) (K : PySem.W.Frag) (op : Store → D → Option D) : List V → Hp → VK → Prop := fun xs H Q => ∃ F ι S x a d, xs = [x] ∧ Rel cA K F ι S H ∧ Rep K F ι x a ∧ op S a = some d ∧
  ∀ F' H' v, Ext F ι F' ι → Rel cA K F' ι S H' → Rep K F' ι v d → Q v H'
theorem ok_len : CallR X (.builtin "len") (rOp1 cA X.K fun S => op1 S .len) := by
  intro pins s σ H xs us Q I rs h
  obtain ⟨F, ι, S, x, a, d, rfl, r, ra, e, q⟩ := h
  have lists : (items S a).map (fun xs => D.int xs.length) = some d → wpAny (model X.prog X.w) X.A (call (.builtin "len") us) (EP X pins σ Q) X.xe s := fun e => by
    obtain ⟨ys, e1, rfl⟩ := Option.map_eq_some_iff.mp e
    obtain ⟨p, vs, rfl, hp, hv⟩ := items_at r ra e1
    refine call_len_seq pins s σ H _ us Q I rs ⟨p, vs, rfl, .inl (SqL.of hp), ?_⟩
    rw [hv.len]
    exact q F H _ (Ext.refl ..) r (.int _)
  cases a with
  | str z =>
    simp only [op1] at e
    split at e
    · rename_i hl
      cases e
      obtain ⟨rfl, o1⟩ := strRep ra
      exact call_len_str pins s σ H _ us Q I rs ⟨z, rfl, by rw [← LIM_eq]; exact hl, q F H _ (Ext.refl ..) r (.int _)⟩
    · cases e
  | tup ys =>
    simp only [op1] at e
    cases e
    cases ra with
    | tup h1 h2 =>
      refine call_len_seq pins s σ H _ us Q I rs ⟨_, _, rfl, .inr (SqT.up r.sub h1), ?_⟩
      rw [h2.len]
      exact q F H _ (Ext.refl ..) r (.int _)
  | scr ns =>
    simp only [op1] at e
    cases e
    cases ra with
    | scr h1 =>
      refine call_len_seq pins s σ H _ us Q I rs ⟨_, _, rfl, .inl (SqL.up r.sub h1), ?_⟩
      rw [List.length_map]
      exact q F H _ (Ext.refl ..) r (.int _)
  | _ => exact lists (by simpa only [op1] using e)
theorem ok_tuple : CallR X (.type "tuple") (rOp1 cA X.K fun S => op1 S .tuple) := by
  intro pins s σ H xs us Q I rs h
  obtain ⟨F, ι, S, x, a, d, rfl, r, ra, e, q⟩ := h
  simp only [op1] at e
  obtain ⟨ys, e1, rfl⟩ := Option.map_eq_some_iff.mp e
  obtain ⟨p, vs, rfl, hp, hv⟩ := items_at r ra e1
  exact call_tuple_of pins s σ H _ us Q I rs ⟨p, vs, rfl, .inl ⟨SqL.of hp, fun c hc => fin_tup r hc hv q⟩⟩
theorem toString_ok (n : Int) : (toString n : Str).cps.toList.all (· < 0x110000) = true := by
  rw [Str.ofString_eq_toList]
  rw [List.all_eq_true]
  intro c hc
  simp at hc
  obtain ⟨ch, _, rfl⟩ := hc
  have h := ch.valid
  have e : ch.toNat = ch.val.toNat := rfl
  simp only [UInt32.isValidChar, Nat.isValidChar] at h
  simp
  omega
theorem ok_str : CallR X (.type "str") (rOp1 cA X.K fun S => op1 S .str) := by
  intro pins s σ H xs us Q I rs h
  obtain ⟨F, ι, S, x, a, d, rfl, r, ra, e, q⟩ := h
  cases a <;> simp only [op1] at e <;> first | (cases e; done) | (simp [items] at e; done) | skip
  rename_i i
  split at e
  · rename_i hl
    cases e
    cases ra
    refine call_str_int pins s σ H _ us Q I rs ⟨i, rfl, ?_, q F H _ (Ext.refl ..) r (repStr (toString_ok i))⟩
    by_cases h0 : i.natAbs = 0
    · rw [h0]; decide
    · exact Nat.lt_trans ((Nat.log2_lt h0).mpr hl) (by decide)
  · cases e
theorem ok_int1 : CallR X (.type "int") (rOp1 cA X.K fun S => op1 S .int) := by
  intro pins s σ H xs us Q I rs h
  obtain ⟨F, ι, S, x, a, d, rfl, r, ra, e, q⟩ := h
  cases a <;> simp only [op1] at e <;> first | (cases e; done) | (simp [items] at e; done) | skip
  · cases e
    cases ra
    exact call_int1 pins s σ H _ us Q I rs (.inr ⟨_, rfl, q F H _ (Ext.refl ..) r (.int _)⟩)
  · split at e
    · rename_i hl
      obtain ⟨n, e1, rfl⟩ := Option.map_eq_some_iff.mp e
      obtain ⟨rfl, _⟩ := strRep ra
      exact call_int_str pins s σ H _ us Q I rs ⟨_, n, rfl, e1, hl, q F H _ (Ext.refl ..) r (.int _)⟩
    · cases e
theorem ok_neg : UnR X (unaryOp .USub) (fun x H Q => rOp1 cA X.K (fun S => op1 S .neg) [x] H Q) := by
  intro pins s σ H x v Q I rx h
  obtain ⟨F, ι, S, x', a, d, ex, r, ra, e, q⟩ := h
  cases ex
  cases a <;> simp only [op1] at e <;> first | (cases e; done) | (simp [items] at e; done) | skip
  cases e
  cases ra
  exact un_neg pins s σ H _ v Q I rx ⟨_, rfl, q F H _ (Ext.refl ..) r (.int _)⟩
theorem sqT_ty {a : Addr} {vs : List V} (h : SqT K H a vs) : TyX K H (.ref a) (.type "tuple") := by
  rcases h with (h | ⟨o, h⟩) | ⟨o, its, n, h1, h2, _⟩
  · exact .base (.tup h)
  · exact .fTuple h
  · exact .kTuple h1 h2
def tyNm : Ty → String
  | .int => "int" | .bool => "bool" | .str => "str" | .tuple => "tuple" | .list => "list"
theorem ok_isi (t : Ty) : CallR X (.builtin "isinstance") (fun xs H Q => ∃ x, xs = [x, .ty (tyNm t)] ∧ rOp1 cA X.K (fun S => op1 S (.isi t)) [x] H Q) := by
  intro pins s σ H xs us Q I rs h
  obtain ⟨x, rfl, F, ι, S, x', a, d, ex, r, ra, e, q⟩ := h
  cases ex
  have go : ∀ {ty : String} {b : Bool}, TyX X.K H x (.type ty) → kitB ty (tyNm t) = some b → d = .bl b → wpAny (model X.prog X.w) X.A (call (.builtin "isinstance") us) (EP X pins σ Q) X.xe s := fun {ty b} h1 h2 h3 => by
    subst h3
    exact call_isi pins s σ H _ us Q I rs ⟨x, .ty (tyNm t), .type ty, .type (tyNm t), b, rfl, .ty _, h1, kit_ty h2, q F H _ (Ext.refl ..) r (.bl _)⟩
  have e' : (tyIs S t a).map D.bl = some d := by cases a <;> exact e
  obtain ⟨b, e1, e2⟩ := Option.map_eq_some_iff.mp e'
  cases ra with
  | non => simp only [tyIs, Option.some.injEq] at e1; subst e1; exact go (.base .non) (by cases t <;> decide +kernel) e2.symm
  | bl c => simp only [tyIs, Option.some.injEq] at e1; subst e1; cases t <;> exact go (.base (.bl c)) (by decide +kernel) e2.symm
  | int c => simp only [tyIs, Option.some.injEq] at e1; subst e1; cases t <;> exact go (.base (.int c)) (by decide +kernel) e2.symm
  | str c _ => simp only [tyIs, Option.some.injEq] at e1; subst e1; cases t <;> exact go (.base (.str c)) (by decide +kernel) e2.symm
  | scr h => simp [tyIs] at e1
  | opq _ => simp [tyIs] at e1
  | tup h1 h2 => simp only [tyIs, Option.some.injEq] at e1; subst e1; cases t <;> exact go (sqT_ty (SqT.up r.sub h1)) (by decide +kernel) e2.symm
  | lst h1 h2 => simp only [tyIs, Option.some.injEq] at e1; subst e1; cases t <;> exact go (.base (.lst (r.sub _ _ h1))) (by decide +kernel) e2.symm
  | dic h1 h2 h3 => simp only [tyIs, Option.some.injEq] at e1; subst e1; cases t <;> exact go (.base (.dK (r.sub _ _ h1))) (by decide +kernel) e2.symm
  | @loc n p hl =>
    simp only [tyIs] at e1
    split at e1
    · rename_i ys hy
      cases e1
      obtain ⟨p', e3, e4, vs, e5, e6⟩ := r.cell n _ hy trivial
      rw [hl] at e3; cases e3
      cases t <;> exact go (.base (.lst e5)) (by decide +kernel) e2.symm
    · rename_i ys hy
      cases e1
      obtain ⟨p', e3, e4, l, e5, e6⟩ := r.cell n _ hy trivial
      rw [hl] at e3; cases e3
      cases t <;> exact go (.base (.dK e5)) (by decide +kernel) e2.symm
    · cases e1
end
end Ev
namespace Ev
open PySem PySem.Spec PyProof.Rows L2

/-! ### further operations -/
section
variable {cA : Nat → Addr} {K : PySem.W.Frag} {F H : Hp} {ι : List Addr} {S : Store} {a : D} {x : V} {X : Cx}
theorem strsOf_V {xs : List D} : ∀ {vs : List V} {ss : List Str}, Reps K F ι vs xs → strsOf xs = some ss → vs = ss.map V.str ∧ ∀ s ∈ ss, okStr s = true := by
  induction xs with
  | nil => intro vs ss h e; cases h; simp [strsOf] at e; subst e; exact ⟨rfl, fun _ h => by cases h⟩
  | cons d xs ih =>
    intro vs ss h e
    cases h with
    | cons h1 h2 =>
      cases d <;> simp only [strsOf] at e <;> first | (cases e; done) | skip
      obtain ⟨r, e1, rfl⟩ := Option.map_eq_some_iff.mp e
      obtain ⟨rfl, k⟩ := ih h2 e1
      cases h1 with
      | str _ o =>
        refine ⟨rfl, fun s hs => ?_⟩
        rcases List.mem_cons.mp hs with e | e
        · rw [e]; exact o
        · exact k s e
theorem reps_strs : ∀ {ss : List Str}, (∀ s ∈ ss, okStr s = true) → Reps K F ι (ss.map V.str) (ss.map D.str)
  | [], _ => .nil
  | s :: ss, h => .cons (.str s (h s (List.mem_cons_self ..))) (reps_strs fun t ht => h t (List.mem_cons_of_mem _ ht))
theorem strLe_iff (a b : Str) : strLe a b = true ↔ a.cps.toList ≤ b.cps.toList := by
  unfold strLe
  rw [Bool.not_eq_true', decide_eq_false_iff_not, List.not_lt]
theorem str_ext {a b : Str} (h : a.cps.toList = b.cps.toList) : a = b := by
  obtain ⟨⟨l⟩⟩ := a
  obtain ⟨⟨m⟩⟩ := b
  have h : l = m := h
  rw [h]
theorem ltCps_dec (a b : List Nat) : ltCps a b = decide (a < b) := by
  first
    | rfl
    | (induction a generalizing b with
       | nil => cases b <;> simp [ltCps]
       | cons x a ih => cases b with
         | nil => simp [ltCps]
         | cons y b => simp only [ltCps, List.cons_lt_cons_iff]; by_cases h : x < y <;> by_cases h2 : x = y <;> simp_all <;> omega)
theorem rising_pw : ∀ (l : List Str) (p : Str), risingS p l = true → (∀ x ∈ l, strLe p x = true) ∧ List.Pairwise (fun a b => strLe a b = true) l
  | [], _, _ => ⟨fun _ h => (by cases h), List.Pairwise.nil⟩
  | x :: r, p, h => by
    simp only [risingS, Bool.and_eq_true] at h
    obtain ⟨h1, h2⟩ := h
    obtain ⟨k1, k2⟩ := rising_pw r x h2
    have px : strLe p x = true := by
      unfold strLe
      rw [ltCps_dec] at h1
      exact h1
    refine ⟨fun y hy => ?_, List.Pairwise.cons k1 k2⟩
    rcases List.mem_cons.mp hy with e | e
    · rw [e]; exact px
    · have := k1 y e
      rw [strLe_iff] at *
      exact List.le_trans px this
theorem sorted_is {ss ys : List Str} (hp : ys.Perm ss) (hs : sortedS ys = true) : ys = ss.mergeSort strLe := by
  have pw : ys.Pairwise fun a b => strLe a b = true := by
    cases ys with
    | nil => exact List.Pairwise.nil
    | cons y r => obtain ⟨k1, k2⟩ := rising_pw r y hs; exact List.Pairwise.cons k1 k2
  refine List.Perm.eq_of_pairwise (le := fun a b => strLe a b = true) (fun a b _ _ h1 h2 => ?_) pw (List.pairwise_mergeSort (fun a b c h1 h2 => ?_) (fun a b => ?_) ss) (hp.trans (List.mergeSort_perm ss strLe).symm)
  · rw [strLe_iff] at h1 h2
    exact str_ext (List.le_antisymm h1 h2)
  · rw [strLe_iff] at *
    exact List.le_trans h1 h2
  · rw [Bool.or_eq_true, strLe_iff, strLe_iff]
    exact List.le_total _ _
theorem ok_sorted : CallR X (.builtin "sorted") (rOp1 cA X.K fun S => op1 S .sorted) := by
  intro pins s σ H xs us Q I rs h
  obtain ⟨F, ι, S, x, a, d, rfl, r, ra, e, q⟩ := h
  simp only [op1] at e
  split at e
  · rename_i ys hy
    obtain ⟨ss, e1, rfl⟩ := Option.map_eq_some_iff.mp e
    obtain ⟨p, vs, rfl, hp, hv⟩ := items_at r ra hy
    obtain ⟨rfl, ok⟩ := strsOf_V hv e1
    obtain ⟨its, rv, hl, hz⟩ := I.list (SqL.of hp)
    rw [Vals.ref1 rs]
    have hlen0 := rv.length
    refine sorted_strsAny hl.isList rv.strs (by rw [← hlen0]; exact hz) fun out zs h1 h2 h3 => ?_
    obtain ⟨ep, he'⟩ := PyProof.Rows.sortedAll_at s.heap its out
    have hlen : (zs.map V.str).length ≤ sizeLine := by rw [List.length_map, h2.length_eq, ← List.length_map (f := V.str)]; exact hz
    refine ⟨.ref _, upd H (s.heap.objs.size + 1) (.lst (zs.map V.str)), I.laid (t' := s.toks) (fun _ _ => PyProof.Rows.sortedAll_old) (Nat.le_succ _) ⟨hlen, out.toList, ep, vals_of_strs h1, he'⟩, rfl, ?_⟩
    have e2 := sorted_is h2 h3
    subst e2
    exact fin_lst r (I.hok.fresh (Nat.le_succ _)) (reps_strs fun s hs => ok s ((List.mergeSort_perm ss strLe).mem_iff.mp hs)) q
  · cases e
def rOpA (cA : Nat → Addr) (K : PySem.W.Frag) (op : Store → D → D → Option D) : List V → Hp → VK → Prop := fun xs H Q => ∃ x y, xs = [x, y] ∧ rOp cA K op x y H Q
theorem ok_mn (hc : X.calm = true) : CallR X (.builtin "min") (rOpA cA X.K fun S => op2 S .mn) := by
  intro pins s σ H xs us Q I rs h
  obtain ⟨x, y, rfl, F, ι, S, a, b, d, r, ra, rb, e, q⟩ := h
  cases a <;> cases b <;> simp only [op2] at e <;> first | (cases e; done) | skip
  cases e
  cases ra; cases rb
  exact call_min2 hc pins s σ H _ us Q I rs ⟨_, _, rfl, q F H _ (Ext.refl ..) r (.int _)⟩
theorem ok_mx (hc : X.calm = true) : CallR X (.builtin "max") (rOpA cA X.K fun S => op2 S .mx) := by
  intro pins s σ H xs us Q I rs h
  obtain ⟨x, y, rfl, F, ι, S, a, b, d, r, ra, rb, e, q⟩ := h
  cases a <;> cases b <;> simp only [op2] at e <;> first | (cases e; done) | skip
  cases e
  cases ra; cases rb
  exact call_max2 hc pins s σ H _ us Q I rs ⟨_, _, rfl, q F H _ (Ext.refl ..) r (.int _)⟩
/-- slices -/
def rCut (cA : Nat → Addr) (K : PySem.W.Frag) : V → Option Int → Option Int → Hp → VK → Prop := fun x lo hi H Q => ∃ F ι S a d, Rel cA K F ι S H ∧ Rep K F ι x a ∧ cutD S lo hi a = some d ∧
  ∀ F' H' v, Ext F ι F' ι → Rel cA K F' ι S H' → Rep K F' ι v d → Q v H'
theorem cutV_G (xs : List V) (lo hi : Option Int) : cutV xs lo hi = cutG xs lo hi := rfl
theorem Reps.cut {xs : List D} {vs : List V} (h : Reps K F ι vs xs) (lo hi : Option Int) : Reps K F ι (cutG vs lo hi) (cutG xs lo hi) := by
  unfold cutG
  rw [h.len]
  exact (h.drop _).take _
theorem cutG_map {α β : Type} (f : α → β) (xs : List α) (lo hi : Option Int) : cutG (xs.map f) lo hi = (cutG xs lo hi).map f := by
  unfold cutG
  rw [List.length_map, List.map_take, List.map_drop]
theorem cutS_ok {z : Str} {lo hi : Option Int} (h : z.cps.toList.all (· < 0x110000) = true) : (cutS z lo hi).cps.toList.all (· < 0x110000) = true := by
  unfold cutS
  rw [List.all_eq_true] at *
  intro c hc
  exact h c (List.mem_of_mem_drop (List.mem_of_mem_take hc))
theorem ok_cutL : SlR X (fun x lo hi H Q => ∃ F ι S a d, Rel cA X.K F ι S H ∧ Rep X.K F ι x a ∧ (items S a).map (fun xs => D.lst (cutG xs lo hi)) = some d ∧
    ∀ F' H' v, Ext F ι F' ι → Rel cA X.K F' ι S H' → Rep X.K F' ι v d → Q v H') := by
  intro pins s σ H x v vl vu lo hi sl Q I rx hs pl pu h
  obtain ⟨F, ι, S, a, d, r, ra, e, q⟩ := h
  obtain ⟨ys, e1, rfl⟩ := Option.map_eq_some_iff.mp e
  obtain ⟨p, vs, rfl, hp, hv⟩ := items_at r ra e1
  exact sl_list pins s σ H _ v vl vu lo hi sl Q I rx hs pl pu ⟨p, vs, rfl, SqL.of hp, fun c hc => fin_lst r hc (hv.cut lo hi) q⟩
theorem ok_cut : SlR X (rCut cA X.K) := by
  intro pins s σ H x v vl vu lo hi sl Q I rx hs pl pu h
  obtain ⟨F, ι, S, a, d, r, ra, e, q⟩ := h
  cases a with
  | str z =>
    simp only [cutD] at e
    split at e
    · rename_i hl
      cases e
      obtain ⟨rfl, o1⟩ := strRep ra
      exact sl_str pins s σ H _ v vl vu lo hi sl Q I rx hs pl pu ⟨z, rfl, by rw [← LIM_eq]; exact hl, q F H _ (Ext.refl ..) r (repStr (cutS_ok o1))⟩
    · cases e
  | tup ys =>
    simp only [cutD] at e
    cases e
    cases ra with
    | tup h1 h2 =>
      refine sl_tupA pins s σ H _ v vl vu lo hi sl Q I rx hs pl pu ⟨_, _, rfl, SqT.up r.sub h1, fun hw => ?_, fun _ c hc => fin_tup r hc (h2.cut lo hi) q⟩
      have e1 : cutG ys lo hi = ys := by
        unfold cutG
        rw [h2.len] at hw
        rw [hw.1, hw.2, List.drop_zero, Nat.sub_zero, List.take_length]
      rw [e1] at q
      exact q F H _ (Ext.refl ..) r (.tup h1 h2)
  | scr ns =>
    simp only [cutD] at e
    cases e
    cases ra with
    | scr h1 =>
      refine sl_list pins s σ H _ v vl vu lo hi sl Q I rx hs pl pu ⟨_, _, rfl, SqL.up r.sub h1, fun c hc => ?_⟩
      rw [cutV_G, cutG_map]
      exact fin_lst r hc (Reps.ints _) q
  | _ => exact ok_cutL (cA := cA) pins s σ H _ v vl vu lo hi sl Q I rx hs pl pu ⟨F, ι, S, _, d, r, ra, e, q⟩

/-! ### outcomes -/
abbrev W0 := Value → Option Addr → Hp → Prop
/-- an outcome is good: C holds of what comes, Wx of an error -/
def Good (cA xA : Nat → Addr) (K : PySem.W.Frag) (Wx : W0) {α : Type} (F : Hp) (ι : List Addr) (r : R α) (C : Hp → List Addr → Hp → α → Store → Prop) : Prop := match r with
  | .ok a S => ∀ F' ι' H', Ext F ι F' ι' → Rel cA K F' ι' S H' → C F' ι' H' a S
  | .exn c S => ∀ F' ι' H', Ext F ι F' ι' → Rel cA K F' ι' S H' → Wx (.ref (xA c)) none H'
  | .stuck => False
end
section
variable {cA xA : Nat → Addr} {K : PySem.W.Frag} {Wx : W0} {α β : Type} {F F' : Hp} {ι ι' : List Addr} {r : R α}
theorem Good.ext {C : Hp → List Addr → Hp → α → Store → Prop} (h : Good cA xA K Wx F ι r C) (e : Ext F ι F' ι') : Good cA xA K Wx F' ι' r C := by
  cases r with
  | ok a S => exact fun F2 ι2 H2 e2 r2 => h F2 ι2 H2 (e.trans e2) r2
  | exn c S => exact fun F2 ι2 H2 e2 r2 => h F2 ι2 H2 (e.trans e2) r2
  | stuck => exact h
theorem Good.mono {C C' : Hp → List Addr → Hp → α → Store → Prop} (h : Good cA xA K Wx F ι r C) (k : ∀ F' ι' H' a S', Ext F ι F' ι' → Rel cA K F' ι' S' H' → C F' ι' H' a S' → C' F' ι' H' a S') : Good cA xA K Wx F ι r C' := by
  cases r with
  | ok a S => exact fun F2 ι2 H2 e2 r2 => k _ _ _ _ _ e2 r2 (h F2 ι2 H2 e2 r2)
  | exn c S => exact h
  | stuck => exact h
theorem Good.bind {f : α → Store → R β} {C : Hp → List Addr → Hp → β → Store → Prop} (h : Good cA xA K Wx F ι (r.bind f) C) : Good cA xA K Wx F ι r fun F1 ι1 _ a S1 => Good cA xA K Wx F1 ι1 (f a S1) C := by
  cases r with
  | ok a S => exact fun F2 ι2 H2 e2 r2 => Good.ext h e2
  | exn c S => exact h
  | stuck => exact h
end

/-! ### slots -/
structure Sl (K : PySem.W.Frag) (F : Hp) (ι : List Addr) (σ : L2.St) (δ : Env) : Prop where
  len : σ.length = δ.length
  at_ : ∀ (i : Nat) (d : D), δ[i]? = some (some d) → ∃ v, σ[i]? = some (some v) ∧ Rep K F ι v d
section
variable {K : PySem.W.Frag} {F F' : Hp} {ι ι' : List Addr} {σ : L2.St} {δ : Env}
theorem Sl.ext (h : Sl K F ι σ δ) (e : Ext F ι F' ι') : Sl K F' ι' σ δ := ⟨h.len, fun i d q => let ⟨v, a, b⟩ := h.at_ i d q; ⟨v, a, b.ext e⟩⟩
theorem Sl.set (h : Sl K F ι σ δ) (i : Nat) {v : V} {d : D} (r : Rep K F ι v d) : Sl K F ι (σ.set i (some v)) (δ.set i (some d)) := by
  refine ⟨by rw [List.length_set, List.length_set, h.len], fun j e q => ?_⟩
  by_cases hj : i = j
  · subst hj
    have hi : i < δ.length := by
      have := (List.getElem?_eq_some_iff.mp q).1
      simpa using this
    rw [List.getElem?_set_self hi] at q
    cases q
    exact ⟨v, List.getElem?_set_self (by rw [h.len]; exact hi), r⟩
  · rw [List.getElem?_set_ne hj] at q ⊢
    exact h.at_ j e q
theorem Sl.unset (h : Sl K F ι σ δ) (i : Nat) : Sl K F ι (σ.set i none) (δ.set i none) := by
  refine ⟨by rw [List.length_set, List.length_set, h.len], fun j e q => ?_⟩
  by_cases hj : i = j
  · subst hj
    have hi : i < δ.length := by
      have := (List.getElem?_eq_some_iff.mp q).1
      simpa using this
    rw [List.getElem?_set_self hi] at q
    cases q
  · rw [List.getElem?_set_ne hj] at q ⊢
    exact h.at_ j e q
theorem Sl.wipe (h : Sl K F ι σ δ) : ∀ vs : List Nat, Sl K F ι (L2.wipe σ vs) (wipeE δ vs)
  | [] => h
  | v :: vs => (Sl.wipe h vs).unset v
end

/-! ### readings -/
/-- an expression by what it comes to -/
def TD (cA xA : Nat → Addr) (K : PySem.W.Frag) (W : WX) (f : Env → Store → R D) : TE := fun σ H Q => ∃ F ι S δ, Rel cA K F ι S H ∧ Sl K F ι σ δ ∧
  Good cA xA K (fun c d H => W c d σ H) F ι (f δ S) fun F' ι' H' d _ => ∀ v, Rep K F' ι' v d → Q v H'
def TDs (cA xA : Nat → Addr) (K : PySem.W.Frag) (W : WX) (f : Env → Store → R (List D)) : TA := fun σ H Q => ∃ F ι S δ, Rel cA K F ι S H ∧ Sl K F ι σ δ ∧
  Good cA xA K (fun c d H => W c d σ H) F ι (f δ S) fun F' ι' H' ds _ => ∀ vs, Reps K F' ι' vs ds → Q vs H'
/-- a test -/
def TDb (cA xA : Nat → Addr) (K : PySem.W.Frag) (W : WX) (f : Env → Store → R D) : TT := fun σ H Q => ∃ F ι S δ, Rel cA K F ι S H ∧ Sl K F ι σ δ ∧
  Good cA xA K (fun c d H => W c d σ H) F ι (f δ S) fun F' ι' H' d _ => ∃ b, d = .bl b ∧ Q b H'
def GoodS (cA xA : Nat → Addr) (K : PySem.W.Frag) (W : WX) (F : Hp) (ι : List Addr) (r : RS) (D : Ends) : Prop := match r with
  | .nx δ S => ∀ F' ι' H' σ', Ext F ι F' ι' → Rel cA K F' ι' S H' → Sl K F' ι' σ' δ → D.nx σ' H'
  | .rt d S => ∀ F' ι' H' v, Ext F ι F' ι' → Rel cA K F' ι' S H' → Rep K F' ι' v d → D.rt v H'
  | .exn c δ S => ∀ F' ι' H' σ', Ext F ι F' ι' → Rel cA K F' ι' S H' → Sl K F' ι' σ' δ → W (.ref (xA c)) none σ' H'
  | .stuck => False
def TSd (cA xA : Nat → Addr) (K : PySem.W.Frag) (W : WX) (f : Env → Store → RS) : TS := fun D σ H => ∃ F ι S δ, Rel cA K F ι S H ∧ Sl K F ι σ δ ∧ GoodS cA xA K W F ι (f δ S) D
theorem GoodS.ext {cA xA : Nat → Addr} {K : PySem.W.Frag} {W : WX} {F F' : Hp} {ι ι' : List Addr} {r : RS} {D : Ends} (h : GoodS cA xA K W F ι r D) (e : Ext F ι F' ι') : GoodS cA xA K W F' ι' r D := by
  cases r with
  | nx δ S => exact fun F2 ι2 H2 σ2 e2 r2 s2 => h F2 ι2 H2 σ2 (e.trans e2) r2 s2
  | rt d S => exact fun F2 ι2 H2 v e2 r2 s2 => h F2 ι2 H2 v (e.trans e2) r2 s2
  | exn c δ S => exact fun F2 ι2 H2 σ2 e2 r2 s2 => h F2 ι2 H2 σ2 (e.trans e2) r2 s2
  | stuck => exact h
section
variable {X : Cx} {e : Expr}
theorem PE.weak {t t' : TE} (h : PE X e t) (k : ∀ σ H Q, t' σ H Q → t σ H Q) : PE X e t' := ⟨fun pins s σ H Q I q => h.run pins s σ H Q I (k _ _ _ q)⟩
theorem PT.weak {t t' : TT} (h : PT X e t) (k : ∀ σ H Q, t' σ H Q → t σ H Q) : PT X e t' := ⟨fun pins s σ H Q I q => h.run pins s σ H Q I (k _ _ _ q)⟩
theorem PA.weak {es : List Expr} {t t' : TA} (h : PA X es t) (k : ∀ σ H Q, t' σ H Q → t σ H Q) : PA X es t' := ⟨fun pos pins s σ H Q I q => h.run pos pins s σ H Q I (k _ _ _ q)⟩
theorem PS.weak {st : Stmt} {t t' : TS} (h : PS X st t) (k : ∀ D σ H, t' D σ H → t D σ H) : PS X st t' := ⟨fun pins s σ H D I q => h.run pins s σ H D I (k _ _ _ q)⟩
theorem PSs.weak {st : List Stmt} {t t' : TS} (h : PSs X st t) (k : ∀ D σ H, t' D σ H → t D σ H) : PSs X st t' := ⟨fun pins s σ H D I q => h.run pins s σ H D I (k _ _ _ q)⟩
end
end Ev
namespace Ev
open PySem PySem.Spec PyProof.Rows L2

section
variable {cA xA : Nat → Addr} {K : PySem.W.Frag} {Wx : W0} {F : Hp} {ι : List Addr} {S : Store}
theorem good_ofO {o : Option D} {C : Hp → List Addr → Hp → D → Store → Prop} (h : Good cA xA K Wx F ι (ofO S o) C) : ∃ d, o = some d ∧ ∀ F' ι' H', Ext F ι F' ι' → Rel cA K F' ι' S H' → C F' ι' H' d S := by
  cases o with
  | none => exact h.elim
  | some d => exact ⟨d, rfl, h⟩
/-- an operation's end -/
theorem op_end {op : Store → D → D → Option D} {a b : D} {v u : V} {H : Hp} {Q : VK} (r : Rel cA K F ι S H) (ra : Rep K F ι v a) (rb : Rep K F ι u b)
    (h : Good cA xA K Wx F ι (ofO S (op S a b)) fun F' ι' H' d _ => ∀ v, Rep K F' ι' v d → Q v H') : rOp cA K op v u H Q := by
  obtain ⟨d, e, k⟩ := good_ofO h
  exact ⟨F, ι, S, a, b, d, r, ra, rb, e, fun F' H' w e2 r2 rw' => k F' ι H' e2 r2 w rw'⟩
theorem op_end1 {op : Store → D → Option D} {a : D} {v : V} {H : Hp} {Q : VK} (r : Rel cA K F ι S H) (ra : Rep K F ι v a)
    (h : Good cA xA K Wx F ι (ofO S (op S a)) fun F' ι' H' d _ => ∀ v, Rep K F' ι' v d → Q v H') : rOp1 cA K op [v] H Q := by
  obtain ⟨d, e, k⟩ := good_ofO h
  exact ⟨F, ι, S, v, a, d, rfl, r, ra, e, fun F' H' w e2 r2 rw' => k F' ι H' e2 r2 w rw'⟩
/-- a new list, by value or as a place -/
theorem newL_end {m : Bool} {ds : List D} {vs : List V} {p : Addr} {H : Hp} {Q : VK} (r : Rel cA K F ι S H) (hp : H p = none) (hv : Reps K F ι vs ds)
    (h : Good cA xA K Wx F ι (newL m ds S) fun F' ι' H' d _ => ∀ v, Rep K F' ι' v d → Q v H') : Q (.ref p) (upd H p (.lst vs)) := by
  cases m with
  | false =>
    have e := Ext.fresh (F := F) (ι := ι) (r.freeF hp) (.lst vs)
    exact h _ _ _ e (r.fresh hp _) _ (.lst upd_same (hv.ext e))
  | true =>
    refine h _ _ _ (Ext.more F ι [p]) (r.place hp (.lst ds) ⟨vs, rfl, hv⟩) _ (.loc ?_)
    rw [← r.len]
    simp
end

section
variable {cA xA : Nat → Addr} {X : Cx} {W : WX} {a b c : Expr} {pos : Pos} {f g h : Env → Store → R D}
abbrev TE' (cA xA : Nat → Addr) (X : Cx) (W : WX) (f : Env → Store → R D) : TE := TD cA xA X.K W f
theorem c_var {i : Nat} {x : Str} (hN : X.N[i]? = some x) (hv : Vis X.env.scope x) (hd : (x == ("__debug__" : Str)) = false) (hcd : (x == ("__classdict__" : Str)) = false) :
    PE X (.Name x pos) (TD cA xA X.K W fun δ S => match δ[i]? with
      | some (some d) => .ok d S
      | _ => .stuck) := PE.weak (pe_var hN hv hd hcd) fun σ H Q ⟨F, ι, S, δ, r, sl, gd⟩ => by
  dsimp only at gd
  split at gd
  · rename_i d e
    obtain ⟨v, e2, rv⟩ := sl.at_ i d e
    exact ⟨v, e2, gd F ι H (Ext.refl ..) r v rv⟩
  · exact gd.elim
/-- a value that is the same at every heap -/
theorem c_val {t : TE} {d : D} {v : V} (h : PE X a t) (k : ∀ σ H Q, Q v H → t σ H Q) (hr : ∀ F ι, Rep X.K F ι v d) : PE X a (TD cA xA X.K W fun _ S => .ok d S) := PE.weak h fun σ H Q ⟨F, ι, S, δ, r, sl, gd⟩ => k _ _ _ (gd F ι H (Ext.refl ..) r v (hr ..))
theorem c_op2 {o : Operator} {op : Store → D → D → Option D} (ho : OpR X (binaryOp o) (rOp cA X.K op)) (ha : PE X a (TD cA xA X.K W f)) (hb : PE X b (TD cA xA X.K W g)) :
    PE X (.BinOp a o b pos) (TD cA xA X.K W fun δ S => (f δ S).bind fun x S => (g δ S).bind fun y S => ofO S (op S x y)) :=
  PE.weak (pe_op ho ha hb) fun σ H Q ⟨F, ι, S, δ, r, sl, gd⟩ => ⟨F, ι, S, δ, r, sl, gd.bind.mono fun F1 ι1 H1 d1 S1 e1 r1 g1 v1 rv1 =>
    ⟨F1, ι1, S1, δ, r1, sl.ext e1, g1.bind.mono fun F2 ι2 H2 d2 S2 e2 r2 g2 v2 rv2 => op_end r2 (rv1.ext e2) rv2 g2⟩⟩
theorem c_cmp {o : CmpOp} {op : Store → D → D → Option D} (ho : OpR X (compareOp o) (rOp cA X.K op)) (ha : PE X a (TD cA xA X.K W f)) (hb : PE X b (TD cA xA X.K W g)) (hm : behindInMarks o b = false) :
    PE X (.Compare a [o] [b] pos) (TD cA xA X.K W fun δ S => (f δ S).bind fun x S => (g δ S).bind fun y S => ofO S (op S x y)) :=
  PE.weak (pe_cmpR ho ha hb hm) fun σ H Q ⟨F, ι, S, δ, r, sl, gd⟩ => ⟨F, ι, S, δ, r, sl, gd.bind.mono fun F1 ι1 H1 d1 S1 e1 r1 g1 v1 rv1 =>
    ⟨F1, ι1, S1, δ, r1, sl.ext e1, g1.bind.mono fun F2 ι2 H2 d2 S2 e2 r2 g2 v2 rv2 => op_end r2 (rv1.ext e2) rv2 g2⟩⟩
theorem bl_of {K : PySem.W.Frag} {F : Hp} {ι : List Addr} {v : V} {b : Bool} (h : Rep K F ι v (.bl b)) : v = .bl b := by cases h; rfl
theorem c_cmpT {o : CmpOp} {op : Store → D → D → Option D} (ho : OpR X (compareOp o) (rOp cA X.K op)) (ha : PE X a (TD cA xA X.K W f)) (hb : PE X b (TD cA xA X.K W g)) (hm : behindInMarks o b = false) :
    PT X (.Compare a [o] [b] pos) (TDb cA xA X.K W fun δ S => (f δ S).bind fun x S => (g δ S).bind fun y S => ofO S (op S x y)) :=
  PT.weak (pt_cmpR ho ha hb hm) fun σ H Q ⟨F, ι, S, δ, r, sl, gd⟩ => ⟨F, ι, S, δ, r, sl, gd.bind.mono fun F1 ι1 H1 d1 S1 e1 r1 g1 v1 rv1 =>
    ⟨F1, ι1, S1, δ, r1, sl.ext e1, g1.bind.mono fun F2 ι2 H2 d2 S2 e2 r2 g2 v2 rv2 => op_end (xA := xA) r2 (rv1.ext e2) rv2 (g2.mono fun F3 ι3 H3 d3 S3 e3 r3 ⟨b, eb, q⟩ v3 rv3 => by
      subst eb
      exact ⟨b, bl_of rv3, q⟩)⟩⟩
theorem c_get (hu : X.A.units + 1 < cLine) (ha : PE X a (TD cA xA X.K W f)) (hb : PE X b (TD cA xA X.K W g)) (hs : PlainIx b) :
    PE X (.Subscript a b pos) (TD cA xA X.K W fun δ S => (f δ S).bind fun x S => (g δ S).bind fun y S => ofO S (op2 S .get x y)) :=
  PE.weak (pe_ix (ok_get hu) ha hb hs) fun σ H Q ⟨F, ι, S, δ, r, sl, gd⟩ => ⟨F, ι, S, δ, r, sl, gd.bind.mono fun F1 ι1 H1 d1 S1 e1 r1 g1 v1 rv1 =>
    ⟨F1, ι1, S1, δ, r1, sl.ext e1, g1.bind.mono fun F2 ι2 H2 d2 S2 e2 r2 g2 v2 rv2 => op_end r2 (rv1.ext e2) rv2 g2⟩⟩
theorem c_neg (ha : PE X a (TD cA xA X.K W f)) : PE X (.UnaryOp .USub a pos) (TD cA xA X.K W fun δ S => (f δ S).bind fun x S => ofO S (op1 S .neg x)) :=
  PE.weak (pe_un (ok_neg (cA := cA)) ha) fun σ H Q ⟨F, ι, S, δ, r, sl, gd⟩ => ⟨F, ι, S, δ, r, sl, gd.bind.mono fun F1 ι1 H1 d1 S1 e1 r1 g1 v1 rv1 => op_end1 (op := fun S => op1 S .neg) r1 rv1 g1⟩
def evNot (f : Env → Store → R D) : Env → Store → R D := fun δ S => (f δ S).bind fun x S => (match x with
    | .bl b => .ok (.bl (!b)) S
    | _ => .stuck)
theorem good_not {Wx : W0} {K : PySem.W.Frag} {F : Hp} {ι : List Addr} {x : D} {S : Store} {C : Hp → List Addr → Hp → D → Store → Prop} (h : Good cA xA K Wx F ι (match x with
    | .bl b => (.ok (.bl (!b)) S : R D)
    | _ => .stuck) C) : ∃ b, x = .bl b ∧ ∀ F' ι' H', Ext F ι F' ι' → Rel cA K F' ι' S H' → C F' ι' H' (.bl (!b)) S := by
  cases x <;> first | exact h.elim | skip
  exact ⟨_, rfl, h⟩
theorem c_not (ha : PE X a (TD cA xA X.K W f)) : PE X (.UnaryOp .Not a pos) (TD cA xA X.K W (evNot f)) :=
  PE.weak (pe_not ha) fun σ H Q ⟨F, ι, S, δ, r, sl, gd⟩ => ⟨F, ι, S, δ, r, sl, gd.bind.mono fun F1 ι1 H1 d1 S1 e1 r1 g1 v1 rv1 => by
    obtain ⟨b, rfl, k⟩ := good_not g1
    exact ⟨b, bl_of rv1, k _ _ _ (Ext.refl ..) r1 _ (.bl _)⟩⟩
theorem c_notT (ha : PT X a (TDb cA xA X.K W f)) : PT X (.UnaryOp .Not a pos) (TDb cA xA X.K W (evNot f)) :=
  PT.weak (pt_not ha) fun σ H Q ⟨F, ι, S, δ, r, sl, gd⟩ => ⟨F, ι, S, δ, r, sl, gd.bind.mono fun F1 ι1 H1 d1 S1 e1 r1 g1 => by
    obtain ⟨b, rfl, k⟩ := good_not g1
    obtain ⟨b', eb, q⟩ := k _ _ _ (Ext.refl ..) r1
    cases eb
    exact ⟨b, rfl, q⟩⟩
def evAnd (f g : Env → Store → R D) : Env → Store → R D := fun δ S => (f δ S).bind fun x S => (match x with
    | .bl true => g δ S
    | .bl false => .ok (.bl false) S
    | _ => .stuck)
def evOr (f g : Env → Store → R D) : Env → Store → R D := fun δ S => (f δ S).bind fun x S => (match x with
    | .bl false => g δ S
    | .bl true => .ok (.bl true) S
    | _ => .stuck)
def evIte (h f g : Env → Store → R D) : Env → Store → R D := fun δ S => (h δ S).bind fun x S => (match x with
    | .bl true => f δ S
    | .bl false => g δ S
    | _ => .stuck)
theorem c_and {rest : List Expr} (ha : PE X a (TD cA xA X.K W f)) (hb : PE X (.BoolOp .And (b :: rest) pos) (TD cA xA X.K W g)) : PE X (.BoolOp .And (a :: b :: rest) pos) (TD cA xA X.K W (evAnd f g)) :=
  PE.weak (pe_and ha hb) fun σ H Q ⟨F, ι, S, δ, r, sl, gd⟩ => ⟨F, ι, S, δ, r, sl, gd.bind.mono fun F1 ι1 H1 d1 S1 e1 r1 g1 v1 rv1 => by
    cases d1 <;> first | exact g1.elim | skip
    rename_i c
    refine ⟨c, bl_of rv1, ?_⟩
    cases c with
    | true => exact ⟨F1, ι1, S1, δ, r1, sl.ext e1, g1⟩
    | false => exact g1 _ _ _ (Ext.refl ..) r1 _ (.bl _)⟩
theorem c_or {rest : List Expr} (ha : PE X a (TD cA xA X.K W f)) (hb : PE X (.BoolOp .Or (b :: rest) pos) (TD cA xA X.K W g)) : PE X (.BoolOp .Or (a :: b :: rest) pos) (TD cA xA X.K W (evOr f g)) :=
  PE.weak (pe_or ha hb) fun σ H Q ⟨F, ι, S, δ, r, sl, gd⟩ => ⟨F, ι, S, δ, r, sl, gd.bind.mono fun F1 ι1 H1 d1 S1 e1 r1 g1 v1 rv1 => by
    cases d1 <;> first | exact g1.elim | skip
    rename_i c
    refine ⟨c, bl_of rv1, ?_⟩
    cases c with
    | false => exact ⟨F1, ι1, S1, δ, r1, sl.ext e1, g1⟩
    | true => exact g1 _ _ _ (Ext.refl ..) r1 _ (.bl _)⟩
theorem c_andT {rest : List Expr} (ha : PT X a (TDb cA xA X.K W f)) (hb : PW X (.BoolOp .And (b :: rest) pos) (TDb cA xA X.K W g)) : PW X (.BoolOp .And (a :: b :: rest) pos) (TDb cA xA X.K W (evAnd f g)) :=
  ⟨fun wh pins s σ H Q I ⟨F, ι, S, δ, r, sl, gd⟩ => (pw_and ha hb).run wh pins s σ H Q I ⟨F, ι, S, δ, r, sl, gd.bind.mono fun F1 ι1 H1 d1 S1 e1 r1 g1 => by
    cases d1 <;> first | exact g1.elim | skip
    rename_i c
    refine ⟨c, rfl, ?_⟩
    cases c with
    | true => exact ⟨F1, ι1, S1, δ, r1, sl.ext e1, g1⟩
    | false =>
      obtain ⟨b, eb, q⟩ := g1 _ _ _ (Ext.refl ..) r1
      cases eb
      exact q⟩⟩
theorem c_orT {rest : List Expr} (ha : PT X a (TDb cA xA X.K W f)) (hb : PW X (.BoolOp .Or (b :: rest) pos) (TDb cA xA X.K W g)) : PW X (.BoolOp .Or (a :: b :: rest) pos) (TDb cA xA X.K W (evOr f g)) :=
  ⟨fun wh pins s σ H Q I ⟨F, ι, S, δ, r, sl, gd⟩ => (pw_or ha hb).run wh pins s σ H Q I ⟨F, ι, S, δ, r, sl, gd.bind.mono fun F1 ι1 H1 d1 S1 e1 r1 g1 => by
    cases d1 <;> first | exact g1.elim | skip
    rename_i c
    refine ⟨c, rfl, ?_⟩
    cases c with
    | false => exact ⟨F1, ι1, S1, δ, r1, sl.ext e1, g1⟩
    | true =>
      obtain ⟨b, eb, q⟩ := g1 _ _ _ (Ext.refl ..) r1
      cases eb
      exact q⟩⟩
theorem c_ite (hc : PT X c (TDb cA xA X.K W h)) (ha : PE X a (TD cA xA X.K W f)) (hb : PE X b (TD cA xA X.K W g)) : PE X (.IfExp c a b pos) (TD cA xA X.K W (evIte h f g)) :=
  PE.weak (pe_ifExp hc ha hb) fun σ H Q ⟨F, ι, S, δ, r, sl, gd⟩ => ⟨F, ι, S, δ, r, sl, gd.bind.mono fun F1 ι1 H1 d1 S1 e1 r1 g1 => by
    cases d1 <;> first | exact g1.elim | skip
    rename_i c
    refine ⟨c, rfl, ?_⟩
    cases c with
    | true => exact ⟨F1, ι1, S1, δ, r1, sl.ext e1, g1⟩
    | false => exact ⟨F1, ι1, S1, δ, r1, sl.ext e1, g1⟩⟩
/-- a test by the value -/
theorem c_test (ha : PE X a (TD cA xA X.K W f)) (he : ∀ whole, isTrue a X.env whole = (do let v ← whole; standAt a.pos; holding [v] (truthy v))) : PT X a (TDb cA xA X.K W f) :=
  PT.weak (pt_val ha he) fun σ H Q ⟨F, ι, S, δ, r, sl, gd⟩ => ⟨F, ι, S, δ, r, sl, gd.mono fun F1 ι1 H1 d1 S1 e1 r1 ⟨b, eb, q⟩ v rv => by
    subst eb
    exact ⟨b, bl_of rv, q⟩⟩
theorem cmp2_some {S : Store} {o : O2} {x y : D} {b : Bool} (h : cmp2 S o x y = some b) : op2 S o x y = some (.bl b) := by
  unfold cmp2 at h
  split at h
  · rename_i c e; cases h; exact e
  · cases h
def evChn (o1 o2 : O2) (f g h : Env → Store → R D) : Env → Store → R D := fun δ S => (f δ S).bind fun x S => (g δ S).bind fun y S => (match cmp2 S o1 x y with
    | some true => (h δ S).bind fun z S => ofO S ((cmp2 S o2 y z).map .bl)
    | some false => .ok (.bl false) S
    | none => .stuck)
theorem chn_end {o2 : O2} {K : PySem.W.Frag} {Wx : W0} {F : Hp} {ι : List Addr} {S : Store} {a b : D} {v u : V} {H : Hp} {Q : VK} (r : Rel cA K F ι S H) (ra : Rep K F ι v a) (rb : Rep K F ι u b)
    (h : Good cA xA K Wx F ι (ofO S ((cmp2 S o2 a b).map .bl)) fun F' ι' H' d _ => ∀ v, Rep K F' ι' v d → Q v H') : rOp cA K (fun S => op2 S o2) v u H Q := by
  obtain ⟨d, e, k⟩ := good_ofO h
  obtain ⟨c, e2, rfl⟩ := Option.map_eq_some_iff.mp e
  exact ⟨F, ι, S, a, b, _, r, ra, rb, cmp2_some e2, fun F' H' w e2 r2 rw' => k F' ι H' e2 r2 w rw'⟩
theorem c_chn {o o' : CmpOp} {o1 o2 : O2} (ho : OpR X (compareOp o) (rOp cA X.K fun S => op2 S o1)) (ho' : OpR X (compareOp o') (rOp cA X.K fun S => op2 S o2)) (ha : PE X a (TD cA xA X.K W f)) (hb : PE X b (TD cA xA X.K W g)) (hc : PE X c (TD cA xA X.K W h))
    (hm : lastMarks [o, o'] [b, c] = false := by rfl) (k : PE X (.Compare a [o, o'] [b, c] pos) (tChain (rOp cA X.K fun S => op2 S o1) (rOp cA X.K fun S => op2 S o2) (TD cA xA X.K W f) (TD cA xA X.K W g) (TD cA xA X.K W h))) :
    PE X (.Compare a [o, o'] [b, c] pos) (TD cA xA X.K W (evChn o1 o2 f g h)) :=
  PE.weak k fun σ H Q ⟨F, ι, S, δ, r, sl, gd⟩ => ⟨F, ι, S, δ, r, sl, gd.bind.mono fun F1 ι1 H1 d1 S1 e1 r1 g1 v1 rv1 =>
    ⟨F1, ι1, S1, δ, r1, sl.ext e1, g1.bind.mono fun F2 ι2 H2 d2 S2 e2 r2 g2 v2 rv2 => by
      cases hq : cmp2 S2 o1 d1 d2 with
      | none => rw [hq] at g2; exact g2.elim
      | some b =>
        rw [hq] at g2
        refine ⟨F2, ι2, S2, d1, d2, _, r2, rv1.ext e2, rv2, cmp2_some hq, fun F3 H3 w e3 r3 rw3 => ⟨b, bl_of rw3, ?_⟩⟩
        cases b with
        | false => exact (g2.ext e3) _ _ _ (Ext.refl ..) r3 _ (.bl _)
        | true => exact ⟨F3, ι2, S2, δ, r3, (sl.ext (e1.trans e2)).ext e3, (g2.ext e3).bind.mono fun F4 ι4 H4 d4 S4 e4 r4 g4 v4 rv4 => chn_end r4 ((rv2.ext e3).ext e4) rv4 g4⟩⟩⟩
/-! ### lists of expressions -/
theorem c_nil {W : WX} : PA X [] (TDs cA xA X.K W fun _ S => .ok [] S) := PA.weak pa_nil fun σ H Q ⟨F, ι, S, δ, r, sl, gd⟩ => gd _ _ _ (Ext.refl ..) r _ .nil
def evCons (f : Env → Store → R D) (g : Env → Store → R (List D)) : Env → Store → R (List D) := fun δ S => (f δ S).bind fun d S => (g δ S).bind fun ds S => .ok (d :: ds) S
theorem c_cons {es : List Expr} {gs : Env → Store → R (List D)} (ha : PE X a (TD cA xA X.K W f)) (hr : PA X es (TDs cA xA X.K W gs)) (hs : starEach (a :: es) X.env = (false, eval a X.env) :: starEach es X.env) :
    PA X (a :: es) (TDs cA xA X.K W (evCons f gs)) :=
  PA.weak (pa_cons ha hr hs) fun σ H Q ⟨F, ι, S, δ, r, sl, gd⟩ => ⟨F, ι, S, δ, r, sl, gd.bind.mono fun F1 ι1 H1 d1 S1 e1 r1 g1 v1 rv1 =>
    ⟨F1, ι1, S1, δ, r1, sl.ext e1, g1.bind.mono fun F2 ι2 H2 d2 S2 e2 r2 g2 v2 rv2 => g2 _ _ _ (Ext.refl ..) r2 _ (.cons (rv1.ext e2) rv2)⟩⟩
variable {es : List Expr} {gs : Env → Store → R (List D)}
def evTup (gs : Env → Store → R (List D)) : Env → Store → R D := fun δ S => (gs δ S).bind fun ds S => if ds.length ≤ LIM then .ok (.tup ds) S else .stuck
def evLst (m : Bool) (gs : Env → Store → R (List D)) : Env → Store → R D := fun δ S => (gs δ S).bind fun ds S => if ds.length ≤ LIM then newL m ds S else .stuck
theorem c_tup {x1} (h : PA X es (TDs cA xA X.K W gs)) : PE X (.Tuple es x1 pos) (TD cA xA X.K W (evTup gs)) :=
  PE.weak (pe_tup h) fun σ H Q ⟨F, ι, S, δ, r, sl, gd⟩ => ⟨F, ι, S, δ, r, sl, gd.bind.mono fun F1 ι1 H1 ds S1 e1 r1 g1 vs rvs => by
    split at g1
    · rename_i hl
      refine ⟨by rw [rvs.len, ← LIM_eq]; exact hl, fun p hp => ?_⟩
      have e := Ext.fresh (F := F1) (ι := ι1) (r1.freeF hp) (.tup vs)
      exact g1 _ _ _ e (r1.fresh hp _) _ (.tup (SqT.of upd_same) (rvs.ext e))
    · exact g1.elim⟩
theorem c_lst {m : Bool} (h : PA X es (TDs cA xA X.K W gs)) : PE X (.List es pos) (TD cA xA X.K W (evLst m gs)) :=
  PE.weak (pe_lst h) fun σ H Q ⟨F, ι, S, δ, r, sl, gd⟩ => ⟨F, ι, S, δ, r, sl, gd.bind.mono fun F1 ι1 H1 ds S1 e1 r1 g1 vs rvs => by
    split at g1
    · rename_i hl
      exact ⟨by rw [rvs.len, ← LIM_eq]; exact hl, fun p hp => newL_end r1 hp rvs g1⟩
    · exact g1.elim⟩
end
end Ev
namespace HT
open PySem PySem.Spec PyProof.Rows
section
variable {prog : Program} {w : World} {A : Around} {E : Value → Shared → Prop} {s : Shared}
theorem sliceApplied_rev {sl : Addr} {vs : Value} {n : Nat} {Q : Int × Int × Nat → Shared → Prop} (hs : s.heap.IsSliceOf sl .none .none vs) (ps : IsPart vs (some (-1)))
    (h : Q ((n : Int) - 1, -1, n) s) : wpAny (model prog w) A (Builtin.Slice.sliceApplied (.ref sl) (pure (n : Int))) Q E s := by
  obtain ⟨os, hos, hcs, hds⟩ := id hs
  unfold Builtin.Slice.sliceApplied Builtin.Slice.sliceFields
  refine wpAny_bind (wpAny_bind (wpAny_field hos hds (x := .none) rfl (wpAny_bind (wpAny_field hos hds (x := .none) rfl (wpAny_bind (wpAny_field hos hds (x := vs) rfl (wpAny_pure ?_)))))))
  refine wpAny_bind (slicePart_ ps ?_)
  show wpAny _ _ (if ((-1 : Int) == 0) = true then _ else _) _ _ s
  rw [if_neg (by decide)]
  refine wpAny_bind (slicePart_ .none (wpAny_bind (slicePart_ .none (wpAny_bind (wpAny_pure ?_)))))
  have e1 : Builtin.Slice.sliceAdjust none none (-1) (n : Int) = ((n : Int) - 1, -1) := by
    unfold Builtin.Slice.sliceAdjust
    simp
  have e2 : Builtin.Slice.slicePlaces ((n : Int) - 1) (-1) (-1) = n := by
    unfold Builtin.Slice.slicePlaces
    simp
    omega
  show wpAny _ _ (match Builtin.Slice.sliceAdjust none none (-1) (n : Int) with | (lo, hi) => pure (lo, (-1 : Int), Builtin.Slice.slicePlaces lo hi (-1))) _ _ s
  rw [e1]
  show wpAny _ _ (pure ((n : Int) - 1, (-1 : Int), Builtin.Slice.slicePlaces ((n : Int) - 1) (-1) (-1))) _ _ s
  rw [e2]
  exact wpAny_pure h
end
end HT
namespace HT
open PySem PySem.Spec PyProof.Rows
section
variable {prog : Program} {w : World} {A : Around} {E : Value → Shared → Prop} {s : Shared}
theorem fm_congr {α β : Type} {f g : α → Option β} : ∀ {l : List α}, (∀ a ∈ l, f a = g a) → l.filterMap f = l.filterMap g
  | [], _ => rfl
  | a :: l, h => by
    rw [List.filterMap_cons, List.filterMap_cons, h a (List.mem_cons_self ..), fm_congr fun b hb => h b (List.mem_cons_of_mem _ hb)]
theorem pick_rev (xs : Array Value) : ((List.range xs.size).filterMap fun (m : Nat) => xs[(((xs.size : Int) - 1) + (m : Int) * -1).toNat]?).toArray = xs.toList.reverse.toArray := by
  congr 1
  have : ∀ l : List Value, (List.range l.length).filterMap (fun (m : Nat) => l[(((l.length : Int) - 1) + (m : Int) * -1).toNat]?) = l.reverse := by
    intro l
    have e : (List.range l.length).filterMap (fun (m : Nat) => l[(((l.length : Int) - 1) + (m : Int) * -1).toNat]?) = (List.range l.length).filterMap (fun (m : Nat) => l.reverse[m]?) := by
      refine fm_congr fun m hm => ?_
      have hm := List.mem_range.mp hm
      rw [List.getElem?_reverse hm]
      congr 1
      omega
    rw [e]
    have : ∀ r : List Value, (List.range r.length).filterMap (fun (m : Nat) => r[m]?) = r := by
      intro r
      apply List.ext_getElem?
      intro i
      have h : ∀ k, k ≤ r.length → (List.range k).filterMap (fun (m : Nat) => r[m]?) = r.take k := by
        intro k
        induction k with
        | zero => intro _; simp
        | succ k ih =>
          intro hk
          rw [List.range_succ, List.filterMap_append, ih (by omega), List.take_succ]
          have : r[k]? = some r[k] := by simp [show k < r.length by omega]
          simp [this]
      rw [h _ (Nat.le_refl _), List.take_length]
    have q := this l.reverse
    rwa [List.length_reverse] at q
  have q := this xs.toList
  simpa using q
theorem getItem_tuple_rev {t sl : Addr} {items : Array Value} {vs : Value} {Q : Value → Shared → Prop} (ht : IsTup s.heap t items) (hs : s.heap.IsSliceOf sl .none .none vs) (ps : IsPart vs (some (-1)))
    (h : Q (.ref s.heap.objs.size) { s with heap := s.heap.push { cls := .type "tuple", data := .seq items.toList.reverse.toArray } })
    (hsz : items.size ≤ sizeLine) : wpAny (model prog w) A (getItem (.ref t) (.ref sl)) Q E s := by
  have htake : sizeOk (.seq items.toList.reverse.toArray) := by
    show items.toList.reverse.toArray.size ≤ sizeLine
    rw [List.size_toArray, List.length_reverse, Array.length_toList]
    omega
  obtain ⟨os, hos, hcs, hds⟩ := id hs
  have hTs : s.TypeIs (.ref sl) "slice" := ⟨os, hos, hcs⟩
  unfold getItem
  try with_reducible refine wpAny_holding ?_
  first | refine wpAny_bind (wpAny_pure ?_) | skip
  refine wpAny_bind (wpAny_sequenceKey ht.typeIs (by decide) ?_)
  refine wpAny_bind (wpAny_callSpecial?_slot (name := Str.ofString "__getitem__") ht.typeIs PyProof.Rows.slot_tuple_getitem
    (wpAny_call_entry PyProof.Rows.slot_tuple_getitem ht.typeIs entry_tuple_getitem ?_ (args_tuple_getitem _ _)))
  show wpAny _ _ (Builtin.Tuple.tupleItemsOf (.ref t) >>= _) _ _ s
  refine wpAny_bind (tupleItemsOf_ ht ?_)
  refine wpAny_bind (wpAny_typeOf hTs ?_)
  rw [if_pos (by decide)]
  refine wpAny_bind (sliceApplied_rev hs ps ?_)
  have hno : ¬ ((((items.size : Int) - 1) == 0 && (-1 : Int) == 1 && items.size == items.size) = true) := by simp
  show wpAny _ _ (if (((items.size : Int) - 1) == 0 && (-1 : Int) == 1 && items.size == items.size) = true then _ else _) _ _ s
  rw [if_neg hno, pick_rev]
  first
    | exact wpAny_bind (m := Builtin.Tuple.tupleExact _) (wpAny_newObj_type (wpAny_pure ⟨_, rfl, wpAny_pure h⟩) htake)
    | exact wpAny_bind (m := Builtin.Tuple.tupleExact _) (wpAny_newObj_type (wpAny_bind (wpAny_pure (wpAny_pure ⟨_, rfl, wpAny_pure h⟩))) htake)
    | exact wpAny_bind (wpAny_bind (m := Builtin.Tuple.tupleExact _) (wpAny_newObj_type (wpAny_pure (wpAny_pure ⟨_, rfl, wpAny_pure h⟩)) htake))
    | exact wpAny_bind (wpAny_bind (m := Builtin.Tuple.tupleExact _) (wpAny_newObj_type (wpAny_pure ⟨_, rfl, wpAny_pure h⟩) htake))
end
end HT

namespace Ev
open PySem PySem.Spec PyProof.Rows L2
section
variable {cA xA : Nat → Addr} {X : Cx} {W : WX} {a e : Expr} {pos : Pos} {f : Env → Store → R D}
def tRevB (K : PySem.W.Frag) (te : TE) : TE := fun σ H Q => te σ H fun x H1 => ∃ a xs, x = .ref a ∧ ((SqL K H1 a xs ∧ ∀ p, H1 p = none → Q (.ref p) (upd H1 p (.lst xs.reverse))) ∨ (SqT K H1 a xs ∧ ∀ p, H1 p = none → Q (.ref p) (upd H1 p (.tup xs.reverse))))
theorem pe_revB {te : TE} {k : Nat} {p1 p2 p3 pos : Pos} (he : PE X e te) : PE X (.Subscript e (.Slice none none (some (.UnaryOp .USub (.Constant (.int 1) k p1) p2)) p3) pos) (tRevB X.K te) := by
  refine ⟨fun pins s σ H Q I h => ?_⟩
  refine Subscript_ (thn (he.run pins s σ H _ I h) fun v s1 ⟨x, H1, I1, r1, q1⟩ => ?_)
  obtain ⟨a, xs, ex, hq⟩ := q1
  subst ex
  cases r1
  have hst : PO X (some (.UnaryOp .USub (.Constant (.int 1) k p1) p2)) (tPart (tUn (rU fun i => .int (-i)) (tC (.int 1)))) := po_some (pe_un un_neg pe_int)
  refine wpAny_Slice (thn (po_none.run pins s1 σ H1 (fun o H2 => o = none ∧ H2 = H1 ∧ True) I1 ⟨rfl, rfl, trivial⟩) fun vl s2 ⟨l, H2, I2, pl, el, e2, _⟩ => ?_)
  subst el e2
  refine thn (po_none.run pins s2 σ H2 (fun o H3 => o = none ∧ H3 = H2) I2 ⟨rfl, rfl⟩) fun vu s3 ⟨u, H3, I3, pu, eu, e3⟩ => ?_
  subst eu e3
  refine thn (hst.run pins s3 σ H3 (fun o H4 => o = some (-1) ∧ H4 = H3) I3 ⟨1, rfl, -1, rfl, rfl, rfl⟩) fun vs s4 ⟨o, H4, I4, ps, eo, e4⟩ => ?_
  subst eo e4
  have I5 : Inv X pins σ H4 { s4 with heap := s4.heap.push { cls := .type "slice", data := .fields #[vl, vu, vs] } } := I4.kept (t' := s4.toks) fun b ob q => Heap.get?_push_of_some _ q
  show wpAny (model X.prog X.w) X.A (subscriptTail e (.Slice none none (some (.UnaryOp .USub (.Constant (.int 1) k p1) p2)) p3) (.ref a) (.ref s4.heap.objs.size)) (EP X pins σ Q) X.xe { s4 with heap := s4.heap.push { cls := .type "slice", data := .fields #[vl, vu, vs] } }
  rcases hq with ⟨hx, q⟩ | ⟨hx, q⟩
  · obtain ⟨its, r, ht, hz⟩ := I5.list hx
    have hlen := r.length
    refine tail_any (ops := [.ref a, .ref s4.heap.objs.size]) ht.isList.typeIs (PySem.slot_list_getitem.lookup) ?_ (by with_unfolding_all rfl)
    refine wpAny_getItem_list_slice ht.isList (Heap.IsSliceOf.new _ vl vu vs) pl pu ps (by decide) ?_ (by rw [List.size_toArray]; omega)
    rw [PySem.W.krv_pick]
    refine ⟨.ref _, _, I5.laid (t' := s4.toks) (o := .lst xs.reverse) (fun b ob q => Heap.get?_push_of_some _ q) (Nat.le_refl _) ?_, rfl, q _ (I5.hok.fresh (Nat.le_refl _))⟩
    exact ⟨by rw [List.length_reverse]; exact hz, _, 0, r.reverse, Heap.get?_push_size _ rfl⟩
  · obtain ⟨its, r, ht, hz⟩ := I5.tuple hx
    have hlen := r.length
    cases pl
    cases pu
    refine tail_any (ops := [.ref a, .ref s4.heap.objs.size]) ht.typeIs (PyProof.Rows.slot_tuple_getitem.lookup) ?_ (by with_unfolding_all rfl)
    refine HT.getItem_tuple_rev ht (Heap.IsSliceOf.new _ .none .none vs) ps ?_ (by rw [List.size_toArray]; omega)
    refine ⟨.ref _, _, I5.laid (t' := s4.toks) (o := .tup xs.reverse) (fun b ob q => Heap.get?_push_of_some _ q) (Nat.le_refl _) ?_, rfl, q _ (I5.hok.fresh (Nat.le_refl _))⟩
    exact ⟨by rw [List.length_reverse]; exact hz, _, r.reverse, IsTup.new _ _⟩
end
end Ev
namespace Ev
open PySem PySem.Spec PyProof.Rows L2

/-! ### the forms of expressions -/
def plainE : Expr → Bool
  | .Set .. => false | .Starred .. => false | .Slice .. => false
  | _ => true
theorem star_plain {e : Expr} (h : plainE e = true) (es : List Expr) (env : PySem.Env) : starEach (e :: es) env = (false, eval e env) :: starEach es env := by
  cases e <;> first | (cases h; done) | rfl
theorem ix_plain {e : Expr} (h : plainE e = true) : PlainIx e := by
  intro o i
  cases e <;> first | (cases h; done) | rfl
theorem mark_plain {e : Expr} (h : plainE e = true) (o : CmpOp) : behindInMarks o e = false := by
  cases e <;> first | (cases h; done) | rfl
theorem fold_plain {e : Expr} (h : plainE e = true) (env : PySem.Env) (x : Value) : foldedSetIterable e env x = pure x := by
  cases e <;> first | (cases h; done) | rfl
theorem star_none : ∀ {es : List Expr} (h : es.all plainE = true) (pos : Pos) (env : PySem.Env), (backTo pos (starEach es env)).any (·.1) = false
  | [], _, _, _ => rfl
  | e :: es, h, pos, env => by
    rw [List.all_cons, Bool.and_eq_true] at h
    rw [star_plain h.1]
    show (false || (backTo pos (starEach es env)).any (·.1)) = false
    rw [star_none h.2]
    rfl
def baseOk : Expr → Bool
  | .Call _ [] _ _ => false
  | .Set .. => false | .Starred .. => false | .Slice .. => false
  | _ => true
theorem base_ok {e : Expr} (h : baseOk e = true) (f : Str) (env : PySem.Env) : attributeBase e f env (eval e env) = eval e env := by
  cases e <;> first | (cases h; done) | rfl | skip
  rename_i fn args kw pos
  cases args with
  | nil => cases h
  | cons a as => cases fn <;> rfl
theorem starE_plain {e : Expr} (h : plainE e = true) (env : PySem.Env) : starEach [e] env = [(false, eval e env)] := star_plain h [] env

section
variable {cA xA : Nat → Addr} {X : Cx} {W : WX} {a b c o e : Expr} {es : List Expr} {pos apos p : Pos} {f g : Env → Store → R D} {gs : Env → Store → R (List D)} {x : Str}

/-! ### built-ins by their names -/
def ev1 (op : Store → D → Option D) (f : Env → Store → R D) : Env → Store → R D := fun δ S => (f δ S).bind fun x S => ofO S (op S x)
def ev2 (op : Store → D → D → Option D) (f g : Env → Store → R D) : Env → Store → R D := fun δ S => (f δ S).bind fun x S => (g δ S).bind fun y S => ofO S (op S x y)
theorem c_bf {id : String} {op : Store → D → Option D} (hc : CallR X (.builtin id) (rOp1 cA X.K op)) (hg : Gl X x) (hm : X.mg x = none) (hv : bootBuiltins x = some (.builtin id)) (hn : x ≠ "__name__") (hdb : (x == ("__debug__" : Str)) = false) (pl : plainE a = true)
    (ha : PE X a (TD cA xA X.K W f)) : PE X (.Call (.Name x p) [a] [] pos) (TD cA xA X.K W (ev1 op f)) :=
  PE.weak (pe_callB hc hg hm hv (pa_cons ha pa_nil (starE_plain pl _)) hn hdb (starE_plain pl _) rfl) fun σ H Q ⟨F, ι, S, δ, r, sl, gd⟩ => ⟨F, ι, S, δ, r, sl, gd.bind.mono fun F1 ι1 H1 d1 S1 e1 r1 g1 v1 rv1 => op_end1 r1 rv1 g1⟩
theorem c_bt {T : String} {op : Store → D → Option D} (hc : CallR X (.type T) (rOp1 cA X.K op)) (hg : Gl X x) (hm : X.mg x = none) (hv : bootBuiltins x = some (.type T)) (hn : x ≠ "__name__") (hdb : (x == ("__debug__" : Str)) = false) (pl : plainE a = true)
    (ha : PE X a (TD cA xA X.K W f)) : PE X (.Call (.Name x p) [a] [] pos) (TD cA xA X.K W (ev1 op f)) :=
  PE.weak (pe_callTy hc hg hm hv (pa_cons ha pa_nil (starE_plain pl _)) hn hdb (starE_plain pl _) rfl) fun σ H Q ⟨F, ι, S, δ, r, sl, gd⟩ => ⟨F, ι, S, δ, r, sl, gd.bind.mono fun F1 ι1 H1 d1 S1 e1 r1 g1 v1 rv1 => op_end1 r1 rv1 g1⟩
theorem c_bf2 {id : String} {op : Store → D → D → Option D} (hc : CallR X (.builtin id) (rOpA cA X.K op)) (hg : Gl X x) (hm : X.mg x = none) (hv : bootBuiltins x = some (.builtin id)) (hn : x ≠ "__name__") (hdb : (x == ("__debug__" : Str)) = false) (pl : plainE a = true) (pl2 : plainE b = true)
    (ha : PE X a (TD cA xA X.K W f)) (hb : PE X b (TD cA xA X.K W g)) : PE X (.Call (.Name x p) [a, b] [] pos) (TD cA xA X.K W (ev2 op f g)) :=
  PE.weak (pe_callB hc hg hm hv (pa_cons ha (pa_cons hb pa_nil (starE_plain pl2 _)) (star_plain pl _ _)) hn hdb (star_plain pl _ _) (star_none (by rw [List.all_cons, pl2]; rfl) _ _)) fun σ H Q ⟨F, ι, S, δ, r, sl, gd⟩ =>
    ⟨F, ι, S, δ, r, sl, gd.bind.mono fun F1 ι1 H1 d1 S1 e1 r1 g1 v1 rv1 => ⟨F1, ι1, S1, δ, r1, sl.ext e1, g1.bind.mono fun F2 ι2 H2 d2 S2 e2 r2 g2 v2 rv2 => ⟨v1, v2, rfl, op_end r2 (rv1.ext e2) rv2 g2⟩⟩⟩
/-- isinstance(a, T) -/
theorem c_isi {t : Ty} {y : Str} {p2 : Pos} (hg : Gl X "isinstance") (hm : X.mg "isinstance" = none) (hgy : Gl X y) (hmy : X.mg y = none) (hvy : bootBuiltins y = some (.type (tyNm t))) (hny : y ≠ "__name__") (hdy : (y == ("__debug__" : Str)) = false) (pl : plainE a = true)
    (ha : PE X a (TD cA xA X.K W f)) : PE X (.Call (.Name "isinstance" p) [a, .Name y p2] [] pos) (TD cA xA X.K W (ev1 (fun S => op1 S (.isi t)) f)) :=
  PE.weak (pe_callB (ok_isi (cA := cA) t) hg hm (by decide +kernel) (pa_cons ha (pa_cons (pe_bltn (v := .ty (tyNm t)) hgy hmy hvy rfl hny hdy) pa_nil rfl) (star_plain pl _ _)) (by decide) (by decide) (star_plain pl _ _) rfl) fun σ H Q ⟨F, ι, S, δ, r, sl, gd⟩ =>
    ⟨F, ι, S, δ, r, sl, gd.bind.mono fun F1 ι1 H1 d1 S1 e1 r1 g1 v1 rv1 => ⟨v1, rfl, op_end1 r1 rv1 g1⟩⟩
/-- list(a) -/
def evLof (m : Bool) (f : Env → Store → R D) : Env → Store → R D := fun δ S => (f δ S).bind fun x S => (match lofL S x with
    | some xs => newL m xs S
    | none => .stuck)
theorem lof_at {K : PySem.W.Frag} {F H : Hp} {ι : List Addr} {S : Store} {d : D} {v : V} {xs : List D} (r : Rel cA K F ι S H) (h : Rep K F ι v d) (e : lofL S d = some xs) : ∃ p vs, v = .ref p ∧ (SqL K H p vs ∨ SqT K H p vs) ∧ Reps K F ι vs xs := by
  have lists : items S d = some xs → ∃ p vs, v = .ref p ∧ (SqL K H p vs ∨ SqT K H p vs) ∧ Reps K F ι vs xs := fun e => by
    obtain ⟨p, vs, rfl, hp, hv⟩ := items_at r h e
    exact ⟨p, vs, rfl, .inl (SqL.of hp), hv⟩
  cases d with
  | tup ys =>
    cases h with
    | tup h1 h2 =>
      simp only [lofL, Option.some.injEq] at e
      subst e
      exact ⟨_, _, rfl, .inr (SqT.up r.sub h1), h2⟩
  | _ => exact lists e
theorem c_lof {m : Bool} (hg : Gl X "list") (hm : X.mg "list" = none) (pl : plainE a = true) (ha : PE X a (TD cA xA X.K W f)) : PE X (.Call (.Name "list" p) [a] [] pos) (TD cA xA X.K W (evLof m f)) :=
  PE.weak (pe_callTy call_list_of hg hm (by decide +kernel) (pa_cons ha pa_nil (starE_plain pl _)) (by decide) (by decide) (starE_plain pl _) rfl) fun σ H Q ⟨F, ι, S, δ, r, sl, gd⟩ => ⟨F, ι, S, δ, r, sl, gd.bind.mono fun F1 ι1 H1 d1 S1 e1 r1 g1 v1 rv1 => by
    cases hi : lofL S1 d1 with
    | none => rw [hi] at g1; exact g1.elim
    | some xs =>
      rw [hi] at g1
      obtain ⟨q, vs, rfl, hp, hv⟩ := lof_at r1 rv1 hi
      exact ⟨q, vs, rfl, hp, fun l hl => newL_end r1 hl hv g1⟩⟩
/-- list(range(a, b)) -/
def evLrg (m : Bool) (f g : Env → Store → R D) : Env → Store → R D := fun δ S => (f δ S).bind fun x S => (g δ S).bind fun y S => (match x, y with
    | .int i, .int j => if 0 ≤ i ∧ i ≤ 100000 ∧ 0 ≤ j ∧ j ≤ 100000 then newL m (rngD i j) S else .stuck
    | _, _ => .stuck)
theorem rgV_reps {K : PySem.W.Frag} {F : Hp} {ι : List Addr} (i j : Int) : Reps K F ι (rgV i j) (rngD i j) := by
  unfold rgV rngD
  generalize (List.range (j - i).toNat) = l
  induction l with
  | nil => exact .nil
  | cons n l ih => exact .cons (.int _) ih
theorem c_lrg2 {m : Bool} {p2 pos2 : Pos} (hc : X.calm = true) (hg : Gl X "list") (hm : X.mg "list" = none) (hg2 : Gl X "range") (hm2 : X.mg "range" = none) (pl : plainE a = true) (pl2 : plainE b = true) (ha : PE X a (TD cA xA X.K W f)) (hb : PE X b (TD cA xA X.K W g)) :
    PE X (.Call (.Name "list" p) [.Call (.Name "range" p2) [a, b] [] pos2] [] pos) (TD cA xA X.K W (evLrg m f g)) :=
  PE.weak (pe_listRg hc hg hm (prg_2 hg2 hm2 ha hb (star_plain pl _ _) (starE_plain pl2 _) (star_none (by rw [List.all_cons, pl2]; rfl) _ _)) rfl) fun σ H Q ⟨F, ι, S, δ, r, sl, gd⟩ => ⟨F, ι, S, δ, r, sl, gd.bind.mono fun F1 ι1 H1 d1 S1 e1 r1 g1 v1 rv1 =>
    ⟨F1, ι1, S1, δ, r1, sl.ext e1, g1.bind.mono fun F2 ι2 H2 d2 S2 e2 r2 g2 v2 rv2 => by
      cases d1 <;> first | exact g2.elim | skip
      cases d2 <;> first | exact g2.elim | skip
      dsimp only at g2
      split at g2
      · rename_i i j hl
        cases rv1; cases rv2
        exact ⟨_, _, rfl, rfl, RgOk.of_le hl.1 (by omega) (by omega) hl.2.2.1, fun q hq => newL_end r2 hq (rgV_reps _ _) g2⟩
      · exact g2.elim⟩⟩
theorem c_lrg1 {m : Bool} {p2 pos2 : Pos} (hc : X.calm = true) (hg : Gl X "list") (hm : X.mg "list" = none) (hg2 : Gl X "range") (hm2 : X.mg "range" = none) (pl2 : plainE b = true) (hb : PE X b (TD cA xA X.K W g)) :
    PE X (.Call (.Name "list" p) [.Call (.Name "range" p2) [b] [] pos2] [] pos) (TD cA xA X.K W (evLrg m (fun _ S => .ok (.int 0) S) g)) :=
  PE.weak (pe_listRg hc hg hm (prg_1 hg2 hm2 hb (starE_plain pl2 _)) rfl) fun σ H Q ⟨F, ι, S, δ, r, sl, gd⟩ => by
    have gd' : Good cA xA X.K (fun c d H => W c d σ H) F ι ((g δ S).bind fun y S => (match y with
      | .int j => if 0 ≤ (0 : Int) ∧ (0 : Int) ≤ 100000 ∧ 0 ≤ j ∧ j ≤ 100000 then newL m (rngD 0 j) S else .stuck
      | _ => .stuck)) fun F' ι' H' d _ => ∀ v, Rep X.K F' ι' v d → Q v H' := by
      have e : evLrg m (fun _ S => .ok (.int 0) S) g δ S = ((g δ S).bind fun y S => (match y with
      | .int j => if 0 ≤ (0 : Int) ∧ (0 : Int) ≤ 100000 ∧ 0 ≤ j ∧ j ≤ 100000 then newL m (rngD 0 j) S else .stuck
      | _ => .stuck)) := by
        show ((g δ S).bind _) = _
        congr 1
        funext y S
        cases y <;> rfl
      rw [← e]
      exact gd
    refine ⟨F, ι, S, δ, r, sl, gd'.bind.mono fun F2 ι2 H2 d2 S2 e2 r2 g2 v2 rv2 => ?_⟩
    cases d2 <;> first | exact g2.elim | skip
    dsimp only at g2
    split at g2
    · rename_i j hl
      cases rv2
      exact ⟨_, rfl, RgOk.of_le hl.1 (by omega) (by omega) hl.2.2.1, fun q hq => newL_end r2 hq (rgV_reps _ _) g2⟩
    · exact g2.elim
/-- a + b of lists, by value or as a place -/
def evAdd (m : Bool) (f g : Env → Store → R D) : Env → Store → R D := fun δ S => (f δ S).bind fun x S => (g δ S).bind fun y S => (match addL S x y with
    | some xs => newL m xs S
    | none => .stuck)
theorem c_addL {m : Bool} (ha : PE X a (TD cA xA X.K W f)) (hb : PE X b (TD cA xA X.K W g)) : PE X (.BinOp a .Add b pos) (TD cA xA X.K W (evAdd m f g)) :=
  PE.weak (pe_op op_cat ha hb) fun σ H Q ⟨F, ι, S, δ, r, sl, gd⟩ => ⟨F, ι, S, δ, r, sl, gd.bind.mono fun F1 ι1 H1 d1 S1 e1 r1 g1 v1 rv1 =>
    ⟨F1, ι1, S1, δ, r1, sl.ext e1, g1.bind.mono fun F2 ι2 H2 d2 S2 e2 r2 g2 v2 rv2 => by
      cases hq : addL S2 d1 d2 with
      | none => rw [hq] at g2; exact g2.elim
      | some zs =>
        rw [hq] at g2
        unfold addL at hq
        split at hq
        · rename_i xs ys h1 h2
          split at hq
          · rename_i hl
            cases hq
            obtain ⟨p, vs, rfl, hp, hv⟩ := items_at r2 (rv1.ext e2) h1
            obtain ⟨p', ws, rfl, hp', hw⟩ := items_at r2 rv2 h2
            exact ⟨p, p', vs, ws, rfl, rfl, hp, hp', by rw [hv.len, hw.len, ← LIM_eq]; exact hl, fun c hc => newL_end r2 hc (hv.app hw) g2⟩
          · cases hq
        · cases hq⟩⟩

def evMul (m : Bool) (f g : Env → Store → R D) : Env → Store → R D := fun δ S => (f δ S).bind fun x S => (g δ S).bind fun y S => (match mulL S x y with
    | some xs => newL m xs S
    | none => .stuck)
theorem c_mulL {m : Bool} (ha : PE X a (TD cA xA X.K W f)) (hb : PE X b (TD cA xA X.K W g)) : PE X (.BinOp a .Mult b pos) (TD cA xA X.K W (evMul m f g)) :=
  PE.weak (pe_op op_rep ha hb) fun σ H Q ⟨F, ι, S, δ, r, sl, gd⟩ => ⟨F, ι, S, δ, r, sl, gd.bind.mono fun F1 ι1 H1 d1 S1 e1 r1 g1 v1 rv1 =>
    ⟨F1, ι1, S1, δ, r1, sl.ext e1, g1.bind.mono fun F2 ι2 H2 d2 S2 e2 r2 g2 v2 rv2 => by
      cases hq : mulL S2 d1 d2 with
      | none => rw [hq] at g2; exact g2.elim
      | some zs =>
        rw [hq] at g2
        unfold mulL at hq
        cases h1 : items S2 d1 with
        | none => rw [h1] at hq; cases hq
        | some xs =>
          rw [h1] at hq
          cases d2 <;> first | (cases hq; done) | skip
          rename_i k
          dsimp only at hq
          split at hq
          · rename_i hl
            cases hq
            obtain ⟨p, vs, rfl, hp, hv⟩ := items_at r2 (rv1.ext e2) h1
            cases rv2
            exact ⟨p, k, vs, rfl, rfl, hp, by omega, by omega, by rw [hv.len, ← LIM_eq]; exact hl.2.2, fun c hc => newL_end r2 hc (hv.rep _) g2⟩
          · cases hq⟩⟩
/-! ### slices -/
def evCut (lo hi : Bool) (f g : Env → Store → R D) : Env → Store → R D := fun δ S => (f δ S).bind fun x S => (g δ S).bind fun i S => (match i with
    | .int i => ofO S (cutD S (if lo then some i else none) (if hi then some i else none) x)
    | _ => .stuck)
theorem c_slf {p2 : Pos} (ha : PE X a (TD cA xA X.K W f)) (hb : PE X b (TD cA xA X.K W g)) : PE X (.Subscript a (.Slice (some b) none none p2) pos) (TD cA xA X.K W (evCut true false f g)) :=
  PE.weak (pe_slice (ok_cut (cA := cA)) ha (po_some hb) po_none) fun σ H Q ⟨F, ι, S, δ, r, sl, gd⟩ => ⟨F, ι, S, δ, r, sl, gd.bind.mono fun F1 ι1 H1 d1 S1 e1 r1 g1 v1 rv1 =>
    ⟨F1, ι1, S1, δ, r1, sl.ext e1, g1.bind.mono fun F2 ι2 H2 d2 S2 e2 r2 g2 v2 rv2 => by
      cases d2 <;> first | exact g2.elim | skip
      rename_i i
      cases rv2
      obtain ⟨d, e, k⟩ := good_ofO g2
      exact ⟨i, rfl, F2, ι2, S2, d1, d, r2, rv1.ext e2, e, fun F' H' w e3 r3 rw' => k F' ι2 H' e3 r3 w rw'⟩⟩⟩
theorem c_slt {p2 : Pos} (ha : PE X a (TD cA xA X.K W f)) (hb : PE X b (TD cA xA X.K W g)) : PE X (.Subscript a (.Slice none (some b) none p2) pos) (TD cA xA X.K W (evCut false true f g)) :=
  PE.weak (pe_slice (ok_cut (cA := cA)) ha po_none (po_some hb)) fun σ H Q ⟨F, ι, S, δ, r, sl, gd⟩ => ⟨F, ι, S, δ, r, sl, gd.bind.mono fun F1 ι1 H1 d1 S1 e1 r1 g1 v1 rv1 =>
    ⟨F1, ι1, S1, δ, r1, sl.ext e1, g1.bind.mono fun F2 ι2 H2 d2 S2 e2 r2 g2 v2 rv2 => by
      cases d2 <;> first | exact g2.elim | skip
      rename_i i
      cases rv2
      obtain ⟨d, e, k⟩ := good_ofO g2
      exact ⟨i, rfl, F2, ι2, S2, d1, d, r2, rv1.ext e2, e, fun F' H' w e3 r3 rw' => k F' ι2 H' e3 r3 w rw'⟩⟩⟩
def evRev (f : Env → Store → R D) : Env → Store → R D := fun δ S => (f δ S).bind fun x S => (match x with
    | .tup xs => .ok (.tup xs.reverse) S
    | .scr _ => .stuck
    | x => (match items S x with
      | some xs => .ok (.lst xs.reverse) S
      | none => .stuck))
theorem c_rev {k : Nat} {p1 p2 p3 : Pos} (ha : PE X a (TD cA xA X.K W f)) : PE X (.Subscript a (.Slice none none (some (.UnaryOp .USub (.Constant (.int 1) k p1) p2)) p3) pos) (TD cA xA X.K W (evRev f)) :=
  PE.weak (pe_revB ha) fun σ H Q ⟨F, ι, S, δ, r, sl, gd⟩ => ⟨F, ι, S, δ, r, sl, gd.bind.mono fun F1 ι1 H1 d1 S1 e1 r1 g1 v1 rv1 => by
    have go : ∀ {xs}, items S1 d1 = some xs → Good cA xA X.K (fun c d H => W c d σ H) F1 ι1 (R.ok (D.lst xs.reverse) S1) (fun F' ι' H' d _ => ∀ v, Rep X.K F' ι' v d → Q v H') →
        ∃ a xs, v1 = .ref a ∧ ((SqL X.K H1 a xs ∧ ∀ p, H1 p = none → Q (.ref p) (upd H1 p (.lst xs.reverse))) ∨ (SqT X.K H1 a xs ∧ ∀ p, H1 p = none → Q (.ref p) (upd H1 p (.tup xs.reverse)))) := fun {xs} hi g => by
      obtain ⟨q, vs, rfl, hp, hv⟩ := items_at r1 rv1 hi
      refine ⟨q, vs, rfl, .inl ⟨SqL.of hp, fun p hp2 => ?_⟩⟩
      have e := Ext.fresh (F := F1) (ι := ι1) (r1.freeF hp2) (.lst vs.reverse)
      exact g _ _ _ e (r1.fresh hp2 _) _ (.lst upd_same (hv.rev.ext e))
    cases d1 with
    | lst xs => exact go rfl g1
    | tup ds =>
      cases rv1 with
      | @tup q vs _ h1 h2 =>
        refine ⟨q, vs, rfl, .inr ⟨SqT.up r1.sub h1, fun p hp2 => ?_⟩⟩
        have e := Ext.fresh (F := F1) (ι := ι1) (r1.freeF hp2) (.tup vs.reverse)
        exact g1 _ _ _ e (r1.fresh hp2 _) _ (.tup (SqT.of upd_same) (h2.rev.ext e))
    | loc n =>
      dsimp only at g1
      split at g1
      · rename_i xs hi; exact go hi g1
      · exact g1.elim
    | _ => exact (g1 : False).elim⟩
end
end Ev
namespace Ev
open PySem PySem.Spec PyProof.Rows L2

section
variable {cA xA : Nat → Addr} {K : PySem.W.Frag} {F H : Hp} {ι : List Addr} {S : Store} {x : D} {v : V}
theorem lstAt_items {n : Nat} {xs : List D} (h : lstAt S x = some (n, xs)) : x = .loc n ∧ S[n]? = some (.lst xs) := by
  cases x with
  | loc m =>
    simp only [lstAt] at h
    split at h
    · rename_i ys hy
      cases h
      exact ⟨rfl, hy⟩
    · cases h
  | _ => simp [lstAt] at h
theorem lst_at (r : Rel cA K F ι S H) (h : Rep K F ι v x) {n : Nat} {xs : List D} (e : lstAt S x = some (n, xs)) : ∃ p vs, v = .ref p ∧ ι[n]? = some p ∧ H p = some (.lst vs) ∧ Reps K F ι vs xs ∧ S[n]? = some (.lst xs) := by
  obtain ⟨rfl, hc⟩ := lstAt_items e
  cases h with
  | loc hl =>
    obtain ⟨p, e1, e2, vs, e3, e4⟩ := r.cell n _ hc trivial
    rw [hl] at e1; cases e1
    exact ⟨_, vs, rfl, hl, e3, e4, hc⟩
theorem lst_ty (r : Rel cA K F ι S H) (h : Rep K F ι v x) (e : (lstAt S x).isSome = true) : tyV K "list" v H := by
  obtain ⟨⟨n, xs⟩, e⟩ := Option.isSome_iff_exists.mp e
  obtain ⟨p, vs, rfl, _, h2, _⟩ := lst_at r h e
  exact .inl ⟨rfl, vs, SqL.of h2⟩
theorem items_ty (r : Rel cA K F ι S H) (h : Rep K F ι v x) (e : (items S x).isSome = true) : tyV K "list" v H := by
  obtain ⟨xs, e⟩ := Option.isSome_iff_exists.mp e
  obtain ⟨p, vs, rfl, h2, _⟩ := items_at r h e
  exact .inl ⟨rfl, vs, SqL.of h2⟩
theorem rel_setL (r : Rel cA K F ι S H) {n : Nat} {p : Addr} {xs ys : List D} {vs : List V} (hc : S[n]? = some (.lst xs)) (hl : ι[n]? = some p) (h : Reps K F ι vs ys) : Rel cA K F ι (S.set n (.lst ys)) (upd H p (.lst vs)) :=
  r.write hc trivial hl (.lst ys) ⟨vs, rfl, h⟩

/-- list.append, pop, by values -/
def rMut (cA xA : Nat → Addr) (K : PySem.W.Frag) (op : D → List D → Store → R D) : V → List V → Hp → VK → Prop := fun v vs H Q => ∃ F ι S x ds, Rel cA K F ι S H ∧ Rep K F ι v x ∧ Reps K F ι vs ds ∧
  Good cA xA K (fun _ _ _ => False) F ι (op x ds S) fun F' ι' H' d _ => ∀ v, Rep K F' ι' v d → Q v H'
variable {X : Cx}
theorem ok_app : MtR X "list.append" (rMut cA xA X.K fun x ds S => match ds with
    | [y] => appD x y S
    | _ => .stuck) := by
  intro pins s σ H v vs u us Q I ru rus h
  obtain ⟨F, ι, S, x, ds, r, rx, rd, g⟩ := h
  match ds, rd, g with
  | [], _, g => exact g.elim
  | _ :: _ :: _, _, g => exact g.elim
  | [y], rd, g =>
    cases rd with
    | cons ry rn =>
      cases rn
      dsimp only at g
      unfold appD at g
      split at g
      · rename_i n xs hx
        split at g
        · rename_i hl
          obtain ⟨p, ws, rfl, hp, hH, hv, hc⟩ := lst_at r rx hx
          exact mt_append pins s σ H _ _ u us Q I ru rus ⟨p, ws, _, rfl, rfl, hH, by rw [hv.len, ← LIM_eq]; exact hl, g _ _ _ (Ext.refl ..) (rel_setL r hc hp (hv.app (.cons ry .nil))) _ .non⟩
        · exact g.elim
      · exact g.elim
theorem ok_pop : MtR X "list.pop" (rMut cA xA X.K fun x ds S => match ds with
    | [] => popD x S
    | _ => .stuck) := by
  intro pins s σ H v vs u us Q I ru rus h
  obtain ⟨F, ι, S, x, ds, r, rx, rd, g⟩ := h
  match ds, rd, g with
  | _ :: _, _, g => exact g.elim
  | [], rd, g =>
    cases rd
    dsimp only at g
    unfold popD at g
    split at g
    · rename_i n xs hx
      split at g
      · rename_i y hy
        obtain ⟨p, ws, rfl, hp, hH, hv, hc⟩ := lst_at r rx hx
        rw [List.getLast?_eq_getElem?] at hy
        obtain ⟨w, hw, rw'⟩ := hv.get hy
        exact mt_pop pins s σ H _ _ u us Q I ru rus ⟨p, ws, w, rfl, rfl, hH, by rw [hv.len]; exact hw, g _ _ _ (Ext.refl ..) (rel_setL r hc hp hv.dropLast) _ rw'⟩
      · exact g.elim
    · exact g.elim
theorem ok_popAt : MtR X "list.pop" (rMut cA xA X.K fun x ds S => match ds with
    | [y] => popAtD x y S
    | _ => .stuck) := by
  intro pins s σ H v vs u us Q I ru rus h
  obtain ⟨F, ι, S, x, ds, r, rx, rd, g⟩ := h
  match ds, rd, g with
  | [], _, g => exact g.elim
  | _ :: _ :: _, _, g => exact g.elim
  | [y], rd, g =>
    cases rd with
    | cons ry rn =>
      cases rn
      dsimp only at g
      unfold popAtD at g
      split at g
      · rename_i n y xs hx
        obtain ⟨p, ws, rfl, hp, hH, hv, hc⟩ := lst_at r rx hx
        cases hv with
        | cons h1 h2 =>
          cases ry
          exact mt_popAt pins s σ H _ _ u us Q I ru rus ⟨p, _, 0, 0, _, rfl, rfl, hH, by decide, by decide, by simp [seqIndex?], rfl, g _ _ _ (Ext.refl ..) (rel_setL r hc hp h2) _ h1⟩
      · exact g.elim
theorem idxD_at {d : D} {m : Nat} (fd : flat m d = true) {k : Nat} : ∀ {xs : List D} {j : Nat}, flats k xs = true → idxD xs d = some j → (∃ z, (toPs xs)[j]? = some z ∧ PyData.eqv z (toP d) = true) ∧ ∀ (i : Nat) z', i < j → (toPs xs)[i]? = some z' → PyData.eqv z' (toP d) = false
  | [], j, _, h => by simp [idxD] at h
  | x :: xs, j, f, h => by
    have f2 : flat k x = true ∧ flats k xs = true := by simpa [flats] using f
    simp only [idxD] at h
    split at h
    · rename_i he
      cases h
      exact ⟨⟨toP x, by simp [toPs], by rw [eqv_of x k m d f2.1 fd]; exact he⟩, fun i z' hi => absurd hi (Nat.not_lt_zero _)⟩
    · rename_i he
      obtain ⟨j', h', rfl⟩ := Option.map_eq_some_iff.mp h
      obtain ⟨⟨z, hz, hz2⟩, hn⟩ := idxD_at fd f2.2 h'
      refine ⟨⟨z, by simpa [toPs] using hz, hz2⟩, fun i z' hi hz' => ?_⟩
      cases i with
      | zero =>
        simp [toPs] at hz'
        subst hz'
        rw [eqv_of x k m d f2.1 fd]
        simpa using he
      | succ i => exact hn i z' (by omega) (by simpa [toPs] using hz')
theorem ok_idx (hu : X.A.units + 65 < cLine) : MtR X "list.index" (fun v vs H Q => ∃ w, vs = [w] ∧ rOp cA X.K idxO v w H Q) := by
  intro pins s σ H v vs u us Q I ru rus h
  obtain ⟨w, rfl, F, ι, S, a, b, d, r, ra, rb, e, q⟩ := h
  unfold idxO at e
  split at e
  · rename_i xs hx
    split at e
    · rename_i hf
      obtain ⟨f1, f2⟩ := Bool.and_eq_true_iff.mp hf
      obtain ⟨j, hj, rfl⟩ := Option.map_eq_some_iff.mp e
      obtain ⟨p1, p2⟩ := items_dp r (by decide) ra hx f2
      obtain ⟨p, vs, rfl, hp, hv⟩ := items_at r ra hx
      obtain ⟨⟨z, hz, hz2⟩, hn⟩ := idxD_at f1 f2 hj
      exact mt_indexD hu pins s σ H _ _ u us Q I ru rus ⟨p, w, _, _, j, z, rfl, rfl, p1, dp_of r.sub b 15 _ f1 rb, p2, shaped_of (by decide) f1 rb, hz, hz2, fun i z' hi hz' => hn i z' hi hz', q F H _ (Ext.refl ..) r (.int _)⟩
    · cases e
  · cases e
theorem cnt_eqU {x : V} : ∀ {xs : List V} {us : List Value}, Vals xs us → xs.all flatV = true → us.countP (eqU x) = (xs.filter fun y => eqV y x).length
  | _, _, .nil, _ => rfl
  | y :: xs, u :: us, .cons r t, f => by
    rw [List.all_cons, Bool.and_eq_true] at f
    rw [List.countP_cons, List.filter_cons, eqU_of r f.1, cnt_eqU t f.2]
    split <;> simp [*]
theorem cnt_eqD {e : D} {w : V} (g : flat 0 e = true) (h' : Rep K F ι w e) : ∀ {ds : List D} {vs : List V}, flats 0 ds = true → Reps K F ι vs ds → (vs.filter fun v => eqV v w).length = cntD ds e
  | [], _, _, h => by cases h; rfl
  | d :: ds, _, f, h => by
    cases h with
    | cons h1 h2 =>
      have f2 : flat 0 d = true ∧ flats 0 ds = true := by simpa [flats] using f
      have ih := cnt_eqD g h' f2.2 h2
      unfold cntD at ih ⊢
      rw [List.filter_cons, List.filter_cons, eqV_eqD f2.1 g h1 h']
      split <;> simp [ih]
theorem ok_cnt : MtR X "list.count" (fun v vs H Q => ∃ w, vs = [w] ∧ rOp cA X.K cntO v w H Q) := by
  intro pins s σ H v vs u us Q I ru rus h
  obtain ⟨w, rfl, F, ι, S, a, b, d, r, ra, rb, e, q⟩ := h
  unfold cntO at e
  split at e
  · rename_i xs hx
    split at e
    · rename_i hf
      obtain ⟨f1, f2⟩ := Bool.and_eq_true_iff.mp hf
      cases e
      obtain ⟨p, vs, rfl, hp, hv⟩ := items_at r ra hx
      cases ru
      obtain ⟨u1, rfl, ru1⟩ := rus.one
      obtain ⟨its, rv, ⟨⟨cls, dd, data, sl⟩, n, ho, hc, hdn, hd⟩, hlen⟩ := I.list (SqL.of hp)
      simp only at hc hd
      subst hc hd
      have fx := flat0_V f1 rb
      have fs := flats0_V f2 hv
      refine PySem.call_meets PySem.F.slot_list_count ⟨_, ho, rfl⟩ PySem.F.entry_list_count (PySem.F.args_list_count_2 _ _)
        (SeqAt.list_countAt p its.toArray n dd sl u1 (eqU w)) ⟨ho, fun y hy => mem_eqAt ru1 fx rv fs y (by simpa using hy), ?_⟩
      have ec : its.toArray.toList.countP (eqU w) = cntD xs b := by
        rw [List.toList_toArray, cnt_eqU rv fs, cnt_eqD f1 rb f2 hv]
      refine ⟨.int (cntD xs b : Nat), H, I.tok _, ⟨s.toks, ?_⟩, q F H _ (Ext.refl ..) r (.int _)⟩
      show Value.int ((its.toArray.toList.countP (eqU w) : Nat) : Int) s.toks = _
      rw [ec]
    · cases e
  · cases e
theorem okStr_iff {z : Str} : okStr z = true ↔ ∀ c ∈ z.cps.toList, c < 0x110000 := by
  unfold okStr PyData.strOk
  rw [← Array.all_toList, List.all_eq_true]
  simp
theorem join_okS {z : Str} (hz : okStr z = true) : ∀ {xs : List Str}, (∀ s ∈ xs, okStr s = true) → okStr (Str.join z xs) = true
  | [], _ => by simp [Str.join, Str.empty, okStr, PyData.strOk]
  | [x], h => h x (List.mem_cons_self ..)
  | x :: y :: r, h => by
    have ih := join_okS hz (xs := y :: r) fun s hs => h s (List.mem_cons_of_mem _ hs)
    have hx := h x (List.mem_cons_self ..)
    rw [okStr_iff] at *
    intro c hc
    have hc : c ∈ ((x.cps ++ z.cps) ++ (Str.join z (y :: r)).cps).toList := hc
    rw [Array.toList_append, Array.toList_append, List.mem_append, List.mem_append] at hc
    rcases hc with (hc | hc) | hc
    · exact hx c hc
    · exact hz c hc
    · exact ih c hc
theorem ok_join : MtR X "str.join" (fun v vs H Q => ∃ w, vs = [w] ∧ rOp cA X.K joinO v w H Q) := by
  intro pins s σ H v vs u us Q I ru rus h
  obtain ⟨w, rfl, F, ι, S, a, b, d, r, ra, rb, e, q⟩ := h
  unfold joinO at e
  split at e
  · rename_i z xs hx
    split at e
    · rename_i hl
      cases e
      obtain ⟨ys, h1, h2⟩ := Option.bind_eq_some_iff.mp hx
      obtain ⟨p, vs, rfl, hp, hv⟩ := items_at r rb h1
      obtain ⟨rfl, ok⟩ := strsOf_V hv h2
      cases ra with
      | str _ oz =>
        refine mt_join pins s σ H _ _ u us Q I ru rus ⟨z, p, xs, rfl, rfl, .inl (SqL.of hp), hl, ?_⟩
        rw [TL.join_eq]
        exact q F H _ (Ext.refl ..) r (.str _ (join_okS oz ok))
    · cases e
  · cases e
theorem spl_sub (T : List Nat) : ∀ (L : List Nat) (k : Nat) (acc : List Nat) (q : List Nat), q ∈ TL.spl T k acc L → ∀ c ∈ q, c ∈ acc ∨ c ∈ L
  | [], k, acc, q, h, c, hc => by
    rw [TL.spl_nil] at h
    simp at h
    subst h
    exact .inl hc
  | x :: L, 0, acc, q, h, c, hc => by
    by_cases hp : TL.pre T (x :: L) = true
    · rw [TL.spl_hit hp] at h
      rcases List.mem_cons.mp h with e | e
      · subst e; exact .inl hc
      · rcases spl_sub T L _ [] q e c hc with z | z
        · cases z
        · exact .inr (List.mem_cons_of_mem _ z)
    · have e : TL.spl T 0 acc (x :: L) = TL.spl T 0 (acc ++ [x]) L := by
        show (if TL.pre T (x :: L) = true then _ else _) = _
        rw [if_neg hp]
      rw [e] at h
      rcases spl_sub T L _ _ q h c hc with z | z
      · rcases List.mem_append.mp z with z | z
        · exact .inl z
        · simp at z; subst z; exact .inr (List.mem_cons_self ..)
      · exact .inr (List.mem_cons_of_mem _ z)
  | x :: L, k + 1, acc, q, h, c, hc => by
    have e : TL.spl T (k + 1) acc (x :: L) = TL.spl T k acc L := rfl
    rw [e] at h
    rcases spl_sub T L _ _ q h c hc with z | z
    · exact .inl z
    · exact .inr (List.mem_cons_of_mem _ z)
theorem split_okS {z w : Str} (h1 : w.length = 1) (h2 : w.cps.all (· < 256) = true) (hz : okStr z = true) : ∀ s ∈ PySem.Txt.split z w, okStr s = true := by
  intro s hs
  rw [okStr_iff] at *
  intro c hc
  have hy : TL.tl w ≠ [] := by
    intro e
    have : w.length = 0 := (TL.len0_tl w).mpr e
    omega
  have e := TL.split_spl z w hy (TL.kind_ok h2)
  have hm : TL.tl s ∈ (PySem.Txt.split z w).map TL.tl := List.mem_map.mpr ⟨s, hs, rfl⟩
  rw [e] at hm
  rcases spl_sub _ _ _ _ _ hm c hc with y | y
  · cases y
  · exact hz c y
theorem ok_split : MtR X "str.split" (fun v vs H Q => ∃ w, vs = [w] ∧ rOp cA X.K (fun _ => splitO) v w H Q) := by
  intro pins s σ H v vs u us Q I ru rus h
  obtain ⟨w, rfl, F, ι, S, a, b, d, r, ra, rb, e, q⟩ := h
  dsimp only at e
  unfold splitO at e
  split at e
  · rename_i z w
    split at e
    · rename_i hl
      cases e
      cases ra with
      | str _ oz =>
        cases rb
        refine mt_split pins s σ H _ _ u us Q I ru rus ⟨z, w, rfl, rfl, by rw [hl.1]; rfl, by rw [← LIM_eq]; exact hl.2.2, fun p hp => ?_⟩
        exact fin_lst r hp (reps_strs (split_okS hl.1 hl.2.1 oz)) q
    · cases e
  · cases e
theorem upper_is {z : Str} (h : ascii z = true) : PySem.Txt.upper z = upperS z := by
  unfold ascii at h
  rw [List.all_eq_true] at h
  rw [PyProof.Rows.upper_ascii fun c hc => by simpa using h c hc]
  unfold upperS
  congr 1
  apply Array.ext'
  rw [Array.toList_map]
  rfl
theorem ok_upper : MtR X "str.upper" (fun v vs H Q => vs = [] ∧ rOp1 cA X.K (fun S => op1 S .upper) [v] H Q) := by
  intro pins s σ H v vs u us Q I ru rus h
  obtain ⟨rfl, F, ι, S, x', a, d, ex, r, ra, e, q⟩ := h
  cases ex
  cases a <;> simp only [op1] at e <;> first | (cases e; done) | (simp [items] at e; done) | skip
  rename_i z
  split at e
  · rename_i hf
    obtain ⟨f1, f2⟩ := Bool.and_eq_true_iff.mp hf
    cases e
    cases ra with
    | str _ oz =>
      refine mt_upper pins s σ H _ _ u us Q I ru rus ⟨z, rfl, rfl, Nat.le_trans (of_decide_eq_true f2) (by decide), ?_⟩
      rw [upper_is f1]
      refine q F H _ (Ext.refl ..) r (.str _ ?_)
      rw [okStr_iff]
      intro c hc
      unfold upperS at hc
      simp at hc
      obtain ⟨b, hb, rfl⟩ := hc
      unfold ascii at f1
      have := List.all_eq_true.mp f1 b (by simpa using hb)
      simp at this
      split <;> omega
  · cases e
end
end Ev
namespace Ev
open PySem PySem.Spec PyProof.Rows L2

section
variable {cA xA : Nat → Addr} {X : Cx} {W : WX} {a b c o e : Expr} {es : List Expr} {pos apos p : Pos} {f g : Env → Store → R D} {gs : Env → Store → R (List D)} {x : Str}

/-! ### methods of built-ins -/
theorem few1 {e : Expr} (pl : plainE e = true) (env : PySem.Env) (cpos : Pos) : ((backTo cpos (starEach [e] env)).all (fun x => !x.1) && (backToKw cpos (keywordEach [] env)).all (fun x => x.1.isSome)
      && decide ([e].length + ([] : List Keyword).length + (if ([] : List Keyword).isEmpty then 0 else 1) < 30)) = true := by
  rw [starE_plain pl]
  rfl
def evApp (f g : Env → Store → R D) : Env → Store → R D := fun δ S => (f δ S).bind fun x S => if (lstAt S x).isSome then (g δ S).bind fun y S => appD x y S else .stuck
theorem c_app (pl : plainE b = true) (bo : baseOk o = true) (hl : (apos.endLine == pos.line) = true) (ha : PE X o (TD cA xA X.K W f)) (hb : PE X b (TD cA xA X.K W g)) : PE X (.Call (.Attribute o "append" apos) [b] [] pos) (TD cA xA X.K W (evApp f g)) :=
  PE.weak (pe_bm PySem.F.plainAttrs_list PySem.F.slot_list_append PySem.F.type_list_append (ok_app (cA := cA) (xA := xA)) ha (pa_cons hb pa_nil (starE_plain pl _)) (base_ok bo _ _) (few1 pl _ _) hl (starE_plain pl _) rfl) fun σ H Q ⟨F, ι, S, δ, r, sl, gd⟩ =>
    ⟨F, ι, S, δ, r, sl, gd.bind.mono fun F1 ι1 H1 d1 S1 e1 r1 g1 v1 rv1 => by
      split at g1
      · rename_i hs
        refine ⟨lst_ty r1 rv1 hs, F1, ι1, S1, δ, r1, sl.ext e1, g1.bind.mono fun F2 ι2 H2 d2 S2 e2 r2 g2 v2 rv2 => ?_⟩
        refine ⟨F2, ι2, S2, d1, [d2], r2, rv1.ext e2, .cons rv2 .nil, ?_⟩
        dsimp only
        unfold appD at g2 ⊢
        split at g2
        · split at g2
          · rename_i hl
            rw [if_pos hl]
            exact g2
          · exact g2.elim
        · exact g2.elim
      · exact g1.elim⟩
theorem c_pop (bo : baseOk o = true) (hl : (apos.endLine == pos.line) = true) (ha : PE X o (TD cA xA X.K W f)) : PE X (.Call (.Attribute o "pop" apos) [] [] pos) (TD cA xA X.K W fun δ S => (f δ S).bind fun x S => popD x S) :=
  PE.weak (pe_bm0 PySem.F.plainAttrs_list PySem.F.slot_list_pop PySem.F.type_list_pop (ok_pop (cA := cA) (xA := xA)) ha (base_ok bo _ _) hl) fun σ H Q ⟨F, ι, S, δ, r, sl, gd⟩ =>
    ⟨F, ι, S, δ, r, sl, gd.bind.mono fun F1 ι1 H1 d1 S1 e1 r1 g1 v1 rv1 => by
      have hs : (lstAt S1 d1).isSome = true := by
        unfold popD at g1
        split at g1
        · rename_i hx; rw [hx]; rfl
        · exact g1.elim
      refine ⟨lst_ty r1 rv1 hs, F1, ι1, S1, d1, [], r1, rv1, .nil, ?_⟩
      dsimp only
      unfold popD at g1 ⊢
      split at g1
      · split at g1
        · exact g1
        · exact g1.elim
      · exact g1.elim⟩
def evPopAt (f g : Env → Store → R D) : Env → Store → R D := fun δ S => (f δ S).bind fun x S => if (lstAt S x).isSome then (g δ S).bind fun y S => popAtD x y S else .stuck
theorem c_popAt (pl : plainE b = true) (bo : baseOk o = true) (hl : (apos.endLine == pos.line) = true) (ha : PE X o (TD cA xA X.K W f)) (hb : PE X b (TD cA xA X.K W g)) : PE X (.Call (.Attribute o "pop" apos) [b] [] pos) (TD cA xA X.K W (evPopAt f g)) :=
  PE.weak (pe_bm PySem.F.plainAttrs_list PySem.F.slot_list_pop PySem.F.type_list_pop (ok_popAt (cA := cA) (xA := xA)) ha (pa_cons hb pa_nil (starE_plain pl _)) (base_ok bo _ _) (few1 pl _ _) hl (starE_plain pl _) rfl) fun σ H Q ⟨F, ι, S, δ, r, sl, gd⟩ =>
    ⟨F, ι, S, δ, r, sl, gd.bind.mono fun F1 ι1 H1 d1 S1 e1 r1 g1 v1 rv1 => by
      split at g1
      · rename_i hs
        refine ⟨lst_ty r1 rv1 hs, F1, ι1, S1, δ, r1, sl.ext e1, g1.bind.mono fun F2 ι2 H2 d2 S2 e2 r2 g2 v2 rv2 => ?_⟩
        refine ⟨F2, ι2, S2, d1, [d2], r2, rv1.ext e2, .cons rv2 .nil, ?_⟩
        dsimp only
        unfold popAtD at g2 ⊢
        split at g2
        · exact g2
        · exact g2.elim
      · exact g1.elim⟩
def evIt2 (op : Store → D → D → Option D) (f g : Env → Store → R D) : Env → Store → R D := fun δ S => (f δ S).bind fun x S => if (items S x).isSome then (g δ S).bind fun y S => ofO S (op S x y) else .stuck
theorem c_idx (hu : X.A.units + 65 < cLine) (pl : plainE b = true) (bo : baseOk o = true) (hl : (apos.endLine == pos.line) = true) (ha : PE X o (TD cA xA X.K W f)) (hb : PE X b (TD cA xA X.K W g)) : PE X (.Call (.Attribute o "index" apos) [b] [] pos) (TD cA xA X.K W (evIt2 idxO f g)) :=
  PE.weak (pe_bm PySem.F.plainAttrs_list PySem.F.slot_list_index PySem.F.type_list_index (ok_idx (cA := cA) hu) ha (pa_cons hb pa_nil (starE_plain pl _)) (base_ok bo _ _) (few1 pl _ _) hl (starE_plain pl _) rfl) fun σ H Q ⟨F, ι, S, δ, r, sl, gd⟩ =>
    ⟨F, ι, S, δ, r, sl, gd.bind.mono fun F1 ι1 H1 d1 S1 e1 r1 g1 v1 rv1 => by
      split at g1
      · rename_i hs
        exact ⟨items_ty r1 rv1 hs, F1, ι1, S1, δ, r1, sl.ext e1, g1.bind.mono fun F2 ι2 H2 d2 S2 e2 r2 g2 v2 rv2 => ⟨v2, rfl, op_end r2 (rv1.ext e2) rv2 g2⟩⟩
      · exact g1.elim⟩
theorem c_cnt (pl : plainE b = true) (bo : baseOk o = true) (hl : (apos.endLine == pos.line) = true) (ha : PE X o (TD cA xA X.K W f)) (hb : PE X b (TD cA xA X.K W g)) : PE X (.Call (.Attribute o "count" apos) [b] [] pos) (TD cA xA X.K W (evIt2 cntO f g)) :=
  PE.weak (pe_bm PySem.F.plainAttrs_list PySem.F.slot_list_count PySem.F.type_list_count (ok_cnt (cA := cA)) ha (pa_cons hb pa_nil (starE_plain pl _)) (base_ok bo _ _) (few1 pl _ _) hl (starE_plain pl _) rfl) fun σ H Q ⟨F, ι, S, δ, r, sl, gd⟩ =>
    ⟨F, ι, S, δ, r, sl, gd.bind.mono fun F1 ι1 H1 d1 S1 e1 r1 g1 v1 rv1 => by
      split at g1
      · rename_i hs
        exact ⟨items_ty r1 rv1 hs, F1, ι1, S1, δ, r1, sl.ext e1, g1.bind.mono fun F2 ι2 H2 d2 S2 e2 r2 g2 v2 rv2 => ⟨v2, rfl, op_end r2 (rv1.ext e2) rv2 g2⟩⟩
      · exact g1.elim⟩
/-- methods of texts: the receiver must be a text -/
def evStr (op : Store → D → D → Option D) (f g : Env → Store → R D) : Env → Store → R D := fun δ S => (f δ S).bind fun x S => if isStr x then (g δ S).bind fun y S => ofO S (op S x y) else .stuck
theorem str_ty {K : PySem.W.Frag} {F H : Hp} {ι : List Addr} {d : D} {v : V} (h : Rep K F ι v d) (e : isStr d = true) : tyV K "str" v H := by
  cases h <;> first | (cases e; done) | rfl
theorem c_join (pl : plainE b = true) (bo : baseOk o = true) (hl : (apos.endLine == pos.line) = true) (ha : PE X o (TD cA xA X.K W f)) (hb : PE X b (TD cA xA X.K W g)) : PE X (.Call (.Attribute o "join" apos) [b] [] pos) (TD cA xA X.K W (evStr joinO f g)) :=
  PE.weak (pe_bm PySem.F.plainAttrs_str PySem.F.slot_str_join PySem.F.type_str_join (ok_join (cA := cA)) ha (pa_cons hb pa_nil (starE_plain pl _)) (base_ok bo _ _) (few1 pl _ _) hl (starE_plain pl _) rfl) fun σ H Q ⟨F, ι, S, δ, r, sl, gd⟩ =>
    ⟨F, ι, S, δ, r, sl, gd.bind.mono fun F1 ι1 H1 d1 S1 e1 r1 g1 v1 rv1 => by
      split at g1
      · rename_i hs
        exact ⟨str_ty rv1 hs, F1, ι1, S1, δ, r1, sl.ext e1, g1.bind.mono fun F2 ι2 H2 d2 S2 e2 r2 g2 v2 rv2 => ⟨v2, rfl, op_end r2 (rv1.ext e2) rv2 g2⟩⟩
      · exact g1.elim⟩
theorem c_split (pl : plainE b = true) (bo : baseOk o = true) (hl : (apos.endLine == pos.line) = true) (ha : PE X o (TD cA xA X.K W f)) (hb : PE X b (TD cA xA X.K W g)) : PE X (.Call (.Attribute o "split" apos) [b] [] pos) (TD cA xA X.K W (evStr (fun _ => splitO) f g)) :=
  PE.weak (pe_bm PySem.F.plainAttrs_str PySem.F.slot_str_split PySem.F.type_str_split (ok_split (cA := cA)) ha (pa_cons hb pa_nil (starE_plain pl _)) (base_ok bo _ _) (few1 pl _ _) hl (starE_plain pl _) rfl) fun σ H Q ⟨F, ι, S, δ, r, sl, gd⟩ =>
    ⟨F, ι, S, δ, r, sl, gd.bind.mono fun F1 ι1 H1 d1 S1 e1 r1 g1 v1 rv1 => by
      split at g1
      · rename_i hs
        exact ⟨str_ty rv1 hs, F1, ι1, S1, δ, r1, sl.ext e1, g1.bind.mono fun F2 ι2 H2 d2 S2 e2 r2 g2 v2 rv2 => ⟨v2, rfl, op_end (op := fun _ => splitO) r2 (rv1.ext e2) rv2 g2⟩⟩
      · exact g1.elim⟩
theorem c_upp (bo : baseOk o = true) (hl : (apos.endLine == pos.line) = true) (ha : PE X o (TD cA xA X.K W f)) : PE X (.Call (.Attribute o "upper" apos) [] [] pos) (TD cA xA X.K W (ev1 (fun S => op1 S .upper) f)) :=
  PE.weak (pe_bm0 PySem.F.plainAttrs_str PySem.F.slot_str_upper PySem.F.type_str_upper (ok_upper (cA := cA)) ha (base_ok bo _ _) hl) fun σ H Q ⟨F, ι, S, δ, r, sl, gd⟩ =>
    ⟨F, ι, S, δ, r, sl, gd.bind.mono fun F1 ι1 H1 d1 S1 e1 r1 g1 v1 rv1 => by
      have hs : isStr d1 = true := by
        cases d1 <;> first | rfl | (exfalso; obtain ⟨d, e, _⟩ := good_ofO g1; simp only [op1] at e; first | (cases e; done) | (simp [items] at e; done))
      exact ⟨str_ty rv1 hs, rfl, op_end1 (op := fun S => op1 S .upper) r1 rv1 g1⟩⟩

/-! ### attributes -/
theorem look_F {K : PySem.W.Frag} {F : Hp} {ι : List Addr} {f : Str} {d : D} : ∀ {l : List (Str × V)} {fs : List (Str × D)}, RepF K F ι l fs → look f fs = some d → ∃ v, l.lookup f = some v ∧ Rep K F ι v d := by
  intro l fs h
  induction h with
  | nil => intro e; cases e
  | @cons g v e l r h1 h2 ih =>
    intro e'
    simp only [look] at e'
    split at e'
    · rename_i hg
      cases e'
      subst hg
      exact ⟨v, by rw [List.lookup_cons_self], h1⟩
    · rename_i hg
      obtain ⟨w, e2, r2⟩ := ih e'
      refine ⟨w, ?_, r2⟩
      rw [List.lookup_cons]
      have : (f == g) = false := by simpa using hg
      rw [this]
      exact e2
theorem look_F0 {K : PySem.W.Frag} {F : Hp} {ι : List Addr} {f : Str} : ∀ {l : List (Str × V)} {fs : List (Str × D)}, RepF K F ι l fs → look f fs = none → l.lookup f = none := by
  intro l fs h
  induction h with
  | nil => intro _; rfl
  | @cons g v e l r h1 h2 ih =>
    intro e'
    simp only [look] at e'
    split at e'
    · cases e'
    · rename_i hg
      rw [List.lookup_cons]
      have : (f == g) = false := by simpa using hg
      rw [this]
      exact ih e'
theorem ins_at {K : PySem.W.Frag} {F H : Hp} {ι : List Addr} {S : Store} {x : D} {v : V} (r : Rel cA K F ι S H) (h : Rep K F ι v x) {n c : Nat} {fs : List (Str × D)} (e : insAt S x = some (n, c, fs)) :
    ∃ p dx l, v = .ref p ∧ x = .loc n ∧ ι[n]? = some p ∧ H p = some (.ins (cA c) dx l) ∧ RepF K F ι l fs ∧ S[n]? = some (.ins c fs) := by
  cases x with
  | loc m =>
    simp only [insAt] at e
    split at e
    · rename_i c' fs' hc
      cases e
      cases h with
      | loc hl =>
        obtain ⟨p, e1, e2, dx, l, e3, e4⟩ := r.cell _ _ hc trivial
        rw [hl] at e1; cases e1
        exact ⟨_, dx, l, rfl, rfl, hl, e3, e4, hc⟩
    · cases e
  | _ => simp [insAt] at e
def AtrOk (cA : Nat → Addr) (K : PySem.W.Frag) (atr : Nat → Str → Bool) : Prop := ∀ c f, atr c f = true → Cls K (cA c) ∧ NoAttr K (cA c) f
theorem c_att {atr : Nat → Str → Bool} (hat : AtrOk cA X.K atr) {m : Str} (bo : baseOk o = true) (ha : PE X o (TD cA xA X.K W f)) : PE X (.Attribute o m pos) (TD cA xA X.K W fun δ S => (f δ S).bind fun x S => ofO S (attO atr S x m)) :=
  PE.weak (pe_fld ha (base_ok bo _ _)) fun σ H Q ⟨F, ι, S, δ, r, sl, gd⟩ => ⟨F, ι, S, δ, r, sl, gd.bind.mono fun F1 ι1 H1 d1 S1 e1 r1 g1 v1 rv1 => by
    obtain ⟨d, e, k⟩ := good_ofO g1
    unfold attO at e
    split at e
    · rename_i n c fs hx
      split at e
      · rename_i hc
        obtain ⟨p, dx, l, rfl, rfl, hl, hH, hv, hs⟩ := ins_at r1 rv1 hx
        obtain ⟨w, hw, rw'⟩ := look_F hv e
        exact ⟨p, _, dx, l, w, rfl, hH, (hat _ _ hc).1, (hat _ _ hc).2, hw, k _ _ _ (Ext.refl ..) r1 _ rw'⟩
      · cases e
    · cases e⟩

/-! ### calls of one's own defs -/
/-- what a def promises, by what it comes to -/
def spF (cA xA : Nat → Addr) (K : PySem.W.Frag) (cf : List D → Store → R D) : Sp := fun vs H Q E => ∃ F ι S ds, Rel cA K F ι S H ∧ Reps K F ι vs ds ∧ Good cA xA K E F ι (cf ds S) fun F' ι' H' d _ => ∀ v, Rep K F' ι' v d → Q v H'
variable {k : Nat} {fa : Addr} {fd : FuncData} {ps : List Str} {cf : List D → Store → R D}
theorem c_call (Fk : FnOk X.prog X.w X.K X.mg X.base (L2N.CX X.prog X.w) k fa fd ps (spF cA xA X.K cf)) (hr : Room k X.A) (tk : L2N.Takes X W) (hg : Gl X x) (hm : X.mg x = some (.ref fa)) (hk : PySem.W.keepIn X.K (.ref fa) = true) (hb : Binds X.K fd ps [])
    (hdb : (x == ("__debug__" : Str)) = false) (pl : plainE a = true) (pls : es.all plainE = true) (ha : PA X (a :: es) (TDs cA xA X.K W gs)) : PE X (.Call (.Name x p) (a :: es) [] pos) (TD cA xA X.K W fun δ S => (gs δ S).bind cf) :=
  PE.weak (pe_callS (E := WE W) Fk hr hg hm hk hb (fun σ => L2N.passAt tk σ) ha hdb (star_plain pl _ _) (star_none pls _ _)) fun σ H Q ⟨F, ι, S, δ, r, sl, gd⟩ => ⟨F, ι, S, δ, r, sl, gd.bind.mono fun F1 ι1 H1 ds S1 e1 r1 g1 vs rvs => ⟨F1, ι1, S1, ds, r1, rvs, g1⟩⟩
theorem c_meth {C : Addr} {ci fi : Nat} {m : Str} {pl : Sem Bool} {cf : Nat → List D → Store → R D} (eC : cA ci = C) (Fk : FnOk X.prog X.w X.K X.mg X.base (L2N.CX X.prog X.w) k fa fd ps (spF cA xA X.K (cf fi))) (hr : Room k X.A) (tk : L2N.Takes X W) (cl : Cls X.K C) (hm : Meth X.K C m fa) (hb : Binds X.K fd ps [])
    (ho : PE X o (TD cA xA X.K W f)) (pls : (a :: es).all plainE = true) (ha : PA X (a :: es) (TDs cA xA X.K W gs))
    (ht : eval (.Call (.Attribute o m apos) (a :: es) [] pos) X.env = (do
      let ov ← eval o X.env
      standAt apos.atName
      let (f, first) ← holding [ov] (getMethod ov m pl)
      callWith pos f first (backTo pos (starEach (a :: es) X.env)) (backToKw pos (keywordEach [] X.env)))) :
    PE X (.Call (.Attribute o m apos) (a :: es) [] pos) (TD cA xA X.K W fun δ S => (f δ S).bind fun x S => if insOf S x ci m then (gs δ S).bind fun ds S => cf fi (x :: ds) S else .stuck) := by
  rw [List.all_cons, Bool.and_eq_true] at pls
  refine ⟨fun pins s σ H Q I ⟨F, ι, S, δ, r, sl, gd⟩ => ?_⟩
  refine PySem.W.methodCall_KW (pl := pl) (thn (ho.run pins s σ H _ I ⟨F, ι, S, δ, r, sl, gd.bind.mono (C' := fun F' ι' H' d S' => ∀ v, Rep X.K F' ι' v d → ∃ a dx fs, v = .ref a ∧ H' a = some (.ins C dx fs) ∧ fs.lookup m = none ∧
    TDs cA xA X.K W gs σ H' fun vs H2 => spF cA xA X.K (cf fi) (v :: vs) H2 Q (WE W σ)) fun F1 ι1 H1 d1 S1 e1 r1 g1 v1 rv1 => ?_⟩) fun u s1 ⟨x, H1, I1, rx, ad, dx, fs, ex, ea, l, q⟩ => ?_) ht
  · split at g1
    · rename_i hi
      unfold insOf at hi
      split at hi
      · rename_i n c' fs hx
        rw [Bool.and_eq_true, decide_eq_true_eq, Option.isNone_iff_eq_none] at hi
        obtain ⟨rfl, hn⟩ := hi
        obtain ⟨p, dx, l, rfl, rfl, hl, hH, hv, hs⟩ := ins_at r1 rv1 hx
        rw [eC] at hH
        exact ⟨p, dx, l, rfl, hH, look_F0 hv hn, F1, ι1, S1, δ, r1, sl.ext e1, g1.bind.mono fun F2 ι2 H2 ds S2 e2 r2 g2 vs rvs => ⟨F2, ι2, S2, _, r2, .cons (rv1.ext e2) rvs, g2⟩⟩
      · cases hi
    · exact g1.elim
  · subst ex
    obtain rfl : u = Value.ref ad := rx
    refine getmeth_ok I1 ea cl hm l ?_
    refine PySem.W.callWith_K (first := [.ref ad]) (h₀ := X.base) I.ok.mod.kin hm.kp (thn (ha.run pos pins s1 σ H1 _ I1 q) fun us s2 ⟨vs, H2, I2, r, q2⟩ => ⟨I2.kIn, ?_⟩) (star_plain pls.1 _ _) (star_none pls.2 _ _)
    exact run_fnS (us := .ref ad :: us) (vs := .ref ad :: vs) Fk hr hb (L2N.passAt tk σ) I2 (.cons rfl r) q2
theorem c_meth0 {C : Addr} {ci fi : Nat} {m : Str} {pl : Sem Bool} {cf : Nat → List D → Store → R D} (eC : cA ci = C) (Fk : FnOk X.prog X.w X.K X.mg X.base (L2N.CX X.prog X.w) k fa fd ps (spF cA xA X.K (cf fi))) (hr : Room k X.A) (tk : L2N.Takes X W) (cl : Cls X.K C) (hm : Meth X.K C m fa) (hb : Binds X.K fd ps [])
    (ho : PE X o (TD cA xA X.K W f))
    (ht : eval (.Call (.Attribute o m apos) [] [] pos) X.env = (do
      let ov ← eval o X.env
      standAt apos.atName
      let (f, first) ← holding [ov] (getMethod ov m pl)
      callWith pos f first (backTo pos (starEach [] X.env)) (backToKw pos (keywordEach [] X.env)))) :
    PE X (.Call (.Attribute o m apos) [] [] pos) (TD cA xA X.K W fun δ S => (f δ S).bind fun x S => if insOf S x ci m then (R.ok ([] : List D) S).bind fun ds S => cf fi (x :: ds) S else .stuck) := by
  refine ⟨fun pins s σ H Q I ⟨F, ι, S, δ, r, sl, gd⟩ => ?_⟩
  refine PySem.W.methodCall_KW (pl := pl) (thn (ho.run pins s σ H _ I ⟨F, ι, S, δ, r, sl, gd.bind.mono (C' := fun F' ι' H' d S' => ∀ v, Rep X.K F' ι' v d → ∃ a dx fs, v = .ref a ∧ H' a = some (.ins C dx fs) ∧ fs.lookup m = none ∧
    spF cA xA X.K (cf fi) [v] H' Q (WE W σ)) fun F1 ι1 H1 d1 S1 e1 r1 g1 v1 rv1 => ?_⟩) fun u s1 ⟨x, H1, I1, rx, ad, dx, fs, ex, ea, l, q⟩ => ?_) ht
  · split at g1
    · rename_i hi
      unfold insOf at hi
      split at hi
      · rename_i n c' fs hx
        rw [Bool.and_eq_true, decide_eq_true_eq, Option.isNone_iff_eq_none] at hi
        obtain ⟨rfl, hn⟩ := hi
        obtain ⟨p, dx, l, rfl, rfl, hl, hH, hv, hs⟩ := ins_at r1 rv1 hx
        rw [eC] at hH
        exact ⟨p, dx, l, rfl, hH, look_F0 hv hn, F1, ι1, S1, _, r1, .cons rv1 .nil, g1⟩
      · cases hi
    · exact g1.elim
  · subst ex
    obtain rfl : u = Value.ref ad := rx
    refine getmeth_ok I1 ea cl hm l ?_
    exact PySem.W.callWith_K0 (first := [.ref ad]) I1.kIn hm.kp (run_fnS (us := [.ref ad]) (vs := [.ref ad]) Fk hr hb (L2N.passAt tk σ) I1 (.cons rfl .nil) q)
/-- C(..) -/
theorem run_makeS {C f : Addr} {pins : List (Addr × Obj)} {σ : L2.St} {H : Hp} {s : Shared} {Q : VK} {us : List Value} {vs : List V} {sp : Sp} {E : L2.St → XK} {CX : CXT} (M : Mk X.K C f) (F : FnOk X.prog X.w X.K X.mg X.base CX k f fd ps sp) (hr : Room (k + 1) X.A) (hb : Binds X.K fd ps [])
    (hx : PassesAt CX X σ (E σ)) (I : Inv X pins σ H s) (r : Vals vs us)
    (h : ∀ x dx, H x = none → H dx = none → dx ≠ x → sp (.ref x :: vs) (upd (upd H dx (.own x)) x (.ins C dx [])) (fun v H2 => v = .non ∧ Q (.ref x) H2) (E σ)) :
    wpAny (model X.prog X.w) X.A (call (.ref C) us) (EP X pins σ Q) X.xe s := by
  have hq := h (s.heap.objs.size + 1) s.heap.objs.size (I.hok.fresh (Nat.le_succ _)) (I.hok.fresh (Nat.le_refl _)) (Nat.ne_of_lt (Nat.lt_succ_self _))
  have I2 := Inv.made (C := C) I
  have r2 : Vals (V.ref (s.heap.objs.size + 1) :: vs) (Value.ref (s.heap.objs.size + 1) :: us) := .cons rfl r
  have hl : (Value.ref (s.heap.objs.size + 1) :: us ++ []).length = ps.length := by
    have e := r2.length
    rw [F.len _ _ _ _ hq] at e
    rw [List.append_nil]
    exact e.symm
  have b := hb { s with heap := (s.heap.push PySem.W.emptyDict).push (PySem.W.instObj C s.heap.objs.size) } (Value.ref (s.heap.objs.size + 1) :: us) I2.kIn hl
  rw [List.append_nil] at b
  refine wpAny_call (make_map (f := f) I.kIn M.makes M.init (beq_iff_eq.mp M.fn) (codeAny_mono (F.run _ X.stack _ _ ⟨Value.ref (s.heap.objs.size + 1) :: us, []⟩ (Value.ref (s.heap.objs.size + 1) :: us) _ _ (E σ) (hr.make C us [])
    (I2.env0.make C us []) b r2 hq) fun r s' hq' => ?_))
  cases r with
  | error e => exact hx pins _ _ e s' I2 hq'
  | ok fl =>
    cases fl with
    | ret u =>
      obtain ⟨v, H', I3, rv, ev, q3⟩ := I2.after hq'
      subst ev
      exact ⟨rv, ⟨V.ref (s.heap.objs.size + 1), H', I3, rfl, q3⟩⟩
    | next => exact False.elim hq'
    | brk => exact False.elim hq'
    | cont => exact False.elim hq'
def evMake (ci : Nat) (cf : List D → Store → R D) (gs : Env → Store → R (List D)) : Env → Store → R D := fun δ S => (gs δ S).bind fun ds S => (cf (.loc S.length :: ds) (S ++ [.ins ci []])).bind fun r S' => (match r with
      | .non => .ok (.loc S.length) S'
      | _ => .stuck)
theorem c_make {C : Addr} {ci : Nat} (eC : cA ci = C) (M : Mk X.K C fa) (Fk : FnOk X.prog X.w X.K X.mg X.base (L2N.CX X.prog X.w) k fa fd ps (spF cA xA X.K cf)) (hr : Room (k + 1) X.A) (tk : L2N.Takes X W) (hg : Gl X x) (hm : X.mg x = some (.ref C)) (hb : Binds X.K fd ps [])
    (hdb : (x == ("__debug__" : Str)) = false) (pl : plainE a = true) (pls : es.all plainE = true) (ha : PA X (a :: es) (TDs cA xA X.K W gs)) : PE X (.Call (.Name x p) (a :: es) [] pos) (TD cA xA X.K W (evMake ci cf gs)) := by
  refine ⟨fun pins s σ H Q I ⟨F, ι, S, δ, r, sl, gd⟩ => ?_⟩
  refine wpAny_Call_Name_kw (ld_glob I hg hm ?_ hdb)
  refine PySem.W.callWith_K (h₀ := X.base) I.ok.mod.kin M.kp (thn (ha.run pos pins s σ H (fun vs H1 => ∀ x dx, H1 x = none → H1 dx = none → dx ≠ x → spF cA xA X.K cf (.ref x :: vs) (upd (upd H1 dx (.own x)) x (.ins C dx [])) (fun v H2 => v = .non ∧ Q (.ref x) H2) (WE W σ)) I
    ⟨F, ι, S, δ, r, sl, gd.bind.mono fun F1 ι1 H1 ds S1 e1 r1 g1 vs rvs x dx hx hdx hne => ?_⟩) fun us s1 ⟨vs, H1, I1, r, q⟩ => ⟨I1.kIn, ?_⟩) (star_plain pl _ _) (star_none pls _ _)
  · have r2 : Rel cA X.K F1 ι1 S1 (upd H1 dx (.own x)) := r1.junk fun b u h => by rw [upd_ne (ne_of_none h hdx)]; exact h
    have hx2 : (upd H1 dx (.own x)) x = none := by rw [upd_ne (Ne.symm hne)]; exact hx
    have r3 := r2.place (o := .ins C dx []) hx2 (.ins ci []) ⟨dx, [], by rw [eC], .nil⟩
    have hl : (ι1 ++ [x])[S1.length]? = some x := by rw [← r1.len]; simp
    refine ⟨F1, ι1 ++ [x], _, _, r3, .cons (.loc hl) (rvs.ext (Ext.more F1 ι1 [x])), (g1.ext (Ext.more F1 ι1 [x])).bind.mono fun F2 ι2 H2 d2 S2 e2 r2 g2 v2 rv2 => ?_⟩
    cases d2 <;> first | exact g2.elim | skip
    cases rv2
    exact ⟨rfl, g2 _ _ _ (Ext.refl ..) r2 _ (.loc (e2.pl _ _ hl))⟩
  · exact run_makeS (E := WE W) M Fk hr hb (L2N.passAt tk σ) I1 r q
end
end Ev
namespace Ev
open PySem PySem.Spec PyProof.Rows L2

/-! ### what is walked -/
def GW (cA : Nat → Addr) (K : PySem.W.Frag) (F : Hp) (ι : List Addr) (ch : List (Nat × List D)) (H : Hp) : Prop := ∃ F' ι' S', Ext F ι F' ι' ∧ Rel cA K F' ι' S' H ∧ stays S' ch = true
def YW (cA : Nat → Addr) (K : PySem.W.Frag) (F : Hp) (ι : List Addr) (ch : List (Nat × List D)) (xs : List D) (i : Nat) (H : Hp) (x : V) (H' : Hp) : Prop :=
  ∀ F' ι' S', Ext F ι F' ι' → Rel cA K F' ι' S' H → stays S' ch = true → ∃ F'' d, Ext F' ι' F'' ι' ∧ Rel cA K F'' ι' S' H' ∧ xs[i]? = some d ∧ Rep K F'' ι' x d
abbrev WalkD (cA : Nat → Addr) (K : PySem.W.Frag) (F : Hp) (ι : List Addr) (p : List D × List (Nat × List D)) (J : It) : Prop := Walk J p.1.length (GW cA K F ι p.2) (YW cA K F ι p.2 p.1)
section
variable {cA xA : Nat → Addr} {K : PySem.W.Frag} {F H : Hp} {ι : List Addr} {S : Store}
theorem stays_at {S : Store} {ch : List (Nat × List D)} (h : stays S ch = true) {p : Nat × List D} (hp : p ∈ ch) : S[p.1]? = some (.lst p.2) := by
  unfold stays at h
  classical
  exact (decide_eq_true_iff.mp h) p hp
/-- a list that stands at a, whatever the heap -/
def LstAt (cA : Nat → Addr) (K : PySem.W.Frag) (F : Hp) (ι : List Addr) (ch : List (Nat × List D)) (a : Addr) (xs : List D) : Prop :=
  ∀ F' ι' S' H, Ext F ι F' ι' → Rel cA K F' ι' S' H → stays S' ch = true → ∃ vs, SqL K H a vs ∧ Reps K F' ι' vs xs
theorem walk_L {ch : List (Nat × List D)} {a : Addr} {xs : List D} (h : LstAt cA K F ι ch a xs) : WalkD cA K F ι (xs, ch) (Itl K a) where
  goes := fun i H hi ⟨F', ι', S', e, r, st⟩ => by
    obtain ⟨vs, hq, hv⟩ := h F' ι' S' H e r st
    obtain ⟨v, hv1, _⟩ := hv.get (i := i) (d := xs[i]) (by simp [show i < xs.length from hi])
    exact ⟨vs, v, hq, hv1⟩
  stops := fun H ⟨F', ι', S', e, r, st⟩ => by
    obtain ⟨vs, hq, hv⟩ := h F' ι' S' H e r st
    exact ⟨vs, hq, Nat.le_of_eq hv.len⟩
  yields := fun i H x H' hi _ y F' ι' S' e r st => by
    obtain ⟨vs, hq, hv⟩ := h F' ι' S' H e r st
    obtain ⟨d, hd, rd⟩ := hv.getV (y.2 vs hq)
    obtain ⟨rfl, _⟩ := y
    exact ⟨F', d, Ext.refl .., r, hd, rd⟩
theorem walk_E {ch : List (Nat × List D)} {a : Addr} {xs : List D} (h : LstAt cA K F ι ch a xs) : WalkD cA K F ι (xs.mapIdx (fun i x => .tup [.int i, x]), ch) (Ite K a) where
  goes := fun i H hi ⟨F', ι', S', e, r, st⟩ => by
    obtain ⟨vs, hq, hv⟩ := h F' ι' S' H e r st
    have hi : i < xs.length := by simpa using hi
    obtain ⟨v, hv1, _⟩ := hv.get (i := i) (d := xs[i]) (by simp [hi])
    exact ⟨vs, v, hq, hv1⟩
  stops := fun H ⟨F', ι', S', e, r, st⟩ => by
    obtain ⟨vs, hq, hv⟩ := h F' ι' S' H e r st
    exact ⟨vs, hq, by have := hv.len; simp; omega⟩
  yields := fun i H x H' hi _ y F' ι' S' e r st => by
    obtain ⟨vs, hq, hv⟩ := h F' ι' S' H e r st
    obtain ⟨T, v, rfl, hT, rfl, hx⟩ := y
    obtain ⟨d, hd, rd⟩ := hv.getV (hx vs hq)
    have e2 := Ext.fresh (F := F') (ι := ι') (r.freeF hT) (.tup [.int (i : Nat), v])
    refine ⟨_, .tup [.int i, d], e2, r.fresh hT _, by simp [List.getElem?_mapIdx, hd], .tup (SqT.of upd_same) (.cons (.int _) (.cons (rd.ext e2) .nil))⟩
theorem walk_Z {ch : List (Nat × List D)} {a b : Addr} {xs ys : List D} (h : LstAt cA K F ι ch a xs) (h2 : LstAt cA K F ι ch b ys) : WalkD cA K F ι (List.zipWith (fun x y => .tup [x, y]) xs ys, ch) (Itz K a b) where
  goes := fun i H hi ⟨F', ι', S', e, r, st⟩ => by
    obtain ⟨vs, hq, hv⟩ := h F' ι' S' H e r st
    obtain ⟨ws, hq2, hw⟩ := h2 F' ι' S' H e r st
    have hi : i < xs.length ∧ i < ys.length := by simp at hi; omega
    obtain ⟨v, hv1, _⟩ := hv.get (i := i) (d := xs[i]'hi.1) (by simp [hi.1])
    obtain ⟨w, hw1, _⟩ := hw.get (i := i) (d := ys[i]'hi.2) (by simp [hi.2])
    exact ⟨vs, ws, v, w, hq, hq2, hv1, hw1⟩
  stops := fun H ⟨F', ι', S', e, r, st⟩ => by
    obtain ⟨vs, hq, hv⟩ := h F' ι' S' H e r st
    obtain ⟨ws, hq2, hw⟩ := h2 F' ι' S' H e r st
    refine ⟨vs, ws, hq, hq2, ?_⟩
    have := hv.len
    have := hw.len
    simp
    omega
  yields := fun i H x H' hi _ y F' ι' S' e r st => by
    obtain ⟨vs, hq, hv⟩ := h F' ι' S' H e r st
    obtain ⟨ws, hq2, hw⟩ := h2 F' ι' S' H e r st
    obtain ⟨T, v, w, rfl, hT, rfl, hx, hy⟩ := y
    obtain ⟨d, hd, rd⟩ := hv.getV (hx vs hq)
    obtain ⟨d2, hd2, rd2⟩ := hw.getV (hy ws hq2)
    have e2 := Ext.fresh (F := F') (ι := ι') (r.freeF hT) (.tup [v, w])
    exact ⟨_, .tup [d, d2], e2, r.fresh hT _, by rw [List.getElem?_zipWith, hd, hd2], .tup (SqT.of upd_same) (.cons (rd.ext e2) (.cons (rd2.ext e2) .nil))⟩
theorem walk_T {a : Addr} {xs : List D} {vs : List V} (h1 : SqT K F a vs) (h2 : Reps K F ι vs xs) : WalkD cA K F ι (xs, []) (Itt K a) where
  goes := fun i H hi ⟨F', ι', S', e, r, st⟩ => by
    obtain ⟨v, hv1, _⟩ := h2.get (i := i) (d := xs[i]) (by simp [show i < xs.length from hi])
    exact ⟨vs, v, SqT.up (fun a o q => r.sub _ _ (e.fx a o q)) h1, hv1⟩
  stops := fun H ⟨F', ι', S', e, r, st⟩ => ⟨vs, SqT.up (fun a o q => r.sub _ _ (e.fx a o q)) h1, Nat.le_of_eq h2.len⟩
  yields := fun i H x H' hi _ y F' ι' S' e r st => by
    obtain ⟨d, hd, rd⟩ := h2.getV (y.2 vs (SqT.up (fun a o q => r.sub _ _ (e.fx a o q)) h1))
    obtain ⟨rfl, _⟩ := y
    exact ⟨F', d, Ext.refl .., r, hd, rd.ext e⟩
theorem walk_R {lo hi : Int} : WalkD cA K F ι (rngD lo hi, []) (Itr lo (hi - lo).toNat) where
  goes := fun i H hh _ => by
    show i < (hi - lo).toNat
    have : i < (rngD lo hi).length := hh
    simpa only [rngD, List.length_map, List.length_range] using this
  stops := fun H _ => by
    show (hi - lo).toNat ≤ (rngD lo hi).length
    simp only [rngD, List.length_map, List.length_range]
    exact Nat.le_refl _
  yields := fun i H x H' hi _ y F' ι' S' e r st => by
    obtain ⟨rfl, rfl⟩ := y
    unfold rngD at hi ⊢
    simp at hi
    exact ⟨F', .int (lo + i), Ext.refl .., r, by simp [hi], .int _⟩
theorem walk_S {z : Str} (hz : okStr z = true) : WalkD cA K F ι (z.cps.toList.map (fun c => .str ⟨#[c]⟩), []) (Its z) where
  goes := fun i H hi _ => by
    show i < z.cps.size
    simpa using hi
  stops := fun H _ => by
    show z.cps.size ≤ _
    simp
  yields := fun i H x H' hi _ y F' ι' S' e r st => by
    obtain ⟨rfl, c, hc, rfl⟩ := y
    refine ⟨F', .str ⟨#[c]⟩, Ext.refl .., r, by simp [hc], .str _ ?_⟩
    rw [okStr_iff] at hz ⊢
    intro c' hc'
    simp at hc'
    subst hc'
    exact hz c' (by simpa using Array.mem_of_getElem? hc)
theorem lstAt_F {a : Addr} {vs : List V} {xs : List D} (h1 : F a = some (.lst vs)) (h2 : Reps K F ι vs xs) : LstAt cA K F ι [] a xs := fun F' ι' S' H e r _ => ⟨vs, SqL.of (r.sub _ _ (e.fx _ _ h1)), h2.ext e⟩
theorem lstAt_S {a : Addr} {ns : List Int} (h1 : SqL K F a (ns.map V.int)) : LstAt cA K F ι [] a (ns.map D.int) := fun F' ι' S' H e r _ => ⟨_, SqL.up (fun a o q => r.sub _ _ (e.fx a o q)) h1, Reps.ints ns⟩
theorem lstAt_L {a : Addr} {n : Nat} {xs : List D} (h1 : ι[n]? = some a) : LstAt cA K F ι [(n, xs)] a xs := fun F' ι' S' H e r st => by
  have hc := stays_at st (p := (n, xs)) (List.mem_cons_self ..)
  obtain ⟨p, e1, e2, vs, e3, e4⟩ := r.cell n _ hc trivial
  rw [e.pl _ _ h1] at e1
  cases e1
  exact ⟨vs, SqL.of e3, e4⟩
end
section
variable {X : Cx} {tg : Expr} {pins : List (Addr × Obj)} {σ : L2.St} {H : Hp} {s : Shared} {R : It → Hp → Prop} {E : Value → Shared → Prop}
theorem it_list {a : Addr} (I : Inv X pins σ H s) (hq : ∃ xs, SqL X.K H a xs) (q : R (Itl X.K a) H) : wpAny (model X.prog X.w) X.A (pyIter (.ref a)) (PIE X pins σ tg R) E s := by
  obtain ⟨xs, hq⟩ := hq
  obtain ⟨its, rv, p, hz⟩ := I.list hq
  refine wpAny_pyIter_list p.isList ?_
  refine ⟨s.heap.objs.size, [s.heap.objs.size], _, _, H, rfl, I.kept (t' := s.toks) fun b o e => Heap.get?_push_of_some _ e, turn_list a _, ⟨_, Heap.get?_push_size _ rfl, rfl, rfl⟩, fun b hb => ?_, q⟩
  have e : b = s.heap.objs.size := by simpa using hb
  subst e
  exact I.fpOk (Nat.le_refl _) (I.hok.fresh (Nat.le_refl _))
theorem it_tup {a : Addr} {xs : List V} (I : Inv X pins σ H s) (hq : SqT X.K H a xs) (q : R (Itt X.K a) H) : wpAny (model X.prog X.w) X.A (pyIter (.ref a)) (PIE X pins σ tg R) E s := by
  obtain ⟨its, rv, p, hz⟩ := I.tuple hq
  refine wpAny_pyIter_tuple (show s.heap.IsTuple a its.toArray from p) ?_
  refine ⟨s.heap.objs.size, [s.heap.objs.size], _, _, H, rfl, I.kept (t' := s.toks) fun b o e => Heap.get?_push_of_some _ e, turn_tuple a _, ⟨_, Heap.get?_push_size _ rfl, rfl, rfl⟩, fun b hb => ?_, q⟩
  have e : b = s.heap.objs.size := by simpa using hb
  subst e
  exact I.fpOk (Nat.le_refl _) (I.hok.fresh (Nat.le_refl _))
theorem it_str {x : Str} {t : Tok} (I : Inv X pins σ H s) (q : R (Its x) H) : wpAny (model X.prog X.w) X.A (pyIter (.str x t)) (PIE X pins σ tg R) E s := by
  cases ha : x.cps.all (· < 128)
  · exact wpAny_pyIter_wide ha (pi_one (tk := s.toks) I _ (turn_str _ x t "str_iterator" (.inr rfl)) ⟨_, Heap.get?_push_size _ rfl, rfl, rfl⟩ q)
  · exact wpAny_pyIter_ascii ha (pi_one (tk := s.toks) I _ (turn_str _ x t "str_ascii_iterator" (.inl rfl)) ⟨_, Heap.get?_push_size _ rfl, rfl, rfl⟩ q)
end
/-- what is walked, by what it comes to -/
def TDi (cA xA : Nat → Addr) (K : PySem.W.Frag) (W : WX) (ik : IK) (gs : Env → Store → R (List D)) : TI := fun σ H R => ∃ F ι S δ, Rel cA K F ι S H ∧ Sl K F ι σ δ ∧
  Good cA xA K (fun c d H => W c d σ H) F ι (gs δ S) fun F' ι' H' ds S' => ∃ p, walkOf S' ik ds = some p ∧ ∀ J, WalkD cA K F' ι' p J → R J H'
section
variable {cA xA : Nat → Addr} {X : Cx} {W : WX} {tg a b : Expr} {p pos tpos : Pos} {f g : Env → Store → R D} {elts : List Expr} {kk : Nat}
def ev1s (f : Env → Store → R D) : Env → Store → R (List D) := evCons f fun _ S => .ok [] S
def ev2s (f g : Env → Store → R D) : Env → Store → R (List D) := evCons f (evCons g fun _ S => .ok [] S)
theorem good_1s {K : PySem.W.Frag} {Wx : W0} {F : Hp} {ι : List Addr} {δ : Env} {S : Store} {C : Hp → List Addr → Hp → List D → Store → Prop} (h : Good cA xA K Wx F ι (ev1s f δ S) C) :
    Good cA xA K Wx F ι (f δ S) fun F1 ι1 H1 d S1 => C F1 ι1 H1 [d] S1 := by
  unfold ev1s evCons at h
  exact h.bind.mono fun F1 ι1 H1 d S1 e1 r1 g1 => g1 _ _ _ (Ext.refl ..) r1
theorem c_iex (pl : plainE a = true) (ha : PE X a (TD cA xA X.K W f)) : PI X tg a (TDi cA xA X.K W .ex (ev1s f)) := by
  refine ⟨fun pins s σ H R I ⟨F, ι, S, δ, r, sl, gd⟩ => ?_⟩
  refine thn (ha.run pins s σ H (fun v H1 => ∃ F1 ι1 S1 d p, Rel cA X.K F1 ι1 S1 H1 ∧ Rep X.K F1 ι1 v d ∧ walkOf S1 .ex [d] = some p ∧ ∀ J, WalkD cA X.K F1 ι1 p J → R J H1) I
    ⟨F, ι, S, δ, r, sl, (good_1s gd).mono fun F1 ι1 H1 d S1 e1 r1 ⟨p, hp, k⟩ v rv => ⟨F1, ι1, S1, d, p, r1, rv, hp, k⟩⟩) fun u s1 ⟨v, H1, I1, rv, F1, ι1, S1, d, p, r1, rd, hp, k⟩ => ?_
  cases rd with
  | tup h1 h2 =>
    cases hp
    cases rv
    exact it_tup I1 (SqT.up r1.sub h1) (k _ (walk_T h1 h2))
  | scr h1 =>
    cases hp
    cases rv
    exact it_list I1 ⟨_, SqL.up r1.sub h1⟩ (k _ (walk_L (lstAt_S h1)))
  | str z hz =>
    cases hp
    obtain ⟨t, rfl⟩ := rv
    exact it_str I1 (k _ (walk_S hz))
  | lst h1 h2 =>
    cases hp
    cases rv
    exact it_list I1 ⟨_, SqL.of (r1.sub _ _ h1)⟩ (k _ (walk_L (lstAt_F h1 h2)))
  | @loc n q hl =>
    simp only [walkOf] at hp
    obtain ⟨⟨m, xs⟩, e1, rfl⟩ := Option.map_eq_some_iff.mp hp
    obtain ⟨e2, hc⟩ := lstAt_items e1
    cases e2
    cases rv
    obtain ⟨q', e3, e4, vs, e5, e6⟩ := r1.cell _ _ hc trivial
    rw [hl] at e3; cases e3
    exact it_list I1 ⟨_, SqL.of e5⟩ (k _ (walk_L (lstAt_L hl)))
  | _ => simp [walkOf] at hp
theorem c_irng1 (hg : Gl X "range") (hm : X.mg "range" = none) (pl : plainE a = true) (ha : PE X a (TD cA xA X.K W f)) : PI X tg (.Call (.Name "range" p) [a] [] pos) (TDi cA xA X.K W .rng1 (ev1s f)) := by
  refine ⟨fun pins s σ H R I ⟨F, ι, S, δ, r, sl, gd⟩ => (pi_range1 hg hm (pa_cons ha pa_nil (starE_plain pl _)) (starE_plain pl _)).run pins s σ H R I ⟨F, ι, S, δ, r, sl, (good_1s gd).mono fun F1 ι1 H1 d S1 e1 r1 ⟨p, hp, k⟩ v rv => ?_⟩⟩
  have hd : ∃ j, d = .int j := by cases d <;> first | exact ⟨_, rfl⟩ | simp [walkOf] at hp
  obtain ⟨j, rfl⟩ := hd
  simp only [walkOf] at hp
  split at hp
  · rename_i hl
    cases hp
    cases rv
    have e : Itr 0 j.toNat = Itr 0 (j - 0).toNat := by rw [Int.sub_zero]
    exact ⟨j, rfl, hl.2, hl.1, e ▸ k _ walk_R⟩
  · cases hp
theorem good_2s {K : PySem.W.Frag} {Wx : W0} {F : Hp} {ι : List Addr} {δ : Env} {S : Store} {C : Hp → List Addr → Hp → List D → Store → Prop} (h : Good cA xA K Wx F ι (ev2s f g δ S) C) :
    Good cA xA K Wx F ι (f δ S) fun F1 ι1 H1 d S1 => Good cA xA K Wx F1 ι1 (g δ S1) fun F2 ι2 H2 d2 S2 => C F2 ι2 H2 [d, d2] S2 := by
  unfold ev2s evCons at h
  exact h.bind.mono fun F1 ι1 H1 d S1 e1 r1 g1 => g1.bind.bind.mono fun F2 ι2 H2 d2 S2 e2 r2 g2 => g2 _ _ _ (Ext.refl ..) r2 _ _ _ (Ext.refl ..) r2
theorem c_irng2 (hg : Gl X "range") (hm : X.mg "range" = none) (pl : plainE a = true) (pl2 : plainE b = true) (ha : PE X a (TD cA xA X.K W f)) (hb : PE X b (TD cA xA X.K W g)) : PI X tg (.Call (.Name "range" p) [a, b] [] pos) (TDi cA xA X.K W .rng2 (ev2s f g)) := by
  refine ⟨fun pins s σ H R I ⟨F, ι, S, δ, r, sl, gd⟩ => (pi_range2 hg hm (pa_cons ha (pa_cons hb pa_nil (starE_plain pl2 _)) (star_plain pl _ _)) (by rw [star_plain pl, starE_plain pl2]) (starE_plain pl2 _)).run pins s σ H R I
    ⟨F, ι, S, δ, r, sl, (good_2s gd).mono fun F1 ι1 H1 d S1 e1 r1 g1 v rv => ⟨F1, ι1, S1, δ, r1, sl.ext e1, g1.mono fun F2 ι2 H2 d2 S2 e2 r2 ⟨p, hp, k⟩ v2 rv2 => ?_⟩⟩⟩
  have hd : ∃ i j, d = .int i ∧ d2 = .int j := by cases d <;> cases d2 <;> first | exact ⟨_, _, rfl, rfl⟩ | simp [walkOf] at hp
  obtain ⟨i, j, rfl, rfl⟩ := hd
  simp only [walkOf] at hp
  split at hp
  · rename_i hl
    cases hp
    cases rv; cases rv2
    exact ⟨i, j, rfl, ⟨hl.2.2, hl.2.1, hl.1.2, hl.1.1⟩, k _ walk_R⟩
  · cases hp
theorem c_ienm (hg : Gl X "enumerate") (hm : X.mg "enumerate" = none) (pl : plainE a = true) (ha : PE X a (TD cA xA X.K W f)) : PI X (.Tuple elts kk tpos) (.Call (.Name "enumerate" p) [a] [] pos) (TDi cA xA X.K W .enm (ev1s f)) := by
  refine ⟨fun pins s σ H R I ⟨F, ι, S, δ, r, sl, gd⟩ => (pi_enum hg hm (pa_cons ha pa_nil (starE_plain pl _)) (starE_plain pl _)).run pins s σ H R I ⟨F, ι, S, δ, r, sl, (good_1s gd).mono fun F1 ι1 H1 d S1 e1 r1 ⟨p, hp, k⟩ v rv => ?_⟩⟩
  cases rv with
  | lst h1 h2 =>
    cases hp
    exact ⟨_, _, rfl, SqL.of (r1.sub _ _ h1), k _ (walk_E (lstAt_F h1 h2))⟩
  | @loc n q hl =>
    simp only [walkOf] at hp
    obtain ⟨⟨m, xs⟩, e1, rfl⟩ := Option.map_eq_some_iff.mp hp
    obtain ⟨e2, hc⟩ := lstAt_items e1
    cases e2
    obtain ⟨q', e3, e4, vs, e5, e6⟩ := r1.cell _ _ hc trivial
    rw [hl] at e3; cases e3
    exact ⟨_, _, rfl, SqL.of e5, k _ (walk_E (lstAt_L hl))⟩
  | _ => simp [walkOf] at hp
theorem c_izip (hg : Gl X "zip") (hm : X.mg "zip" = none) (pl : plainE a = true) (pl2 : plainE b = true) (ha : PE X a (TD cA xA X.K W f)) (hb : PE X b (TD cA xA X.K W g)) : PI X (.Tuple elts kk tpos) (.Call (.Name "zip" p) [a, b] [] pos) (TDi cA xA X.K W .zip (ev2s f g)) := by
  refine ⟨fun pins s σ H R I ⟨F, ι, S, δ, r, sl, gd⟩ => (pi_zip hg hm (pa_cons ha (pa_cons hb pa_nil (starE_plain pl2 _)) (star_plain pl _ _)) (star_plain pl _ _) (star_none (by rw [List.all_cons, pl2]; rfl) _ _)).run pins s σ H R I
    ⟨F, ι, S, δ, r, sl, (good_2s gd).mono fun F1 ι1 H1 d S1 e1 r1 g1 v rv => ⟨F1, ι1, S1, δ, r1, sl.ext e1, g1.mono fun F2 ι2 H2 d2 S2 e2 r2 ⟨p, hp, k⟩ v2 rv2 => ?_⟩⟩⟩
  cases d <;> first | (simp [walkOf] at hp; done) | skip
  cases d2 <;> first | (simp [walkOf] at hp; done) | skip
  simp only [walkOf] at hp
  cases hp
  cases rv with
  | lst h1 h2 =>
    cases rv2 with
    | lst g1 g2 => exact ⟨_, _, _, _, rfl, SqL.of (r2.sub _ _ (e2.fx _ _ h1)), SqL.of (r2.sub _ _ g1), k _ (walk_Z (lstAt_F (e2.fx _ _ h1) (h2.ext e2)) (lstAt_F g1 g2))⟩

/-! ### targets -/
inductive PGd (X : Cx) : Expr → Tg → Prop
  | nm {x : Str} {i : Nat} {pos : Pos} (hi : X.N[i]? = some x) (hx : Loc X.env.scope x) (hf : X.fn x = true ∨ X.env.scope.names.lookup x = some .local) : PGd X (.Name x pos) (.nm i)
  | pr {x y : Str} {i j : Nat} {p1 p2 pos : Pos} {k : Nat} (hi : X.N[i]? = some x) (hx : Loc X.env.scope x) (hf : X.fn x = true ∨ X.env.scope.names.lookup x = some .local)
      (hj : X.N[j]? = some y) (hy : Loc X.env.scope y) (hfy : X.fn y = true ∨ X.env.scope.names.lookup y = some .local) : PGd X (.Tuple [.Name x p1, .Name y p2] k pos) (.pr i j)
def gTg (K : PySem.W.Frag) : Tg → TG
  | .nm i => gName i
  | .pr i j => gTup K 2 (gCons (gName i) (gCons (gName j) gNil))
theorem c_tg {e : Expr} {t : Tg} (hc : X.calm = true) (nd : X.N.Nodup) (h : PGd X e t) : PG X e (gTg X.K t) := by
  cases h with
  | nm hi hx hf => exact pg_name nd hi hx hf
  | pr hi hx hf hj hy hfy => exact pg_tup hc (pgs_cons (pg_name nd hi hx hf) (pgs_cons (pg_name nd hj hy hfy) pgs_nil rfl) rfl) rfl rfl
theorem tg_set {K : PySem.W.Frag} {F H : Hp} {ι : List Addr} {S : Store} {t : Tg} {d : D} {v : V} {δ δ' : Env} {σ : L2.St} (r : Rel cA K F ι S H) (h : setT t d δ = some δ') (rv : Rep K F ι v d) (sl : Sl K F ι σ δ) {Q : L2.St → Hp → Prop}
    (q : ∀ σ', Sl K F ι σ' δ' → (∀ vs : List Nat, (match t with | .nm i => i ∈ vs | .pr i j => i ∈ vs ∧ j ∈ vs) → L2.wipe σ' vs = L2.wipe σ vs) → Q σ' H) : gTg K t v σ H Q := by
  have wp : ∀ (σ : L2.St) (i : Nat) (o : Option V) (vs : List Nat), i ∈ vs → L2.wipe (σ.set i o) vs = L2.wipe σ vs := by
    intro σ i o vs
    induction vs generalizing σ with
    | nil => intro h; cases h
    | cons w ws ih =>
      intro h
      show (L2.wipe (σ.set i o) ws).set w none = (L2.wipe σ ws).set w none
      by_cases hw : i ∈ ws
      · rw [ih σ hw]
      · have e : i = w := (List.mem_cons.mp h).resolve_right hw
        subst e
        have out : ∀ (ws : List Nat) (σ : L2.St), i ∉ ws → L2.wipe (σ.set i o) ws = (L2.wipe σ ws).set i o := by
          intro ws
          induction ws with
          | nil => intro σ _; rfl
          | cons u us ih2 =>
            intro σ hu
            simp only [List.mem_cons, not_or] at hu
            show (L2.wipe (σ.set i o) us).set u none = ((L2.wipe σ us).set u none).set i o
            rw [ih2 σ hu.2, List.set_comm _ _ hu.1]
        rw [out ws σ hw, List.set_set]
  cases t with
  | nm i =>
    cases h
    exact q _ (sl.set i rv) fun vs hm => wp _ _ _ _ hm
  | pr i j =>
    cases d <;> first | (simp [setT] at h; done) | skip
    rename_i xs
    match xs, h with
    | [x, y], h =>
      cases h
      cases rv with
      | tup h1 h2 =>
        cases h2 with
        | cons ra h2 =>
          cases h2 with
          | cons rb h2 =>
            cases h2
            exact ⟨_, _, rfl, SqT.up r.sub h1, rfl, _, _, rfl, _, _, rfl, rfl, q _ ((sl.set i ra).set j rb) fun vs hm => by rw [wp _ _ _ _ hm.2, wp _ _ _ _ hm.1]⟩
    | [], h => simp [setT] at h
    | [_], h => simp [setT] at h
    | _ :: _ :: _ :: _, h => simp [setT] at h
end
end Ev
namespace Ev
open PySem PySem.Spec PyProof.Rows L2

/-! ### places forgotten -/
section
variable {cA xA : Nat → Addr} {K : PySem.W.Frag} {F F' H H' : Hp} {ι ι' : List Addr} {S S' : Store}
mutual
theorem Rep.clo : ∀ (d : D) (v : V), Rep K F ι v d → clo ι.length d = true
  | .non, _, h => rfl
  | .bl _, _, h => rfl
  | .int _, _, h => rfl
  | .str _, _, h => rfl
  | .scr _, _, h => rfl
  | .tup ds, _, h => by cases h with | tup h h2 => exact Reps.clo ds _ h2
  | .lst ds, _, h => by cases h with | lst h h2 => exact Reps.clo ds _ h2
  | .dic _ ds, _, h => by cases h with | dic h h1 h2 => exact Reps.clo ds _ h2
  | .loc _, _, h => by cases h with | loc h => exact decide_eq_true (List.getElem?_eq_some_iff.mp h).1
  | .opq _, _, _ => rfl
theorem Reps.clo : ∀ (ds : List D) (vs : List V), Reps K F ι vs ds → clos ι.length ds = true
  | [], _, h => rfl
  | d :: ds, _, h => by
    cases h with
    | cons h h2 => exact Bool.and_eq_true_iff.mpr ⟨Rep.clo d _ h, Reps.clo ds _ h2⟩
end
mutual
theorem Rep.low {n : Nat} (e : ∀ k a, ι'[k]? = some a → k < n → ι[k]? = some a) : ∀ (d : D) (v : V), Ev.clo n d = true → Rep K F ι' v d → Rep K F ι v d
  | .non, _, c, h => by cases h; exact .non
  | .bl _, _, c, h => by cases h; exact .bl _
  | .int _, _, c, h => by cases h; exact .int _
  | .str _, _, c, h => by cases h with | str _ h => exact .str _ h
  | .scr _, _, c, h => by cases h with | scr h => exact .scr h
  | .tup ds, _, c, h => by cases h with | tup h h2 => exact .tup h (Reps.low e ds _ c h2)
  | .lst ds, _, c, h => by cases h with | lst h h2 => exact .lst h (Reps.low e ds _ c h2)
  | .dic _ ds, _, c, h => by cases h with | dic h h1 h2 => exact .dic h h1 (Reps.low e ds _ c h2)
  | .loc _, _, c, h => by cases h with | loc h => exact .loc (e _ _ h (of_decide_eq_true c))
  | .opq _, _, _, h => by cases h; exact .opq _
theorem Reps.low {n : Nat} (e : ∀ k a, ι'[k]? = some a → k < n → ι[k]? = some a) : ∀ (ds : List D) (vs : List V), Ev.clos n ds = true → Reps K F ι' vs ds → Reps K F ι vs ds
  | [], _, c, h => by cases h; exact .nil
  | d :: ds, _, c, h => by
    cases h with
    | cons h h2 =>
      have c := Bool.and_eq_true_iff.mp c
      exact .cons (Rep.low e d _ c.1 h) (Reps.low e ds _ c.2 h2)
end
theorem Ext.low (e : Ext F ι F' ι') : ∀ k a, ι'[k]? = some a → k < ι.length → ι[k]? = some a := fun k a h hk => by
  have h2 : ι[k]? = some ι[k] := by simp [hk]
  have := e.pl _ _ h2
  rw [h] at this
  cases this
  exact h2
theorem RepK.low {n : Nat} (e : ∀ k a, ι'[k]? = some a → k < n → ι[k]? = some a) {l : List (Key × V)} {r : List (Str × D)} (h : RepK K F ι' l r) (c : clos n (r.map (·.2)) = true) : RepK K F ι l r := by
  induction h with
  | nil => exact .nil
  | cons h _ ih =>
    have c := Bool.and_eq_true_iff.mp c
    exact .cons (Rep.low e _ _ c.1 h) (ih c.2)
theorem RepF.low {n : Nat} (e : ∀ k a, ι'[k]? = some a → k < n → ι[k]? = some a) {l : List (Str × V)} {r : List (Str × D)} (h : RepF K F ι' l r) (c : clos n (r.map (·.2)) = true) : RepF K F ι l r := by
  induction h with
  | nil => exact .nil
  | cons h _ ih =>
    have c := Bool.and_eq_true_iff.mp c
    exact .cons (Rep.low e _ _ c.1 h) (ih c.2)
theorem RepK.clo {l : List (Key × V)} {r : List (Str × D)} (h : RepK K F ι l r) : clos ι.length (r.map (·.2)) = true := by
  induction h with
  | nil => rfl
  | cons h _ ih => exact Bool.and_eq_true_iff.mpr ⟨Rep.clo _ _ h, ih⟩
theorem RepF.clo {l : List (Str × V)} {r : List (Str × D)} (h : RepF K F ι l r) : clos ι.length (r.map (·.2)) = true := by
  induction h with
  | nil => rfl
  | cons h _ ih => exact Bool.and_eq_true_iff.mpr ⟨Rep.clo _ _ h, ih⟩
def cloC (n : Nat) : Cell → Bool
  | .lst ds => clos n ds
  | .dic r | .ins _ r => clos n (r.map (·.2))
  | .dead => true
theorem CellAt.clo : ∀ {c : Cell} {o : Option HO}, CellAt cA K F ι c o → cloC ι.length c = true
  | .lst _, _, ⟨vs, _, h2⟩ => Reps.clo _ _ h2
  | .dic _, _, ⟨l, _, h2⟩ => h2.clo
  | .ins _ _, _, ⟨dx, l, _, h2⟩ => h2.clo
  | .dead, _, _ => rfl
theorem CellAt.low {n : Nat} (e : ∀ k a, ι'[k]? = Option.some a → k < n → ι[k]? = Option.some a) : ∀ {c : Cell} {o : Option HO}, CellAt cA K F ι' c o → cloC n c = true → CellAt cA K F ι c o
  | .lst _, _, ⟨vs, h1, h2⟩, c => ⟨vs, h1, Reps.low e _ _ c h2⟩
  | .dic _, _, ⟨l, h1, h2⟩, c => ⟨l, h1, h2.low e c⟩
  | .ins _ _, _, ⟨dx, l, h1, h2⟩, c => ⟨dx, l, h1, h2.low e c⟩
  | .dead, _, _, _ => True.intro
/-- the places behind S forgotten -/
theorem Rel.cut (r : Rel cA K F ι S H) (r' : Rel cA K F' ι' S' H') (e : Ext F ι F' ι') (t : S'.take S.length = S) : Rel cA K F' ι S H' where
  sub := r'.sub
  len := r.len
  cell := fun n c hc hl => by
    obtain ⟨a, h1, _, h3⟩ := r.cell n c hc hl
    have hn : n < S.length := (List.getElem?_eq_some_iff.mp hc).1
    have hc' : S'[n]? = some c := by
      rw [← t, List.getElem?_take_of_lt hn] at hc
      exact hc
    obtain ⟨a', g1, g2, g3⟩ := r'.cell n c hc' hl
    have := e.pl _ _ h1
    rw [this] at g1
    cases g1
    exact ⟨a, h1, g2, g3.low (n := ι.length) e.low h3.clo⟩
  inj := fun i j a c c' h1 h2 h3 h4 => by
    have up : ∀ (i : Nat) (c : Cell), S[i]? = some c → S'[i]? = some c := fun i c h => by
      have hn : i < S.length := (List.getElem?_eq_some_iff.mp h).1
      rw [← t, List.getElem?_take_of_lt hn] at h
      exact h
    exact r'.inj i j a c c' (e.pl _ _ h1) (e.pl _ _ h2) (up _ _ h3) (up _ _ h4)
/-- what is fixed alone grew -/
theorem Ext.fst (e : Ext F ι F' ι') : Ext F ι F' ι := ⟨e.fx, fun _ _ h => h⟩
theorem take_app {S : Store} {T : Store} : (S ++ T).take S.length = S := by simp
/-- a list that has grown is fixed now -/
theorem Rel.freezeL {p : Addr} {ds : List D} (r : Rel cA K F ι S H) (r' : Rel cA K F' ι' (S ++ [.lst ds]) H') (e : Ext F ι F' ι') (hp : ι'[S.length]? = some p) (hc : clos S.length ds = true) :
    ∃ F2, Ext F ι F2 ι ∧ Rel cA K F2 ι S H' ∧ Rep K F2 ι (.ref p) (.lst ds) ∧ (∀ a o, F' a = some o → F2 a = some o) := by
  have r1 : Rel cA K F' ι S H' := r.cut r' e take_app
  have hcell : (S ++ [Cell.lst ds])[S.length]? = some (.lst ds) := by simp
  obtain ⟨a, g1, g2, ws, g3, g4⟩ := r'.cell _ _ hcell trivial
  rw [hp] at g1
  cases g1
  have e2 := Ext.fresh (F := F') (ι := ι) g2 (.lst ws)
  refine ⟨upd F' p (.lst ws), e.fst.trans e2, ⟨fun a o h => ?_, r1.len, fun n c h l => ?_, r1.inj⟩, .lst upd_same ((Reps.low (n := S.length) (by rw [← r.len]; exact e.low) _ _ hc g4).ext e2), e2.fx⟩
  · by_cases ha : a = p
    · subst ha; rw [upd_same] at h; cases h; exact g3
    · rw [upd_ne ha] at h; exact r1.sub a o h
  · obtain ⟨a, h1, h2, h3⟩ := r1.cell n c h l
    have hn : n < S.length := (List.getElem?_eq_some_iff.mp h).1
    refine ⟨a, h1, ?_, h3.ext e2⟩
    rw [upd_ne]
    · exact h2
    · intro ha
      subst ha
      have h' : (S ++ [Cell.lst ds])[n]? = some c := by rw [List.getElem?_append_left hn]; exact h
      have := r'.inj n S.length a c _ (e.pl _ _ h1) hp h' hcell l trivial
      omega
end
theorem Good.bind0 {cA xA : Nat → Addr} {K : PySem.W.Frag} {Wx Wy : W0} {α β : Type} {F : Hp} {ι : List Addr} {r : R α} {f : α → Store → R β} {C : Hp → List Addr → Hp → β → Store → Prop} (h : Good cA xA K Wx F ι (r.bind0 f) C) : Good cA xA K Wy F ι r fun F1 ι1 _ a S1 => Good cA xA K Wx F1 ι1 (f a S1) C := by
  cases r with
  | ok a S => exact fun F2 ι2 H2 e2 r2 => Good.ext h e2
  | exn c S => exact h.elim
  | stuck => exact h
/-! ### comprehensions -/
def nW : WX := fun _ _ _ _ => False
/-- the tests of a comprehension -/
def TDq (cA xA : Nat → Addr) (K : PySem.W.Frag) (W : WX) (f : Env → Store → R Bool) : TT := fun σ H Q => ∃ F ι S δ, Rel cA K F ι S H ∧ Sl K F ι σ δ ∧
  Good cA xA K (fun c d H => W c d σ H) F ι (f δ S) fun F' ι' H' b _ => Q b H'
theorem wipe_idem (σ : L2.St) : ∀ vs : List Nat, L2.wipe (L2.wipe σ vs) vs = L2.wipe σ vs := by
  have out : ∀ (ws : List Nat) (σ : L2.St) (i : Nat), L2.wipe (σ.set i none) ws = (L2.wipe σ ws).set i none := by
    intro ws
    induction ws with
    | nil => intro σ _; rfl
    | cons u us ih2 =>
      intro σ i
      show (L2.wipe (σ.set i none) us).set u none = ((L2.wipe σ us).set u none).set i none
      rw [ih2 σ]
      by_cases h : i = u
      · subst h; rfl
      · rw [List.set_comm _ _ h]
  intro vs
  induction vs generalizing σ with
  | nil => rfl
  | cons v vs ih =>
    show (L2.wipe ((L2.wipe σ vs).set v none) vs).set v none = (L2.wipe σ vs).set v none
    rw [out, ih, List.set_set]
def tgIn : Tg → List Nat → Prop
  | .nm i, vs => i ∈ vs
  | .pr i j, vs => i ∈ vs ∧ j ∈ vs
instance (t : Tg) (vs : List Nat) : Decidable (tgIn t vs) := by cases t <;> unfold tgIn <;> exact inferInstance
noncomputable def turnC (vs : List Nat) (tg : Tg) (ti : Env → Store → R Bool) (fe : Env → Store → R D) (δ : Env) : D → Store → R (Option D) := fun x S => (match setT tg x (wipeE δ vs) with
        | some δ' => (ti δ' S).bind fun b S => if b then (fe δ' S).bind fun d S => .ok (some d) S else .ok none S
        | none => .stuck)
noncomputable def evCmp (m : Bool) (ik : IK) (tg : Tg) (vs : List Nat) (gi : Env → Store → R (List D)) (ti : Env → Store → R Bool) (fe : Env → Store → R D) : Env → Store → R D := fun δ S => (gi δ S).bind fun ds S => (match walkOf S ik ds with
    | some (xs, ch) => compM m ch (turnC vs tg ti fe δ) xs S
    | none => .stuck)
section
variable {cA xA : Nat → Addr} {K : PySem.W.Frag} {Wx : W0} {W : WX} {F H : Hp} {ι : List Addr} {S : Store}
theorem good_if {α : Type} {p : Prop} [Decidable p] {r : R α} {C : Hp → List Addr → Hp → α → Store → Prop} (h : Good cA xA K Wx F ι (if p then r else .stuck) C) : p ∧ Good cA xA K Wx F ι r C := by
  split at h
  · exact ⟨‹p›, h⟩
  · exact h.elim
/-- one turn -/
theorem turn_run {vs : List Nat} {tg : Tg} {ti : Env → Store → R Bool} {fe : Env → Store → R D} {δ : Env} {x : V} {d : D} {σ : L2.St} {P : Hp → List Addr → Option D → Store → Prop} (hv : tgIn tg vs) (r : Rel cA K F ι S H) (rx : Rep K F ι x d) (sl : Sl K F ι σ δ) {D : Addr} {Nx : Hp → Prop}
    (h : Good cA xA K (fun _ _ _ => False) F ι (turnC vs tg ti fe δ d S) fun F' ι' _ o S' => P F' ι' o S')
    (k0 : ∀ F' ι' H' S', Ext F ι F' ι' → Rel cA K F' ι' S' H' → P F' ι' none S' → Nx H')
    (k1 : ∀ F' ι' H' S' y v, Ext F ι F' ι' → Rel cA K F' ι' S' H' → P F' ι' (some y) S' → Rep K F' ι' v y → ∃ acc, H' D = some (HO.lst acc) ∧ acc.length < sizeLine ∧ Nx (upd H' D (HO.lst (acc ++ [v])))) :
    gTg K tg x (L2.wipe σ vs) H fun σ2 H2 => L2.wipe σ2 vs = L2.wipe σ vs ∧ TDq cA xA K nW ti σ2 H2 fun b H3 => if b = true then TD cA xA K nW fe σ2 H3 fun y H4 => ∃ acc, H4 D = some (HO.lst acc) ∧ acc.length < sizeLine ∧ Nx (upd H4 D (HO.lst (acc ++ [y]))) else Nx H3 := by
  unfold turnC at h
  cases hs : setT tg d (wipeE δ vs) with
  | none => rw [hs] at h; exact h.elim
  | some δ' =>
    rw [hs] at h
    refine tg_set r hs rx (sl.wipe vs) fun σ2 sl2 hw => ⟨by rw [hw vs (by cases tg <;> exact hv), wipe_idem], F, ι, S, δ', r, sl2, h.bind.mono fun F1 ι1 H1 b S1 e1 r1 g1 => ?_⟩
    cases b with
    | false => exact k0 _ _ _ _ e1 r1 (g1 _ _ _ (Ext.refl ..) r1)
    | true => exact ⟨F1, ι1, S1, δ', r1, sl2.ext e1, g1.bind.mono fun F2 ι2 H2 y S2 e2 r2 g2 v rv => k1 _ _ _ _ _ _ (e1.trans e2) r2 (g2 _ _ _ (Ext.refl ..) r2) rv⟩
theorem stays_app {S T : Store} {ch : List (Nat × List D)} (h : stays S ch = true) : stays (S ++ T) ch = true := by
  unfold stays
  classical
  refine decide_eq_true fun p hp => ?_
  have := stays_at h hp
  rw [List.getElem?_append_left (List.getElem?_eq_some_iff.mp this).1]
  exact this
theorem sizeL {n : Nat} (h : n < LIM) : n < sizeLine := by rw [← LIM_eq]; exact h
theorem lc_end {m : Bool} {ik : IK} {tg : Tg} {vs : List Nat} {gi : Env → Store → R (List D)} {ti : Env → Store → R Bool} {fe : Env → Store → R D} {σ : L2.St} {Q : VK} (hv : tgIn tg vs)
    (h : TD cA xA K W (evCmp m ik tg vs gi ti fe) σ H Q) : tLc (TDi cA xA K W ik gi) (gTg K tg) (TDq cA xA K nW ti) (TD cA xA K nW fe) vs σ H Q := by
  obtain ⟨F, ι, S, δ, r, sl, gd⟩ := h
  refine ⟨F, ι, S, δ, r, sl, gd.bind.mono fun F1 ι1 H1 ds S1 e1 r1 g1 => ?_⟩
  cases hw : walkOf S1 ik ds with
  | none => rw [hw] at g1; exact g1.elim
  | some p =>
    obtain ⟨xs, ch⟩ := p
    rw [hw] at g1
    dsimp only at g1
    unfold compM at g1
    obtain ⟨hl, g1⟩ := good_if g1
    refine ⟨_, rfl, fun J w D hD => ?_⟩
    have hlen : ι1.length = S1.length := r1.len
    cases m with
    | true =>
      refine lc_it w (fun i H => ∃ F' ι' S', Ext F1 (ι1 ++ [D]) F' ι' ∧ Rel cA K F' ι' S' H ∧ stays S' ch = true ∧
        Good cA xA K (fun c d H => W c d σ H) F' ι' (compT S1.length ch (turnC vs tg ti fe δ) (xs.drop i) S') fun F' ι' H' d _ => ∀ v, Rep K F' ι' v d → Q v H') ?_ ?_ ?_ ?_
      · have g2 : Good cA xA K (fun c d H => W c d σ H) F1 ι1 (compT S1.length ch (turnC vs tg ti fe δ) xs (S1 ++ [.lst []])) fun F' ι' H' d _ => ∀ v, Rep K F' ι' v d → Q v H' := g1
        rw [List.drop_zero]
        refine ⟨F1, ι1 ++ [D], S1 ++ [.lst []], Ext.refl .., r1.place hD (.lst []) ⟨[], rfl, .nil⟩, ?_, g2.ext (Ext.more F1 ι1 [D])⟩
        cases xs with
        | nil => exact (good_if g2).1
        | cons => exact (good_if g2).1
      · intro i H hi ⟨F', ι', S', e, r, st, g⟩
        exact ⟨F', ι', S', (Ext.more F1 ι1 [D]).trans e, r, st⟩
      · intro i x H H' hi ⟨F', ι', S', e, r, st, g⟩ y
        obtain ⟨F2, d, e2, r2, hx, rx⟩ := y F' ι' S' ((Ext.more F1 ι1 [D]).trans e) r st
        have hi : i < xs.length := hi
        rw [List.getElem?_eq_getElem hi] at hx
        cases hx
        rw [List.drop_eq_getElem_cons hi] at g
        unfold compT at g
        have g3 := (good_if g).2
        have hD2 : ∀ {F3 ι3}, Ext F2 ι' F3 ι3 → ι3[S1.length]? = some D := fun e3 => e3.pl _ _ (e2.pl _ _ (e.pl _ _ (by rw [← hlen]; simp)))
        refine turn_run (P := fun F3 ι3 o S3 => Good cA xA K (fun c d H => W c d σ H) F3 ι3 (match S3[S1.length]? with
          | some (.lst acc) => if acc.length < LIM then compT S1.length ch (turnC vs tg ti fe δ) (xs.drop (i + 1)) (S3.set S1.length (.lst (acc ++ o.toList))) else .stuck
          | _ => .stuck) fun F' ι' H' d _ => ∀ v, Rep K F' ι' v d → Q v H') hv r2 rx (sl.ext (e1.trans ((Ext.more F1 ι1 [D]).trans (e.trans e2)))) (((good_if g).2.ext e2).bind0) ?_ ?_
        · intro F3 ι3 H3 S3 e3 r3 g4
          split at g4
          · rename_i acc hc
            have g5 := (good_if g4).2
            have es : S3.set S1.length (.lst (acc ++ (none : Option Ev.D).toList)) = S3 := by
              have hc' := hc
              simp only [Option.toList_none, List.append_nil]
              obtain ⟨hn, hc2⟩ := List.getElem?_eq_some_iff.mp hc
              rw [← hc2]
              exact List.set_getElem_self hn
            rw [es] at g5
            refine ⟨F3, ι3, S3, e.trans (e2.trans e3), r3, ?_, g5⟩
            cases hx : xs.drop (i + 1) with
            | nil => rw [hx] at g5; exact (good_if g5).1
            | cons => rw [hx] at g5; exact (good_if g5).1
          · exact g4.elim
        · intro F3 ι3 H3 S3 y v e3 r3 g4 rv
          split at g4
          · rename_i acc hc
            obtain ⟨hlt, g5⟩ := good_if g4
            obtain ⟨a, c1, c2, ws, c3, c4⟩ := r3.cell _ _ hc trivial
            rw [hD2 e3] at c1
            cases c1
            have r4 := rel_setL r3 hc (hD2 e3) (c4.app (.cons rv .nil))
            refine ⟨ws, c3, sizeL (by rw [c4.len]; exact hlt), F3, ι3, _, e.trans (e2.trans e3), r4, ?_, g5⟩
            cases hx : xs.drop (i + 1) with
            | nil => rw [hx] at g5; exact (good_if g5).1
            | cons => rw [hx] at g5; exact (good_if g5).1
          · exact g4.elim
      · intro H ⟨F', ι', S', e, r, st, g⟩
        rw [List.drop_length] at g
        unfold compT at g
        exact (good_if g).2 F' ι' H (Ext.refl ..) r _ (.loc (e.pl _ _ (by rw [← hlen]; simp)))
    | false =>
      refine lc_it w (fun i H => ∃ F' ι' acc, Ext F1 ι1 F' ι' ∧ ι'[S1.length]? = some D ∧ Rel cA K F' ι' (S1 ++ [.lst acc]) H ∧ acc.length ≤ i ∧ clos S1.length acc = true ∧ stays S1 ch = true ∧
        Good cA xA K (fun c d H => W c d σ H) F1 ι1 (compF ch (turnC vs tg ti fe δ) S1 (xs.drop i) acc) fun F' ι' H' d _ => ∀ v, Rep K F' ι' v d → Q v H') ?_ ?_ ?_ ?_
      · have g2 : Good cA xA K (fun c d H => W c d σ H) F1 ι1 (compF ch (turnC vs tg ti fe δ) S1 xs []) fun F' ι' H' d _ => ∀ v, Rep K F' ι' v d → Q v H' := g1
        refine ⟨F1, ι1 ++ [D], [], Ext.more F1 ι1 [D], by rw [← hlen]; simp, r1.place hD (.lst []) ⟨[], rfl, .nil⟩, Nat.le_refl _, rfl, ?_, g2⟩
        cases xs with
        | nil => exact (good_if g2).1
        | cons => exact (good_if g2).1
      · intro i H hi ⟨F', ι', acc, e, _, r, _, _, st, g⟩
        exact ⟨F', ι', _, e, r, stays_app st⟩
      · intro i x H H' hi ⟨F', ι', acc, e, hD1, r, hacc, hcl, st, g⟩ y
        obtain ⟨F2, d, e2, r2, hx, rx⟩ := y F' ι' _ e r (stays_app st)
        have hi : i < xs.length := hi
        rw [List.getElem?_eq_getElem hi] at hx
        cases hx
        rw [List.drop_eq_getElem_cons hi] at g
        unfold compF at g
        have hD2 : ∀ {F3 ι3}, Ext F2 ι' F3 ι3 → ι3[S1.length]? = some D := fun e3 => e3.pl _ _ (e2.pl _ _ hD1)
        have app : ∀ (a b : List Ev.D), clos S1.length a = true → clos S1.length b = true → clos S1.length (a ++ b) = true := by
          intro a b
          induction a with
          | nil => intro _ h; exact h
          | cons u us ih => intro h h2; have h := Bool.and_eq_true_iff.mp h; exact Bool.and_eq_true_iff.mpr ⟨h.1, ih h.2 h2⟩
        have gg := Good.bind0 (Wy := fun _ _ _ => False) (good_if g).2
        refine turn_run (P := fun F3 ι3 o S3 => S3 = S1 ++ [.lst acc] ∧ clos S1.length o.toList = true ∧ Good cA xA K (fun c d H => W c d σ H) F1 ι1 (compF ch (turnC vs tg ti fe δ) S1 (xs.drop (i + 1)) (acc ++ o.toList)) fun F' ι' H' d _ => ∀ v, Rep K F' ι' v d → Q v H') hv r2 rx (sl.ext (e1.trans (e.trans e2))) ?_ ?_ ?_
        · cases ht : turnC vs tg ti fe δ xs[i] (S1 ++ [.lst acc]) with
          | stuck => rw [ht] at g; exact (good_if g).2.elim
          | exn c S => rw [ht] at g; exact (good_if g).2.elim
          | ok o S3 =>
            rw [ht] at g
            have g5 := (good_if g).2
            simp only [R.bind0] at g5
            classical
            split at g5
            rotate_left 1
            · exact g5.elim
            rename_i hand
            have g2 := And.intro hand g5
            exact fun F3 ι3 H3 e3 r3 => ⟨g2.1.1, g2.1.2, g2.2⟩
        · intro F3 ι3 H3 S3 e3 r3 ⟨es, hcl2, g4⟩
          subst es
          simp only [Option.toList_none, List.append_nil] at g4
          exact ⟨F3, ι3, acc, e.trans (e2.trans e3), hD2 e3, r3, Nat.le_succ_of_le hacc, hcl, st, g4⟩
        · intro F3 ι3 H3 S3 y v e3 r3 ⟨es, hcl2, g4⟩ rv
          subst es
          have hc : (S1 ++ [Cell.lst acc])[S1.length]? = some (.lst acc) := by simp
          obtain ⟨a, c1, c2, ws, c3, c4⟩ := r3.cell _ _ hc trivial
          rw [hD2 e3] at c1
          cases c1
          have r4 := rel_setL r3 hc (hD2 e3) (c4.app (.cons rv .nil))
          have es : (S1 ++ [Cell.lst acc]).set S1.length (.lst (acc ++ [y])) = S1 ++ [.lst (acc ++ [y])] := by simp
          rw [es] at r4
          refine ⟨ws, c3, sizeL (by rw [c4.len]; have := hl; omega), F3, ι3, acc ++ [y], e.trans (e2.trans e3), hD2 e3, r4, by simp; exact hacc, app _ _ hcl hcl2, st, g4⟩
      · intro H ⟨F', ι', acc, e, hD1, r, hacc, hcl, st, g⟩
        rw [List.drop_length] at g
        unfold compF at g
        obtain ⟨F2, e2, r2, rv, _⟩ := r1.freezeL r e hD1 hcl
        exact (good_if g).2 F2 ι1 H e2 r2 _ rv
end
end Ev
namespace Ev
open PySem PySem.Spec PyProof.Rows L2

def notComp : Expr → Bool
  | .ListComp .. => false | .SetComp .. => false | .DictComp .. => false
  | _ => true
theorem swaps_no {e : Expr} (h : notComp e = true) (t : Option Expr) (l : Nat) (env : PySem.Env) : swapsWith e t l env = pure false := by
  cases e <;> first | (cases h; done) | rfl
section
variable {cA xA : Nat → Addr} {X : Cx} {W : WX} {a b c o e : Expr} {pos apos p : Pos} {f g : Env → Store → R D} {x : Str}
/-! ### comprehensions -/
theorem takes_no {X : Cx} : L2N.Takes X nW := fun u s' ⟨a, B, sI, pins, σ, H, cls, d, e, I, nb, up, sky, na, os, ag, w⟩ => w.elim
theorem q_nil {cA xA : Nat → Addr} : PTs X [] (TDq cA xA X.K nW fun _ S => .ok true S) := ⟨fun pins s σ H Q I ⟨F, ι, S, δ, r, sl, gd⟩ => pts_nil.run pins s σ H Q I (gd F ι H (Ext.refl ..) r)⟩
def evIf1 (f : Env → Store → R D) : Env → Store → R Bool := fun δ S => (f δ S).bind fun d S => (match d with
    | .bl b => .ok b S
    | _ => .stuck)
theorem q_one {e : Expr} (h : PT X e (TDb cA xA X.K nW f)) : PTs X [e] (TDq cA xA X.K nW (evIf1 f)) := ⟨fun pins s σ H Q I ⟨F, ι, S, δ, r, sl, gd⟩ => (pts_one h).run pins s σ H Q I
  ⟨F, ι, S, δ, r, sl, gd.bind.mono fun F1 ι1 H1 d S1 e1 r1 g1 => by
    cases d <;> first | exact g1.elim | skip
    exact ⟨_, rfl, g1 _ _ _ (Ext.refl ..) r1⟩⟩⟩
variable {gi : Env → Store → R (List D)} {ti : Env → Store → R Bool} {fe : Env → Store → R D} {elt iter : Expr} {tgE : Expr} {ifs : List Expr} {scope : Scope} {own : List (Str × Nat)} {tg : Tg} {ik : IK} {m : Bool}
theorem c_comp (hc : X.calm = true) (nd : X.N.Nodup) (hi : PI X tgE iter (TDi cA xA X.K W ik gi)) (pl : plainE iter = true) (ok : BlkOk X.N X.env.scope scope own) (hv : tgIn tg (own.map (·.2)))
    (hg : ∀ (s : Shared) (H : Hp) (C : Addr) (cl : List (Str × Addr)) (fp : List Addr), PG (X.blk s H scope (compEnvC scope cl C X.env) fp) tgE (gTg X.K tg))
    (ht : ∀ (s : Shared) (H : Hp) (C : Addr) (cl : List (Str × Addr)) (fp : List Addr), PTs (X.blk s H scope (compEnvC scope cl C X.env) fp) ifs (TDq cA xA X.K nW ti))
    (he : ∀ (s : Shared) (H : Hp) (C : Addr) (cl : List (Str × Addr)) (fp : List Addr), PE (X.blk s H scope (compEnvC scope cl C X.env) fp) elt (TD cA xA X.K nW fe)) :
    PE X (.ListComp elt [⟨tgE, iter, ifs, 0⟩] scope pos) (TD cA xA X.K W (evCmp m ik tg (own.map (·.2)) gi ti fe)) :=
  PE.weak (pe_lc hc nd hi ok hg ht he (fold_plain pl _)) fun σ H Q h => lc_end hv h
theorem c_setComp {i : Nat} {y : Str} {py spos : Pos} (hc : X.calm = true) (nd : X.N.Nodup) (hy : X.N[i]? = some y) (hyl : X.env.scope.names.lookup y = some .local) (hsw : swapsWith (.ListComp elt [⟨tgE, iter, ifs, 0⟩] scope pos) (some (.Name y py)) spos.line X.env = pure true)
    (hi : PI X tgE iter (TDi cA xA X.K W ik gi)) (pl : plainE iter = true) (ok : BlkOk X.N X.env.scope scope own) (hv : tgIn tg (own.map (·.2)))
    (hg : ∀ (s : Shared) (H : Hp) (C : Addr) (cl : List (Str × Addr)) (fp : List Addr), PG (X.blk s H scope (compEnvC scope cl C X.env) fp) tgE (gTg X.K tg))
    (ht : ∀ (s : Shared) (H : Hp) (C : Addr) (cl : List (Str × Addr)) (fp : List Addr), PTs (X.blk s H scope (compEnvC scope cl C X.env) fp) ifs (TDq cA xA X.K nW ti))
    (he : ∀ (s : Shared) (H : Hp) (C : Addr) (cl : List (Str × Addr)) (fp : List Addr), PE (X.blk s H scope (compEnvC scope cl C X.env) fp) elt (TD cA xA X.K nW fe)) :
    PS X (.Assign [.Name y py] (.ListComp elt [⟨tgE, iter, ifs, 0⟩] scope pos) spos) (tAsg (TD cA xA X.K W (evCmp m ik tg (own.map (·.2)) gi ti fe)) (gName i)) :=
  PS.weak (ps_setLc hc nd hy hyl hsw hi ok hg ht he (fold_plain pl _)) fun D σ H h => lc_end hv h
/-! ### statements -/
theorem gs_bind {K : PySem.W.Frag} {F : Hp} {ι : List Addr} {σ : L2.St} {δ : Env} {r : R D} {k : D → Store → RS} {D : Ends} (sl : Sl K F ι σ δ) (h : GoodS cA xA K W F ι (thenS δ r k) D) :
    Good cA xA K (fun c d H => W c d σ H) F ι r fun F1 ι1 _ d S1 => GoodS cA xA K W F1 ι1 (k d S1) D := by
  cases r with
  | ok a S => exact fun F2 ι2 H2 e2 r2 => GoodS.ext h e2
  | exn c S => exact fun F2 ι2 H2 e2 r2 => h F2 ι2 H2 σ e2 r2 (sl.ext e2)
  | stuck => exact h
def sSet (i : Nat) (f : Env → Store → R D) : Env → Store → RS := fun δ S => thenS δ (f δ S) fun d S => .nx (δ.set i (some d)) S
theorem asg_end {K : PySem.W.Frag} {i : Nat} {D : Ends} {σ : L2.St} {H : Hp} (h : TSd cA xA K W (sSet i f) D σ H) : tAsg (TD cA xA K W f) (gName i) D σ H := by
  obtain ⟨F, ι, S, δ, r, sl, gd⟩ := h
  exact ⟨F, ι, S, δ, r, sl, (gs_bind sl gd).mono fun F1 ι1 H1 d S1 e1 r1 g1 v rv => g1 _ _ _ _ (Ext.refl ..) r1 ((sl.ext e1).set i rv)⟩
theorem s_set {i : Nat} {py : Pos} (nd : X.N.Nodup) (hi : X.N[i]? = some x) (hx : Loc X.env.scope x) (hf : X.fn x = true ∨ X.env.scope.names.lookup x = some .local) (nc : notComp e = true) (he : PE X e (TD cA xA X.K W f)) :
    PS X (.Assign [.Name x py] e pos) (TSd cA xA X.K W (sSet i f)) :=
  PS.weak (ps_asg he (pg_name nd hi hx hf) (by cases e <;> first | (cases nc; done) | rfl) (by rfl) (by rfl)) fun D σ H h => asg_end h
theorem s_ret (he : PE X e (TD cA xA X.K W f)) : PS X (.Return (some e) pos) (TSd cA xA X.K W fun δ S => thenS δ (f δ S) fun d S => .rt d S) :=
  PS.weak (ps_ret he) fun D σ H ⟨F, ι, S, δ, r, sl, gd⟩ => ⟨F, ι, S, δ, r, sl, (gs_bind sl gd).mono fun F1 ι1 H1 d S1 e1 r1 g1 v rv => g1 _ _ _ _ (Ext.refl ..) r1 rv⟩
theorem s_ex (nc : notComp e = true) (he : PE X e (TD cA xA X.K W f)) : PS X (.Expr e pos) (TSd cA xA X.K W fun δ S => thenS δ (f δ S) fun _ S => .nx δ S) :=
  PS.weak (ps_expr he (swaps_no nc ..)) fun D σ H ⟨F, ι, S, δ, r, sl, gd⟩ => ⟨F, ι, S, δ, r, sl, (gs_bind sl gd).mono fun F1 ι1 H1 d S1 e1 r1 g1 v rv => g1 _ _ _ _ (Ext.refl ..) r1 (sl.ext e1)⟩
theorem s_nev {st : Stmt} : PS X st (TSd cA xA X.K W fun _ _ => .stuck) := PS.weak ps_never fun D σ H ⟨F, ι, S, δ, r, sl, gd⟩ => gd
theorem s_pass : PS X (.Pass pos) (TSd cA xA X.K W fun δ S => .nx δ S) := PS.weak ps_pass fun D σ H ⟨F, ι, S, δ, r, sl, gd⟩ => gd _ _ _ _ (Ext.refl ..) r sl
abbrev BF := Env → Store → RS
def sIte (f : Env → Store → R D) (u v : BF) : BF := fun δ S => thenS δ (f δ S) fun d S => (match d with
    | .bl true => u δ S
    | .bl false => v δ S
    | _ => .stuck)
variable {u v : BF} {xs ys : List Stmt}
theorem s_if (hc : PT X c (TDb cA xA X.K W f)) (ha : PSs X xs (TSd cA xA X.K W u)) (hb : PSs X ys (TSd cA xA X.K W v)) : PS X (.If c xs ys pos) (TSd cA xA X.K W (sIte f u v)) :=
  PS.weak (ps_if hc ha hb) fun D σ H ⟨F, ι, S, δ, r, sl, gd⟩ => ⟨F, ι, S, δ, r, sl, (gs_bind sl gd).mono fun F1 ι1 H1 d S1 e1 r1 g1 => by
    cases d <;> first | exact g1.elim | skip
    rename_i b
    refine ⟨b, rfl, ?_⟩
    cases b with
    | true => exact ⟨F1, ι1, S1, δ, r1, sl.ext e1, g1⟩
    | false => exact ⟨F1, ι1, S1, δ, r1, sl.ext e1, g1⟩⟩
def sSeq (u v : BF) : BF := fun δ S => (match u δ S with
    | .nx δ S => v δ S
    | x => x)
theorem ss_nil : PSs X [] (TSd cA xA X.K W fun δ S => .nx δ S) := PSs.weak pss_nil fun D σ H ⟨F, ι, S, δ, r, sl, gd⟩ => gd _ _ _ _ (Ext.refl ..) r sl
theorem ss_cons {st : Stmt} (h1 : PS X st (TSd cA xA X.K W u)) (h2 : PSs X xs (TSd cA xA X.K W v)) : PSs X (st :: xs) (TSd cA xA X.K W (sSeq u v)) :=
  PSs.weak (pss_cons h1 h2) fun D σ H ⟨F, ι, S, δ, r, sl, gd⟩ => ⟨F, ι, S, δ, r, sl, by
    unfold sSeq at gd
    cases hu : u δ S with
    | nx δ1 S1 =>
      rw [hu] at gd
      exact fun F2 ι2 H2 σ2 e2 r2 s2 => ⟨F2, ι2, S1, δ1, r2, s2, GoodS.ext gd e2⟩
    | rt d S1 => rw [hu] at gd; exact gd
    | exn c δ1 S1 => rw [hu] at gd; exact gd
    | stuck => rw [hu] at gd; exact gd⟩
noncomputable def sFor (tg : Tg) (ik : IK) (gi : Env → Store → R (List D)) (u : BF) : BF := fun δ S => (match gi δ S with
    | .ok ds S => (match walkOf S ik ds with
      | some (xs, ch) => forL ch tg u xs δ S
      | none => .stuck)
    | .exn c S => .exn c δ S
    | .stuck => .stuck)
theorem gs_if {K : PySem.W.Frag} {F : Hp} {ι : List Addr} {p : Prop} [Decidable p] {r : RS} {D : Ends} (h : GoodS cA xA K W F ι (if p then r else .stuck) D) : p ∧ GoodS cA xA K W F ι r D := by
  split at h
  · exact ⟨‹p›, h⟩
  · exact h.elim
theorem s_for (hp : PassesOwn (model X.prog X.w) X.A X.env X.xe) (hc : X.calm = true) (hi : PI X tgE iter (TDi cA xA X.K W ik gi)) (pl : plainE iter = true) (hg : PG X tgE (gTg X.K tg)) (hb : PSs X xs (TSd cA xA X.K W u)) :
    PS X (.For tgE iter xs [] pos) (TSd cA xA X.K W (sFor tg ik gi u)) :=
  PS.weak (ps_for hp hc hi hg hb (fold_plain pl _)) fun D σ H ⟨F, ι, S, δ, r, sl, gd⟩ => by
    refine ⟨F, ι, S, δ, r, sl, ?_⟩
    unfold sFor at gd
    cases hgi : gi δ S with
    | stuck => rw [hgi] at gd; exact gd.elim
    | exn c S1 => rw [hgi] at gd; exact fun F2 ι2 H2 e2 r2 => gd F2 ι2 H2 σ e2 r2 (sl.ext e2)
    | ok ds S1 =>
      rw [hgi] at gd
      intro F1 ι1 H1 e1 r1
      dsimp only at gd
      cases hw : walkOf S1 ik ds with
      | none => rw [hw] at gd; exact gd.elim
      | some p =>
        obtain ⟨zs, ch⟩ := p
        rw [hw] at gd
        dsimp only at gd
        refine ⟨_, rfl, fun J w => ?_⟩
        have st0 : ∀ {zs δ S F ι}, GoodS cA xA X.K W F ι (forL ch tg u zs δ S) D → stays S ch = true := by
          intro zs δ S F ι g
          cases zs with
          | nil => unfold forL at g; exact (gs_if g).1
          | cons => unfold forL at g; exact (gs_if g).1
        refine for_it w (fun i σ H => ∃ F' ι' S δ, Ext F1 ι1 F' ι' ∧ Rel cA X.K F' ι' S H ∧ Sl X.K F' ι' σ δ ∧ GoodS cA xA X.K W F' ι' (forL ch tg u (zs.drop i) δ S) D) ?_ ?_ ?_ ?_
        · rw [List.drop_zero]
          exact ⟨F1, ι1, S1, δ, Ext.refl .., r1, sl.ext e1, GoodS.ext gd e1⟩
        · intro i σ H hi ⟨F', ι', S, δ, e, r, s, g⟩
          exact ⟨F', ι', S, e, r, st0 g⟩
        · intro i x σ H H' hi ⟨F', ι', S, δ, e, r, s, g⟩ y
          obtain ⟨F2, d, e2, r2, hx, rx⟩ := y F' ι' S e r (st0 g)
          have hi : i < zs.length := hi
          rw [List.getElem?_eq_getElem hi] at hx
          cases hx
          rw [List.drop_eq_getElem_cons hi] at g
          unfold forL at g
          have g2 := (gs_if g).2
          cases hs : setT tg zs[i] δ with
          | none => rw [hs] at g2; exact g2.elim
          | some δ' =>
            rw [hs] at g2
            dsimp only at g2
            refine tg_set r2 hs rx (s.ext e2) fun σ2 sl2 _ => ⟨F2, ι', S, δ', r2, sl2, ?_⟩
            cases hu : u δ' S with
            | nx δ2 S2 =>
              rw [hu] at g2
              exact fun F3 ι3 H3 σ3 e3 r3 s3 => ⟨F3, ι3, S2, δ2, e.trans (e2.trans e3), r3, s3, GoodS.ext g2 (e2.trans e3)⟩
            | rt d S2 => rw [hu] at g2; exact GoodS.ext (r := .rt d S2) g2 e2
            | exn c δ2 S2 => rw [hu] at g2; exact GoodS.ext (r := .exn c δ2 S2) g2 e2
            | stuck => rw [hu] at g2; exact g2
        · intro σ H ⟨F', ι', S, δ, e, r, s, g⟩
          rw [List.drop_length] at g
          unfold forL at g
          exact (gs_if g).2 F' ι' H σ (Ext.refl ..) r s
theorem s_whl (n : Nat) (hp : PassesOwn (model X.prog X.w) X.A X.env X.xe) (hc : PT X c (TDb cA xA X.K W f)) (hb : PSs X xs (TSd cA xA X.K W u)) : PS X (.While c xs [] pos) (TSd cA xA X.K W fun δ S => whlL f u n δ S) :=
  PS.weak (ps_while hp hc hb) fun D σ H ⟨F, ι, S, δ, r, sl, gd⟩ => by
    refine ⟨fun m σ H => ∃ F ι S δ, Rel cA X.K F ι S H ∧ Sl X.K F ι σ δ ∧ GoodS cA xA X.K W F ι (whlL f u m δ S) D, ⟨n, F, ι, S, δ, r, sl, gd⟩, ?_⟩
    intro m σ H ⟨F, ι, S, δ, r, sl, gd⟩
    refine ⟨F, ι, S, δ, r, sl, ?_⟩
    cases m with
    | zero => exact gd.elim
    | succ m =>
      unfold whlL at gd
      cases hf : f δ S with
      | stuck => rw [hf] at gd; exact gd.elim
      | exn c S1 => rw [hf] at gd; exact fun F2 ι2 H2 e2 r2 => gd F2 ι2 H2 σ e2 r2 (sl.ext e2)
      | ok d S1 =>
        rw [hf] at gd
        intro F1 ι1 H1 e1 r1
        cases d <;> first | exact gd.elim | skip
        rename_i b
        refine ⟨b, rfl, ?_⟩
        cases b with
        | false => exact gd F1 ι1 H1 σ e1 r1 (sl.ext e1)
        | true =>
          refine ⟨fun σ H => ∃ F ι S δ, Rel cA X.K F ι S H ∧ Sl X.K F ι σ δ ∧ GoodS cA xA X.K W F ι (whlL f u m δ S) D, fun σ' H' h => ⟨m, Nat.lt_succ_self m, h⟩, F1, ι1, S1, δ, r1, sl.ext e1, ?_⟩
          dsimp only at gd
          cases hu : u δ S1 with
          | nx δ2 S2 =>
            rw [hu] at gd
            exact fun F3 ι3 H3 σ3 e3 r3 s3 => ⟨F3, ι3, S2, δ2, r3, s3, GoodS.ext gd (e1.trans e3)⟩
          | rt d S2 => rw [hu] at gd; exact GoodS.ext (r := .rt d S2) gd e1
          | exn c δ2 S2 => rw [hu] at gd; exact GoodS.ext (r := .exn c δ2 S2) gd e1
          | stuck => rw [hu] at gd; exact gd
end
/-! ### what was new is told by value -/
def seqO : List (Option D) → Option (List D)
  | [] => some []
  | x :: xs => match x, seqO xs with
    | some d, some ds => some (d :: ds)
    | _, _ => none
/-- what was new is told by value -/
def fz (n0 : Nat) (S' : Store) : Nat → D → Option D
  | 0, d => if clo n0 d then some d else none
  | k + 1, d => if clo n0 d then some d else match d with
    | .lst xs => (seqO (xs.map (fz n0 S' k))).map .lst
    | .tup xs => (seqO (xs.map (fz n0 S' k))).map .tup
    | .dic ks xs => (seqO (xs.map (fz n0 S' k))).map (.dic ks)
    | .loc n => (match S'[n]? with
      | some (.lst xs) => (seqO (xs.map (fz n0 S' k))).map .lst
      | some (.dic kvs) => (seqO (kvs.map fun p => fz n0 S' k p.2)).map (.dic (kvs.map (·.1)))
      | _ => none)
    | _ => none
section
variable {cA xA : Nat → Addr} {K : PySem.W.Frag} {F F' H H' : Hp} {ι ι' : List Addr} {S S' : Store}
theorem Rel.freezeAll (r : Rel cA K F ι S H) (r' : Rel cA K F' ι' S' H') (e : Ext F ι F' ι') (t : S'.take S.length = S) : ∃ F2, Ext F ι F2 ι ∧ Rel cA K F2 ι S H' ∧ (∀ a o, F' a = some o → F2 a = some o) ∧
    ∀ n a c, S.length ≤ n → S'[n]? = some c → live c → ι'[n]? = some a → F2 a = H' a := by
  classical
  have r1 : Rel cA K F' ι S H' := r.cut r' e t
  let Z : Addr → Prop := fun a => ∃ n c, S.length ≤ n ∧ S'[n]? = some c ∧ live c ∧ ι'[n]? = some a
  let F2 : Hp := fun a => if Z a then H' a else F' a
  have up : ∀ a o, F' a = some o → F2 a = some o := fun a o h => by
    show (if Z a then H' a else F' a) = some o
    split
    · exact r'.sub _ _ h
    · exact h
  have e2 : Ext F' ι F2 ι := ⟨up, fun _ _ h => h⟩
  refine ⟨F2, e.fst.trans e2, ⟨fun a o h => ?_, r1.len, fun n c hc l => ?_, r1.inj⟩, up, fun n a c h1 h2 h3 h4 => if_pos ⟨n, c, h1, h2, h3, h4⟩⟩
  · have h : (if Z a then H' a else F' a) = some o := h
    split at h
    · exact h
    · exact r'.sub _ _ h
  · obtain ⟨a, h1, h2, h3⟩ := r1.cell n c hc l
    refine ⟨a, h1, ?_, h3.ext e2⟩
    have hn : n < S.length := (List.getElem?_eq_some_iff.mp hc).1
    have hc' : S'[n]? = some c := by
      rw [← t, List.getElem?_take_of_lt hn] at hc
      exact hc
    have nz : ¬ Z a := fun ⟨m, c', q1, q2, q3, q4⟩ => by
      have := r'.inj n m a c c' (e.pl _ _ h1) q4 hc' q2 l q3
      omega
    show (if Z a then H' a else F' a) = none
    rw [if_neg nz]
    exact h2
theorem seqO_ok {F2 : Hp} {f : D → Option D} (hf : ∀ d d' v, f d = some d' → Rep K F' ι' v d → Rep K F2 ι v d') : ∀ {xs ys : List D} {vs : List V}, seqO (xs.map f) = some ys → Reps K F' ι' vs xs → Reps K F2 ι vs ys
  | [], _, _, h, q => by
    cases q
    cases h
    exact .nil
  | x :: xs, ys, _, h, q => by
    cases q with
    | cons q1 q2 =>
      unfold List.map seqO at h
      split at h
      · rename_i d ds e1 e2
        cases h
        exact .cons (hf _ _ _ e1 q1) (seqO_ok hf e2 q2)
      · cases h
theorem fz_ok {F2 : Hp} (r' : Rel cA K F' ι' S' H') (low : ∀ k a, ι'[k]? = some a → k < S.length → ι[k]? = some a) (up : ∀ a o, F' a = some o → F2 a = some o)
    (hN : ∀ n a c, S.length ≤ n → S'[n]? = some c → live c → ι'[n]? = some a → F2 a = H' a) : ∀ (k : Nat) (d d' : D) (v : V), fz S.length S' k d = some d' → Rep K F' ι' v d → Rep K F2 ι v d' := by
  have base : ∀ (d : D) (v : V), clo S.length d = true → Rep K F' ι' v d → Rep K F2 ι v d := fun d v c h => (Rep.low low d v c h).ext ⟨up, fun _ _ h => h⟩
  intro k
  induction k with
  | zero =>
    intro d d' v h q
    unfold fz at h
    split at h
    · cases h; exact base _ _ ‹_› q
    · cases h
  | succ k ih =>
    intro d d' v h q
    unfold fz at h
    split at h
    · cases h; exact base _ _ ‹_› q
    · rename_i nc
      cases q with
      | lst q1 q2 =>
        dsimp only at h
        obtain ⟨ys, e1, rfl⟩ := Option.map_eq_some_iff.mp h
        exact .lst (up _ _ q1) (seqO_ok ih e1 q2)
      | tup q1 q2 =>
        dsimp only at h
        obtain ⟨ys, e1, rfl⟩ := Option.map_eq_some_iff.mp h
        exact .tup (SqT.up up q1) (seqO_ok ih e1 q2)
      | dic q1 q2 q3 =>
        dsimp only at h
        obtain ⟨ys, e1, rfl⟩ := Option.map_eq_some_iff.mp h
        exact .dic (up _ _ q1) q2 (seqO_ok ih e1 q3)
      | @loc n a q1 =>
        have hn : S.length ≤ n := by
          have : ¬ (decide (n < S.length) = true) := nc
          simpa using this
        dsimp only at h
        split at h
        · rename_i xs hc
          obtain ⟨ys, e1, rfl⟩ := Option.map_eq_some_iff.mp h
          obtain ⟨a', c1, c2, vs, c3, c4⟩ := r'.cell n _ hc trivial
          rw [q1] at c1; cases c1
          exact .lst ((hN n a _ hn hc trivial q1).trans c3) (seqO_ok ih e1 c4)
        · rename_i kvs hc
          obtain ⟨ys, e1, rfl⟩ := Option.map_eq_some_iff.mp h
          obtain ⟨a', c1, c2, l, c3, c4⟩ := r'.cell n _ hc trivial
          rw [q1] at c1; cases c1
          have e1' : seqO ((kvs.map (·.2)).map (fz S.length S' k)) = some ys := by rw [List.map_map]; exact e1
          refine .dic ((hN n a _ hn hc trivial q1).trans c3) ?_ (seqO_ok ih e1' ?_)
          · clear c3 e1 e1' h hc
            induction c4 with
            | nil => rfl
            | cons h _ ih2 => simp only [List.map_cons, ih2]
          · clear c3 e1 e1' h hc
            induction c4 with
            | nil => exact .nil
            | cons h _ ih2 => exact .cons h ih2
        · cases h
      | _ => cases h
end

/-! ### dicts, written -/
noncomputable def evDic (m : Bool) (ks : List Str) (gs : Env → Store → R (List D)) : Env → Store → R D := fun δ S => dispM m ks (gs δ (S ++ [.dic []])) S
section
variable {cA xA : Nat → Addr} {X : Cx} {W : WX}
def PairsOk (cA xA : Nat → Addr) (K : PySem.W.Frag) (W : WX) (trs : List (TE × TE)) (ks : List Str) (gs : Env → Store → R (List D)) : Prop :=
  ∀ σ H Q, TDs cA xA K W gs σ H (fun vs H' => vs.length = ks.length → Q ((ks.map V.str).zip vs) H') → tPairs trs σ H Q
theorem seqO_self {n : Nat} {S : Store} : ∀ {ds : List D}, clos n ds = true → seqO (ds.map (fz n S 0)) = some ds
  | [], _ => rfl
  | d :: ds, h => by
    have h := Bool.and_eq_true_iff.mp h
    have ih := seqO_self (S := S) h.2
    have e : fz n S 0 d = some d := by unfold fz; rw [if_pos h.1]
    unfold List.map seqO
    rw [e, ih]
theorem zip_snd {α β : Type} : ∀ {xs : List α} {ys : List β}, xs.length = ys.length → (xs.zip ys).map (·.2) = ys ∧ (xs.zip ys).map (·.1) = xs
  | [], [], _ => ⟨rfl, rfl⟩
  | x :: xs, y :: ys, h => by
    obtain ⟨h1, h2⟩ := zip_snd (xs := xs) (ys := ys) (by simpa using h)
    simp [h1, h2]
theorem merge_new : ∀ {kvs acc : List (Key × V)}, (acc.map (·.1) ++ kvs.map (·.1)).Nodup → mergeK acc kvs = acc ++ kvs
  | [], acc, _ => by simp [mergeK]
  | (k, v) :: r, acc, h => by
    have hv : valV acc k = none := by
      have hn : k ∉ acc.map (·.1) := by
        intro hm
        have := List.nodup_append.mp h
        exact (this.2.2 k hm k (by simp)) rfl
      unfold valV
      rw [List.find?_eq_none.mpr]
      · rfl
      · intro q hq
        have : q.1 ≠ k := fun e => hn (List.mem_map.mpr ⟨q, hq, e⟩)
        simpa using this
    show mergeK (putK acc k v) r = _
    rw [putK_new v hv, merge_new]
    · simp
    · simpa using h
theorem zip_kV : ∀ (ks : List Str) (vs : List V), (ks.map V.str).zip vs = ((ks.map (Sum.inr : Str → Key)).zip vs).map fun kv => (kV kv.1, kv.2)
  | [], _ => rfl
  | _ :: _, [] => rfl
  | k :: ks, v :: vs => by simp [kV, zip_kV ks vs]
theorem repK_zip {K : PySem.W.Frag} {F : Hp} {ι : List Addr} : ∀ {ks : List Str} {vs : List V} {ds : List D}, Reps K F ι vs ds → RepK K F ι ((ks.map (Sum.inr : Str → Key)).zip vs) (ks.zip ds)
  | [], _, _, _ => by simp; exact .nil
  | k :: ks, _, _, h => by
    cases h with
    | nil => exact .nil
    | cons h1 h2 => exact .cons h1 (repK_zip h2)
theorem c_dic {m : Bool} {ks : List Str} {gs : Env → Store → R (List D)} {keys : List (Option Expr)} {values : List Expr} {trs : List (TE × TE)} {pos : Pos} (h : PPs X pos keys values trs) (hall : keys.all (·.isSome) = true) (hl : keys.length = values.length) (h0 : keys ≠ [])
    (h15 : keys.length ≤ 15) (pk : PairsOk cA xA X.K W trs ks gs) : PE X (.Dict keys values pos) (TD cA xA X.K W (evDic m ks gs)) :=
  PE.weak (pe_disp h hall hl h0 h15) fun σ H Q ⟨F, ι, S, δ, r, sl, gd⟩ p hp => by
    have r0 := r.place hp (.dic []) ⟨[], rfl, .nil⟩
    refine pk σ _ _ ⟨F, ι ++ [p], S ++ [.dic []], δ, r0, sl.ext (Ext.more ..), ?_⟩
    unfold evDic dispM at gd
    cases hgs : gs δ (S ++ [.dic []]) with
    | stuck => rw [hgs] at gd; exact gd.elim
    | exn c S1 => rw [hgs] at gd; exact fun F1 ι1 H1 e1 r1 => gd F1 ι1 H1 ((Ext.more F ι [p]).trans e1) r1
    | ok ds S' =>
      rw [hgs] at gd
      simp only [R.bind] at gd
      intro F1 ι1 H1 e1 r1 vs rvs hvl
      have hp1 : ι1[S.length]? = some p := e1.pl _ _ (by rw [← r.len]; simp)
      split at gd
      · rename_i hc
        obtain ⟨hc1, hc2, hc3⟩ := hc
        have hlen : (ks.map (Sum.inr : Str → Key)).length = vs.length := by rw [List.length_map]; exact hvl.symm
        have mk : mergeK [] ((ks.map (Sum.inr : Str → Key)).zip vs) = (ks.map (Sum.inr : Str → Key)).zip vs := by
          rw [merge_new]
          · rfl
          · simp only [List.map_nil, List.nil_append]
            rw [(zip_snd hlen).2]
            exact List.Pairwise.map _ (fun a b hab e => hab (Sum.inr.inj e)) hc2
        have rk : RepK X.K F1 ι1 ((ks.map (Sum.inr : Str → Key)).zip vs) (ks.zip ds) := repK_zip rvs
        have h15' : ((ks.map (Sum.inr : Str → Key)).zip vs).length ≤ 15 := by simp; omega
        have cell : ∀ {S'}, Rel cA X.K F1 ι1 S' H1 → S'[S.length]? = some (.dic []) → H1 p = some (.dK []) := fun r1 hc => by
          obtain ⟨a, c1, c2, l, c3, c4⟩ := r1.cell _ _ hc trivial
          rw [hp1] at c1; cases c1
          cases c4
          exact c3
        cases m with
        | true =>
          simp only [if_true] at gd
          split at gd
          · rename_i hcell
            refine ⟨cell r1 hcell, _, zip_kV ks vs, h15', ?_⟩
            rw [mk]
            exact gd F1 ι1 _ ⟨e1.fx, fun n a h => e1.pl _ _ ((Ext.more F ι [p]).pl _ _ h)⟩ (r1.write hcell trivial hp1 (.dic (ks.zip ds)) ⟨_, rfl, rk⟩) _ (.loc hp1)
          · exact gd.elim
        | false =>
          simp only [Bool.false_eq_true, if_false] at gd
          split at gd
          · rename_i hcc
            obtain ⟨rfl, hcl⟩ := hcc
            have hcell : (S ++ [Cell.dic []])[S.length]? = some (.dic []) := by simp
            refine ⟨cell r1 hcell, _, zip_kV ks vs, h15', ?_⟩
            rw [mk]
            have r2 := r1.write hcell trivial hp1 (.dic (ks.zip ds)) ⟨_, rfl, rk⟩
            have es : (S ++ [Cell.dic []]).set S.length (.dic (ks.zip ds)) = S ++ [.dic (ks.zip ds)] := by simp
            rw [es] at r2
            have e2 : Ext F ι F1 ι1 := (Ext.more F ι [p]).trans e1
            obtain ⟨F2, e3, r3, up, hN⟩ := r.freezeAll r2 e2 take_app
            refine gd F2 ι _ e3 r3 _ (fz_ok r2 (fun k a h hk => e2.low k a h (by rw [r.len]; exact hk)) up hN 1 (.loc S.length) _ _ ?_ (.loc hp1))
            have nc : clo S.length (.loc S.length) = false := by simp [clo]
            have hg : (S ++ [Cell.dic (ks.zip ds)])[S.length]? = some (.dic (ks.zip ds)) := by simp
            unfold fz
            rw [if_neg (by rw [nc]; exact Bool.false_ne_true)]
            simp only [hg]
            have q := seqO_self (n := S.length) (S := S ++ [Cell.dic (ks.zip ds)]) hcl
            have z := zip_snd hc1
            have q2 : seqO ((ks.zip ds).map fun x => fz S.length (S ++ [Cell.dic (ks.zip ds)]) 0 x.2) = some ds := by
              rw [← q]
              congr 1
              conv => rhs; rw [← z.1]
              rw [List.map_map]
              rfl
            rw [q2, z.2]
            rfl
          · exact gd.elim
      · exact gd.elim
end
/-! ### a place of a list or a dict, an attribute, written -/
def sSetI (f g h : Env → Store → R D) : Env → Store → RS := fun δ S => thenS δ (f δ S) fun d S => thenS δ (g δ S) fun x S => thenS δ (h δ S) fun k S => (match x with
    | .loc n => (match S[n]?, k with
      | some (.lst xs), .int j => (match L2.ixN xs.length j with
        | some j => .nx δ (S.set n (.lst (xs.set j d)))
        | none => .stuck)
      | some (.dic kvs), .str f => if kvs.length < 1000 then .nx δ (S.set n (.dic (putD f d kvs))) else .stuck
      | _, _ => .stuck)
    | _ => .stuck)
def sSetA (atr : Nat → Str → Bool) (m : Str) (f g : Env → Store → R D) : Env → Store → RS := fun δ S => thenS δ (f δ S) fun d S => thenS δ (g δ S) fun x S => (match insAt S x with
    | some (n, c, fs) => if atr c m = true ∧ fs.length < 100 then .nx δ (S.set n (.ins c (putF m d fs))) else .stuck
    | none => .stuck)
section
variable {cA xA : Nat → Addr} {X : Cx} {W : WX} {a b o i v : Expr} {pos apos : Pos} {f g h : Env → Store → R D}
theorem repK_put {K : PySem.W.Frag} {F : Hp} {ι : List Addr} {m : Str} {w : V} {d : D} (hw : Rep K F ι w d) {l : List (Key × V)} {r : List (Str × D)} (h : RepK K F ι l r) : RepK K F ι (putK l (Sum.inr m) w) (putD m d r) := by
  have e : (l.any fun kv => decide (kv.1 = Sum.inr m)) = r.any fun kv => decide (kv.1 = m) := by
    induction h with
    | nil => rfl
    | cons _ _ ih => simp only [List.any_cons, ih, Sum.inr.injEq]
  unfold putK putD
  rw [e]
  split
  · clear e
    induction h with
    | nil => exact .nil
    | @cons g u d2 l r h1 h2 ih =>
      simp only [List.map_cons, Sum.inr.injEq]
      rename_i hx
      have ih' : RepK K F ι (l.map fun kv => if kv.1 = Sum.inr m then (kv.1, w) else kv) (r.map fun kv => if kv.1 = m then (kv.1, d) else kv) := by
        clear ih hx h1
        induction h2 with
        | nil => exact .nil
        | @cons g u d2 l r h1 h2 ih2 =>
          simp only [List.map_cons, Sum.inr.injEq]
          by_cases hg : g = m
          · rw [if_pos hg, if_pos hg]; exact .cons hw ih2
          · rw [if_neg hg, if_neg hg]; exact .cons h1 ih2
      by_cases hg : g = m
      · rw [if_pos hg, if_pos hg]; exact .cons hw ih'
      · rw [if_neg hg, if_neg hg]; exact .cons h1 ih'
  · clear e
    induction h with
    | nil => exact .cons hw .nil
    | cons h1 _ ih => exact .cons h1 (ih (by rename_i hx; simp only [List.any_cons, Bool.or_eq_true, not_or] at hx; exact hx.2))
theorem repF_put {K : PySem.W.Frag} {F : Hp} {ι : List Addr} {m : Str} {w : V} {d : D} (hw : Rep K F ι w d) {l : List (Str × V)} {r : List (Str × D)} (h : RepF K F ι l r) : RepF K F ι (L2.putF m w l) (putF m d r) := by
  induction h with
  | nil => exact .cons hw .nil
  | @cons g u d2 l r h1 h2 ih =>
    unfold L2.putF putF
    by_cases hg : m = g
    · rw [if_pos hg, if_pos hg.symm]; exact .cons hw h2
    · rw [if_neg hg, if_neg (Ne.symm hg)]; exact .cons h1 ih
theorem set_both (hu : X.A.units + 1 < cLine) : PSet X fun o i v H Q => rSetL o i v H Q ∨ rSetD o i v H Q := fun pins s σ H o i v ov iv u Q I ro ri rv h => by
  rcases h with h | h
  · exact set_list pins s σ H o i v ov iv u Q I ro ri rv h
  · exact set_dict hu pins s σ H o i v ov iv u Q I ro ri rv h
theorem s_setI (hu : X.A.units + 1 < cLine) (nc : notComp v = true) (pl : plainE i = true) (hv : PE X v (TD cA xA X.K W f)) (ho : PE X o (TD cA xA X.K W g)) (hi : PE X i (TD cA xA X.K W h)) : PS X (.Assign [.Subscript o i apos] v pos) (TSd cA xA X.K W (sSetI f g h)) :=
  PS.weak (ps_asg hv (pg_sub ho hi (set_both hu) (by cases i <;> first | (cases pl; done) | (intro _; rfl))) (by cases v <;> first | (cases nc; done) | rfl) (by rfl) (by rfl)) fun D σ H ⟨F, ι, S, δ, r, sl, gd⟩ => ⟨F, ι, S, δ, r, sl, (gs_bind sl gd).mono fun F1 ι1 H1 d S1 e1 r1 g1 w rw1 =>
    ⟨F1, ι1, S1, δ, r1, sl.ext e1, (gs_bind (sl.ext e1) g1).mono fun F2 ι2 H2 x S2 e2 r2 g2 w2 rw2 => ⟨F2, ι2, S2, δ, r2, sl.ext (e1.trans e2), (gs_bind (sl.ext (e1.trans e2)) g2).mono fun F3 ι3 H3 k S3 e3 r3 g3 w3 rw3 => by
      have rw2 := rw2.ext e3
      have rw1 := (rw1.ext e2).ext e3
      have sl3 := ((sl.ext e1).ext e2).ext e3
      cases rw2 with
      | @loc n q hq =>
        dsimp only at g3
        split at g3
        · rename_i xs j hc
          split at g3
          · rename_i j' hj
            obtain ⟨q', c1, c2, vs, c3, c4⟩ := r3.cell n _ hc trivial
            rw [hq] at c1; cases c1
            cases rw3
            refine .inl ⟨q, vs, j, j', rfl, rfl, c3, by rw [c4.len]; exact hj, ?_⟩
            exact g3 _ _ _ _ (Ext.refl ..) (rel_setL r3 hc hq (c4.set _ rw1)) sl3
          · exact g3.elim
        · rename_i kvs m hc
          split at g3
          · rename_i hl
            obtain ⟨q', c1, c2, l, c3, c4⟩ := r3.cell n _ hc trivial
            rw [hq] at c1; cases c1
            cases rw3
            have len : l.length = kvs.length := by
              clear c3 hl hc g3
              induction c4 with
              | nil => rfl
              | cons _ _ ih => simp [ih]
            refine .inr ⟨q, _, rfl, DPut.k (k := Sum.inr m) c3 (by rw [len]; have := LIM_eq; have h2 : LIM = 16777216 := rfl; omega), ?_⟩
            exact g3 _ _ _ _ (Ext.refl ..) (r3.write hc trivial hq _ ⟨_, rfl, repK_put rw1 c4⟩) sl3
          · exact g3.elim
        · exact g3.elim
      | _ => exact g3.elim⟩⟩⟩
theorem s_setA {atr : Nat → Str → Bool} (hat : AtrOk cA X.K atr) {m : Str} (nc : notComp v = true) (hv : PE X v (TD cA xA X.K W f)) (ho : PE X o (TD cA xA X.K W g)) : PS X (.Assign [.Attribute o m apos] v pos) (TSd cA xA X.K W (sSetA atr m f g)) :=
  PS.weak (ps_fld ho hv (swaps_no nc ..)) fun D σ H ⟨F, ι, S, δ, r, sl, gd⟩ => ⟨F, ι, S, δ, r, sl, (gs_bind sl gd).mono fun F1 ι1 H1 d S1 e1 r1 g1 w rw1 =>
    ⟨F1, ι1, S1, δ, r1, sl.ext e1, (gs_bind (sl.ext e1) g1).mono fun F2 ι2 H2 x S2 e2 r2 g2 w2 rw2 => by
      split at g2
      · rename_i n c fs e
        split at g2
        · rename_i hc
          obtain ⟨p, dx, l, h1, h0, h2, h3, h4, h5⟩ := ins_at r2 rw2 e
          have len : l.length = fs.length := by
            clear g2 h2 h3 e hc h5
            induction h4 with
            | nil => rfl
            | cons _ _ ih => simp [ih]
          obtain ⟨cl, na⟩ := hat _ _ hc.1
          refine ⟨p, _, dx, l, h1, h3, cl, na, by omega, ?_⟩
          exact g2 _ _ _ _ (Ext.refl ..) (r2.write h5 trivial h2 _ ⟨dx, _, rfl, repF_put (rw1.ext e2) h4⟩) ((sl.ext e1).ext e2)
        · exact g2.elim
      · exact g2.elim⟩⟩
end
end Ev
namespace Ev
open PySem PySem.Spec PyProof.Rows L2

/-! ### where an exception is handled: isinstance of it, a list comprehension over range -/
theorem call_isP {X : Cx} {p : Addr × Obj} {D : Addr} (C : ExcC X.K D) (hp : p ∈ X.pn) (hz : Zc (.ref D) none p.2) (hf : ∃ vs, p.2.data = .fields vs) : CallR X (.builtin "isinstance") (rIsE X.K D p.1) := by
  intro pins s σ H xs us Q I r h
  obtain ⟨c, cv, b, rfl, hcv, e, q⟩ := h
  cases r with
  | cons rx rr =>
    cases rr with
    | cons rt rr =>
      cases rr
      cases rx
      have ec := hcv _ rt
      subst ec
      obtain ⟨hget, _⟩ := I.pin p (List.mem_append.mpr (.inl hp))
      obtain ⟨vs, hv⟩ := hf
      have J : PySem.W.InstAt s.heap p.1 p.2 D none := by
        obtain ⟨a, oe⟩ := p
        obtain ⟨oc, od, oda, osl⟩ := oe
        obtain ⟨h1, h2⟩ := hz
        dsimp only at h1 h2 hv
        subst h1 h2 hv
        exact ⟨hget, rfl, rfl, trivial⟩
      exact PySem.W.kia_one (PySem.W.handS_kitx_exc C.hg C.hk C.hs C.hd C.ha C.hn C.ht C.hm) I.kIn J e (fun z => nomatch z) fun tk => ⟨.bl b, H, I.kept (t' := tk) fun _ _ z => z, rfl, q⟩
/-- isinstance of the thing at a, known -/
def evIsP (a : Addr) (b : Bool) (f : Env → Store → R D) : Env → Store → R D := fun δ S => (f δ S).bind fun x S => (match x with
    | .opq q => if q = a then .ok (.bl b) S else .stuck
    | _ => .stuck)
section
variable {cA xA : Nat → Addr} {X : Cx} {W : WX} {a e2 : Expr} {pos p0 : Pos} {f : Env → Store → R D} {p : Addr × Obj} {D : Addr}
theorem c_isP {v : V} {cv : Value} {b : Bool} (C : ExcC X.K D) (hp : p ∈ X.pn) (hz : Zc (.ref D) none p.2) (hf : ∃ vs, p.2.data = .fields vs) (hv : ∀ u, RelV v u → u = cv) (hk : PySem.W.kitOne X.K (.ref D) cv = some b) (hg : Gl X "isinstance") (hm : X.mg "isinstance" = none)
    (pl : plainE a = true) (pl2 : plainE e2 = true) (ha : PE X a (TD cA xA X.K W f)) (h2 : PE X e2 (tC v)) : PE X (.Call (.Name "isinstance" p0) [a, e2] [] pos) (TD cA xA X.K W (evIsP p.1 b f)) :=
  PE.weak (pe_callB (call_isP C hp hz hf) hg hm (by decide +kernel) (pa_cons ha (pa_cons h2 pa_nil (starE_plain pl2 _)) (star_plain pl _ _)) (by decide) (by decide) (star_plain pl _ _) (star_none (by simp [pl2]) _ _)) fun σ H Q ⟨F, ι, S, δ, r, sl, gd⟩ =>
    ⟨F, ι, S, δ, r, sl, gd.bind.mono fun F1 ι1 H1 d1 S1 e1 r1 g1 v1 rv1 => by
      cases rv1 <;> first | exact g1.elim | skip
      rename_i q
      dsimp only at g1
      split at g1
      · rename_i hq
        subst hq
        exact ⟨v, cv, b, rfl, hv, hk, g1 _ _ _ (Ext.refl ..) r1 _ (.bl _)⟩
      · exact g1.elim⟩
end
abbrev blkH (X : Cx) (p : Addr × Obj) (s : Shared) (H : Hp) (scope : Scope) (cenv : PySem.Env) (fp : List Addr) : Cx := (X.blk s H scope cenv fp).tr [p] (fun _ _ => False)
section
variable {X : Cx} {pins : List (Addr × Obj)} {σ : L2.St} {H : Hp} {s : Shared} {p : Addr × Obj}
theorem block_startH {scope : Scope} {own : List (Str × Nat)} {fp : List Addr} (I : Inv X pins σ H s) (ok : BlkOk X.N X.env.scope scope own) (hN : X.N.Nodup) (hfp : ∀ b ∈ fp, FpOk X pins H b ∧ b < s.heap.objs.size) (hp : p ∈ X.pn) :
    Inv (blkH X p s H scope (compEnvC scope (cellsFrom (s.heap.objs.size + 1) scope.names (cloFrom X.env.cells scope.names [])) s.heap.objs.size X.env) fp) [] (wipe σ (own.map (·.2))) H { s with heap := pushCells (s.heap.push { cls := .type "dict", data := .dict #[] }) scope.names } := by
  have J := block_start I ok hN hfp
  have P1 := I.pin p (List.mem_append_left _ hp)
  refine ⟨J.ok.toTry _ _, J.os, J.bare, J.base, J.loc, J.cell, J.free, J.freeC, fun q hq => ?_, J.hok, J.len⟩
  have eq : q = p := by simpa using (show q ∈ [p] ++ ([] : List (Addr × Obj)) from hq)
  subst eq
  exact ⟨pushCells_keeps _ _ _ _ (Heap.get?_push_of_some _ P1.1), P1.2.1, Nat.ne_of_lt (Heap.lt_size P1.1), fun hm => (List.mem_cons.mp (I.stkSub q.1 hm)).elim P1.2.2.1 P1.2.2.2.1, P1.2.2.2.2⟩
theorem lc_coreH {Q : VK} {elt tg iter : Expr} {ifs : List Expr} {scope : Scope} {own : List (Str × Nat)} {pos pos' : Pos} {wi : TI} {g : TG} {tt : TT} {te : TE} {use : Option (Value → Sem Unit)} {Qf : Value → Shared → Prop}
    (hot : L2H.Hot1 X.A p) (hp : p ∈ X.pn) (hN : X.N.Nodup) (I : Inv X pins σ H s) (hi : L2H.PIH X tg iter wi) (ok : BlkOk X.N X.env.scope scope own)
    (hg : ∀ (s : Shared) (H : Hp) (C : Addr) (cl : List (Str × Addr)) (fp : List Addr), PG (blkH X p s H scope (compEnvC scope cl C X.env) fp) tg g) (ht : ∀ (s : Shared) (H : Hp) (C : Addr) (cl : List (Str × Addr)) (fp : List Addr), PTs (blkH X p s H scope (compEnvC scope cl C X.env) fp) ifs tt)
    (he : ∀ (s : Shared) (H : Hp) (C : Addr) (cl : List (Str × Addr)) (fp : List Addr), PE (blkH X p s H scope (compEnvC scope cl C X.env) fp) elt te) (hs : ∀ x, foldedSetIterable iter X.env x = pure x)
    (h : tLc wi g tt te (own.map (·.2)) σ H Q)
    (hRR : ∀ D C s' m H', Inv X pins σ H' s' → Q (.ref D) H' → s'.heap.Ns C m → FpOk X pins H' C → compPost (model X.prog X.w) X.A X.xe use Qf (.ref D) C (.ok .next) s') :
    wpAny (model X.prog X.w) X.A (comprehension (.ListComp elt [⟨tg, iter, ifs, 0⟩] scope pos) scope X.env pos' (newList []) false (eval iter X.env) use) Qf X.xe s := by
  have hfree : ∀ y ∈ scope.names, y.2 = .free → ∃ c, X.env.cells.lookup y.1 = some c := fun y hy e => by
    rcases ok.free y hy e with k | k
    · exact I.ok.has _ (.inl k)
    · exact I.ok.has _ (.inr k)
  refine wpAny_comprehension_free (use := use) rfl hs (closure_ok hfree) ok.kind (fun y hy e => by rw [ok.uniq y hy, e])
    (thn (hi.run pins s σ H _ I h) fun xv s1 hx => thn hx fun itv s2 h2 => ?_)
  obtain ⟨it, fp, tn, J, H2, e, I2, T, st2, f2, q⟩ := h2
  subst e
  refine wpAny_newObj_type (newEnv_comp ?_) (by show 0 ≤ sizeLine; decide)
  generalize hD : s2.heap.objs.size = D
  have hDn : H2 D = none := I2.hok.fresh (Nat.le_of_eq hD)
  obtain ⟨W, ⟨m0, w0⟩, turn⟩ := q D hDn
  -- the new list
  generalize hs3 : ({ s2 with heap := s2.heap.push { cls := .type "list", data := .seq ([] : List Value).toArray } } : Shared) = s3
  have I3 : Inv X pins σ (upd H2 D (.lst [])) s3 := by
    rw [← hs3]
    refine I2.laid (t' := s2.toks) (fun b o e => Heap.get?_push_of_some _ e) (Nat.le_of_eq hD) ⟨Nat.zero_le _, [], 0, .nil, ?_⟩
    rw [← hD]
    exact Heap.get?_push_size _ rfl
  have h3 : s3.heap = s2.heap.push { cls := .type "list", data := .seq ([] : List Value).toArray } := by rw [← hs3]
  have sz : ∀ b ∈ fp, b < s2.heap.objs.size := fun b hb => by
    obtain ⟨o, e, _⟩ := T.obj _ _ st2 b hb
    exact Heap.lt_size e
  have f3 : ∀ b ∈ fp, FpOk X pins (upd H2 D (.lst [])) b ∧ b < s3.heap.objs.size := fun b hb => by
    have hlt := sz b hb
    refine ⟨⟨?_, (f2 b hb).2⟩, by rw [h3, Heap.size_push]; exact Nat.lt_succ_of_lt hlt⟩
    rw [upd_ne (by rw [← hD]; exact Nat.ne_of_lt hlt)]
    exact (f2 b hb).1
  have st3 : tn 0 s3.heap := T.keep _ _ _ st2 fun b _ o e => by rw [h3]; exact Heap.get?_push_of_some _ e
  have I4 := block_startH I3 ok hN f3 hp
  have pg := hg s3 (upd H2 D (.lst [])) s3.heap.objs.size (cellsFrom (s3.heap.objs.size + 1) scope.names (cloFrom X.env.cells scope.names [])) fp
  have pt := ht s3 (upd H2 D (.lst [])) s3.heap.objs.size (cellsFrom (s3.heap.objs.size + 1) scope.names (cloFrom X.env.cells scope.names [])) fp
  have pe := he s3 (upd H2 D (.lst [])) s3.heap.objs.size (cellsFrom (s3.heap.objs.size + 1) scope.names (cloFrom X.env.cells scope.names [])) fp
  show codeAny _ _ (.compStart (.ListComp elt [⟨tg, iter, ifs, 0⟩] scope pos) 0 (.ref it) (.ref D) (compEnvC scope (cellsFrom (s3.heap.objs.size + 1) scope.names (cloFrom X.env.cells scope.names [])) s3.heap.objs.size X.env)) (compPost (model X.prog X.w) X.A X.xe use Qf (.ref D) s3.heap.objs.size) { s3 with heap := pushCells (s3.heap.push { cls := .type "dict", data := .dict #[] }) scope.names }
  have nfp : ∀ b ∈ fp, (upd H2 D (.lst [])) b = none := fun b hb => (f3 b hb).1.1
  generalize hce : compEnvC scope (cellsFrom (s3.heap.objs.size + 1) scope.names (cloFrom X.env.cells scope.names [])) s3.heap.objs.size X.env = ce at I4 pg pt pe ⊢
  have cL : ce.locals = s3.heap.objs.size := by subst hce; rfl
  generalize hH3 : upd H2 D (.lst []) = H3 at I3 I4 pg pt pe w0 nfp f3
  generalize hs4 : ({ s3 with heap := pushCells (s3.heap.push { cls := .type "dict", data := .dict #[] }) scope.names } : Shared) = s4 at I4 ⊢
  have st4 : tn 0 s4.heap := T.keep _ _ _ st3 fun b _ o e => by rw [← hs4]; exact pushCells_keeps _ _ _ _ (Heap.get?_push_of_some _ e)
  have hcB : L2H.HotC (blkH X p s3 H3 scope ce fp) := ⟨p, hot, List.mem_singleton.mpr rfl⟩
  have stat : ∀ {σ' : L2.St} {H' : Hp} {s' : Shared}, Inv (blkH X p s3 H3 scope ce fp) [] σ' H' s' → (∀ b ∈ fp, H' b = none) → ∀ b ∈ fp, FpOk (blkH X p s3 H3 scope ce fp) [] H' b := fun {σ' H' s'} I' hn b hb =>
    ⟨hn b hb, (I'.ok.exf b hb).1, I'.ok.exfs b hb, .inl hb, fun x c e => (I'.ok.exf b hb).2 x c e, fun q hq => by
      have eq : q = p := by simpa using (show q ∈ [p] ++ ([] : List (Addr × Obj)) from hq)
      subst eq
      exact (f3 b hb).1.2.2.2.2.2 q (List.mem_append_left _ hp)⟩
  have loop : codeAny (model X.prog X.w) X.A (.compLoop (.ListComp elt [⟨tg, iter, ifs, 0⟩] scope pos) 0 (.ref it) (.ref D) ce) (compPost (model X.prog X.w) X.A X.xe use Qf (.ref D) s3.heap.objs.size) s4 := by
    refine compLoop_any (fun n s' => ∃ i H', Inv (blkH X p s3 H3 scope ce fp) [] (wipe σ (own.map (·.2))) H' s' ∧ tn i s'.heap ∧ (∀ b ∈ fp, H' b = none) ∧ W i n H') ?_ m0 ⟨0, H3, I4, st4, nfp, w0⟩
    rintro n s5 ⟨i, H5, I5, st5, n5, w5⟩
    rcases turn i n H5 w5 with ⟨stop, qq⟩ | ⟨go, Nx, hNx, step⟩
    · have td := T.done (blkH X p s3 H3 scope ce fp) rfl rfl rfl hcB i [] s5 _ H5 (fun _ _ => False) I5 (stat I5 n5) st5 stop
      refine thnF td fun r s6 ⟨hr, I6⟩ => ?_
      subst hr
      -- back in the def's context
      have I7 : Inv X pins σ H5 s6 := I3.call' (ch := fp) I6.os I6.base I6.hok I6.bare fun b hb => ⟨(f3 b hb).1.2.2.2.1, (f3 b hb).1.2.1, (f3 b hb).1.2.2.2.2.1, (f3 b hb).1.2.2.2.2.2⟩
      have nC : H5 s3.heap.objs.size = none := by
        have z : H5 ce.locals = none := I6.free
        rw [cL] at z
        exact z
      obtain ⟨m, hn, _⟩ := I6.loc
      have hn : s6.heap.Ns ce.locals m := hn
      rw [cL] at hn
      exact hRR D s3.heap.objs.size s6 m H5 I7 qq hn (I3.fpOk (Nat.le_refl _) nC)
    · have ti := T.item (blkH X p s3 H3 scope ce fp) rfl rfl rfl hcB i [] s5 _ H5 (fun _ _ => False) I5 (stat I5 n5) st5 go
      refine thnF ti fun r s6 ⟨u, hr, h6⟩ => ?_
      subst hr
      refine thnF h6 fun _ s7 ⟨x, H7, I7, r7, y7, st7, n7⟩ => ?_
      have I7' := I7.pinned (stat I7 n7) (T.obj _ _ st7)
      refine thnF (pg.run _ s7 _ H7 x u _ I7' r7 (step x H7 y7)) fun _ s8 ⟨σ8, H8, I8, hw8, q8⟩ => ?_
      refine thnF (pt.run _ s8 σ8 H8 _ I8 q8) fun b s9 ⟨H9, I9, q9⟩ => ?_
      -- the turn's end
      have fin : ∀ {s' : Shared} {H' : Hp}, Inv (blkH X p s3 H3 scope ce fp) ([] ++ pinsAt fp s7.heap) σ8 H' s' → Nx H' → ∃ m, m < n ∧ ∃ i H', Inv (blkH X p s3 H3 scope ce fp) [] (wipe σ (own.map (·.2))) H' s' ∧ tn i s'.heap ∧ (∀ b ∈ fp, H' b = none) ∧ W i m H' := fun {s' H'} I' nx => by
        obtain ⟨m', hm, w'⟩ := hNx H' nx
        have pin' : ∀ b ∈ fp, ∀ o, s7.heap.get? b = some o → s'.heap.get? b = some o ∧ H' b = none := fun b hb o e =>
          let z := I'.pin (b, o) (List.mem_append_right _ (List.mem_append_right _ (mem_pinsAt hb e)))
          ⟨z.1, z.2.1⟩
        have hl : (wipe σ (own.map (·.2))).length = σ8.length := by rw [← hw8, wipe_length]
        refine ⟨m', hm, i + 1, H', (I'.unpinned (pins := [])).weak hl (fun j v e => ?_), T.keep _ _ _ st7 fun b hb o e => (pin' b hb o e).1, fun b hb => ?_, w'⟩
        · rw [← hw8] at e
          exact (wipe_some e).1
        · obtain ⟨o, e, _⟩ := T.obj _ _ st7 b hb
          exact (pin' b hb o e).2
      cases b with
      | false =>
        simp only [Bool.false_eq_true, if_false] at q9 ⊢
        exact fin I9 q9
      | true =>
        simp only [if_true] at q9 ⊢
        refine thnF (pe.run _ s9 σ8 H9 _ I9 q9) fun z s10 ⟨yv, H10, I10, r10, acc, hD10, hz10, nx⟩ => ?_
        exact app_ok (X := blkH X p s3 H3 scope ce fp) I10 hD10 hz10 r10 fun s11 I11 => fin I11 nx
  exact codeAny_compStart_list loop (T.self X.A 0 _ _ _ st4 loop)
theorem ps_setLcH {i : Nat} {y : Str} {py : Pos} {elt tg iter : Expr} {ifs : List Expr} {scope : Scope} {own : List (Str × Nat)} {pos spos : Pos} {wi : TI} {g : TG} {tt : TT} {te : TE} (hot : L2H.Hot1 X.A p) (hp : p ∈ X.pn) (hN : X.N.Nodup) (hy : X.N[i]? = some y) (hyl : X.env.scope.names.lookup y = some .local)
    (hsw : swapsWith (.ListComp elt [⟨tg, iter, ifs, 0⟩] scope pos) (some (.Name y py)) spos.line X.env = pure true) (hi : L2H.PIH X tg iter wi) (ok : BlkOk X.N X.env.scope scope own)
    (hg : ∀ (s : Shared) (H : Hp) (C : Addr) (cl : List (Str × Addr)) (fp : List Addr), PG (blkH X p s H scope (compEnvC scope cl C X.env) fp) tg g) (ht : ∀ (s : Shared) (H : Hp) (C : Addr) (cl : List (Str × Addr)) (fp : List Addr), PTs (blkH X p s H scope (compEnvC scope cl C X.env) fp) ifs tt)
    (he : ∀ (s : Shared) (H : Hp) (C : Addr) (cl : List (Str × Addr)) (fp : List Addr), PE (blkH X p s H scope (compEnvC scope cl C X.env) fp) elt te) (hs : ∀ x, foldedSetIterable iter X.env x = pure x := by intro _; rfl) :
    PS X (.Assign [.Name y py] (.ListComp elt [⟨tg, iter, ifs, 0⟩] scope pos) spos) (tAsg (tLc wi g tt te (own.map (·.2))) (gName i)) := by
  refine ⟨fun pins s σ H D I h => ?_⟩
  rw [exec_Assign_Name_used _ _ _ _ hsw]
  refine wpAny_bind (wpAny_standAt (wpAny_bind ?_))
  show wpAny _ X.A (do let _ ← comprehension (.ListComp elt [⟨tg, iter, ifs, 0⟩] scope pos) scope X.env (firstIterPos [⟨tg, iter, ifs, 0⟩] pos) (newList []) false (eval iter X.env) (some (assign (.Name y py) X.env))) _ _ s
  have h : tLc wi g tt te (own.map (·.2)) σ H (fun x H1 => gName i x σ H1 D.nx) := h
  refine wpAny_bind (thn (lc_coreH (Qf := fun _ s' => SP X pins D .next s') hot hp hN I hi ok hg ht he hs h fun L C s' m H' I' q hn f => ?_) fun _ s' hq => wpAny_pure (wpAny_pure hq))
  show wpAny _ _ (assign (.Name y py) X.env (.ref L)) _ _ _
  refine wpAny_assign_Name (store_ok2 (v := V.ref L) I' hN hy (.inl hyl) rfl (fun s2 I2 ⟨a, sb, ha⟩ => ?_) (.inr hyl))
  obtain ⟨f0, f1, f2, f3, f4, f5⟩ := f
  have haC : C ≠ a := by
    rcases ha with z | z
    · rw [z]; exact f1
    · exact fun e => f4 y a z e.symm
  refine ⟨m, hn.sameBut sb haC, fun h3 sb3 => ?_⟩
  exact ⟨_, H', I2.turned (t' := s2.toks) (fun b o hb e => (sb3.2 b hb).trans e) f0 f1 f3 f4 f5, q⟩
end
section
variable {cA xA : Nat → Addr} {X : Cx} {W : WX} {tg a : Expr} {p pos : Pos} {f : Env → Store → R D}
theorem c_irng1H (hg : Gl X "range") (hm : X.mg "range" = none) (pl : plainE a = true) (ha : PE X a (TD cA xA X.K W f)) : L2H.PIH X tg (.Call (.Name "range" p) [a] [] pos) (TDi cA xA X.K W .rng1 (ev1s f)) := by
  refine ⟨fun pins s σ H R I ⟨F, ι, S, δ, r, sl, gd⟩ => (L2H.pi_range1H hg hm (pa_cons ha pa_nil (starE_plain pl _)) (starE_plain pl _)).run pins s σ H R I ⟨F, ι, S, δ, r, sl, (good_1s gd).mono fun F1 ι1 H1 d S1 e1 r1 ⟨p, hp, k⟩ v rv => ?_⟩⟩
  have hd : ∃ j, d = .int j := by cases d <;> first | exact ⟨_, rfl⟩ | simp [walkOf] at hp
  obtain ⟨j, rfl⟩ := hd
  simp only [walkOf] at hp
  split at hp
  · rename_i hl
    cases hp
    cases rv
    have e : Itr 0 j.toNat = Itr 0 (j - 0).toNat := by rw [Int.sub_zero]
    exact ⟨j, rfl, hl.2, hl.1, e ▸ k _ walk_R⟩
  · cases hp
end
end Ev
namespace Ev
open PySem PySem.Spec PyProof.Rows L2

/-! ### raise -/
/-- what is told of an exception's class -/
structure ExcK (K : PySem.W.Frag) (C : Addr) : Prop where
  inn : PySem.W.excIn K C [.type "ValueError", .type "Exception", .type "BaseException", .type "object"] "ValueError.__new__" = true
  kp : PySem.W.keepIn K (.ref C) = true
  sub : PySem.W.subIn K (.ref C) (.type "BaseException") = some true
  ty : PySem.W.typeIn K (.ref C) = some (.type "type")
  isx : ExcC K C
section
variable {cA xA : Nat → Addr} {X : Cx} {W : WX}
theorem s_raise {c : Nat} {x m : Str} {j : Nat} {p p2 pos pos' : Pos} (hc : X.calm = true) (tk : L2N.Takes X W) (k : ExcK X.K (xA c)) (gC : X.mg x = some (.ref (xA c))) (hg : Gl X x) (hdb : (x == ("__debug__" : Str)) = false) :
    PS X (.Raise (some (.Call (.Name x p) [.Constant (.str m) j p2] [] pos)) none pos') (TSd cA xA X.K W fun δ S => .exn c δ S) :=
  PS.weak (L2N.ps_raise hc tk (L2N.pmk_own PySem.F.excBase_ValueError k.inn gC k.kp (raises_own k.sub k.ty) hg hdb)) fun D σ H ⟨F, ι, S, δ, r, sl, gd⟩ => gd F ι H σ (Ext.refl ..) r sl
end
/-! ### the def that tells an exception's classes, called where one is handled -/
structure FnK (cA xA : Nat → Addr) (P : Program) (w : World) (K : PySem.W.Frag) (mg : Str → Option Value) (base : Heap) (CX : CXT) (k : Nat) (f : Addr) (fd : FuncData) (ps : List Str) : Prop where
  one : ps.length = 1
  run : ∀ (A : Around) (outer : List PySem.Env) (s : Shared) (H : Hp) (args : Args) (us : List Value) (p : Addr × Obj) (c : Nat) (F : Hp) (ι : List Addr) (S : Store) (Q : VK) (E : XK), L2H.RoomH k A → L2H.Hot1 A p → L2H.PinOk outer H s p → c < 8 → L2N.Zn (.ref (xA c)) none p.2 →
    Env0 P w K mg base A outer s H → BindsTo s fd args (ps.zip us) → Vals [.ref p.1] us → Rel cA K F ι S H → (∀ F' ι' H' v, Ext F ι F' ι' → Rel cA K F' ι' S H' → Rep K F' ι' v (.lst [.int c]) → Q v H') →
    codeAny (model P w) A (.call (.ref f) args) (CR CX outer P w H s Q E) s
theorem run_bodyH {CX : CXT} {P : Program} {w : World} {K : PySem.W.Frag} {mg : Str → Option Value} {base : Heap} {k : Nat} {f : Addr} {name qual : Str} {params : Arguments} {body : List Stmt} {scope : Scope} {dV kV doc pm cdv ct oc : Value} {an od : Option Addr}
    {osl : Array (Option Value)} {N ps : List Str} {A : Around} {outer : List PySem.Env} {s : Shared} {H : Hp} {args : Args} {us : List Value} {vs : List V} {Q : VK} {E : XK} {p : Addr × Obj} (lk : K.lookup f = some ⟨oc, od, .func (PySem.W.fnOf name qual params body scope dV kV doc pm an cdv ct), osl⟩) (hcd : PySem.W.codeIn K cdv qual = true) (S : FnScope N ps scope)
    (hl : vs.length = ps.length) (hr : L2H.RoomH k A) (hot : L2H.Hot1 A p) (hpin : L2H.PinOk outer H s p) (e0 : Env0 P w K mg base A outer s H) (hb : BindsTo s (PySem.W.fnOf name qual params body scope dV kV doc pm an cdv ct) args (ps.zip us)) (r : Vals vs us)
    (hbody : (A.deeper (envOfC qual scope s.heap.objs.size f cdv)).units + 65 < cLine → ∃ t, PSs (L2H.cxH CX P w K mg base N qual scope f cdv A outer s H E p) body t ∧ t { nx := fun _ H' => Q .non H', rt := Q } (L2.start N vs) H) :
    codeAny (model P w) A (.call (.ref f) args) (CR CX outer P w H s Q E) s := by
  have KX : K.In s.heap := e0.mod.kin.keeps fun b o e => (e0.bs b o e).1
  have lim : s.heap.NoLimit := e0.mod.nolimit.keeps fun b o e => (e0.bs b o e).1
  have hkind : ∀ y ∈ ps.zip us, scope.names.lookup y.1 = some .local ∨ (scope.names.lookup y.1 = some .cell ∧ ((cellsFrom (s.heap.objs.size + 1) scope.names []).lookup y.1).isSome = true) := fun ⟨n, v⟩ hy => by
    rcases S.par n (List.of_mem_zip hy).1 with q | q
    · exact .inl q
    · exact .inr ⟨q, PySem.W.cellsFrom_some _ _ _ (.inl q)⟩
  refine codeAny_call_function hr.depth (KX _ _ lk) rfl S.co S.gen rfl (PySem.W.codeRec_of KX hcd) (hb _ _ _ _ ?_)
  refine wpAny_newFunctionEnv_cells S.kind hkind fun env he s1 x => ?_
  subst he
  refine ⟨lim.keeps x.toInCall.keep, codeAny_func ?_⟩
  obtain ⟨t, ht, hq⟩ := hbody (by have := hr.un; show A.units + 3 + 65 < _; omega)
  have I : Inv (L2H.cxH CX P w K mg base N qual scope f cdv A outer s H E p) [] (L2.start N vs) H s1 := L2H.inv_startH S hpin e0 hl r x
  refine wpAny_mono (ht.run [] s1 (L2.start N vs) H _ I hq) (fun fl s' hs => ?_) fun e s' hs => hs
  have fin : ∀ {σ' : L2.St} {H' : Hp} {v : V} {u : Value}, Inv (L2H.cxH CX P w K mg base N qual scope f cdv A outer s H E p) [] σ' H' s' → RelV v u → Q v H' → CE outer P w H s Q u s' :=
    fun {σ' H' v u} J rv q => ⟨v, H', J.os, J.bare, J.base, J.hok, rv, q⟩
  cases fl with
  | ret u =>
    obtain ⟨v, σ', H', J, rv, q⟩ := hs
    exact fin J rv q
  | next =>
    obtain ⟨σ', H', J, q⟩ := hs
    exact fin (v := V.non) (u := Value.none) J rfl q
  | brk =>
    obtain ⟨_, _, _, q⟩ := hs
    exact False.elim q
  | cont =>
    obtain ⟨_, _, _, q⟩ := hs
    exact False.elim q
def evKd (a : Addr) (c : Nat) (f : Env → Store → R D) : Env → Store → R D := fun δ S => (f δ S).bind fun x S => (match x with
    | .opq q => if q = a then .ok (.lst [.int c]) S else .stuck
    | _ => .stuck)
section
variable {cA xA : Nat → Addr} {X : Cx} {W : WX} {x : Str} {a : Expr} {pos q : Pos} {f : Env → Store → R D} {p : Addr × Obj} {k c : Nat} {fa : Addr} {fd : FuncData} {ps : List Str}
theorem c_kinds (Fk : FnK cA xA X.prog X.w X.K X.mg X.base (L2N.CX X.prog X.w) k fa fd ps) (hr : L2H.RoomH k X.A) (hot : L2H.Hot1 X.A p) (hp : p ∈ X.pn) (h8 : c < 8) (hz : L2N.Zn (.ref (xA c)) none p.2) (hg : Gl X x) (hm : X.mg x = some (.ref fa)) (hk : PySem.W.keepIn X.K (.ref fa) = true) (hb : Binds X.K fd ps [])
    (hdb : (x == ("__debug__" : Str)) = false) (pl : plainE a = true) (ha : PE X a (TD cA xA X.K W f)) : PE X (.Call (.Name x q) [a] [] pos) (TD cA xA X.K W (evKd p.1 c f)) := by
  refine ⟨fun pins s σ H Q I ⟨F, ι, S, δ, r, sl, gd⟩ => ?_⟩
  refine wpAny_Call_Name_kw (ld_glob I hg hm ?_ hdb)
  refine PySem.W.callWith_K (h₀ := X.base) I.ok.mod.kin hk (thn ((pa_cons ha pa_nil (starE_plain pl _)).run pos pins s σ H (fun vs H1 => ∃ F1 ι1 S1, Rel cA X.K F1 ι1 S1 H1 ∧ vs = [.ref p.1] ∧ ∀ F' ι' H' v, Ext F1 ι1 F' ι' → Rel cA X.K F' ι' S1 H' → Rep X.K F' ι' v (.lst [.int c]) → Q v H') I
    ⟨F, ι, S, δ, r, sl, gd.bind.mono fun F1 ι1 H1 d1 S1 e1 r1 g1 v1 rv1 => ?_⟩) fun us s1 ⟨vs, H1, I1, rr, q1⟩ => ⟨I1.kIn, ?_⟩) (star_plain pl _ _) (star_none (by rfl) _ _)
  · cases rv1 <;> first | exact g1.elim | skip
    rename_i z
    dsimp only at g1
    split at g1
    · rename_i hz
      subst hz
      exact ⟨F1, ι1, S1, r1, rfl, fun F' ι' H' v e' r' rv => g1 F' ι' H' e' r' v rv⟩
    · exact g1.elim
  · obtain ⟨F1, ι1, S1, r1, rfl, k1⟩ := q1
    have hl : us.length = ps.length := by rw [← rr.length, Fk.one]; rfl
    have b := hb s1 us I1.kIn (by rw [List.append_nil]; exact hl)
    rw [List.append_nil] at b
    have P1 := I1.pin p (List.mem_append_left _ hp)
    have hpin : L2H.PinOk X.stack H1 s1 p := ⟨P1.1, P1.2.1, fun hm => (List.mem_cons.mp (I1.stkSub p.1 hm)).elim P1.2.2.1 P1.2.2.2.1, P1.2.2.2.2⟩
    show wpAny _ _ (call (.ref fa) us) _ _ _
    refine wpAny_call (codeAny_mono (Fk.run X.A X.stack s1 H1 ⟨us, []⟩ us p c F1 ι1 S1 Q (fun _ _ _ => False) hr hot hpin h8 hz I1.env0 b rr r1 k1) fun r s' hq => ?_)
    cases r with
    | error e =>
      obtain ⟨a, B, H', cls, d, h1, h2, h3, h4, h5, h6, h7, h8⟩ := hq
      exact h8.elim
    | ok fl =>
      cases fl with
      | ret u => exact I1.after hq
      | next => exact False.elim hq
      | brk => exact False.elim hq
      | cont => exact False.elim hq
end
/-! ### try, its suite gives back what tells of the exception -/
def sTry (u : BF) (h : Hd) : BF := fun δ S => (match u δ S with
    | .exn c _ S' => if c < 8 then .rt (hdD h c) S' else .stuck
    | r => r)
section
variable {cA xA : Nat → Addr} {X : Cx} {W : WX} {i : Nat} {n x : Str} {body : List Stmt} {e : Expr} {np rp pos pos' : Pos} {u : BF} {h : Hd} {hA : Addr}
theorem s_tryAs (hs : X.stack = X.env :: X.outer) (hf : X.env.frame = some X.env.locals) (hN : X.N.Nodup) (hi : X.N[i]? = some n) (hln : X.env.kindOf n = some .local) (hc : Names X x (.ref hA)) (tk : L2N.Takes X W)
    (hex : ∀ c, c < 8 → PySem.W.exmOne X.K (.ref (xA c)) (.ref hA) = some true)
    (hb : ∀ (W' : WX) (pn : List (Addr × Obj)) (xe : Value → Shared → Prop), L2N.Takes (X.tr pn xe) W' → PassesOwn (model X.prog X.w) X.A X.env xe → PSs (X.tr pn xe) body (TSd cA xA X.K W' u))
    (hsu : ∀ (a : Addr) (oe : Obj) (c : Nat) (pn : List (Addr × Obj)), c < 8 → L2N.Zn (.ref (xA c)) none oe → (∃ vs, oe.data = .fields vs) → ∃ f, PE (X.suite a ((a, oe) :: pn)) e (TD cA xA X.K nW f) ∧ ∀ δ S, δ[i]? = some (some (.opq a)) → f δ S = .ok (hdD h c) S) :
    PS X (.Try body [.ExceptHandler (some (.Name x np)) (some n) [.Return (some e) rp] pos'] [] [] pos) (TSd cA xA X.K W (sTry u h)) := by
  refine PS.weak (L2N.ps_try_as hs hf hN hi hln hc tk (tb := fun W' => TSd cA xA X.K W' u) (ts := fun a cls d D σ H => ∃ c F ι S, c < 8 ∧ cls = .ref (xA c) ∧ d = none ∧ Rel cA X.K F ι S H ∧ (∃ σ0, σ = List.set σ0 i (some (.ref a))) ∧
    ∀ F' ι' H' v, Ext F ι F' ι' → Rel cA X.K F' ι' S H' → Rep X.K F' ι' v (hdD h c) → D.rt v H') hb fun a oe cls d pn hz hv => ?_) fun D σ H ⟨F, ι, S, δ, r, sl, gd⟩ => ⟨F, ι, S, δ, r, sl, ?_⟩
  · refine ⟨fun pins s σ H D I ⟨c, F, ι, S, h8, hcls, hd, r, ⟨σ0, hσ⟩, k⟩ => ?_⟩
    subst hcls hd
    obtain ⟨f, pe, hfv⟩ := hsu a oe c pn h8 hz hv
    have hlt : i < σ.length := by
      have e1 := I.len
      have e2 : i < X.N.length := (List.getElem?_eq_some_iff.mp hi).1
      have e3 : (X.suite a ((a, oe) :: pn)).N.length = X.N.length := rfl
      omega
    have hat : ((List.replicate σ.length (none : Option Ev.D)).set i (some (.opq a)))[i]? = some (some (.opq a)) := List.getElem?_set_self (by simpa using hlt)
    refine (ss_cons (W := nW) (s_ret (pos := rp) pe) ss_nil).run pins s σ H D I ⟨F, ι, S, (List.replicate σ.length none).set i (some (.opq a)), r, ⟨by simp, fun j d hj => ?_⟩, ?_⟩
    · by_cases hij : i = j
      · subst hij
        rw [hat] at hj
        cases hj
        refine ⟨.ref a, ?_, .opq a⟩
        rw [hσ, List.length_set] at hlt
        rw [hσ]
        exact List.getElem?_set_self hlt
      · rw [List.getElem?_set_ne hij, List.getElem?_replicate] at hj
        split at hj <;> cases hj
    · unfold sSeq
      dsimp only
      rw [hfv _ _ hat]
      exact fun F' ι' H' v e r rv => k F' ι' H' v e r rv
  · unfold sTry at gd
    cases hu : u δ S with
    | nx δ1 S1 => rw [hu] at gd; exact gd
    | rt d S1 => rw [hu] at gd; exact gd
    | stuck => rw [hu] at gd; exact gd
    | exn c δ1 S1 =>
      rw [hu] at gd
      dsimp only at gd
      split at gd
      · rename_i h8
        intro F1 ι1 H1 σ1 e1 r1 s1
        exact ⟨true, hex c h8, fun _ a ha => ⟨c, F1, ι1, S1, h8, rfl, rfl, r1, ⟨_, rfl⟩, fun F' ι' H' v e' r' rv => gd F' ι' H' v (e1.trans e') r' rv⟩, fun z => by cases z⟩
      · exact gd.elim
theorem s_tryOnly {d : D} (hs : X.stack = X.env :: X.outer) (hf : X.env.frame = some X.env.locals) (hc : Names X x (.ref hA)) (tk : L2N.Takes X W)
    (hex : ∀ c, c < 8 → PySem.W.exmOne X.K (.ref (xA c)) (.ref hA) = some true)
    (hb : ∀ (W' : WX) (pn : List (Addr × Obj)) (xe : Value → Shared → Prop), L2N.Takes (X.tr pn xe) W' → PassesOwn (model X.prog X.w) X.A X.env xe → PSs (X.tr pn xe) body (TSd cA xA X.K W' u))
    (hsu : ∀ (a : Addr) (pn : List (Addr × Obj)), PE (X.suite a pn) e (TD cA xA X.K nW fun _ S => .ok d S)) :
    PS X (.Try body [.ExceptHandler (some (.Name x np)) none [.Return (some e) rp] pos'] [] [] pos) (TSd cA xA X.K W (sTry u (.ret d))) := by
  refine PS.weak (L2N.ps_try_many hs hf tk (tb := fun W' => TSd cA xA X.K W' u) hb (.cons (ts := fun a cls _ D σ H => ∃ F ι S, Rel cA X.K F ι S H ∧
    ∀ F' ι' H' v, Ext F ι F' ι' → Rel cA X.K F' ι' S H' → Rep X.K F' ι' v d → D.rt v H') hc (fun a oe cls d' pn hz hv => ?_) .nil)) fun D σ H ⟨F, ι, S, δ, r, sl, gd⟩ => ⟨F, ι, S, δ, r, sl, ?_⟩
  · refine ⟨fun pins s σ H D I ⟨F, ι, S, r, k⟩ => ?_⟩
    refine (ss_cons (W := nW) (s_ret (pos := rp) (hsu a ((a, oe) :: pn))) ss_nil).run pins s σ H D I ⟨F, ι, S, List.replicate σ.length none, r, ⟨by simp, fun j d hj => ?_⟩, ?_⟩
    · rw [List.getElem?_replicate] at hj
      split at hj <;> cases hj
    · exact fun F' ι' H' v e r rv => k F' ι' H' v e r rv
  · unfold sTry at gd
    cases hu : u δ S with
    | nx δ1 S1 => rw [hu] at gd; exact gd
    | rt d S1 => rw [hu] at gd; exact gd
    | stuck => rw [hu] at gd; exact gd
    | exn c δ1 S1 =>
      rw [hu] at gd
      dsimp only at gd
      split at gd
      · rename_i h8
        intro F1 ι1 H1 σ1 e1 r1 s1
        exact ⟨true, hex c h8, fun _ a ha => ⟨F1, ι1, S1, r1, fun F' ι' H' v e' r' rv => gd F' ι' H' v (e1.trans e') r' rv⟩, fun z => by cases z⟩
      · exact gd.elim
end
end Ev
namespace Ev
open PySem PySem.Spec PyProof.Rows L2

/-! ### a text and its small tree, compared -/
structure Sg where
  N : List Str
  fns : List (Str × Nat)
  con : List (Str × Nat)
  free : List Str
  /-- the names of the exceptions' classes; of the class that is caught; of the def that tells an exception's classes -/
  exc : List (Str × Nat) := []
  hou : Str := ""
  kd : Str := ""
def glB (sc : Scope) (x : Str) : Bool := decide (sc.names.lookup x = some .globalImplicit) && !(x == ("__debug__" : Str))
def visB (sc : Scope) (x : Str) : Bool := match sc.names.lookup x with
  | some .local | some .cell | some .free => true
  | _ => false
def locB (sc : Scope) (x : Str) : Bool := match sc.names.lookup x with
  | some .local | some .cell => true
  | _ => false
def blB (sg : Sg) (sc : Scope) (x n : Str) : Bool := decide (x = n) && glB sc n && sg.free.contains n
def binO : Operator → Option O2
  | .Add => some .add | .Sub => some .sub | .Mult => some .mul | .FloorDiv => some .fdiv | .Mod => some .mod | .Pow => some .pow
  | _ => none
def cmpO : CmpOp → Option O2
  | .Eq => some .eq | .NotEq => some .ne | .Lt => some .lt | .LtE => some .le | .Gt => some .gt | .GtE => some .ge | .Is => some .is_ | .IsNot => some .isnt | .In => some .in_ | .NotIn => some .notin
def tyS : Ty → Str
  | .int => "int" | .bool => "bool" | .str => "str" | .tuple => "tuple" | .list => "list"
def testE : Expr → Bool
  | .IfExp .. => false
  | _ => true
abbrev Rc := Scope → Expr → E → Bool
def rawB : Option Scope → Str → Bool
  | none, _ => true
  | some r, x => r.names.lookup x == some .cell
section
variable (sg : Sg) (rec : Rc) (sc : Scope)
def ck2 (a b : E) (x y : Expr) : Bool := plainE x && plainE y && rec sc x a && rec sc y b
def ckT (a : E) (x : Expr) : Bool := testE x && rec sc x a
def ckL : List E → List Expr → Bool
  | [], [] => true
  | a :: as, x :: xs => plainE x && rec sc x a && ckL as xs
  | _, _ => false
def ckLit : D → Expr → Bool
  | .int i, .Constant (.int j) _ _ => decide (i = j)
  | .str x, .Constant (.str y) _ _ => decide (x = y) && okStr x
  | .bl b, .Constant (.bool c) _ _ => b == c
  | .non, .Constant .none _ _ => true
  | _, _ => false
def ckOp2 (o : O2) (a b : E) : Expr → Bool
  | .BinOp x p y _ => decide (binO p = some o) && ck2 rec sc a b x y
  | .Compare x [p] [y] _ => decide (cmpO p = some o) && ck2 rec sc a b x y
  | .Subscript x y _ => decide (o = .get) && ck2 rec sc a b x y
  | .Call (.Name f _) [x, y] [] _ => ((decide (o = .mn) && blB sg sc f "min") || (decide (o = .mx) && blB sg sc f "max")) && ck2 rec sc a b x y
  | _ => false
def o1Nm : O1 → Option Str
  | .len => some "len" | .tuple => some "tuple" | .sorted => some "sorted" | .int => some "int" | .str => some "str"
  | _ => none
def ckOp1 (o : O1) (a : E) : Expr → Bool
  | .UnaryOp .USub x _ => decide (o = .neg) && rec sc x a
  | .Call (.Name f _) [x] [] _ => (match o1Nm o with
    | some n => blB sg sc f n
    | none => false) && plainE x && rec sc x a
  | .Call (.Name f _) [x, .Name y _] [] _ => (match o with
    | .isi t => blB sg sc f "isinstance" && blB sg sc y (tyS t)
    | _ => false) && plainE x && rec sc x a
  | _ => false
def ckNot (a : E) : Expr → Bool
  | .UnaryOp .Not x _ => ckT rec sc a x
  | _ => false
def ckAnd (a b : E) : Expr → Bool
  | .BoolOp .And (x :: y :: r) p => ckT rec sc a x && rec sc (.BoolOp .And (y :: r) p) b
  | _ => false
def ckOr (a b : E) : Expr → Bool
  | .BoolOp .Or (x :: y :: r) p => ckT rec sc a x && rec sc (.BoolOp .Or (y :: r) p) b
  | _ => false
def ckIte (c a b : E) : Expr → Bool
  | .IfExp z x y _ => ckT rec sc c z && rec sc x a && rec sc y b
  | _ => false
def ckChn (o1 o2 : O2) (a b c : E) : Expr → Bool
  | .Compare x [p, q] [y, z] _ => decide (cmpO p = some o1) && decide (cmpO q = some o2) && rec sc x a && rec sc y b && plainE z && rec sc z c
  | _ => false
def ckTup (es : List E) : Expr → Bool
  | .Tuple xs _ _ => ckL rec sc es xs
  | _ => false
def ckLst (es : List E) : Expr → Bool
  | .List xs _ => ckL rec sc es xs
  | _ => false
def ckDic0 : Expr → Bool
  | .Dict [] [] _ => true
  | _ => false
def ckKs : List Str → List (Option Expr) → Bool
  | [], [] => true
  | k :: ks, some (.Constant (.str x) _ _) :: es => decide (k = x) && ckKs ks es
  | _, _ => false
def ckDic (ks : List Str) (es : List E) : Expr → Bool
  | .Dict keys values _ => decide (ks ≠ []) && decide (keys.length ≤ 15) && ckKs ks keys && ckL rec sc es values && decide (keys.length = values.length)
  | _ => false
def ckAdd (a b : E) : Expr → Bool
  | .BinOp x .Add y _ => rec sc x a && rec sc y b
  | _ => false
def ckMul (a b : E) : Expr → Bool
  | .BinOp x .Mult y _ => rec sc x a && rec sc y b
  | _ => false
def ckLof (a : E) : Expr → Bool
  | .Call (.Name f _) [x] [] _ => blB sg sc f "list" && plainE x && rec sc x a
  | _ => false
def ckLrg (a b : E) : Expr → Bool
  | .Call (.Name f _) [.Call (.Name g _) [x, y] [] _] [] _ => blB sg sc f "list" && blB sg sc g "range" && ck2 rec sc a b x y
  | .Call (.Name f _) [.Call (.Name g _) [y] [] _] [] _ => blB sg sc f "list" && blB sg sc g "range" && (match a with
    | .lit (.int i) => decide (i = 0)
    | _ => false) && plainE y && rec sc y b
  | _ => false
def ckCall (i : Nat) (es : List E) : Expr → Bool
  | .Call (.Name f _) (x :: xs) [] _ => glB sc f && decide (sg.fns.lookup f = some i) && ckL rec sc es (x :: xs)
  | _ => false
def ckSlf (a b : E) : Expr → Bool
  | .Subscript x (.Slice (some y) none none _) _ => rec sc x a && rec sc y b
  | _ => false
def ckSlt (a b : E) : Expr → Bool
  | .Subscript x (.Slice none (some y) none _) _ => rec sc x a && rec sc y b
  | _ => false
def ckRev (a : E) : Expr → Bool
  | .Subscript x (.Slice none none (some (.UnaryOp .USub (.Constant (.int i) _ _) _)) _) _ => decide (i = 1) && rec sc x a
  | _ => false
def ckM0 (m : Str) (a : E) : Expr → Bool
  | .Call (.Attribute o n apos) [] [] pos => decide (n = m) && baseOk o && (apos.endLine == pos.line) && rec sc o a
  | _ => false
def ckM1 (m : Str) (a b : E) : Expr → Bool
  | .Call (.Attribute o n apos) [x] [] pos => decide (n = m) && baseOk o && (apos.endLine == pos.line) && plainE x && rec sc o a && rec sc x b
  | _ => false
def ckTg (sc : Scope) (raw : Option Scope) : Tg → Expr → Bool
  | .nm i, .Name x _ => one i x
  | .pr i j, .Tuple [.Name x _, .Name y _] _ _ => one i x && one j y
  | _, _ => false
where one (i : Nat) (x : Str) : Bool := decide (sg.N[i]? = some x) && locB sc x && (rawB raw x || decide (sc.names.lookup x = some .local))
def ckI : IK → List E → Expr → Bool
  | .ex, [a], e => plainE e && rec sc e a
  | .rng1, [a], .Call (.Name f _) [x] [] _ => blB sg sc f "range" && plainE x && rec sc x a
  | .rng2, [a, b], .Call (.Name f _) [x, y] [] _ => blB sg sc f "range" && ck2 rec sc a b x y
  | .enm, [a], .Call (.Name f _) [x] [] _ => blB sg sc f "enumerate" && plainE x && rec sc x a
  | .zip, [a, b], .Call (.Name f _) [x, y] [] _ => blB sg sc f "zip" && ck2 rec sc a b x y
  | _, _, _ => false
def isTupE : Expr → Bool
  | .Tuple .. => true
  | _ => false
def ikT (ik : IK) (tg : Expr) : Bool := match ik with
  | .enm | .zip => isTupE tg
  | _ => true
def ckQ (sc : Scope) : List E → List Expr → Bool
  | [], [] => true
  | [a], [x] => ckT rec sc a x
  | _, _ => false
def ownOf (vs : List Nat) : List (Str × Nat) := vs.map fun i => (sg.N.getD i ("" : Str), i)
def ckCmp (elt : E) (vs : List Nat) (tg : Tg) (ik : IK) (its ifs : List E) : Expr → Bool
  | .ListComp x [⟨t, it, qs, 0⟩] scope _ => ckI sg rec sc ik its it && ikT ik t && plainE it && blkC sg.N sc scope (ownOf sg vs) && decide (tgIn tg vs) && ckTg sg (relS scope sc) (some scope) tg t && ckQ rec (relS scope sc) ifs qs && rec (relS scope sc) x elt
  | _ => false
def ckVar (i : Nat) : Expr → Bool
  | .Name x _ => decide (sg.N[i]? = some x) && visB sc x && !(x == ("__debug__" : Str)) && !(x == ("__classdict__" : Str))
  | _ => false
def ckCon (k : Nat) : Expr → Bool
  | .Name x _ => glB sc x && decide (sg.con.lookup x = some k)
  | _ => false
def ckE1 : E → Expr → Bool
  | .var i => ckVar sg sc i
  | .lit d => ckLit d
  | .con k => ckCon sg sc k
  | .op2 o a b => ckOp2 sg rec sc o a b
  | .op1 o a => ckOp1 sg rec sc o a
  | .not a => ckNot rec sc a
  | .and a b => ckAnd rec sc a b
  | .or a b => ckOr rec sc a b
  | .ite c a b => ckIte rec sc c a b
  | .chn o1 o2 a b c => ckChn rec sc o1 o2 a b c
  | .tup es => ckTup rec sc es
  | .lst _ es => ckLst rec sc es
  | .dic _ [] [] => ckDic0
  | .dic _ ks es => ckDic rec sc ks es
  | .add _ a b => ckAdd rec sc a b
  | .mul _ a b => ckMul rec sc a b
  | .lof _ a => ckLof sg rec sc a
  | .lrg _ a b => ckLrg sg rec sc a b
  | .call f es => ckCall sg rec sc f es
  | .slf a b => ckSlf rec sc a b
  | .slt a b => ckSlt rec sc a b
  | .rev a => ckRev rec sc a
  | .cmp _ elt vs tg ik its ifs => ckCmp sg rec sc elt vs tg ik its ifs
  | .app o e => ckM1 rec sc "append" o e
  | .pop o => ckM0 rec sc "pop" o
  | .popAt o e => ckM1 rec sc "pop" o e
  | .idx o e => ckM1 rec sc "index" o e
  | .cnt o e => ckM1 rec sc "count" o e
  | .join o e => ckM1 rec sc "join" o e
  | .split o e => ckM1 rec sc "split" o e
  | .upp o => ckM0 rec sc "upper" o
  | _ => fun _ => false
end
def ckE (sg : Sg) : Nat → Rc
  | 0 => fun _ _ _ => false
  | n + 1 => fun sc e E => match e with
    | .BoolOp _ [x] _ => testE x && ckE sg n sc x E
    | e => ckE1 sg (ckE sg n) sc E e

/-! ### what is known around a def -/
structure GOk (cA xA : Nat → Addr) (P : Par) (sg : Sg) (k : Nat) (prog : Program) (w : World) (K : PySem.W.Frag) (mg : Str → Option Value) (base : Heap) : Prop where
  fn : ∀ x i, sg.fns.lookup x = some i → ∃ fa fd ps, FnOk prog w K mg base (L2N.CX prog w) k fa fd ps (spF cA xA K (P.cf i)) ∧ mg x = some (.ref fa) ∧ PySem.W.keepIn K (.ref fa) = true ∧ Binds K fd ps []
  con : ∀ x i, sg.con.lookup x = some i → ∃ v u, mg x = some u ∧ RelV v u ∧ ∀ d, P.con i = some d → ∀ F ι, Rep K F ι v d
  free : ∀ x, sg.free.contains x = true → mg x = none
  exc : ∀ x c, sg.exc.lookup x = some c → ExcK K (xA c) ∧ mg x = some (.ref (xA c))
  hou : sg.hou ≠ "" → ∃ hA, mg sg.hou = some (.ref hA) ∧ ∀ c, c < 8 → PySem.W.exmOne K (.ref (xA c)) (.ref hA) = some true
  kd : sg.kd ≠ "" → ∃ fa fd ps, FnK cA xA prog w K mg base (L2N.CX prog w) k fa fd ps ∧ mg sg.kd = some (.ref fa) ∧ PySem.W.keepIn K (.ref fa) = true ∧ Binds K fd ps []
structure Cz (cA xA : Nat → Addr) (P : Par) (sg : Sg) (k : Nat) (X : Cx) (W : WX) (sc : Scope) : Prop where
  calm : X.calm = true
  N : X.N = sg.N
  nd : sg.N.Nodup
  sc : X.env.scope = sc
  tk : L2N.Takes X W
  room : Room (k + 1) X.A
  glob : GOk cA xA P sg k X.prog X.w X.K X.mg X.base
section
variable {cA xA : Nat → Addr} {P : Par} {sg : Sg} {k : Nat} {X : Cx} {W : WX} {sc : Scope} {x n : Str}
theorem Cz.nodup (c : Cz cA xA P sg k X W sc) : X.N.Nodup := by rw [c.N]; exact c.nd
theorem Cz.gl (c : Cz cA xA P sg k X W sc) (h : glB sc x = true) : Gl X x ∧ (x == ("__debug__" : Str)) = false := by
  unfold glB at h
  rw [Bool.and_eq_true, decide_eq_true_eq, Bool.not_eq_true'] at h
  refine ⟨?_, h.2⟩
  show X.env.kindOf x = _
  unfold PySem.Env.kindOf
  rw [c.sc]
  exact h.1
theorem Cz.bl (c : Cz cA xA P sg k X W sc) (h : blB sg sc x n = true) : x = n ∧ Gl X n ∧ X.mg n = none := by
  unfold blB at h
  rw [Bool.and_eq_true, Bool.and_eq_true, decide_eq_true_eq] at h
  exact ⟨h.1.1, (c.gl h.1.2).1, c.glob.free _ h.2⟩
theorem Cz.hu (c : Cz cA xA P sg k X W sc) : X.A.units + 65 < cLine := by have := c.room.un; omega
theorem Cz.vis (c : Cz cA xA P sg k X W sc) (h : visB sc x = true) : Vis X.env.scope x := by
  unfold visB at h
  rw [c.sc]
  unfold Vis
  split at h
  · rename_i e; exact .inl e
  · rename_i e; exact .inr (.inl e)
  · rename_i e; exact .inr (.inr e)
  · cases h
theorem Cz.loc (c : Cz cA xA P sg k X W sc) (h : locB sc x = true) : L2.Loc X.env.scope x := by
  unfold locB at h
  rw [c.sc]
  unfold L2.Loc
  split at h
  · rename_i e; exact .inl e
  · rename_i e; exact .inr e
  · cases h
theorem Cz.blk (c : Cz cA xA P sg k X W sc) (s : Shared) (H : Hp) (scope : Scope) (C : Addr) (cl : List (Str × Addr)) (fp : List Addr) :
    Cz cA xA P sg k (X.blk s H scope (compEnvC scope cl C X.env) fp) nW (relS scope sc) where
  calm := c.calm
  N := c.N
  nd := c.nd
  sc := by rw [← c.sc]; rfl
  tk := takes_no
  room := c.room
  glob := c.glob
end
def SndE (cA xA : Nat → Addr) (P : Par) (sg : Sg) (k : Nat) (sc : Scope) (e : Expr) (E : E) : Prop := ∀ X W, Cz cA xA P sg k X W sc → PE X e (TD cA xA X.K W (evE P E)) ∧ (testE e = true → PT X e (TDb cA xA X.K W (evE P E))) ∧
  (∀ op vs pos, e = .BoolOp op vs pos → PW X e (TDb cA xA X.K W (evE P E)))
def SndL (cA xA : Nat → Addr) (P : Par) (sg : Sg) (k : Nat) (sc : Scope) (es : List Expr) (Es : List E) : Prop := ∀ X W, Cz cA xA P sg k X W sc → PA X es (TDs cA xA X.K W (evEs P Es)) ∧ es.all plainE = true
theorem PE.eq {cA xA : Nat → Addr} {X : Cx} {W : WX} {e : Expr} {f g : Env → Store → R D} (h : PE X e (TD cA xA X.K W f)) (k : g = f) : PE X e (TD cA xA X.K W g) := by rw [k]; exact h
theorem PT.eq {cA xA : Nat → Addr} {X : Cx} {W : WX} {e : Expr} {f g : Env → Store → R D} (h : PT X e (TDb cA xA X.K W f)) (k : g = f) : PT X e (TDb cA xA X.K W g) := by rw [k]; exact h
def plainT (e : Expr) : Prop := (∀ (env : PySem.Env) whole, isTrue e env whole = (do let v ← whole; standAt e.pos; holding [v] (truthy v))) ∧ ∀ op vs pos, e ≠ .BoolOp op vs pos
theorem snd_of {cA xA : Nat → Addr} {P : Par} {sg : Sg} {k : Nat} {sc : Scope} {e : Expr} {E : E} (pt : plainT e) (h : ∀ X W, Cz cA xA P sg k X W sc → PE X e (TD cA xA X.K W (evE P E))) : SndE cA xA P sg k sc e E :=
  fun X W c => ⟨h X W c, fun _ => c_test (h X W c) (pt.1 X.env), fun op vs pos e => absurd e (pt.2 op vs pos)⟩
end Ev
namespace Ev
open PySem PySem.Spec PyProof.Rows L2

section
variable {cA xA : Nat → Addr} {P : Par} {sg : Sg} {k : Nat} {X : Cx} {W : WX} {rec : Rc} {sc : Scope} {e : Expr}
theorem binO_ok {p : Operator} {o : O2} (h : binO p = some o) : OpR X (binaryOp p) (rOp cA X.K fun S => op2 S o) := by
  cases p <;> simp only [binO, reduceCtorEq, Option.some.injEq] at h <;> subst h
  · exact ok_add
  · exact ok_sub
  · exact ok_mul
  · exact ok_mod
  · exact ok_pow
  · exact ok_fdiv
theorem cmpO_ok (hu : X.A.units + 65 < cLine) {p : CmpOp} {o : O2} (h : cmpO p = some o) : OpR X (compareOp p) (rOp cA X.K fun S => op2 S o) := by
  cases p <;> simp only [cmpO, reduceCtorEq, Option.some.injEq] at h <;> subst h
  · exact ok_eq (by omega)
  · exact ok_ne (by omega)
  · exact ok_lt
  · exact ok_le
  · exact ok_gt
  · exact ok_ge
  · exact ok_is
  · exact ok_isnt
  · exact ok_in hu
  · exact ok_notin hu
abbrev RecOk (cA xA : Nat → Addr) (P : Par) (sg : Sg) (k : Nat) (rec : Rc) : Prop := ∀ sc e E, rec sc e E = true → SndE cA xA P sg k sc e E
theorem ck2_ok {a b : E} {x y : Expr} (hr : RecOk cA xA P sg k rec) (h : ck2 rec sc a b x y = true) : plainE x = true ∧ plainE y = true ∧ SndE cA xA P sg k sc x a ∧ SndE cA xA P sg k sc y b := by
  unfold ck2 at h
  simp only [Bool.and_eq_true] at h
  exact ⟨h.1.1.1, h.1.1.2, hr _ _ _ h.1.2, hr _ _ _ h.2⟩
theorem ckT_ok {a : E} {x : Expr} (hr : RecOk cA xA P sg k rec) (h : ckT rec sc a x = true) : testE x = true ∧ SndE cA xA P sg k sc x a := by
  unfold ckT at h
  simp only [Bool.and_eq_true] at h
  exact ⟨h.1, hr _ _ _ h.2⟩
theorem ckL_ok (hr : RecOk cA xA P sg k rec) : ∀ {Es : List E} {es : List Expr}, ckL rec sc Es es = true → SndL cA xA P sg k sc es Es
  | [], [], _ => fun X W c => ⟨PA.weak c_nil fun σ H Q h => h, rfl⟩
  | [], _ :: _, h => by cases h
  | _ :: _, [], h => by cases h
  | a :: as, x :: xs, h => fun X W c => by
    unfold ckL at h
    simp only [Bool.and_eq_true] at h
    obtain ⟨⟨h1, h2⟩, h3⟩ := h
    obtain ⟨g1, g2⟩ := ckL_ok hr h3 X W c
    exact ⟨c_cons (hr _ _ _ h2 X W c).1 g1 (star_plain h1 _ _), by rw [List.all_cons, h1, g2]; rfl⟩
theorem ckVar_ok {i : Nat} (h : ckVar sg sc i e = true) : SndE cA xA P sg k sc e (.var i) := by
  unfold ckVar at h
  split at h
  · simp only [Bool.and_eq_true, decide_eq_true_eq, Bool.not_eq_true'] at h
    obtain ⟨⟨⟨h1, h2⟩, h3⟩, h4⟩ := h
    exact snd_of ⟨fun _ _ => rfl, fun _ _ _ z => by cases z⟩ fun X W c => c_var (by rw [c.N]; exact h1) (c.vis h2) h3 h4
  · cases h
theorem ckLit_ok {d : D} (h : ckLit d e = true) : SndE cA xA P sg k sc e (.lit d) := by
  unfold ckLit at h
  split at h
  · simp only [decide_eq_true_eq] at h
    subst h
    exact snd_of ⟨fun _ _ => rfl, fun _ _ _ z => by cases z⟩ fun X W c => c_val pe_int (fun σ H Q q => q) fun _ _ => .int _
  · simp only [Bool.and_eq_true, decide_eq_true_eq] at h
    obtain ⟨rfl, h2⟩ := h
    exact snd_of ⟨fun _ _ => rfl, fun _ _ _ z => by cases z⟩ fun X W c => c_val pe_str (fun σ H Q q => q) fun _ _ => .str _ h2
  · rename_i b c _ _
    have e : b = c := by simpa using h
    subst e
    exact snd_of ⟨fun _ _ => rfl, fun _ _ _ z => by cases z⟩ fun X W c => c_val pe_bl (fun σ H Q q => q) fun _ _ => .bl _
  · exact snd_of ⟨fun _ _ => rfl, fun _ _ _ z => by cases z⟩ fun X W c => c_val pe_non (fun σ H Q q => q) fun _ _ => .non
  · cases h
theorem c_con {K : PySem.W.Frag} {x : Str} {i : Nat} {p : Pos} {v : V} {u : Value} (hg : Gl X x ∧ (x == ("__debug__" : Str)) = false) (h1 : X.mg x = some u) (h2 : RelV v u) (h3 : ∀ d, P.con i = some d → ∀ F ι, Rep X.K F ι v d) :
    PE X (.Name x p) (TD cA xA X.K W fun _ S => ofO S (P.con i)) := PE.weak (pe_glob hg.1 h1 h2 hg.2) fun σ H Q ⟨F, ι, S, δ, r, sl, gd⟩ => by
  obtain ⟨d, e, q⟩ := good_ofO gd
  exact q F ι H (Ext.refl ..) r v (h3 d e F ι)
theorem ckCon_ok {i : Nat} (h : ckCon sg sc i e = true) : SndE cA xA P sg k sc e (.con i) := by
  unfold ckCon at h
  split at h
  · simp only [Bool.and_eq_true, decide_eq_true_eq] at h
    refine snd_of ⟨fun _ _ => rfl, fun _ _ _ z => by cases z⟩ fun X W c => ?_
    obtain ⟨v, u, h1, h2, h3⟩ := c.glob.con _ _ h.2
    exact c_con (K := X.K) (c.gl h.1) h1 h2 h3
  · cases h
theorem ckOp2_ok {o : O2} {a b : E} (hr : RecOk cA xA P sg k rec) (h : ckOp2 sg rec sc o a b e = true) : SndE cA xA P sg k sc e (.op2 o a b) := by
  unfold ckOp2 at h
  split at h
  · simp only [Bool.and_eq_true, decide_eq_true_eq] at h
    obtain ⟨pl, pl2, ha, hb⟩ := ck2_ok hr h.2
    exact snd_of ⟨fun _ _ => rfl, fun _ _ _ z => by cases z⟩ fun X W c => c_op2 (binO_ok h.1) (ha X W c).1 (hb X W c).1
  · simp only [Bool.and_eq_true, decide_eq_true_eq] at h
    obtain ⟨pl, pl2, ha, hb⟩ := ck2_ok hr h.2
    exact fun X W c => ⟨c_cmp (cmpO_ok c.hu h.1) (ha X W c).1 (hb X W c).1 (mark_plain pl2 _), fun _ => c_cmpT (cmpO_ok c.hu h.1) (ha X W c).1 (hb X W c).1 (mark_plain pl2 _), fun _ _ _ z => by cases z⟩
  · simp only [Bool.and_eq_true, decide_eq_true_eq] at h
    obtain ⟨pl, pl2, ha, hb⟩ := ck2_ok hr h.2
    obtain rfl := h.1
    exact snd_of ⟨fun _ _ => rfl, fun _ _ _ z => by cases z⟩ fun X W c => c_get (by have := c.hu; omega) (ha X W c).1 (hb X W c).1 (ix_plain pl2)
  · simp only [Bool.and_eq_true, decide_eq_true_eq, Bool.or_eq_true] at h
    obtain ⟨pl, pl2, ha, hb⟩ := ck2_ok hr h.2
    refine snd_of ⟨fun _ _ => rfl, fun _ _ _ z => by cases z⟩ fun X W c => ?_
    rcases h.1 with ⟨rfl, h1⟩ | ⟨rfl, h1⟩
    · obtain ⟨rfl, g1, g2⟩ := c.bl h1
      exact c_bf2 (ok_mn c.calm) g1 g2 (by decide +kernel) (by decide) (by decide) pl pl2 (ha X W c).1 (hb X W c).1
    · obtain ⟨rfl, g1, g2⟩ := c.bl h1
      exact c_bf2 (ok_mx c.calm) g1 g2 (by decide +kernel) (by decide) (by decide) pl pl2 (ha X W c).1 (hb X W c).1
  · cases h
theorem ckOp1_ok {o : O1} {a : E} (hr : RecOk cA xA P sg k rec) (h : ckOp1 sg rec sc o a e = true) : SndE cA xA P sg k sc e (.op1 o a) := by
  unfold ckOp1 at h
  split at h
  · simp only [Bool.and_eq_true, decide_eq_true_eq] at h
    obtain ⟨rfl, h2⟩ := h
    exact snd_of ⟨fun _ _ => rfl, fun _ _ _ z => by cases z⟩ fun X W c => c_neg (hr _ _ _ h2 X W c).1
  · simp only [Bool.and_eq_true] at h
    obtain ⟨⟨h1, pl⟩, h2⟩ := h
    refine snd_of ⟨fun _ _ => rfl, fun _ _ _ z => by cases z⟩ fun X W c => ?_
    cases o <;> simp only [o1Nm, Bool.false_eq_true] at h1
    · obtain ⟨rfl, g1, g2⟩ := c.bl h1
      exact c_bf ok_len g1 g2 (by decide +kernel) (by decide) (by decide) pl (hr _ _ _ h2 X W c).1
    · obtain ⟨rfl, g1, g2⟩ := c.bl h1
      exact c_bt ok_tuple g1 g2 (by decide +kernel) (by decide) (by decide) pl (hr _ _ _ h2 X W c).1
    · obtain ⟨rfl, g1, g2⟩ := c.bl h1
      exact c_bf ok_sorted g1 g2 (by decide +kernel) (by decide) (by decide) pl (hr _ _ _ h2 X W c).1
    · obtain ⟨rfl, g1, g2⟩ := c.bl h1
      exact c_bt ok_int1 g1 g2 (by decide +kernel) (by decide) (by decide) pl (hr _ _ _ h2 X W c).1
    · obtain ⟨rfl, g1, g2⟩ := c.bl h1
      exact c_bt ok_str g1 g2 (by decide +kernel) (by decide) (by decide) pl (hr _ _ _ h2 X W c).1
  · simp only [Bool.and_eq_true] at h
    obtain ⟨⟨h1, pl⟩, h2⟩ := h
    refine snd_of ⟨fun _ _ => rfl, fun _ _ _ z => by cases z⟩ fun X W c => ?_
    cases o <;> simp only [Bool.false_eq_true] at h1
    rename_i t
    simp only [Bool.and_eq_true] at h1
    obtain ⟨rfl, g1, g2⟩ := c.bl h1.1
    obtain ⟨rfl, g3, g4⟩ := c.bl h1.2
    exact c_isi g1 g2 g3 g4 (by cases t <;> decide +kernel) (by cases t <;> decide) (by cases t <;> decide) pl (hr _ _ _ h2 X W c).1
  · cases h
theorem ckNot_ok {a : E} (hr : RecOk cA xA P sg k rec) (h : ckNot rec sc a e = true) : SndE cA xA P sg k sc e (.not a) := by
  unfold ckNot at h
  split at h
  · obtain ⟨ht, ha⟩ := ckT_ok hr h
    exact fun X W c => ⟨c_not (ha X W c).1, fun _ => c_notT ((ha X W c).2.1 ht), fun _ _ _ z => by cases z⟩
  · cases h
theorem ckAnd_ok {a b : E} (hr : RecOk cA xA P sg k rec) (h : ckAnd rec sc a b e = true) : SndE cA xA P sg k sc e (.and a b) := by
  unfold ckAnd at h
  split at h
  · simp only [Bool.and_eq_true] at h
    obtain ⟨ht, ha⟩ := ckT_ok hr h.1
    have hb := hr _ _ _ h.2
    refine fun X W c => ⟨c_and (ha X W c).1 (hb X W c).1, fun _ => (c_andT ((ha X W c).2.1 ht) ((hb X W c).2.2 _ _ _ rfl)).pt, fun _ _ _ z => ?_⟩
    exact c_andT ((ha X W c).2.1 ht) ((hb X W c).2.2 _ _ _ rfl)
  · cases h
theorem ckOr_ok {a b : E} (hr : RecOk cA xA P sg k rec) (h : ckOr rec sc a b e = true) : SndE cA xA P sg k sc e (.or a b) := by
  unfold ckOr at h
  split at h
  · simp only [Bool.and_eq_true] at h
    obtain ⟨ht, ha⟩ := ckT_ok hr h.1
    have hb := hr _ _ _ h.2
    refine fun X W c => ⟨c_or (ha X W c).1 (hb X W c).1, fun _ => (c_orT ((ha X W c).2.1 ht) ((hb X W c).2.2 _ _ _ rfl)).pt, fun _ _ _ z => ?_⟩
    exact c_orT ((ha X W c).2.1 ht) ((hb X W c).2.2 _ _ _ rfl)
  · cases h
theorem ckIte_ok {z a b : E} (hr : RecOk cA xA P sg k rec) (h : ckIte rec sc z a b e = true) : SndE cA xA P sg k sc e (.ite z a b) := by
  unfold ckIte at h
  split at h
  · simp only [Bool.and_eq_true] at h
    obtain ⟨ht, hz⟩ := ckT_ok hr h.1.1
    exact fun X W c => ⟨c_ite ((hz X W c).2.1 ht) (hr _ _ _ h.1.2 X W c).1 (hr _ _ _ h.2 X W c).1, fun z => (by cases z), fun _ _ _ z => by cases z⟩
  · cases h
theorem c_chnT {a b c : Expr} {f g h : Env → Store → R D} {pos : Pos} {o o' : CmpOp} {o1 o2 : O2} (k : PT X (.Compare a [o, o'] [b, c] pos) (tTest (tChain (rOp cA X.K fun S => op2 S o1) (rOp cA X.K fun S => op2 S o2) (TD cA xA X.K W f) (TD cA xA X.K W g) (TD cA xA X.K W h)))) :
    PT X (.Compare a [o, o'] [b, c] pos) (TDb cA xA X.K W (evChn o1 o2 f g h)) :=
  PT.weak k fun σ H Q ⟨F, ι, S, δ, r, sl, gd⟩ => ⟨F, ι, S, δ, r, sl, gd.bind.mono fun F1 ι1 H1 d1 S1 e1 r1 g1 v1 rv1 =>
    ⟨F1, ι1, S1, δ, r1, sl.ext e1, g1.bind.mono fun F2 ι2 H2 d2 S2 e2 r2 g2 v2 rv2 => by
      cases hq : cmp2 S2 o1 d1 d2 with
      | none => rw [hq] at g2; exact g2.elim
      | some b =>
        rw [hq] at g2
        refine ⟨F2, ι2, S2, d1, d2, _, r2, rv1.ext e2, rv2, cmp2_some hq, fun F3 H3 w e3 r3 rw3 => ⟨b, bl_of rw3, ?_⟩⟩
        cases b with
        | false =>
          obtain ⟨b, eb, q⟩ := (g2.ext e3) _ _ _ (Ext.refl ..) r3
          cases eb
          exact ⟨_, rfl, q⟩
        | true => exact ⟨F3, ι2, S2, δ, r3, (sl.ext (e1.trans e2)).ext e3, (g2.ext e3).bind.mono fun F4 ι4 H4 d4 S4 e4 r4 g4 v4 rv4 => chn_end (xA := xA) r4 ((rv2.ext e3).ext e4) rv4 (g4.mono fun F5 ι5 H5 d5 S5 e5 r5 ⟨b, eb, q⟩ v5 rv5 => by
            subst eb
            exact ⟨b, bl_of rv5, q⟩)⟩⟩⟩
theorem ckChn_ok {o1 o2 : O2} {a b z : E} (hr : RecOk cA xA P sg k rec) (h : ckChn rec sc o1 o2 a b z e = true) : SndE cA xA P sg k sc e (.chn o1 o2 a b z) := by
  unfold ckChn at h
  split at h
  · simp only [Bool.and_eq_true, decide_eq_true_eq] at h
    obtain ⟨⟨⟨⟨⟨h1, h2⟩, ha⟩, hb⟩, pl⟩, hz⟩ := h
    have hm : ∀ {y z : Expr} {p q : CmpOp}, plainE z = true → lastMarks [p, q] [y, z] = false := fun pl => mark_plain pl _
    exact fun X W c => ⟨c_chn (cmpO_ok c.hu h1) (cmpO_ok c.hu h2) (hr _ _ _ ha X W c).1 (hr _ _ _ hb X W c).1 (hr _ _ _ hz X W c).1 (hm pl)
        (pe_chain (cmpO_ok c.hu h1) (cmpO_ok c.hu h2) (hr _ _ _ ha X W c).1 (hr _ _ _ hb X W c).1 (hr _ _ _ hz X W c).1 (hm pl)),
      fun _ => c_chnT (pt_chain (cmpO_ok c.hu h1) (cmpO_ok c.hu h2) (hr _ _ _ ha X W c).1 (hr _ _ _ hb X W c).1 (hr _ _ _ hz X W c).1 (hm pl)), fun _ _ _ z => by cases z⟩
  · cases h
theorem ckTup_ok {es : List E} (hr : RecOk cA xA P sg k rec) (h : ckTup rec sc es e = true) : SndE cA xA P sg k sc e (.tup es) := by
  unfold ckTup at h
  split at h
  · exact snd_of ⟨fun _ _ => rfl, fun _ _ _ z => by cases z⟩ fun X W c => c_tup (ckL_ok hr h X W c).1
  · cases h
theorem ckLst_ok {m : Bool} {es : List E} (hr : RecOk cA xA P sg k rec) (h : ckLst rec sc es e = true) : SndE cA xA P sg k sc e (.lst m es) := by
  unfold ckLst at h
  split at h
  · exact snd_of ⟨fun _ _ => rfl, fun _ _ _ z => by cases z⟩ fun X W c => c_lst (ckL_ok hr h X W c).1
  · cases h
theorem newD_end {K : PySem.W.Frag} {Wx : W0} {F H : Hp} {ι : List Addr} {S : Store} {m : Bool} {p : Addr} {Q : VK} (r : Rel cA K F ι S H) (hp : H p = none)
    (h : Good cA xA K Wx F ι (newD m [] [] S) fun F' ι' H' d _ => ∀ v, Rep K F' ι' v d → Q v H') : Q (.ref p) (upd H p (.dK [])) := by
  cases m with
  | false =>
    have e := Ext.fresh (F := F) (ι := ι) (r.freeF hp) (.dK [])
    exact h _ _ _ e (r.fresh hp _) _ (.dic upd_same rfl .nil)
  | true =>
    refine h _ _ _ (Ext.more F ι [p]) (r.place hp (.dic []) ⟨[], rfl, .nil⟩) _ (.loc ?_)
    rw [← r.len]
    simp
theorem ckDic0_ok {m : Bool} (h : ckDic0 e = true) : SndE cA xA P sg k sc e (.dic m [] []) := by
  unfold ckDic0 at h
  split at h
  · refine snd_of ⟨fun _ _ => rfl, fun _ _ _ z => by cases z⟩ fun X W c => PE.weak pe_dnewK fun σ H Q ⟨F, ι, S, δ, r, sl, gd⟩ p hp => ?_
    exact newD_end (m := m) (xA := xA) r hp (by simpa only [evE, if_pos] using gd)
  · cases h
theorem pairs_ok (hr : RecOk cA xA P sg k rec) {X : Cx} {W : WX} (c : Cz cA xA P sg k X W sc) (pos : Pos) : ∀ {ks : List Str} {keys : List (Option Expr)} {es : List E} {values : List Expr}, ckKs ks keys = true → ckL rec sc es values = true → keys.length = values.length →
    ∃ trs, PPs X pos keys values trs ∧ PairsOk cA xA X.K W trs ks (evEs P es)
  | [], [], [], [], _, _, _ => ⟨[], pps_nil, fun σ H Q ⟨F, ι, S, δ, r, sl, gd⟩ => gd F ι H (Ext.refl ..) r [] .nil rfl⟩
  | [], [], [], _ :: _, _, _, h => by cases h
  | [], [], _ :: _, [], _, h, _ => by cases h
  | [], [], _ :: _, _ :: _, _, _, h => by cases h
  | [], _ :: _, _, _, h, _, _ => by cases h
  | _ :: _, [], _, _, h, _, _ => by cases h
  | _ :: _, _ :: _, _, [], _, _, h => by cases h
  | _ :: _, _ :: _, [], _ :: _, _, h, _ => by cases h
  | k1 :: ks, key :: keys, a :: as, x :: xs, h1, h2, h3 => by
    unfold ckKs at h1
    split at h1
    · exact absurd ‹k1 :: ks = []› (by simp)
    · rename_i e1 e2
      cases e1
      cases e2
      simp only [Bool.and_eq_true, decide_eq_true_eq] at h1
      obtain ⟨rfl, h1⟩ := h1
      unfold ckL at h2
      simp only [Bool.and_eq_true] at h2
      obtain ⟨⟨_, ha⟩, h2⟩ := h2
      obtain ⟨trs, hp, hq⟩ := pairs_ok hr c pos h1 h2 (by simpa using h3)
      refine ⟨_, pps_cons pe_str (hr _ _ _ ha X W c).1 hp, fun σ H Q ⟨F, ι, S, δ, r, sl, gd⟩ => ?_⟩
      refine ⟨F, ι, S, δ, r, sl, ?_⟩
      have gd : Good cA xA X.K (fun c d H => W c d σ H) F ι ((evE P a δ S).bind fun d S => (evEs P as δ S).bind fun ds S => .ok (d :: ds) S) _ := gd
      refine gd.bind.mono fun F1 ι1 H1 d S1 e1 r1 g1 v rv => hq σ H1 _ ⟨F1, ι1, S1, δ, r1, sl.ext e1, g1.bind.mono fun F2 ι2 H2 ds S2 e2 r2 g2 vs rvs hl => ?_⟩
      exact g2 F2 ι2 H2 (Ext.refl ..) r2 (v :: vs) (.cons (rv.ext e2) rvs) (by simp [hl])
    · cases h1
theorem ckDic_ok {m : Bool} {ks : List Str} {es : List E} (hr : RecOk cA xA P sg k rec) (h : ckDic rec sc ks es e = true) : SndE cA xA P sg k sc e (.dic m ks es) := by
  unfold ckDic at h
  split at h
  · simp only [Bool.and_eq_true, decide_eq_true_eq] at h
    obtain ⟨⟨⟨⟨h1, h2⟩, h3⟩, h4⟩, h5⟩ := h
    refine snd_of ⟨fun _ _ => rfl, fun _ _ _ z => by cases z⟩ fun X W c => ?_
    obtain ⟨trs, hp, hq⟩ := pairs_ok hr c _ h3 h4 h5
    have hall : ∀ {ks : List Str} {keys : List (Option Expr)}, ckKs ks keys = true → keys.all (·.isSome) = true ∧ keys.length = ks.length := by
      intro ks
      induction ks with
      | nil => intro keys h; cases keys <;> first | exact ⟨rfl, rfl⟩ | cases h
      | cons k ks ih =>
        intro keys h
        unfold ckKs at h
        split at h
        · exact absurd ‹k :: ks = []› (by simp)
        · rename_i e1
          cases e1
          simp only [Bool.and_eq_true] at h
          obtain ⟨g1, g2⟩ := ih h.2
          exact ⟨by simpa using g1, by simp [g2]⟩
        · cases h
    obtain ⟨g1, g2⟩ := hall h3
    refine PE.eq (c_dic (m := m) hp g1 h5 (fun z => ?_) h2 hq) ?_
    · rw [z] at g2
      exact h1 (List.length_eq_zero_iff.mp g2.symm)
    · funext δ S
      show (if ks = [] then _ else _) = _
      rw [if_neg h1]
      rfl
  · cases h
theorem ckAdd_ok {m : Bool} {a b : E} (hr : RecOk cA xA P sg k rec) (h : ckAdd rec sc a b e = true) : SndE cA xA P sg k sc e (.add m a b) := by
  unfold ckAdd at h
  split at h
  · simp only [Bool.and_eq_true] at h
    exact snd_of ⟨fun _ _ => rfl, fun _ _ _ z => by cases z⟩ fun X W c => c_addL (hr _ _ _ h.1 X W c).1 (hr _ _ _ h.2 X W c).1
  · cases h
theorem ckMul_ok {m : Bool} {a b : E} (hr : RecOk cA xA P sg k rec) (h : ckMul rec sc a b e = true) : SndE cA xA P sg k sc e (.mul m a b) := by
  unfold ckMul at h
  split at h
  · simp only [Bool.and_eq_true] at h
    exact snd_of ⟨fun _ _ => rfl, fun _ _ _ z => by cases z⟩ fun X W c => c_mulL (hr _ _ _ h.1 X W c).1 (hr _ _ _ h.2 X W c).1
  · cases h
theorem ckLof_ok {m : Bool} {a : E} (hr : RecOk cA xA P sg k rec) (h : ckLof sg rec sc a e = true) : SndE cA xA P sg k sc e (.lof m a) := by
  unfold ckLof at h
  split at h
  · simp only [Bool.and_eq_true] at h
    refine snd_of ⟨fun _ _ => rfl, fun _ _ _ z => by cases z⟩ fun X W c => ?_
    obtain ⟨rfl, g1, g2⟩ := c.bl h.1.1
    exact c_lof g1 g2 h.1.2 (hr _ _ _ h.2 X W c).1
  · cases h
theorem ckLrg_ok {m : Bool} {a b : E} (hr : RecOk cA xA P sg k rec) (h : ckLrg sg rec sc a b e = true) : SndE cA xA P sg k sc e (.lrg m a b) := by
  unfold ckLrg at h
  split at h
  · simp only [Bool.and_eq_true] at h
    obtain ⟨pl, pl2, ha, hb⟩ := ck2_ok hr h.2
    refine snd_of ⟨fun _ _ => rfl, fun _ _ _ z => by cases z⟩ fun X W c => ?_
    obtain ⟨rfl, g1, g2⟩ := c.bl h.1.1
    obtain ⟨rfl, g3, g4⟩ := c.bl h.1.2
    exact c_lrg2 c.calm g1 g2 g3 g4 pl pl2 (ha X W c).1 (hb X W c).1
  · simp only [Bool.and_eq_true] at h
    obtain ⟨⟨⟨⟨h1, h2⟩, h3⟩, pl⟩, hb⟩ := h
    split at h3
    · simp only [decide_eq_true_eq] at h3
      subst h3
      refine snd_of ⟨fun _ _ => rfl, fun _ _ _ z => by cases z⟩ fun X W c => ?_
      obtain ⟨rfl, g1, g2⟩ := c.bl h1
      obtain ⟨rfl, g3, g4⟩ := c.bl h2
      exact c_lrg1 c.calm g1 g2 g3 g4 pl (hr _ _ _ hb X W c).1
    · cases h3
  · cases h
theorem ckCall_ok {i : Nat} {es : List E} (hr : RecOk cA xA P sg k rec) (h : ckCall sg rec sc i es e = true) : SndE cA xA P sg k sc e (.call i es) := by
  unfold ckCall at h
  split at h
  · simp only [Bool.and_eq_true, decide_eq_true_eq] at h
    refine snd_of ⟨fun _ _ => rfl, fun _ _ _ z => by cases z⟩ fun X W c => ?_
    obtain ⟨fa, fd, ps, h1, h2, h3, h4⟩ := c.glob.fn _ _ h.1.2
    obtain ⟨g1, g2⟩ := ckL_ok hr h.2 X W c
    rw [List.all_cons, Bool.and_eq_true] at g2
    obtain ⟨g3, g4⟩ := c.gl h.1.1
    exact c_call h1 (c.room.mono (Nat.le_succ _)) c.tk g3 h2 h3 h4 g4 g2.1 g2.2 g1
  · cases h
theorem ckSlf_ok {a b : E} (hr : RecOk cA xA P sg k rec) (h : ckSlf rec sc a b e = true) : SndE cA xA P sg k sc e (.slf a b) := by
  unfold ckSlf at h
  split at h
  · simp only [Bool.and_eq_true] at h
    exact snd_of ⟨fun _ _ => rfl, fun _ _ _ z => by cases z⟩ fun X W c => c_slf (hr _ _ _ h.1 X W c).1 (hr _ _ _ h.2 X W c).1
  · cases h
theorem ckSlt_ok {a b : E} (hr : RecOk cA xA P sg k rec) (h : ckSlt rec sc a b e = true) : SndE cA xA P sg k sc e (.slt a b) := by
  unfold ckSlt at h
  split at h
  · simp only [Bool.and_eq_true] at h
    exact snd_of ⟨fun _ _ => rfl, fun _ _ _ z => by cases z⟩ fun X W c => c_slt (hr _ _ _ h.1 X W c).1 (hr _ _ _ h.2 X W c).1
  · cases h
theorem ckRev_ok {a : E} (hr : RecOk cA xA P sg k rec) (h : ckRev rec sc a e = true) : SndE cA xA P sg k sc e (.rev a) := by
  unfold ckRev at h
  split at h
  · simp only [Bool.and_eq_true, decide_eq_true_eq] at h
    obtain ⟨rfl, h⟩ := h
    exact snd_of ⟨fun _ _ => rfl, fun _ _ _ z => by cases z⟩ fun X W c => PE.eq (c_rev (hr _ _ _ h X W c).1) (by funext δ S; rfl)
  · cases h
end
end Ev
namespace Ev
open PySem PySem.Spec PyProof.Rows L2

section
variable {cA xA : Nat → Addr} {P : Par} {sg : Sg} {k : Nat} {X : Cx} {W : WX} {rec : Rc} {sc : Scope} {e : Expr}
theorem ckM0_ok {m : Str} {a : E} {B : E} (hr : RecOk cA xA P sg k rec)
    (hx : ∀ X W o apos pos, baseOk o = true → (apos.endLine == pos.line) = true → PE X o (TD cA xA X.K W (evE P a)) → PE X (.Call (.Attribute o m apos) [] [] pos) (TD cA xA X.K W (evE P B))) (h : ckM0 rec sc m a e = true) : SndE cA xA P sg k sc e B := by
  unfold ckM0 at h
  split at h
  · simp only [Bool.and_eq_true, decide_eq_true_eq] at h
    obtain ⟨⟨⟨rfl, bo⟩, hl⟩, ha⟩ := h
    exact snd_of ⟨fun _ _ => rfl, fun _ _ _ z => by cases z⟩ fun X W c => hx X W _ _ _ bo hl (hr _ _ _ ha X W c).1
  · cases h
theorem ckM1_ok {m : Str} {a b : E} {B : E} (hr : RecOk cA xA P sg k rec)
    (hx : ∀ X W o x apos pos, X.A.units + 65 < cLine → plainE x = true → baseOk o = true → (apos.endLine == pos.line) = true → PE X o (TD cA xA X.K W (evE P a)) → PE X x (TD cA xA X.K W (evE P b)) → PE X (.Call (.Attribute o m apos) [x] [] pos) (TD cA xA X.K W (evE P B)))
    (h : ckM1 rec sc m a b e = true) : SndE cA xA P sg k sc e B := by
  unfold ckM1 at h
  split at h
  · simp only [Bool.and_eq_true, decide_eq_true_eq] at h
    obtain ⟨⟨⟨⟨⟨rfl, bo⟩, hl⟩, pl⟩, ha⟩, hb⟩ := h
    exact snd_of ⟨fun _ _ => rfl, fun _ _ _ z => by cases z⟩ fun X W c => hx X W _ _ _ _ c.hu pl bo hl (hr _ _ _ ha X W c).1 (hr _ _ _ hb X W c).1
  · cases h
theorem ckTg_ok {raw : Option Scope} {tg : Tg} {t : Expr} (c : Cz cA xA P sg k X W sc) (hf : ∀ x, rawB raw x = true → X.fn x = true) (h : ckTg sg sc raw tg t = true) : PGd X t tg := by
  have one : ∀ {i x}, ckTg.one sg sc raw i x = true → X.N[i]? = some x ∧ L2.Loc X.env.scope x ∧ (X.fn x = true ∨ X.env.scope.names.lookup x = some .local) := by
    intro i x h
    unfold ckTg.one at h
    simp only [Bool.and_eq_true, decide_eq_true_eq, Bool.or_eq_true] at h
    refine ⟨by rw [c.N]; exact h.1.1, c.loc h.1.2, ?_⟩
    rcases h.2 with h | h
    · exact .inl (hf _ h)
    · exact .inr (by rw [c.sc]; exact h)
  unfold ckTg at h
  split at h
  · obtain ⟨h1, h2, h3⟩ := one h
    exact .nm h1 h2 h3
  · rw [Bool.and_eq_true] at h
    obtain ⟨h1, h2, h3⟩ := one h.1
    obtain ⟨g1, g2, g3⟩ := one h.2
    exact .pr h1 h2 h3 g1 g2 g3
  · cases h
theorem ckI_ok {ik : IK} {its : List E} {it t : Expr} (hr : RecOk cA xA P sg k rec) (c : Cz cA xA P sg k X W sc) (h : ckI sg rec sc ik its it = true) (ht : ikT ik t = true) : PI X t it (TDi cA xA X.K W ik (evEs P its)) := by
  unfold ckI at h
  split at h
  · simp only [Bool.and_eq_true] at h
    exact c_iex h.1 (hr _ _ _ h.2 X W c).1
  · simp only [Bool.and_eq_true] at h
    obtain ⟨rfl, g1, g2⟩ := c.bl h.1.1
    exact c_irng1 g1 g2 h.1.2 (hr _ _ _ h.2 X W c).1
  · simp only [Bool.and_eq_true] at h
    obtain ⟨rfl, g1, g2⟩ := c.bl h.1
    obtain ⟨pl, pl2, ha, hb⟩ := ck2_ok hr h.2
    exact c_irng2 g1 g2 pl pl2 (ha X W c).1 (hb X W c).1
  · simp only [Bool.and_eq_true] at h
    obtain ⟨rfl, g1, g2⟩ := c.bl h.1.1
    unfold ikT isTupE at ht
    dsimp only at ht
    split at ht
    · exact c_ienm g1 g2 h.1.2 (hr _ _ _ h.2 X W c).1
    · cases ht
  · simp only [Bool.and_eq_true] at h
    obtain ⟨rfl, g1, g2⟩ := c.bl h.1
    obtain ⟨pl, pl2, ha, hb⟩ := ck2_ok hr h.2
    unfold ikT isTupE at ht
    dsimp only at ht
    split at ht
    · exact c_izip g1 g2 pl pl2 (ha X W c).1 (hb X W c).1
    · cases ht
  · cases h
theorem ckQ_ok {ifs : List E} {qs : List Expr} (hr : RecOk cA xA P sg k rec) (c : Cz cA xA P sg k X nW sc) (h : ckQ rec sc ifs qs = true) : PTs X qs (TDq cA xA X.K nW (evIfs P ifs)) := by
  unfold ckQ at h
  split at h
  · exact q_nil
  · obtain ⟨ht, ha⟩ := ckT_ok hr h
    exact q_one ((ha X nW c).2.1 ht)
  · cases h
theorem own_snd (vs : List Nat) : (ownOf sg vs).map (·.2) = vs := by
  unfold ownOf
  rw [List.map_map]
  exact List.map_id' vs
theorem evCmp_is {m : Bool} {elt : E} {vs : List Nat} {tg : Tg} {ik : IK} {its ifs : List E} : evE P (.cmp m elt vs tg ik its ifs) = evCmp m ik tg vs (evEs P its) (evIfs P ifs) (evE P elt) := by
  funext δ S
  rfl
theorem raw_fn {s : Shared} {H : Hp} {scope : Scope} {cenv : PySem.Env} {fp : List Addr} : ∀ x, rawB (some scope) x = true → (X.blk s H scope cenv fp).fn x = true := fun x h => h
theorem ckCmp_ok {m : Bool} {elt : E} {vs : List Nat} {tg : Tg} {ik : IK} {its ifs : List E} (hr : RecOk cA xA P sg k rec) (h : ckCmp sg rec sc elt vs tg ik its ifs e = true) :
    SndE cA xA P sg k sc e (.cmp m elt vs tg ik its ifs) ∧ ∀ (X : Cx) (W : WX) (i : Nat) (y : Str) (py spos : Pos), Cz cA xA P sg k X W sc → X.env.scope.kind = .function → X.N[i]? = some y → X.env.scope.names.lookup y = some .local →
      swapsWith e (some (.Name y py)) spos.line X.env = pure true → PS X (.Assign [.Name y py] e spos) (TSd cA xA X.K W (sSet i (evE P (.cmp m elt vs tg ik its ifs)))) := by
  unfold ckCmp at h
  split at h
  · rename_i cpos
    simp only [Bool.and_eq_true, decide_eq_true_eq] at h
    obtain ⟨⟨⟨⟨⟨⟨⟨h1, h2⟩, h3⟩, h4⟩, h5⟩, h6⟩, h7⟩, h8⟩ := h
    refine ⟨snd_of ⟨fun _ _ => rfl, fun _ _ _ z => by cases z⟩ fun X W c => ?_, fun X W i y py spos c hk hi hy hsw => ?_⟩
    · have q := c_comp (pos := cpos) (m := m) (own := ownOf sg vs) c.calm c.nodup (ckI_ok hr c h1 h2) h3 (blkOk_by (by rw [c.N, c.sc]; exact h4)) (by rw [own_snd]; exact h5) (fun s H C cl fp => c_tg c.calm c.nodup (ckTg_ok (c.blk s H _ C cl fp) raw_fn h6))
        (fun s H C cl fp => ckQ_ok hr (c.blk s H _ C cl fp) h7) (fun s H C cl fp => (hr _ _ _ h8 _ _ (c.blk s H _ C cl fp)).1)
      rw [own_snd] at q
      exact PE.eq q evCmp_is
    · have q := c_setComp (pos := cpos) (m := m) (own := ownOf sg vs) c.calm c.nodup hi hy hsw (ckI_ok hr c h1 h2) h3 (blkOk_by (by rw [c.N, c.sc]; exact h4)) (by rw [own_snd]; exact h5) (fun s H C cl fp => c_tg c.calm c.nodup (ckTg_ok (c.blk s H _ C cl fp) raw_fn h6))
        (fun s H C cl fp => ckQ_ok hr (c.blk s H _ C cl fp) h7) (fun s H C cl fp => (hr _ _ _ h8 _ _ (c.blk s H _ C cl fp)).1)
      rw [own_snd] at q
      rw [evCmp_is]
      exact PS.weak q fun D σ H h => asg_end h
  · cases h
theorem ckE1_ok (hr : RecOk cA xA P sg k rec) {E : E} (h : ckE1 sg rec sc E e = true) : SndE cA xA P sg k sc e E := by
  unfold ckE1 at h
  split at h
  · exact ckVar_ok h
  · exact ckLit_ok h
  · exact ckCon_ok h
  · exact ckOp2_ok hr h
  · exact ckOp1_ok hr h
  · exact ckNot_ok hr h
  · exact ckAnd_ok hr h
  · exact ckOr_ok hr h
  · exact ckIte_ok hr h
  · exact ckChn_ok hr h
  · exact ckTup_ok hr h
  · exact ckLst_ok hr h
  · exact ckDic0_ok h
  · exact ckDic_ok hr h
  · exact ckAdd_ok hr h
  · exact ckMul_ok hr h
  · exact ckLof_ok hr h
  · exact ckLrg_ok hr h
  · exact ckCall_ok hr h
  · exact ckSlf_ok hr h
  · exact ckSlt_ok hr h
  · exact ckRev_ok hr h
  · exact (ckCmp_ok hr h).1
  · exact ckM1_ok hr (fun X W o x apos pos hu pl bo hl ha hb => c_app pl bo hl ha hb) h
  · exact ckM0_ok hr (fun X W o apos pos bo hl ha => c_pop bo hl ha) h
  · exact ckM1_ok hr (fun X W o x apos pos hu pl bo hl ha hb => c_popAt pl bo hl ha hb) h
  · exact ckM1_ok hr (fun X W o x apos pos hu pl bo hl ha hb => c_idx hu pl bo hl ha hb) h
  · exact ckM1_ok hr (fun X W o x apos pos hu pl bo hl ha hb => c_cnt pl bo hl ha hb) h
  · exact ckM1_ok hr (fun X W o x apos pos hu pl bo hl ha hb => c_join pl bo hl ha hb) h
  · exact ckM1_ok hr (fun X W o x apos pos hu pl bo hl ha hb => c_split pl bo hl ha hb) h
  · exact ckM0_ok hr (fun X W o apos pos bo hl ha => c_upp bo hl ha) h
  · cases h
theorem ckE_ok : ∀ n : Nat, RecOk cA xA P sg k (ckE sg n)
  | 0 => fun _ _ _ h => by cases h
  | n + 1 => fun sc e E h => by
    unfold ckE at h
    split at h
    · rw [Bool.and_eq_true] at h
      have q := ckE_ok n sc _ E h.2
      have pw : ∀ X W (c : Cz cA xA P sg k X W sc) (op : BoolOp) (pos : Pos), PW X (.BoolOp op [_] pos) (TDb cA xA X.K W (evE P E)) := fun X W c op pos => by
        cases op
        · exact pw_and1 ((q X W c).2.1 h.1)
        · exact pw_or1 ((q X W c).2.1 h.1)
      exact fun X W c => ⟨pe_one (q X W c).1, fun _ => (pw X W c _ _).pt, fun op vs pos z => by cases z; exact pw X W c _ _⟩
    · exact ckE1_ok (ckE_ok n) h
end

/-! ### statements -/
structure Cs (cA xA : Nat → Addr) (P : Par) (sg : Sg) (k : Nat) (X : Cx) (W : WX) (sc : Scope) : Prop extends Cz cA xA P sg k X W sc where
  hp : PassesOwn (model X.prog X.w) X.A X.env X.xe
  fn : ∀ x, X.fn x = true
  kind : X.env.scope.kind = .function
  hs : X.stack = X.env :: X.outer
  hf : X.env.frame = some X.env.locals
section
variable (sg : Sg) (rec : Rc) (recB : Scope → List S → List Stmt → Bool) (sc : Scope)
def ckRaise (c : Nat) : Stmt → Bool
  | .Raise (some (.Call (.Name x _) [.Constant (.str _) _ _] [] _)) none _ => glB sc x && decide (sg.exc.lookup x = some c)
  | _ => false
def ckKd (n : Str) : Expr → Bool
  | .Call (.Name f _) [.Name x _] [] _ => decide (f = sg.kd) && (glB sc f && (decide (x = n) && !(sg.kd == "")))
  | _ => false
def ckH (n : Str) : Hd → Expr → Bool
  | .eqK k, .Compare e [.Eq] [.List [.Constant (.int j) _ _] _] _ => decide (j = (k : Int)) && ckKd sg sc n e
  | .kinds, e => ckKd sg sc n e
  | _, _ => false
def ckAsN (n : Str) : Bool := sg.N.contains n && (decide (sc.names.lookup n = some .local) && (!(n == ("__debug__" : Str)) && !(n == ("__classdict__" : Str))))
def ckTry (b : List S) (h : Hd) : Stmt → Bool
  | .Try body [.ExceptHandler (some (.Name x _)) (some n) [.Return (some e) _] _] [] [] _ => recB sc b body && (decide (x = sg.hou) && (glB sc x && (!(sg.hou == "") && (ckAsN sg sc n && ckH sg sc n h e))))
  | .Try body [.ExceptHandler (some (.Name x _)) none [.Return (some e) _] _] [] [] _ => recB sc b body && (decide (x = sg.hou) && (glB sc x && (!(sg.hou == "") && (match h with
    | .ret d => ckLit d e
    | _ => false))))
  | _ => false
def swB (sc : Scope) (y : Str) (py : Pos) : Expr → Bool
  | .ListComp _ _ scope pos => decide (sc.names.lookup y = some .local) && (py.line == pos.line) && !(scope.names.any fun x => match x with
              | (n, k) => n == y && (k == NameKind.local || k == NameKind.cell))
  | _ => false
def nsB (sc : Scope) (y : Str) (v : Expr) : Bool := notComp v || (decide (sc.names.lookup y = some .cell) && (match v with
  | .ListComp .. => true
  | _ => false))
def ckSet (i : Nat) (e : E) : Stmt → Bool
  | .Assign [.Name y py] v _ => ckTg sg sc none (.nm i) (.Name y py) && ((nsB sc y v && rec sc v e) || (swB sc y py v && (match e with
    | .cmp _ elt vs tg ik its ifs => ckCmp sg rec sc elt vs tg ik its ifs v
    | _ => false)))
  | _ => false
def ckS1 : S → Stmt → Bool
  | .set i e, st => ckSet sg rec sc i e st
  | .setI o i e, .Assign [.Subscript x y _] v _ => notComp v && plainE y && rec sc v e && rec sc x o && rec sc y i
  | .ex e, .Expr v _ => notComp v && rec sc v e
  | .ite c a b, .If z xs ys _ => ckT rec sc c z && recB sc a xs && recB sc b ys
  | .for_ tg ik its b, .For t it xs [] _ => ckI sg rec sc ik its it && ikT ik t && plainE it && ckTg sg sc none tg t && recB sc b xs
  | .whl c b, .While z xs [] _ => ckT rec sc c z && recB sc b xs
  | .ret e, .Return (some v) _ => rec sc v e
  | .raise c, st => ckRaise sg sc c st
  | .tryN b h, st => ckTry sg recB sc b h st
  | .nev, _ => true
  | _, _ => false
end
def ckB (sg : Sg) (m : Nat) : Nat → Scope → List S → List Stmt → Bool
  | 0, _, _, _ => false
  | n + 1, _, [], [] => true
  | n + 1, sc, s :: ss, t :: ts => ckS1 sg (ckE sg m) (ckB sg m n) sc s t && ckB sg m n sc ss ts
  | _, _, _, _ => false
def SndS (cA xA : Nat → Addr) (P : Par) (sg : Sg) (k : Nat) (sc : Scope) (st : Stmt) (s : S) : Prop := ∀ X W, Cs cA xA P sg k X W sc → PS X st (TSd cA xA X.K W (evS P s))
def SndB (cA xA : Nat → Addr) (P : Par) (sg : Sg) (k : Nat) (sc : Scope) (st : List Stmt) (s : List S) : Prop := ∀ X W, Cs cA xA P sg k X W sc → PSs X st (TSd cA xA X.K W (evB P s))
section
variable {cA xA : Nat → Addr} {P : Par} {sg : Sg} {k : Nat} {X : Cx} {W : WX} {rec : Rc} {recB : Scope → List S → List Stmt → Bool} {sc : Scope} {st : Stmt}
theorem PS.eq {X : Cx} {W : WX} {e : Stmt} {f g : Env → Store → RS} (h : PS X e (TSd cA xA X.K W f)) (k : g = f) : PS X e (TSd cA xA X.K W g) := by rw [k]; exact h
theorem ckSet_ok {i : Nat} {e : E} (hr : RecOk cA xA P sg k rec) (h : ckSet sg rec sc i e st = true) : SndS cA xA P sg k sc st (.set i e) := by
  unfold ckSet at h
  split at h
  · rename_i y py v spos
    simp only [Bool.and_eq_true, Bool.or_eq_true] at h
    intro X W c
    have tg : X.N[i]? = some y ∧ L2.Loc X.env.scope y ∧ (X.fn y = true ∨ X.env.scope.names.lookup y = some .local) := by
      cases ckTg_ok c.toCz (fun x _ => c.fn x) h.1 with
      | nm a b c => exact ⟨a, b, c⟩
    rcases h.2 with ⟨h1, h2⟩ | ⟨h1, h2⟩
    · have sw : swapsWith v (some (.Name y py)) spos.line X.env = pure false := by
        unfold nsB at h1
        rw [Bool.or_eq_true] at h1
        rcases h1 with h1 | h1
        · exact swaps_no h1 ..
        · simp only [Bool.and_eq_true, decide_eq_true_eq] at h1
          obtain ⟨h1, h3⟩ := h1
          split at h3
          · unfold swapsWith
            have e : (X.env.kindOf y == some NameKind.local) = false := by
              unfold PySem.Env.kindOf
              rw [c.sc, h1]
              rfl
            simp only [e, Bool.and_false, Bool.false_and]
          · cases h3
      exact PS.weak (ps_asg (hr _ _ _ h2 X W c.toCz).1 (pg_name c.nodup tg.1 tg.2.1 tg.2.2) (by simpa only [swapsWithSole] using sw) (by rfl) (by rfl)) fun D σ H h => asg_end h
    · split at h2
      · unfold swB at h1
        split at h1
        · simp only [Bool.and_eq_true, decide_eq_true_eq, Bool.not_eq_true'] at h1
          have l : X.env.scope.names.lookup y = some .local := by rw [c.sc]; exact h1.1.1
          exact (ckCmp_ok hr h2).2 X W i y py spos c.toCz c.kind tg.1 l (sw_true c.kind l h1.1.2 h1.2)
        · cases h1
      · cases h2
  · cases h
theorem ckRaise_ok {c : Nat} (h : ckRaise sg sc c st = true) : SndS cA xA P sg k sc st (.raise c) := by
  unfold ckRaise at h
  split at h
  · simp only [Bool.and_eq_true, decide_eq_true_eq] at h
    intro X W z
    obtain ⟨g1, g2⟩ := z.gl h.1
    obtain ⟨k1, k2⟩ := z.glob.exc _ _ h.2
    exact s_raise z.calm z.tk k1 k2 g1 g2
  · cases h
theorem ckKd_ok {n : Str} {e : Expr} {i : Nat} (z : Cs cA xA P sg k X W sc) (hi : X.N[i]? = some n) (hn : ckAsN sg sc n = true) (h : ckKd sg sc n e = true) {a : Addr} {oe : Obj} {c : Nat} {pn : List (Addr × Obj)} (h8 : c < 8) (hz : L2N.Zn (.ref (xA c)) none oe) (hv : ∃ vs, oe.data = .fields vs) :
    PE (X.suite a ((a, oe) :: pn)) e (TD cA xA X.K nW (evKd a c fun δ S => match δ[i]? with
      | some (some d) => .ok d S
      | _ => .stuck)) := by
  unfold ckKd at h
  split at h
  · simp only [Bool.and_eq_true, decide_eq_true_eq, Bool.not_eq_true'] at h
    obtain ⟨rfl, h2, rfl, h4⟩ := h
    unfold ckAsN at hn
    simp only [Bool.and_eq_true, decide_eq_true_eq, Bool.not_eq_true'] at hn
    obtain ⟨n1, n2, n3, n4⟩ := hn
    obtain ⟨g1, g2⟩ := z.gl h2
    obtain ⟨fa, fd, ps, Fk, hm, hk, hb⟩ := z.glob.kd (fun e => by rw [e] at h4; simp at h4)
    obtain ⟨vs, hv⟩ := hv
    exact c_kinds (X := X.suite a ((a, oe) :: pn)) (p := (a, oe)) (k := k) Fk ⟨(by have := z.room.dp; show X.A.depth + 3 * k + 5 < _; omega), (by have := z.room.un; show X.A.units + 16 * k + 200 < _; omega)⟩ ⟨rfl, vs, hv, hz.2.2 vs hv⟩ List.mem_cons_self h8 hz g1 hm hk hb g2 rfl
      (c_var (X := X.suite a ((a, oe) :: pn)) hi (.inl (by show X.env.scope.names.lookup _ = _; rw [z.sc]; exact n2)) n3 n4)
  · cases h
theorem eq_kind (S : Store) (c k : Nat) : op2 S .eq (.lst [.int (c : Int)]) (.lst [.int (k : Int)]) = some (.bl (decide (c = k))) := by
  have e : op2 S .eq (.lst [.int (c : Int)]) (.lst [.int (k : Int)]) = some (.bl (((c : Int) == (k : Int)) && true)) := rfl
  rw [e, Bool.and_true]
  by_cases h : c = k
  · subst h; simp
  · have h2 : ¬ (c : Int) = (k : Int) := by omega
    simp [h, h2]
theorem lit_pe {X : Cx} {W : WX} {d : D} {e : Expr} (h : ckLit d e = true) : PE X e (TD cA xA X.K W fun _ S => .ok d S) := by
  unfold ckLit at h
  split at h
  · simp only [decide_eq_true_eq] at h
    subst h
    exact c_val pe_int (fun σ H Q q => q) fun _ _ => .int _
  · simp only [Bool.and_eq_true, decide_eq_true_eq] at h
    obtain ⟨rfl, h2⟩ := h
    exact c_val pe_str (fun σ H Q q => q) fun _ _ => .str _ h2
  · rename_i b c _ _
    have e : b = c := by simpa using h
    subst e
    exact c_val pe_bl (fun σ H Q q => q) fun _ _ => .bl _
  · exact c_val pe_non (fun σ H Q q => q) fun _ _ => .non
  · cases h
theorem ckTry_ok {b : List S} {h : Hd} (hb : ∀ sc ss sts, recB sc ss sts = true → SndB cA xA P sg k sc sts ss) (hh : ckTry sg recB sc b h st = true) : SndS cA xA P sg k sc st (.tryN b h) := by
  have body : ∀ {X : Cx} {W : WX} {body : List Stmt}, Cs cA xA P sg k X W sc → recB sc b body = true → ∀ (W' : WX) (pn : List (Addr × Obj)) (xe : Value → Shared → Prop), L2N.Takes (X.tr pn xe) W' → PassesOwn (model X.prog X.w) X.A X.env xe → PSs (X.tr pn xe) body (TSd cA xA X.K W' (evB P b)) :=
    fun {X W body} z h1 W' pn xe tk hp => hb _ _ _ h1 (X.tr pn xe) W' { calm := z.calm, N := z.N, nd := z.nd, sc := z.sc, tk := tk, room := z.room, glob := z.glob, hp := hp, fn := z.fn, kind := z.kind, hs := z.hs, hf := z.hf }
  have sem : evS P (.tryN b h) = sTry (evB P b) h := by
    funext δ S
    rfl
  unfold ckTry at hh
  split at hh
  · rename_i body0 x np n e rp p1 p2
    simp only [Bool.and_eq_true, decide_eq_true_eq, Bool.not_eq_true'] at hh
    obtain ⟨h1, rfl, h3, h4, h5, h6⟩ := hh
    intro X W z
    obtain ⟨g1, g2⟩ := z.gl h3
    obtain ⟨hA, m1, m2⟩ := z.glob.hou (fun e => by rw [e] at h4; simp at h4)
    have h5' := h5
    unfold ckAsN at h5'
    simp only [Bool.and_eq_true, decide_eq_true_eq] at h5'
    obtain ⟨i, hi⟩ := List.mem_iff_getElem?.mp (List.contains_iff_mem.mp h5'.1)
    have hiX : X.N[i]? = some n := by rw [z.N]; exact hi
    have hln : X.env.kindOf n = some .local := by
      unfold PySem.Env.kindOf
      rw [z.sc]
      exact h5'.2.1
    rw [show evS P (.tryN b h) = sTry (evB P b) h from sem]
    refine s_tryAs z.hs z.hf z.nodup hiX hln ⟨g1, g2, .inl m1⟩ z.tk m2 (body z h1) fun a oe c pn h8 hz hv => ?_
    unfold ckH at h6
    split at h6
    · rename_i kk e' j q1 q2 q3 q4
      simp only [Bool.and_eq_true, decide_eq_true_eq] at h6
      obtain ⟨rfl, h6⟩ := h6
      have pk := ckKd_ok (a := a) (pn := pn) z hiX h5 h6 h8 hz hv
      have hu : (X.suite a ((a, oe) :: pn)).A.units + 65 < cLine := z.hu
      refine ⟨_, c_cmp (X := X.suite a ((a, oe) :: pn)) (cmpO_ok (o := .eq) hu rfl) pk (c_lst (m := false) (c_cons (c_val (d := .int (kk : Int)) pe_int (fun σ H Q q => q) fun _ _ => .int _) c_nil rfl)) rfl, fun δ S hδ => ?_⟩
      simp only [evKd, hδ, R.bind, if_true, evLst, evCons, List.length_cons, List.length_nil, newL]
      rw [if_pos (by decide)]
      simp only [Bool.false_eq_true, if_false, eq_kind, ofO, hdD]
    · have pk := ckKd_ok (a := a) (pn := pn) z hiX h5 h6 h8 hz hv
      refine ⟨_, pk, fun δ S hδ => ?_⟩
      simp only [evKd, hδ, R.bind, if_true, hdD]
    · cases h6
  · rename_i body0 x np e rp p1 p2
    simp only [Bool.and_eq_true, decide_eq_true_eq, Bool.not_eq_true'] at hh
    obtain ⟨h1, rfl, h3, h4, h5⟩ := hh
    intro X W z
    obtain ⟨g1, g2⟩ := z.gl h3
    obtain ⟨hA, m1, m2⟩ := z.glob.hou (fun e => by rw [e] at h4; simp at h4)
    rw [show evS P (.tryN b h) = sTry (evB P b) h from sem]
    split at h5
    · refine s_tryOnly z.hs z.hf ⟨g1, g2, .inl m1⟩ z.tk m2 (body z h1) fun a pn => lit_pe h5
    · cases h5
  · cases hh
theorem ckS1_ok (hr : RecOk cA xA P sg k rec) (hb : ∀ sc ss sts, recB sc ss sts = true → SndB cA xA P sg k sc sts ss) {s : S} (h : ckS1 sg rec recB sc s st = true) : SndS cA xA P sg k sc st s := by
  unfold ckS1 at h
  split at h
  · exact ckSet_ok hr h
  · simp only [Bool.and_eq_true] at h
    obtain ⟨⟨⟨⟨h1, h2⟩, h3⟩, h4⟩, h5⟩ := h
    exact fun X W c => s_setI (by have := c.hu; omega) h1 h2 (hr _ _ _ h3 X W c.toCz).1 (hr _ _ _ h4 X W c.toCz).1 (hr _ _ _ h5 X W c.toCz).1
  · simp only [Bool.and_eq_true] at h
    exact fun X W c => s_ex h.1 (hr _ _ _ h.2 X W c.toCz).1
  · simp only [Bool.and_eq_true] at h
    obtain ⟨ht, hz⟩ := ckT_ok hr h.1.1
    exact fun X W c => s_if ((hz X W c.toCz).2.1 ht) (hb _ _ _ h.1.2 X W c) (hb _ _ _ h.2 X W c)
  · simp only [Bool.and_eq_true] at h
    obtain ⟨⟨⟨⟨h1, h2⟩, h3⟩, h4⟩, h5⟩ := h
    exact fun X W c => s_for c.hp c.calm (ckI_ok hr c.toCz h1 h2) h3 (c_tg c.calm c.nodup (ckTg_ok c.toCz (fun x _ => c.fn x) h4)) (hb _ _ _ h5 X W c)
  · simp only [Bool.and_eq_true] at h
    obtain ⟨ht, hz⟩ := ckT_ok hr h.1
    exact fun X W c => s_whl P.wf c.hp ((hz X W c.toCz).2.1 ht) (hb _ _ _ h.2 X W c)
  · exact fun X W c => s_ret (hr _ _ _ h X W c.toCz).1
  · exact ckRaise_ok h
  · exact ckTry_ok hb h
  · exact fun X W c => s_nev
  · cases h
theorem ckB_ok {m : Nat} : ∀ (n : Nat) sc ss sts, ckB sg m n sc ss sts = true → SndB cA xA P sg k sc sts ss
  | 0, _, _, _, h => by cases h
  | n + 1, sc, [], [], _ => fun X W c => ss_nil
  | n + 1, sc, s :: ss, t :: ts, h => fun X W c => by
    unfold ckB at h
    rw [Bool.and_eq_true] at h
    exact ss_cons (ckS1_ok (ckE_ok m) (ckB_ok n) h.1 X W c) (ckB_ok n _ _ _ h.2 X W c)
  | n + 1, _, [], _ :: _, h => by cases h
  | n + 1, _, _ :: _, [], h => by cases h
end
end Ev
namespace Ev
open PySem PySem.Spec PyProof.Rows L2

/-! ### the def that tells an exception's classes -/
def evVar (i : Nat) : Env → Store → R D := fun δ S => match δ[i]? with
  | some (some d) => .ok d S
  | _ => .stuck
def kIs (a : Addr) (c i : Nat) : Env → Store → R D := evIsP a (decide (c = i)) (evVar 0)
def k4 (a : Addr) (c i : Nat) : Env → Store → R (List D) := evCons (kIs a c i) (evCons (kIs a c (i + 1)) (evCons (kIs a c (i + 2)) (evCons (kIs a c (i + 3)) fun _ S => .ok [] S)))
def kNx : BF := fun δ S => .nx δ S
def kRt (f : Env → Store → R D) : BF := fun δ S => thenS δ (f δ S) fun d S => .rt d S
def kGet : Env → Store → R D := fun δ S => (evVar 1 δ S).bind fun x S => (evVar 3 δ S).bind fun y S => ofO S (op2 S .get x y)
noncomputable def kFound : Env → Store → R D := evCmp false .rng1 (.nm 3) [3] (ev1s fun _ S => .ok (.int 8) S) (evIf1 kGet) (evVar 3)
noncomputable def kBF (a : Addr) (c : Nat) : BF := sSeq (sSet 1 (evLst false (k4 a c 0))) (sSeq (sSet 1 (evAdd false (evVar 1) (evLst false (k4 a c 4)))) (sSeq (sSet 2 kFound)
  (sSeq (sIte (evNot (evIsP a true (evVar 0))) (sSeq (kRt (evLst false fun _ S => .ok [] S)) kNx) kNx) (sSeq (kRt (evVar 2)) kNx))))
def kN : List Str := ["_law_e", "_law_marks", "_law_found", "_law_k"]
def kCls : List Str := ["BadPlan", "BadLetter", "Stranger", "Gone", "Nothing", "Closed", "BadHistory", "BadText"]
section
variable (sc : Scope)
def ckNm (y : Str) (x : Str) : Bool := decide (x = y) && visB sc x
def ckIsN (y : Str) : Expr → Bool
  | .Call (.Name f _) [.Name x _, .Name z _] [] _ => decide (f = "isinstance") && (glB sc f && (ckNm sc "_law_e" x && (decide (z = y) && glB sc z)))
  | _ => false
def ckK : List Stmt → Bool
  | [.Assign [.Name m1 _] (.List [a0, a1, a2, a3] _) _, .Assign [.Name m2 _] (.BinOp (.Name m3 _) .Add (.List [a4, a5, a6, a7] _) _) _,
     .Assign [.Name f1 py] (.ListComp (.Name k1 _) [⟨.Name k2 _, .Call (.Name rg _) [.Constant (.int i8) _ _] [] _, [.Subscript (.Name m4 _) (.Name k3 _) _], 0⟩] scope lpos) _,
     .If (.UnaryOp .Not q _) [.Return (some (.List [] _)) _] [] _, .Return (some (.Name f2 _)) _] =>
    (decide (m1 = "_law_marks") && (decide (m2 = "_law_marks") && (locB sc "_law_marks" && (ckNm sc "_law_marks" m3 && (decide (f1 = "_law_found") && (ckNm sc "_law_found" f2 && (decide (rg = "range") && (glB sc rg && decide (i8 = 8))))))))) &&
    ((ckIsN sc "BadPlan" a0 && (ckIsN sc "BadLetter" a1 && (ckIsN sc "Stranger" a2 && ckIsN sc "Gone" a3))) && ((ckIsN sc "Nothing" a4 && (ckIsN sc "Closed" a5 && (ckIsN sc "BadHistory" a6 && ckIsN sc "BadText" a7))) &&
    (ckIsN sc "ValueError" q && (decide (sc.names.lookup ("_law_found" : Str) = some .local) && ((py.line == lpos.line) && (!(scope.names.any fun x => match x with
              | (n, k) => n == "_law_found" && (k == NameKind.local || k == NameKind.cell)) && (blkC kN sc scope [("_law_k", 3)] && (ckNm (relS scope sc) "_law_k" k1 && (decide (k2 = "_law_k") && (decide ((relS scope sc).names.lookup ("_law_k" : Str) = some .local) && (ckNm (relS scope sc) "_law_marks" m4 && ckNm (relS scope sc) "_law_k" k3)))))))))))
  | _ => false
end
section
variable {cA xA : Nat → Addr} {X : Cx} {W : WX} {p : Addr × Obj} {c : Nat} {sc : Scope} {body : List Stmt}
theorem nm_of {sc : Scope} {y x : Str} (h : ckNm sc y x = true) : x = y := by
  unfold ckNm at h
  rw [Bool.and_eq_true, decide_eq_true_eq] at h
  exact h.1
theorem vis_of {X : Cx} {sc : Scope} (hs : X.env.scope = sc) {y x : Str} (h : ckNm sc y x = true) : x = y ∧ Vis X.env.scope y := by
  unfold ckNm at h
  rw [Bool.and_eq_true, decide_eq_true_eq] at h
  obtain ⟨rfl, h⟩ := h
  refine ⟨rfl, ?_⟩
  unfold visB at h
  rw [hs]
  unfold Vis
  split at h
  · rename_i e; exact .inl e
  · rename_i e; exact .inr (.inl e)
  · rename_i e; exact .inr (.inr e)
  · cases h
theorem gl_of {X : Cx} {sc : Scope} (hs : X.env.scope = sc) {x : Str} (h : glB sc x = true) : Gl X x ∧ (x == ("__debug__" : Str)) = false := by
  unfold glB at h
  rw [Bool.and_eq_true, decide_eq_true_eq, Bool.not_eq_true'] at h
  refine ⟨?_, h.2⟩
  show X.env.kindOf x = _
  unfold PySem.Env.kindOf
  rw [hs]
  exact h.1
theorem kvar {X : Cx} {W : WX} (hN : X.N = kN) {i : Nat} {x : Str} {pos : Pos} (hi : kN[i]? = some x) (hv : Vis X.env.scope x) (h1 : (x == ("__debug__" : Str)) = false) (h2 : (x == ("__classdict__" : Str)) = false) : PE X (.Name x pos) (TD cA xA X.K W (evVar i)) :=
  c_var (by rw [hN]; exact hi) hv h1 h2
theorem kinds_body (hN : X.N = kN) (hsc : X.env.scope = sc) (hk : X.env.scope.kind = .function) (hot : L2H.Hot1 X.A p) (hp : p ∈ X.pn) (h8 : c < 8) (hz : Zc (.ref (xA c)) none p.2) (hu : X.A.units + 65 < cLine) (fn : ∀ x, X.fn x = true)
    (h1 : X.mg "isinstance" = none) (h2 : X.mg "range" = none) (h3 : X.mg "ValueError" = none) (hex : ∀ i y, kCls[i]? = some y → X.mg y = some (.ref (xA i)) ∧ PySem.W.kitOne X.K (.ref (xA c)) (.ref (xA i)) = some (decide (c = i)))
    (hve : PySem.W.kitOne X.K (.ref (xA c)) (.type "ValueError") = some true) (isx : ExcC X.K (xA c)) (h : ckK sc body = true) : PSs X body (TSd cA xA X.K W (kBF p.1 c)) := by
  have nd : X.N.Nodup := by rw [hN]; decide
  have hf : ∃ vs, p.2.data = .fields vs := hot.2.imp fun _ h => h.1
  have is_ : ∀ {y : Str} {i : Nat} {e : Expr}, kCls[i]? = some y → ckIsN sc y e = true → PE X e (TD cA xA X.K W (kIs p.1 c i)) ∧ plainE e = true := fun {y i e} hi h => by
    unfold ckIsN at h
    split at h
    · simp only [Bool.and_eq_true, decide_eq_true_eq] at h
      obtain ⟨rfl, g, hx, rfl, gz⟩ := h
      obtain ⟨rfl, hv⟩ := vis_of hsc hx
      obtain ⟨m1, m2⟩ := hex i _ hi
      exact ⟨c_isP isx hp hz hf (v := .ref (xA i)) (fun u r => r) m2 (gl_of hsc g).1 h1 rfl rfl (kvar hN (i := 0) rfl hv rfl rfl) (pe_glob (gl_of hsc gz).1 m1 rfl (gl_of hsc gz).2), rfl⟩
    · cases h
  unfold ckK at h
  split at h
  · rename_i m1 q1 a0 a1 a2 a3 q2 q3 m2 q4 m3 q5 a4 a5 a6 a7 q6 q7 q8 f1 py k1 q9 k2 q10 rg q11 i8 q12 q13 q14 m4 q15 k3 q16 q17 scope lpos q18 q q19 q20 q21 q22 f2 q23 q24
    simp only [Bool.and_eq_true, decide_eq_true_eq, Bool.not_eq_true'] at h
    obtain ⟨⟨rfl, rfl, hm, hm3, rfl, hf2, rfl, hr, rfl⟩, ⟨i0, i1, i2, i3⟩, ⟨i4, i5, i6, i7⟩, iv, hfl, hln, hsw, hb, hk1, rfl, hk2, hm4, hk3⟩ := h
    obtain ⟨rfl, vm⟩ := vis_of hsc hm3
    obtain ⟨rfl, vf⟩ := vis_of hsc hf2
    have lm : L2.Loc X.env.scope "_law_marks" := by
      unfold locB at hm
      rw [hsc]
      unfold L2.Loc
      split at hm
      · rename_i e; exact .inl e
      · rename_i e; exact .inr e
      · cases hm
    have L4 : ∀ {b0 b1 b2 b3 : Expr} {j : Nat} {y0 y1 y2 y3 : Str}, kCls[j]? = some y0 → kCls[j + 1]? = some y1 → kCls[j + 2]? = some y2 → kCls[j + 3]? = some y3 → ckIsN sc y0 b0 = true → ckIsN sc y1 b1 = true → ckIsN sc y2 b2 = true → ckIsN sc y3 b3 = true →
        PA X [b0, b1, b2, b3] (TDs cA xA X.K W (k4 p.1 c j)) := fun {b0 b1 b2 b3 j y0 y1 y2 y3} e0 e1 e2 e3 c0 c1 c2 c3 =>
      c_cons (is_ e0 c0).1 (c_cons (is_ e1 c1).1 (c_cons (is_ e2 c2).1 (c_cons (is_ e3 c3).1 c_nil (star_plain (is_ e3 c3).2 _ _)) (star_plain (is_ e2 c2).2 _ _)) (star_plain (is_ e1 c1).2 _ _)) (star_plain (is_ e0 c0).2 _ _)
    have s1 := fun (pos py : Pos) => s_set (cA := cA) (xA := xA) (W := W) (X := X) (i := 1) (x := "_law_marks") (py := py) (pos := pos) nd (by rw [hN]; rfl) lm (.inl (fn _)) (e := .List [a0, a1, a2, a3] q2) rfl (c_lst (m := false) (L4 (j := 0) rfl rfl rfl rfl i0 i1 i2 i3))
    have s2 := fun (pos py : Pos) => s_set (cA := cA) (xA := xA) (W := W) (X := X) (i := 1) (x := "_law_marks") (py := py) (pos := pos) nd (by rw [hN]; rfl) lm (.inl (fn _)) (e := .BinOp (.Name "_law_marks" q5) .Add (.List [a4, a5, a6, a7] q6) q7) rfl
      (c_addL (m := false) (kvar hN (i := 1) rfl vm rfl rfl) (c_lst (m := false) (L4 (j := 4) rfl rfl rfl rfl i4 i5 i6 i7)))
    have bs : ∀ (s : Shared) (H : Hp) (C : Addr) (cl : List (Str × Addr)) (fp : List Addr), (blkH X p s H scope (compEnvC scope cl C X.env) fp).env.scope = relS scope sc := fun s H C cl fp => by rw [← hsc]; rfl
    have s3 : PS X (.Assign [.Name "_law_found" py] (.ListComp (.Name k1 q9) [⟨.Name "_law_k" q10, .Call (.Name "range" q11) [.Constant (.int 8) q12 q13] [] q14, [.Subscript (.Name m4 q15) (.Name k3 q16) q17], 0⟩] scope lpos) q18) (TSd cA xA X.K W (sSet 2 kFound)) := by
      obtain rfl := nm_of hk1
      obtain rfl := nm_of hm4
      obtain rfl := nm_of hk3
      have hfl' : X.env.scope.names.lookup ("_law_found" : Str) = some .local := by rw [hsc]; exact hfl
      refine PS.weak (ps_setLcH (own := [("_law_k", 3)]) hot hp nd (i := 2) (by rw [hN]; rfl) hfl' (sw_true hk hfl' hln hsw) (c_irng1H (cA := cA) (xA := xA) (W := W) (gl_of hsc hr).1 h2 rfl (c_val (d := .int 8) pe_int (fun σ H Q q => q) fun _ _ => .int _)) (blkOk_by (by rw [hN, hsc]; exact hb))
        (g := gTg X.K (.nm 3)) (tt := TDq cA xA X.K nW (evIf1 kGet)) (te := TD cA xA X.K nW (evVar 3)) (fun s H C cl fp => ?_) (fun s H C cl fp => ?_) (fun s H C cl fp => ?_) (fold_plain rfl _)) fun D σ H h => lc_end (m := false) (by decide) (asg_end h)
      · exact pg_name nd (by show X.N[3]? = _; rw [hN]; rfl) (.inl (by rw [bs]; exact hk2)) (.inr (by rw [bs]; exact hk2))
      · exact q_one (c_test (c_get (by show X.A.units + 1 < cLine; omega) (kvar (X := blkH X p s H scope (compEnvC scope cl C X.env) fp) hN (i := 1) rfl (vis_of (bs s H C cl fp) hm4).2 rfl rfl) (kvar (X := blkH X p s H scope (compEnvC scope cl C X.env) fp) hN (i := 3) rfl (vis_of (bs s H C cl fp) hk3).2 rfl rfl) (ix_plain rfl)) (fun _ => rfl))
      · exact kvar (X := blkH X p s H scope (compEnvC scope cl C X.env) fp) hN (i := 3) rfl (vis_of (bs s H C cl fp) hk1).2 rfl rfl
    have s4 : ∀ (r1 r2 r3 r4 : Pos), PS X (.If (.UnaryOp .Not q r1) [.Return (some (.List [] r2)) r3] [] r4) (TSd cA xA X.K W (sIte (evNot (evIsP p.1 true (evVar 0))) (sSeq (kRt (evLst false fun _ S => .ok [] S)) kNx) kNx)) := fun r1 r2 r3 r4 => by
      have pq : PT X q (TDb cA xA X.K W (evIsP p.1 true (evVar 0))) := by
        unfold ckIsN at iv
        split at iv
        · simp only [Bool.and_eq_true, decide_eq_true_eq] at iv
          obtain ⟨rfl, g, hx, rfl, gz⟩ := iv
          obtain ⟨rfl, hv⟩ := vis_of hsc hx
          exact c_test (c_isP isx hp hz hf (v := .ty "ValueError") (fun u r => r) hve (gl_of hsc g).1 h1 rfl rfl (kvar hN (i := 0) rfl hv rfl rfl) (pe_bltn (gl_of hsc gz).1 h3 (by decide +kernel) rfl (by decide) (gl_of hsc gz).2)) (fun _ => rfl)
        · cases iv
      exact s_if (c_notT pq) (ss_cons (s_ret (c_lst (m := false) c_nil)) ss_nil) ss_nil
    exact ss_cons (s1 _ _) (ss_cons (s2 _ _) (ss_cons s3 (ss_cons (s4 _ _ _ _) (ss_cons (s_ret (kvar hN (i := 2) rfl vf rfl rfl)) ss_nil))))
  · cases h
end
end Ev
namespace Ev
open PySem PySem.Spec PyProof.Rows L2
theorem stays0 {S : Store} : stays S [] = true := by
  unfold stays
  classical
  exact decide_eq_true fun p hp => by cases hp
theorem compF_run0 {f : D → Store → R (Option D)} {S : Store} {g : D → Option D} : ∀ {xs acc : List D}, (∀ x ∈ xs, ∀ acc, f x (S ++ [.lst acc]) = .ok (g x) (S ++ [.lst acc])) → (∀ x ∈ xs, clos S.length (g x).toList = true) → compF [] f S xs acc = .ok (.lst (acc ++ xs.filterMap g)) S
  | [], acc, _, _ => by simp [compF, stays0]
  | x :: xs, acc, h, hc => by
    unfold compF
    rw [if_pos stays0, h x (List.mem_cons_self ..) acc, R.bind0, if_pos ⟨rfl, hc x (List.mem_cons_self ..)⟩, compF_run0 (fun y hy => h y (List.mem_cons_of_mem _ hy)) fun y hy => hc y (List.mem_cons_of_mem _ hy)]
    cases hg : g x <;> simp [hg]
def kM (c : Nat) : List D := [.bl (decide (c = 0)), .bl (decide (c = 1)), .bl (decide (c = 2)), .bl (decide (c = 3)), .bl (decide (c = 4)), .bl (decide (c = 5)), .bl (decide (c = 6)), .bl (decide (c = 7))]
def kKeep (c : Nat) : D → Option D
  | .int i => if (c : Int) = i then some (.int i) else none
  | _ => none
theorem kFound_is {c : Nat} (h8 : c < 8) (a : D) (o2 : Option D) (S : Store) : kFound [some a, some (.lst (kM c)), o2, none] S = .ok (.lst [.int (c : Int)]) S := by
  have xs8 : walkOf S .rng1 [.int 8] = some ([.int 0, .int 1, .int 2, .int 3, .int 4, .int 5, .int 6, .int 7], []) := by
    simp [walkOf, rngD, List.range, List.range.loop]
  have turn : ∀ x ∈ ([.int 0, .int 1, .int 2, .int 3, .int 4, .int 5, .int 6, .int 7] : List D), ∀ acc, turnC [3] (.nm 3) (evIf1 kGet) (evVar 3) [some a, some (.lst (kM c)), o2, none] x (S ++ [.lst acc]) = .ok (kKeep c x) (S ++ [.lst acc]) := by
    intro x hx acc
    have hx : ∃ i : Nat, i < 8 ∧ x = .int (i : Int) := by
      simp only [List.mem_cons, List.not_mem_nil, or_false] at hx
      rcases hx with rfl | rfl | rfl | rfl | rfl | rfl | rfl | rfl
      · exact ⟨0, by decide, rfl⟩
      · exact ⟨1, by decide, rfl⟩
      · exact ⟨2, by decide, rfl⟩
      · exact ⟨3, by decide, rfl⟩
      · exact ⟨4, by decide, rfl⟩
      · exact ⟨5, by decide, rfl⟩
      · exact ⟨6, by decide, rfl⟩
      · exact ⟨7, by decide, rfl⟩
    obtain ⟨i, hi, rfl⟩ := hx
    have hg : op2 (S ++ [.lst acc]) .get (.lst (kM c)) (.int (i : Int)) = some (.bl (decide (c = i))) := by
      have e : op2 (S ++ [.lst acc]) .get (.lst (kM c)) (.int (i : Int)) = ixD (kM c) (i : Int) := rfl
      rw [e]
      have h8 : i = 0 ∨ i = 1 ∨ i = 2 ∨ i = 3 ∨ i = 4 ∨ i = 5 ∨ i = 6 ∨ i = 7 := by omega
      rcases h8 with rfl | rfl | rfl | rfl | rfl | rfl | rfl | rfl <;> rfl
    have ti : evIf1 kGet [some a, some (.lst (kM c)), o2, some (.int (i : Int))] (S ++ [.lst acc]) = .ok (decide (c = i)) (S ++ [.lst acc]) := by
      show (kGet _ _).bind _ = _
      have e : kGet [some a, some (.lst (kM c)), o2, some (.int (i : Int))] (S ++ [.lst acc]) = .ok (.bl (decide (c = i))) (S ++ [.lst acc]) := by
        show ofO _ (op2 (S ++ [.lst acc]) .get (.lst (kM c)) (.int (i : Int))) = _
        rw [hg]
        rfl
      rw [e]
      rfl
    show (evIf1 kGet [some a, some (.lst (kM c)), o2, some (.int (i : Int))] (S ++ [.lst acc])).bind _ = _
    rw [ti]
    show (if decide (c = i) = true then _ else _) = _
    unfold kKeep
    by_cases h : c = i
    · subst h
      simp [evVar, R.bind, wipeE]
    · have h2 : ¬ (c : Int) = (i : Int) := by omega
      simp [h, h2]
  have un : kFound [some a, some (.lst (kM c)), o2, none] S = compM false [] (turnC [3] (.nm 3) (evIf1 kGet) (evVar 3) [some a, some (.lst (kM c)), o2, none]) [.int 0, .int 1, .int 2, .int 3, .int 4, .int 5, .int 6, .int 7] S := by
    unfold kFound evCmp ev1s evCons
    simp only [R.bind]
    rw [xs8]
  rw [un]
  unfold compM
  rw [if_pos (by decide), if_neg (by simp), compF_run0 (g := kKeep c) turn (fun x hx => ?_)]
  · have h8' : c = 0 ∨ c = 1 ∨ c = 2 ∨ c = 3 ∨ c = 4 ∨ c = 5 ∨ c = 6 ∨ c = 7 := by omega
    rcases h8' with rfl | rfl | rfl | rfl | rfl | rfl | rfl | rfl <;> simp [kKeep]
  · cases x <;> simp only [kKeep] <;> first | rfl | skip
    split <;> rfl
theorem kBF_is {c : Nat} (h8 : c < 8) (a : Addr) (S : Store) : kBF a c [some (.opq a), none, none, none] S = .rt (.lst [.int (c : Int)]) S := by
  have e1 : sSet 1 (evLst false (k4 a c 0)) [some (.opq a), none, none, none] S = .nx [some (.opq a), some (.lst ((kM c).take 4)), none, none] S := by
    simp [sSet, evLst, k4, evCons, kIs, evIsP, evVar, R.bind, thenS, newL, kM, LIM]
  have e2 : sSet 1 (evAdd false (evVar 1) (evLst false (k4 a c 4))) [some (.opq a), some (.lst ((kM c).take 4)), none, none] S = .nx [some (.opq a), some (.lst (kM c)), none, none] S := by
    simp [sSet, evLst, evAdd, addL, items, k4, evCons, kIs, evIsP, evVar, R.bind, thenS, newL, kM, LIM]
  have e3 : sSet 2 kFound [some (.opq a), some (.lst (kM c)), none, none] S = .nx [some (.opq a), some (.lst (kM c)), some (.lst [.int (c : Int)]), none] S := by
    simp [sSet, kFound_is h8, thenS]
  have e4 : sIte (evNot (evIsP a true (evVar 0))) (sSeq (kRt (evLst false fun _ S => .ok [] S)) kNx) kNx [some (.opq a), some (.lst (kM c)), some (.lst [.int (c : Int)]), none] S = .nx [some (.opq a), some (.lst (kM c)), some (.lst [.int (c : Int)]), none] S := by
    simp [sIte, evNot, evIsP, evVar, R.bind, thenS, kNx]
  have sq : ∀ {u v : BF} {δ δ' : Env} {S S' : Store}, u δ S = .nx δ' S' → sSeq u v δ S = v δ' S' := fun h => by
    unfold sSeq
    rw [h]
  unfold kBF
  rw [sq e1, sq e2, sq e3, sq e4]
  rfl
/-- the def keeps its promise -/
theorem fnK_of {cA xA : Nat → Addr} {P : Program} {w : World} {K : PySem.W.Frag} {mg : Str → Option Value} {base : Heap} {k : Nat} {x : Str} {st : Stmt} {fa : Addr} {fdt : FuncData} (Fd : FunD K x x (defArgs st) (defBody st) (defScope st) [] [] fa fdt) (hsc : C8.scC kN ["_law_e"] (defScope st) = true) (ck : ckK (defScope st) (defBody st) = true)
    (h1 : mg "isinstance" = none) (h2 : mg "range" = none) (h3 : mg "ValueError" = none) (hex : ∀ c, c < 8 → ∀ i y, kCls[i]? = some y → mg y = some (.ref (xA i)) ∧ PySem.W.kitOne K (.ref (xA c)) (.ref (xA i)) = some (decide (c = i)))
    (hve : ∀ c, c < 8 → PySem.W.kitOne K (.ref (xA c)) (.type "ValueError") = some true) (isx : ∀ c, c < 8 → ExcC K (xA c)) : FnK cA xA P w K mg base (L2N.CX P w) k fa fdt ["_law_e"] := by
  have S0 := C8.fnScope_by hsc
  obtain ⟨oc, od, dV, kV, doc, pm, an, cdv, ct, osl, rfl, lk, hcd, _, _⟩ := Fd.ex
  refine ⟨rfl, fun A outer s H args us p c F ι S Q E hr hot hpin h8 hz e0 hb r rl kk => ?_⟩
  refine run_bodyH lk hcd S0 rfl hr hot hpin e0 hb r fun hu => ⟨TSd cA xA K nW (kBF p.1 c), kinds_body (X := L2H.cxH (L2N.CX P w) P w K mg base kN x (defScope st) fa cdv A outer s H E p) rfl rfl S0.kind hot (List.mem_singleton.mpr rfl) h8 hz.zc hu (fun _ => rfl) h1 h2 h3 (hex c h8) (hve c h8) (isx c h8) ck,
    F, ι, S, [some (.opq p.1), none, none, none], rl, ⟨rfl, fun i d hi => ?_⟩, ?_⟩
  · match i with
    | 0 =>
      have hi : some (some (Ev.D.opq p.1)) = some (some d) := hi
      cases hi
      exact ⟨.ref p.1, rfl, .opq p.1⟩
    | 1 => cases hi
    | 2 => cases hi
    | 3 => cases hi
    | i + 4 => simp at hi
  · rw [kBF_is h8]
    exact fun F' ι' H' v e r rv => kk F' ι' H' v e r rv
end Ev
namespace Ev
open PySem PySem.Spec PyProof.Rows L2

/-! ### functions -/
open Classical in
noncomputable def fin (b : Bool) (S : Store) (d : D) (S' : Store) : R D := if b then (if S'.take S.length = S then (match fz S.length S' 20 d with
  | some d' => .ok d' S
  | none => .stuck) else .stuck) else .ok d S'
open Classical in
noncomputable def endF (b : Bool) (S : Store) : RS → R D
  | .nx _ S' => fin b S .non S'
  | .rt d S' => fin b S d S'
  | .exn c _ S' => if b then (if S'.take S.length = S then .exn c S else .stuck) else .exn c S'
  | .stuck => .stuck
structure Fd where
  ps : List Str
  N : List Str
  body : List S
  frz : Bool
structure Tb where
  fns : List Fd
  ini : Nat → Option Nat
  con : Nat → Option D
  atr : Nat → Str → Bool
  wf : Nat
def env0 (fd : Fd) (args : List D) : Env := args.map some ++ List.replicate (fd.N.length - fd.ps.length) none
noncomputable def callF (T : Tb) : Nat → Nat → List D → Store → R D
  | 0 => fun _ _ _ => .stuck
  | n + 1 => fun f args S => match T.fns[f]? with
    | some fd => if args.length = fd.ps.length then endF fd.frz S (evB ⟨callF T n, T.ini, T.con, T.atr, T.wf⟩ fd.body (env0 fd args) S) else .stuck
    | none => .stuck
noncomputable def parOf (T : Tb) (n : Nat) : Par := ⟨callF T n, T.ini, T.con, T.atr, T.wf⟩

/-! ### a def keeps its promise -/
/-- what is told of a def: its object, its name, its text -/
structure DefOk (K : PySem.W.Frag) (mg : Str → Option Value) (sg : List Str → Sg) (fd : Fd) (x : Str) (st : Stmt) (fa : Addr) (fdt : FuncData) : Prop where
  fn : FunD K x x (defArgs st) (defBody st) (defScope st) [] [] fa fdt
  mg : mg x = some (.ref fa)
  binds : Binds K fdt fd.ps []
  sc : C8.scC fd.N fd.ps (defScope st) = true
  ck : ∃ m n, ckB (sg fd.N) m n (defScope st) fd.body (defBody st) = true
theorem sl_start {K : PySem.W.Frag} {F : Hp} {ι : List Addr} {fd : Fd} {vs : List V} {ds : List D} (h : Reps K F ι vs ds) (hl : ds.length = fd.ps.length) : Sl K F ι (L2.start fd.N vs) (env0 fd ds) := by
  have e := h.len
  unfold L2.start env0
  refine ⟨by simp [e, hl], fun i d q => ?_⟩
  by_cases hi : i < ds.length
  · rw [List.getElem?_append_left (by simpa using hi)] at q
    rw [List.getElem?_append_left (by simpa [e] using hi)]
    rw [List.getElem?_map] at q ⊢
    obtain ⟨d', q1, q2⟩ := Option.map_eq_some_iff.mp q
    cases q2
    obtain ⟨v, v1, v2⟩ := h.get q1
    exact ⟨v, by rw [v1]; rfl, v2⟩
  · rw [List.getElem?_append_right (by simpa using hi)] at q
    rw [List.getElem?_replicate] at q
    split at q <;> cases q
section
variable {cA xA : Nat → Addr} {P : Program} {w : World} {K : PySem.W.Frag} {mg : Str → Option Value} {base : Heap} {T : Tb} {sg : List Str → Sg} {fd : Fd} {x : Str} {st : Stmt} {fa : Addr} {fdt : FuncData}
theorem fin_ends {Q : VK} {E : XK} {F H : Hp} {ι : List Addr} {S : Store} {W : WX} {b : Bool} {r : RS} (rl : Rel cA K F ι S H) (hW : ∀ c d σ H, E c d H → W c d σ H)
    (h : Good cA xA K E F ι (endF b S r) fun F' ι' H' d _ => ∀ v, Rep K F' ι' v d → Q v H') : GoodS cA xA K W F ι r { nx := fun _ H' => Q .non H', rt := Q } := by
  have go : ∀ {d S'}, Good cA xA K E F ι (fin b S d S') (fun F' ι' H' d _ => ∀ v, Rep K F' ι' v d → Q v H') → ∀ F' ι' H' v, Ext F ι F' ι' → Rel cA K F' ι' S' H' → Rep K F' ι' v d → Q v H' := by
    intro d S' g F' ι' H' v e r' rv
    unfold fin at g
    cases b with
    | false => exact g F' ι' H' e r' v rv
    | true =>
      rw [if_pos rfl] at g
      split at g
      · rename_i t
        split at g
        · rename_i d' hz
          obtain ⟨F2, e2, r2, up, hN⟩ := rl.freezeAll r' e t
          exact g F2 ι H' e2 r2 v (fz_ok r' (fun k a h hk => e.low k a h (by rw [rl.len]; exact hk)) up hN _ _ _ _ hz rv)
        · exact g.elim
      · exact g.elim
  cases r with
  | nx δ S' => exact fun F' ι' H' σ e r' sl => go (d := .non) h F' ι' H' .non e r' .non
  | rt d S' => exact fun F' ι' H' v e r' rv => go h F' ι' H' v e r' rv
  | exn c δ S' =>
    intro F' ι' H' σ e r' sl
    unfold endF at h
    cases b with
    | false => exact hW _ _ _ _ (h F' ι' H' e r')
    | true =>
      dsimp only at h
      rw [if_pos rfl] at h
      split at h
      · rename_i t
        exact hW _ _ _ _ (h F' ι H' e.fst (rl.cut r' e t))
      · exact h.elim
  | stuck => exact h
theorem fn_body {k n f : Nat} (dk : DefOk K mg sg fd x st fa fdt) (hf : T.fns[f]? = some fd) (G : GOk cA xA (parOf T n) (sg fd.N) k P w K mg base) (hsg : (sg fd.N).N = fd.N) :
    FnOk P w K mg base (L2N.CX P w) (k + 2) fa fdt fd.ps (spF cA xA K (callF T (n + 1) f)) := by
  have S0 := C8.fnScope_by dk.sc
  have unf : ∀ args S, callF T (n + 1) f args S = if args.length = fd.ps.length then endF fd.frz S (evB (parOf T n) fd.body (env0 fd args) S) else .stuck := fun args S => by
    conv => lhs; unfold callF
    rw [hf]
    rfl
  refine FunD.ok (CX := L2N.CX P w) dk.fn S0 (fun vs H Q E h => ?_) fun cdv A outer s H vs Q E hr h => ?_
  · obtain ⟨F, ι, S, ds, r, hv, g⟩ := h
    rw [unf] at g
    rw [hv.len]
    exact (good_if g).1
  · obtain ⟨F, ι, S, ds, r, hv, g⟩ := h
    rw [unf] at g
    obtain ⟨hl, g⟩ := good_if g
    obtain ⟨m, n2, hck⟩ := dk.ck
    refine ⟨TSd cA xA K (fun cls d _ H => E cls d H) (evB (parOf T n) fd.body), ckB_ok (cA := cA) (xA := xA) (P := parOf T n) (k := k) n2 _ _ _ hck _ _ ?_, F, ι, S, env0 fd ds, r, sl_start hv hl, fin_ends r (fun _ _ _ _ h => h) g⟩
    exact { calm := rfl, N := hsg.symm, nd := by rw [hsg]; exact S0.nd, sc := rfl, tk := L2N.takes_of rfl rfl rfl rfl, room := hr, glob := G, hp := passes_of rfl, fn := fun _ => rfl, kind := S0.kind, hs := rfl, hf := rfl }
theorem fn_zero {f : Nat} : FnOk P w K mg base (L2N.CX P w) 0 fa fdt fd.ps (spF cA xA K (callF T 0 f)) :=
  ⟨fun vs H Q E ⟨F, ι, S, ds, r, hv, g⟩ => g.elim, fun A outer s H args us vs Q E _ _ _ _ ⟨F, ι, S, ds, r, hv, g⟩ => g.elim⟩
/-- what is told of the exceptions' classes, of the class that is caught, of the def that tells the classes -/
structure XOk (xA : Nat → Addr) (K : PySem.W.Frag) (mg : Str → Option Value) (exc : List (Str × Nat)) (hou kd : Str) : Prop where
  exc : ∀ x c, exc.lookup x = some c → ExcK K (xA c) ∧ mg x = some (.ref (xA c))
  hou : hou ≠ "" → ∃ hA, mg hou = some (.ref hA) ∧ ∀ c, c < 8 → PySem.W.exmOne K (.ref (xA c)) (.ref hA) = some true
  kd : kd ≠ "" → ∃ st fa fdt, FunD K kd kd (defArgs st) (defBody st) (defScope st) [] [] fa fdt ∧ mg kd = some (.ref fa) ∧ Binds K fdt ["_law_e"] [] ∧ C8.scC kN ["_law_e"] (defScope st) = true ∧ ckK (defScope st) (defBody st) = true ∧
    mg "isinstance" = none ∧ mg "range" = none ∧ mg "ValueError" = none ∧ (∀ c, c < 8 → ∀ i y, kCls[i]? = some y → mg y = some (.ref (xA i)) ∧ PySem.W.kitOne K (.ref (xA c)) (.ref (xA i)) = some (decide (c = i))) ∧
    (∀ c, c < 8 → PySem.W.kitOne K (.ref (xA c)) (.type "ValueError") = some true) ∧ ∀ c, c < 8 → ExcC K (xA c)
theorem xok_no {xA : Nat → Addr} {K : PySem.W.Frag} {mg : Str → Option Value} : XOk xA K mg [] "" "" := ⟨fun _ _ h => (by cases h), fun h => absurd rfl h, fun h => absurd rfl h⟩
/-- what is told of the whole: its defs by their names, the constants, the names that are free -/
structure TOk (xA : Nat → Addr) (K : PySem.W.Frag) (mg : Str → Option Value) (T : Tb) (fns con : List (Str × Nat)) (free : List Str) (exc : List (Str × Nat)) (hou kd : Str) : Prop where
  fn : ∀ x i, fns.lookup x = some i → ∃ fd st fa fdt, T.fns[i]? = some fd ∧ DefOk K mg (fun N => ⟨N, fns, con, free, exc, hou, kd⟩) fd x st fa fdt
  con : ∀ x i, con.lookup x = some i → ∃ v u, mg x = some u ∧ RelV v u ∧ ∀ d, T.con i = some d → ∀ F ι, Rep K F ι v d
  free : ∀ x, free.contains x = true → mg x = none
  xok : XOk xA K mg exc hou kd
theorem xok_g {k : Nat} {sgN : Sg} (x : XOk xA K mg sgN.exc sgN.hou sgN.kd) : (∀ x c, sgN.exc.lookup x = some c → ExcK K (xA c) ∧ mg x = some (.ref (xA c))) ∧ (sgN.hou ≠ "" → ∃ hA, mg sgN.hou = some (.ref hA) ∧ ∀ c, c < 8 → PySem.W.exmOne K (.ref (xA c)) (.ref hA) = some true) ∧
    (sgN.kd ≠ "" → ∃ fa fd ps, FnK cA xA P w K mg base (L2N.CX P w) k fa fd ps ∧ mg sgN.kd = some (.ref fa) ∧ PySem.W.keepIn K (.ref fa) = true ∧ Binds K fd ps []) :=
  ⟨x.exc, x.hou, fun h => by
    obtain ⟨st, fa, fdt, Fd, m, b, s, ck, h1, h2, h3, h4, h5, h6⟩ := x.kd h
    exact ⟨fa, fdt, _, fnK_of Fd s ck h1 h2 h3 h4 h5 h6, m, Fd.kp, b⟩⟩
theorem gok_all {fns con : List (Str × Nat)} {free : List Str} {exc : List (Str × Nat)} {hou kd : Str} (t : TOk xA K mg T fns con free exc hou kd) : ∀ (n : Nat) (N : List Str), GOk cA xA (parOf T n) ⟨N, fns, con, free, exc, hou, kd⟩ (2 * n) P w K mg base
  | 0, N =>
    have x := xok_g (cA := cA) (P := P) (w := w) (base := base) (k := 2 * 0) (sgN := ⟨N, fns, con, free, exc, hou, kd⟩) t.xok
    ⟨fun x i h => by
      obtain ⟨fd, st, fa, fdt, hi, dk⟩ := t.fn x i h
      exact ⟨fa, fdt, fd.ps, fn_zero (T := T) (f := i), dk.mg, dk.fn.kp, dk.binds⟩, t.con, t.free, x.1, x.2.1, x.2.2⟩
  | n + 1, N =>
    have x := xok_g (cA := cA) (P := P) (w := w) (base := base) (k := 2 * (n + 1)) (sgN := ⟨N, fns, con, free, exc, hou, kd⟩) t.xok
    ⟨fun x i h => by
      obtain ⟨fd, st, fa, fdt, hi, dk⟩ := t.fn x i h
      exact ⟨fa, fdt, fd.ps, fn_body (n := n) (k := 2 * n) dk hi (gok_all t n fd.N) rfl, dk.mg, dk.fn.kp, dk.binds⟩, t.con, t.free, x.1, x.2.1, x.2.2⟩
end
end Ev
namespace Ev
open PySem PySem.Spec PyProof.Rows L2
theorem lookup_mem {x : Str} {i : Nat} : ∀ {l : List (Str × Nat)}, l.lookup x = some i → (x, i) ∈ l
  | [], h => by cases h
  | (y, j) :: l, h => by
    unfold List.lookup at h
    split at h
    · rename_i e
      cases h
      have := eq_of_beq e
      subst this
      exact List.mem_cons_self ..
    · exact List.mem_cons_of_mem _ (lookup_mem h)
/-- the law's def, called with the script -/
theorem law_ends {cA xA : Nat → Addr} {K : PySem.W.Frag} {T : Tb} {n f : Nat} {H : Hp} {a : Addr} {ns : List Int} (hS : SqL K H a (ns.map V.int)) {S' : Store} (h : callF T n f [.scr ns] [] = .ok (.bl true) S') :
    spF cA xA K (callF T n f) [.ref a] H (fun v _ => v = .bl true) fun _ _ _ => False := by
  refine ⟨H, [], [], [.scr ns], ⟨fun _ _ h => h, rfl, fun n c h => by simp at h, fun i j a c c' h => by simp at h⟩, .cons (.scr hS) .nil, ?_⟩
  rw [h]
  exact fun F' ι' H' e r v rv => bl_of rv
/-- what a law's def may let out, at whatever world -/
def CXm (P : Program) : CXT := fun outer H s E u s' => ∃ w, L2N.CX P w outer H s E u s'
theorem fn_cx {P : Program} {w : World} {K : PySem.W.Frag} {mg : Str → Option Value} {base : Heap} {k : Nat} {f : Addr} {fd : FuncData} {ps : List Str} {sp : Sp} (F : FnOk P w K mg base (L2N.CX P w) k f fd ps sp) : FnOk P w K mg base (CXm P) k f fd ps sp :=
  ⟨F.len, fun A outer s H args us vs Q E hr he hb hv hs => codeAny_mono (F.run A outer s H args us vs Q E hr he hb hv hs) fun r s' h => by
    unfold CR at h ⊢
    split at h
    · exact h
    · exact h
    · exact ⟨w, h⟩⟩
theorem cxm_no {P : Program} (H : Hp) (s : Shared) (e : Value) (s' : Shared) (h : CXm P [] H s (fun _ _ _ => False) e s') : False := by
  obtain ⟨w, a, B, H', cls, d, h1, h2, h3, h4, h5, h6, h7, h8⟩ := h
  exact h8
end Ev
namespace Ev
open PySem PySem.Spec PyProof.Rows L2
/-! ### equations to compute by -/
def ifB {α : Type} (d : D) (x y z : α) : α := match d with
  | .bl true => x
  | .bl false => y
  | _ => z
@[simp] theorem ifB_bl {α : Type} (b : Bool) (x y z : α) : ifB (.bl b) x y z = if b = true then x else y := by cases b <;> rfl
def ofV (S : Store) : Option (Option D) → R D
  | some (some d) => .ok d S
  | _ => .stuck
@[simp] theorem ofV_some (S : Store) (d : D) : ofV S (some (some d)) = .ok d S := rfl
@[simp] theorem ofO_some (S : Store) (d : D) : ofO S (some d) = .ok d S := rfl
@[simp] theorem bind_ok {α β : Type} (a : α) (S : Store) (f : α → Store → R β) : (R.ok a S).bind f = f a S := rfl
@[simp] theorem bind_exn {α β : Type} (c : Nat) (S : Store) (f : α → Store → R β) : (R.exn c S).bind f = .exn c S := rfl
@[simp] theorem bind_stuck {α β : Type} (f : α → Store → R β) : (R.stuck).bind f = .stuck := rfl
@[simp] theorem bind_ite {α β : Type} (p : Prop) [Decidable p] (x y : R α) (f : α → Store → R β) : (if p then x else y).bind f = if p then x.bind f else y.bind f := by split <;> rfl
@[simp] theorem bind0_ok {α β : Type} (a : α) (S : Store) (f : α → Store → R β) : (R.ok a S).bind0 f = f a S := rfl
@[simp] theorem bind0_ite {α β : Type} (p : Prop) [Decidable p] (x y : R α) (f : α → Store → R β) : (if p then x else y).bind0 f = if p then x.bind0 f else y.bind0 f := by split <;> rfl
@[simp] theorem thenS_ok (δ : Env) (d : D) (S : Store) (f : D → Store → RS) : thenS δ (.ok d S) f = f d S := rfl
@[simp] theorem thenS_exn (δ : Env) (c : Nat) (S : Store) (f : D → Store → RS) : thenS δ (.exn c S) f = .exn c δ S := rfl
@[simp] theorem thenS_ite (δ : Env) (p : Prop) [Decidable p] (x y : R D) (f : D → Store → RS) : thenS δ (if p then x else y) f = if p then thenS δ x f else thenS δ y f := by split <;> rfl
def RS.seq (r : RS) (f : Env → Store → RS) : RS := match r with
  | .nx δ S => f δ S
  | x => x
@[simp] theorem seq_nx (δ : Env) (S : Store) (f : Env → Store → RS) : (RS.nx δ S).seq f = f δ S := rfl
@[simp] theorem seq_rt (d : D) (S : Store) (f : Env → Store → RS) : (RS.rt d S).seq f = .rt d S := rfl
@[simp] theorem seq_exn (c : Nat) (δ : Env) (S : Store) (f : Env → Store → RS) : (RS.exn c δ S).seq f = .exn c δ S := rfl
@[simp] theorem seq_ite (p : Prop) [Decidable p] (x y : RS) (f : Env → Store → RS) : (if p then x else y).seq f = if p then x.seq f else y.seq f := by split <;> rfl
section
variable (P : Par) (δ : Env) (S : Store)
@[simp] theorem evE_var (i : Nat) : evE P (.var i) δ S = ofV S δ[i]? := rfl
@[simp] theorem evE_lit (d : D) : evE P (.lit d) δ S = .ok d S := rfl
@[simp] theorem evE_con (k : Nat) : evE P (.con k) δ S = ofO S (P.con k) := rfl
@[simp] theorem evE_op2 (o : O2) (a b : E) : evE P (.op2 o a b) δ S = (evE P a δ S).bind fun x S => (evE P b δ S).bind fun y S => ofO S (op2 S o x y) := rfl
@[simp] theorem evE_op1 (o : O1) (a : E) : evE P (.op1 o a) δ S = (evE P a δ S).bind fun x S => ofO S (op1 S o x) := rfl
theorem notEq : evNot = fun (f : Env → Store → R D) δ S => (f δ S).bind fun x S => ifB x (.ok (.bl false) S) (.ok (.bl true) S) .stuck := by
  funext f δ S
  unfold evNot
  congr
  funext x S
  cases x <;> first | rfl | skip
  rename_i b
  cases b <;> rfl
@[simp] theorem evE_not (a : E) : evE P (.not a) δ S = (evE P a δ S).bind fun x S => ifB x (.ok (.bl false) S) (.ok (.bl true) S) .stuck := congrFun (congrFun (congrFun notEq (evE P a)) δ) S
@[simp] theorem evE_and (a b : E) : evE P (.and a b) δ S = (evE P a δ S).bind fun x S => ifB x (evE P b δ S) (.ok (.bl false) S) .stuck := rfl
@[simp] theorem evE_or (a b : E) : evE P (.or a b) δ S = (evE P a δ S).bind fun x S => ifB x (.ok (.bl true) S) (evE P b δ S) .stuck := by
  show evOr _ _ δ S = _
  unfold evOr
  congr
  funext x S
  cases x <;> first | rfl | skip
  rename_i b
  cases b <;> rfl
@[simp] theorem evE_ite (c a b : E) : evE P (.ite c a b) δ S = (evE P c δ S).bind fun x S => ifB x (evE P a δ S) (evE P b δ S) .stuck := rfl
def ifO (o : Option Bool) {α : Type} (x y z : α) : α := match o with
  | some true => x
  | some false => y
  | none => z
@[simp] theorem ifO_some {α : Type} (b : Bool) (x y z : α) : ifO (some b) x y z = if b = true then x else y := by cases b <;> rfl
@[simp] theorem evE_chn (o1 o2 : O2) (a b c : E) : evE P (.chn o1 o2 a b c) δ S = (evE P a δ S).bind fun x S => (evE P b δ S).bind fun y S => ifO (cmp2 S o1 x y) ((evE P c δ S).bind fun z S => ofO S ((cmp2 S o2 y z).map .bl)) (.ok (.bl false) S) .stuck := rfl
@[simp] theorem evE_tup (es : List E) : evE P (.tup es) δ S = (evEs P es δ S).bind fun ds S => if ds.length ≤ LIM then .ok (.tup ds) S else .stuck := rfl
@[simp] theorem evE_lst (m : Bool) (es : List E) : evE P (.lst m es) δ S = (evEs P es δ S).bind fun ds S => if ds.length ≤ LIM then newL m ds S else .stuck := rfl
def ofL (m : Bool) (S : Store) : Option (List D) → R D
  | some xs => newL m xs S
  | none => .stuck
@[simp] theorem ofL_some (m : Bool) (S : Store) (xs : List D) : ofL m S (some xs) = newL m xs S := rfl
@[simp] theorem evE_add (m : Bool) (a b : E) : evE P (.add m a b) δ S = (evE P a δ S).bind fun x S => (evE P b δ S).bind fun y S => ofL m S (addL S x y) := rfl
@[simp] theorem evE_mul (m : Bool) (a b : E) : evE P (.mul m a b) δ S = (evE P a δ S).bind fun x S => (evE P b δ S).bind fun y S => ofL m S (mulL S x y) := rfl
@[simp] theorem evE_lof (m : Bool) (a : E) : evE P (.lof m a) δ S = (evE P a δ S).bind fun x S => ofL m S (lofL S x) := rfl
@[simp] theorem evE_call (f : Nat) (es : List E) : evE P (.call f es) δ S = (evEs P es δ S).bind fun ds S => P.cf f ds S := rfl
@[simp] theorem evEs_nil : evEs P [] δ S = .ok [] S := rfl
@[simp] theorem evEs_cons (e : E) (es : List E) : evEs P (e :: es) δ S = (evE P e δ S).bind fun d S => (evEs P es δ S).bind fun ds S => .ok (d :: ds) S := rfl
@[simp] theorem evE_app (o e : E) : evE P (.app o e) δ S = (evE P o δ S).bind fun x S => if (lstAt S x).isSome then (evE P e δ S).bind fun y S => appD x y S else .stuck := rfl
@[simp] theorem evE_pop (o : E) : evE P (.pop o) δ S = (evE P o δ S).bind fun x S => popD x S := rfl
@[simp] theorem evE_popAt (o e : E) : evE P (.popAt o e) δ S = (evE P o δ S).bind fun x S => if (lstAt S x).isSome then (evE P e δ S).bind fun y S => popAtD x y S else .stuck := rfl
@[simp] theorem evE_idx (o e : E) : evE P (.idx o e) δ S = (evE P o δ S).bind fun x S => if (items S x).isSome then (evE P e δ S).bind fun y S => ofO S (idxO S x y) else .stuck := rfl
@[simp] theorem evE_cnt (o e : E) : evE P (.cnt o e) δ S = (evE P o δ S).bind fun x S => if (items S x).isSome then (evE P e δ S).bind fun y S => ofO S (cntO S x y) else .stuck := rfl
@[simp] theorem evE_join (o e : E) : evE P (.join o e) δ S = (evE P o δ S).bind fun x S => if isStr x then (evE P e δ S).bind fun y S => ofO S (joinO S x y) else .stuck := rfl
@[simp] theorem evE_split (o e : E) : evE P (.split o e) δ S = (evE P o δ S).bind fun x S => if isStr x then (evE P e δ S).bind fun y S => ofO S (splitO x y) else .stuck := rfl
@[simp] theorem evE_upp (o : E) : evE P (.upp o) δ S = (evE P o δ S).bind fun x S => ofO S (op1 S .upper x) := rfl
def ofI : D → (Int → R D) → R D
  | .int i, f => f i
  | _, _ => .stuck
@[simp] theorem ofI_int (i : Int) (f : Int → R D) : ofI (.int i) f = f i := rfl
@[simp] theorem evE_dic (m : Bool) (ks : List Str) (es : List E) : evE P (.dic m ks es) δ S = if ks = [] then newD m ks [] S else dispM m ks (evEs P es δ (S ++ [.dic []])) S := rfl
@[simp] theorem evE_slf (a b : E) : evE P (.slf a b) δ S = (evE P a δ S).bind fun x S => (evE P b δ S).bind fun i S => ofI i fun i => ofO S (cutD S (some i) none x) := by
  have h : evE P (.slf a b) δ S = (evE P a δ S).bind fun x S => (evE P b δ S).bind fun i S => (match i with
    | .int i => ofO S (cutD S (some i) none x)
    | _ => .stuck) := rfl
  rw [h]
  congr
  funext x S
  congr
  funext y S
  cases y <;> rfl
@[simp] theorem evE_slt (a b : E) : evE P (.slt a b) δ S = (evE P a δ S).bind fun x S => (evE P b δ S).bind fun i S => ofI i fun i => ofO S (cutD S none (some i) x) := by
  have h : evE P (.slt a b) δ S = (evE P a δ S).bind fun x S => (evE P b δ S).bind fun i S => (match i with
    | .int i => ofO S (cutD S none (some i) x)
    | _ => .stuck) := rfl
  rw [h]
  congr
  funext x S
  congr
  funext y S
  cases y <;> rfl
@[simp] theorem evE_lrg (m : Bool) (a b : E) : evE P (.lrg m a b) δ S = (evE P a δ S).bind fun x S => (evE P b δ S).bind fun y S => ofI x fun i => ofI y fun j => if 0 ≤ i ∧ i ≤ 100000 ∧ 0 ≤ j ∧ j ≤ 100000 then newL m (rngD i j) S else .stuck := by
  show evLrg _ _ _ δ S = _
  unfold evLrg
  congr
  funext x S
  congr
  funext y S
  cases x <;> cases y <;> rfl
@[simp] theorem evE_cmp (m : Bool) (elt : E) (vs : List Nat) (tg : Tg) (ik : IK) (its ifs : List E) : evE P (.cmp m elt vs tg ik its ifs) δ S = evCmp m ik tg vs (evEs P its) (evIfs P ifs) (evE P elt) δ S := rfl
@[simp] theorem evIfs_nil : evIfs P [] δ S = .ok true S := rfl
@[simp] theorem evIfs_one (e : E) : evIfs P [e] δ S = (evE P e δ S).bind fun d S => ifB d (.ok true S) (.ok false S) .stuck := by
  show evIf1 _ δ S = _
  unfold evIf1
  congr
  funext x S
  cases x <;> first | rfl | skip
  rename_i b
  cases b <;> rfl
@[simp] theorem evS_set (i : Nat) (e : E) : evS P (.set i e) δ S = thenS δ (evE P e δ S) fun d S => .nx (δ.set i (some d)) S := rfl
@[simp] theorem evS_ex (e : E) : evS P (.ex e) δ S = thenS δ (evE P e δ S) fun _ S => .nx δ S := rfl
@[simp] theorem evS_ret (e : E) : evS P (.ret e) δ S = thenS δ (evE P e δ S) fun d S => .rt d S := rfl
@[simp] theorem evS_ite (c : E) (a b : List Ev.S) : evS P (.ite c a b) δ S = thenS δ (evE P c δ S) fun d S => ifB d (evB P a δ S) (evB P b δ S) .stuck := rfl
@[simp] theorem evB_nil : evB P [] δ S = .nx δ S := rfl
@[simp] theorem evB_cons (s : Ev.S) (r : List Ev.S) : evB P (s :: r) δ S = (evS P s δ S).seq fun δ S => evB P r δ S := rfl
@[simp] theorem evS_for (tg : Tg) (ik : IK) (its : List E) (b : List Ev.S) : evS P (.for_ tg ik its b) δ S = sFor tg ik (evEs P its) (fun δ S => evB P b δ S) δ S := rfl
end
@[simp] theorem endF_rt (b : Bool) (S S' : Store) (d : D) : endF b S (.rt d S') = fin b S d S' := rfl
@[simp] theorem endF_nx (b : Bool) (S S' : Store) (δ : Env) : endF b S (.nx δ S') = fin b S .non S' := rfl
@[simp] theorem endF_ite (b : Bool) (S : Store) (p : Prop) [Decidable p] (x y : RS) : endF b S (if p then x else y) = if p then endF b S x else endF b S y := by split <;> rfl
@[simp] theorem fin_false (S S' : Store) (d : D) : fin false S d S' = .ok d S' := rfl
theorem fz_clo {n : Nat} {S : Store} {k : Nat} {d : D} (h : clo n d = true) : fz n S k d = some d := by
  cases k <;> (unfold fz; rw [if_pos h])
theorem fin_app {S T : Store} {d : D} (h : clo S.length d = true) : fin true S d (S ++ T) = .ok d S := by
  unfold fin
  rw [if_pos rfl, if_pos take_app, fz_clo h]
theorem fin_self {S : Store} {d : D} (h : clo S.length d = true) : fin true S d S = .ok d S := by
  have := fin_app (T := []) h
  rwa [List.append_nil] at this
@[simp] theorem fin_int (S : Store) (i : Int) : fin true S (.int i) S = .ok (.int i) S := fin_self rfl
@[simp] theorem fin_bl (S : Store) (i : Bool) : fin true S (.bl i) S = .ok (.bl i) S := fin_self rfl
@[simp] theorem fin_non (S : Store) : fin true S .non S = .ok .non S := fin_self rfl
@[simp] theorem fin_str (S : Store) (x : Str) : fin true S (.str x) S = .ok (.str x) S := fin_self rfl
@[simp] theorem fin_int' (S T : Store) (i : Int) : fin true S (.int i) (S ++ T) = .ok (.int i) S := fin_app rfl
@[simp] theorem fin_bl' (S T : Store) (i : Bool) : fin true S (.bl i) (S ++ T) = .ok (.bl i) S := fin_app rfl
theorem callF_is {T : Tb} {n f : Nat} {args : List D} {S : Store} {fd : Fd} (h : T.fns[f]? = some fd) (hl : args.length = fd.ps.length) : callF T (n + 1) f args S = endF fd.frz S (evB (parOf T n) fd.body (env0 fd args) S) := by
  conv => lhs; unfold callF
  rw [h]
  show (if _ then _ else _) = _
  rw [if_pos hl]
  rfl
@[simp] theorem parOf_cf (T : Tb) (n : Nat) : (parOf T n).cf = callF T n := rfl
@[simp] theorem parOf_con (T : Tb) (n : Nat) : (parOf T n).con = T.con := rfl
@[simp] theorem ofO_ite (S : Store) (p : Prop) [Decidable p] (a b : Option D) : ofO S (if p then a else b) = if p then ofO S a else ofO S b := by split <;> rfl
@[simp] theorem ofO_none (S : Store) : ofO S none = .stuck := rfl
section
variable (S : Store) (i j : Int) (x y : Str) (a b : Bool) (xs ys : List D)
@[simp] theorem o_add : op2 S .add (.int i) (.int j) = some (.int (i + j)) := rfl
@[simp] theorem o_sub : op2 S .sub (.int i) (.int j) = some (.int (i - j)) := rfl
@[simp] theorem o_lt : op2 S .lt (.int i) (.int j) = some (.bl (decide (i < j))) := rfl
@[simp] theorem o_le : op2 S .le (.int i) (.int j) = some (.bl (decide (i ≤ j))) := rfl
@[simp] theorem o_gt : op2 S .gt (.int i) (.int j) = some (.bl (decide (j < i))) := rfl
@[simp] theorem o_ge : op2 S .ge (.int i) (.int j) = some (.bl (decide (j ≤ i))) := rfl
@[simp] theorem o_mn : op2 S .mn (.int i) (.int j) = some (.int (if j < i then j else i)) := rfl
@[simp] theorem o_mx : op2 S .mx (.int i) (.int j) = some (.int (if j > i then j else i)) := rfl
@[simp] theorem c_lt : cmp2 S .lt (.int i) (.int j) = some (decide (i < j)) := rfl
@[simp] theorem c_le : cmp2 S .le (.int i) (.int j) = some (decide (i ≤ j)) := rfl
@[simp] theorem c_gt : cmp2 S .gt (.int i) (.int j) = some (decide (j < i)) := rfl
@[simp] theorem c_ge : cmp2 S .ge (.int i) (.int j) = some (decide (j ≤ i)) := rfl
@[simp] theorem o_mod (h : 0 < j) : op2 S .mod (.int i) (.int j) = some (.int (i % j)) := by simp only [op2]; rw [if_pos h]
@[simp] theorem o_fdiv (h : 0 < j) (h2 : j < 1073741824) : op2 S .fdiv (.int i) (.int j) = some (.int (i / j)) := by simp only [op2]; rw [if_pos ⟨h, h2⟩]
@[simp] theorem o_mul (h : -(2 ^ 64) < i) (h2 : i < 2 ^ 64) : op2 S .mul (.int i) (.int j) = some (.int (i * j)) := by simp only [op2]; rw [if_pos ⟨h, h2⟩]
@[simp] theorem o_pow9 : op2 S .pow (.int 10) (.int 9) = some (.int 1000000000) := rfl
@[simp] theorem o_pow30 : op2 S .pow (.int 10) (.int 30) = some (.int 1000000000000000000000000000000) := rfl
@[simp] theorem o_pow18 : op2 S .pow (.int 10) (.int 18) = some (.int 1000000000000000000) := rfl
@[simp] theorem o_addS (h : x.length + y.length ≤ LIM) : op2 S .add (.str x) (.str y) = some (.str (x ++ y)) := by simp only [op2]; rw [if_pos h]
@[simp] theorem o_addT (h : xs.length + ys.length ≤ LIM) : op2 S .add (.tup xs) (.tup ys) = some (.tup (xs ++ ys)) := by simp only [op2]; rw [if_pos h]
@[simp] theorem o_addL (h : xs.length + ys.length ≤ LIM) : op2 S .add (.lst xs) (.lst ys) = some (.lst (xs ++ ys)) := by simp only [op2, addL, items]; rw [if_pos h]; rfl
@[simp] theorem o_eqI : op2 S .eq (.int i) (.int j) = some (.bl (decide (i = j))) := by
  have e : op2 S .eq (.int i) (.int j) = some (.bl (i == j)) := rfl
  rw [e]
  by_cases h : i = j <;> simp [h]
@[simp] theorem o_neI : op2 S .ne (.int i) (.int j) = some (.bl (!decide (i = j))) := by
  have e : op2 S .ne (.int i) (.int j) = some (.bl (!(i == j))) := rfl
  rw [e]
  by_cases h : i = j <;> simp [h]
@[simp] theorem o_eqS : op2 S .eq (.str x) (.str y) = some (.bl (x == y)) := rfl
@[simp] theorem o_neS : op2 S .ne (.str x) (.str y) = some (.bl (!(x == y))) := rfl
@[simp] theorem o_eqB : op2 S .eq (.bl a) (.bl b) = some (.bl (a == b)) := rfl
@[simp] theorem o_neB : op2 S .ne (.bl a) (.bl b) = some (.bl (!(a == b))) := rfl
@[simp] theorem o_getL : op2 S .get (.lst xs) (.int i) = ixD xs i := rfl
@[simp] theorem o_getT : op2 S .get (.tup xs) (.int i) = ixD xs i := rfl
@[simp] theorem o_lenL : op1 S .len (.lst xs) = some (.int xs.length) := rfl
@[simp] theorem o_lenT : op1 S .len (.tup xs) = some (.int xs.length) := rfl
@[simp] theorem o_lenR (ns : List Int) : op1 S .len (.scr ns) = some (.int ns.length) := rfl
@[simp] theorem o_lenS (h : x.length ≤ LIM) : op1 S .len (.str x) = some (.int x.length) := by simp only [op1]; rw [if_pos h]
@[simp] theorem o_neg : op1 S .neg (.int i) = some (.int (-i)) := rfl
@[simp] theorem o_intB : op1 S .int (.bl a) = some (.int (if a then 1 else 0)) := rfl
@[simp] theorem o_isi (t : Ty) (d : D) : op1 S (.isi t) d = (tyIs S t d).map .bl := rfl
end
@[simp] theorem newL_t (xs : List D) (S : Store) : newL true xs S = .ok (.loc S.length) (S ++ [.lst xs]) := rfl
@[simp] theorem newL_f (xs : List D) (S : Store) : newL false xs S = .ok (.lst xs) S := rfl
@[simp] theorem LIM_nat : LIM = 16777216 := by decide
end Ev
namespace Ev
open PySem PySem.Spec PyProof.Rows L2
/-! ### laws of the small operations -/
theorem seq_seq (r : RS) (f g : Env → Store → RS) : (r.seq f).seq g = r.seq fun δ S => (f δ S).seq g := by cases r <;> rfl
theorem atI_nat {α : Type} (xs : List α) (i : Nat) (h : i < xs.length) : L2.atI xs (i : Int) = some xs[i] := by
  unfold L2.atI L2.ixN
  simp [h]
theorem atI_neg {α : Type} (xs : List α) (i : Nat) (h : i < xs.length) : L2.atI xs (-((i : Int) + 1)) = some (xs[xs.length - 1 - i]'(by omega)) := by
  unfold L2.atI L2.ixN
  have h1 : ¬ (0 ≤ -((i : Int) + 1)) := by omega
  have h2 : -((i : Int) + 1) + xs.length = ((xs.length - 1 - i : Nat) : Int) := by omega
  have h3 : xs.length - 1 - i < xs.length := by omega
  rw [if_neg h1, if_pos (by omega), Option.bind_some, h2]
  simp [h3]
theorem stays_nil {S : Store} : stays S [] = true := by
  unfold stays
  classical
  exact decide_eq_true fun p hp => by cases hp
theorem stays_one {S : Store} {n : Nat} {xs : List D} (h : S[n]? = some (.lst xs)) : stays S [(n, xs)] = true := by
  unfold stays
  classical
  refine decide_eq_true fun p hp => ?_
  cases List.mem_singleton.mp hp
  exact h
/-! ### comprehensions that run through -/
section
variable {ch : List (Nat × List D)} {f : D → Store → R (Option D)} {S : Store} {g : D → Option D}
theorem compF_run (hs : stays S ch = true) : ∀ {xs acc : List D}, (∀ x ∈ xs, ∀ acc, f x (S ++ [.lst acc]) = .ok (g x) (S ++ [.lst acc])) → (∀ x ∈ xs, clos S.length (g x).toList = true) → compF ch f S xs acc = .ok (.lst (acc ++ xs.filterMap g)) S
  | [], acc, _, _ => by simp [compF, hs]
  | x :: xs, acc, h, hc => by
    unfold compF
    rw [if_pos hs, h x (List.mem_cons_self ..) acc, bind0_ok, if_pos ⟨rfl, hc x (List.mem_cons_self ..)⟩, compF_run hs (fun y hy => h y (List.mem_cons_of_mem _ hy)) fun y hy => hc y (List.mem_cons_of_mem _ hy)]
    cases hg : g x <;> simp [hg]
theorem compT_run (hs : stays S ch = true) : ∀ {xs acc : List D}, (∀ x ∈ xs, ∀ acc, f x (S ++ [.lst acc]) = .ok (g x) (S ++ [.lst acc])) → acc.length + xs.length ≤ LIM → compT S.length ch f xs (S ++ [.lst acc]) = .ok (.loc S.length) (S ++ [.lst (acc ++ xs.filterMap g)])
  | [], acc, _, _ => by simp [compT, stays_app hs]
  | x :: xs, acc, h, hl => by
    unfold compT
    have hlt : acc.length < LIM := by simp only [List.length_cons] at hl; omega
    rw [if_pos (stays_app hs), h x (List.mem_cons_self ..) acc, bind0_ok]
    have e : (S ++ [Cell.lst acc])[S.length]? = some (.lst acc) := by simp
    rw [e]
    dsimp only
    rw [if_pos hlt]
    have e2 : (S ++ [Cell.lst acc]).set S.length (.lst (acc ++ (g x).toList)) = S ++ [.lst (acc ++ (g x).toList)] := by simp
    rw [e2, compT_run hs (fun y hy => h y (List.mem_cons_of_mem _ hy))]
    · cases hg : g x <;> simp [hg]
    · have : (g x).toList.length ≤ 1 := by cases g x <;> simp
      simp only [List.length_cons, List.length_append] at hl ⊢
      omega
end
theorem evCmp_F {ik : IK} {tg : Tg} {vs : List Nat} {gi : Env → Store → R (List D)} {ti : Env → Store → R Bool} {fe : Env → Store → R D} {δ : Env} {S S1 : Store} {ds xs : List D} {ch : List (Nat × List D)} (g : D → Option D)
    (h1 : gi δ S = .ok ds S1) (h2 : walkOf S1 ik ds = some (xs, ch)) (hs : stays S1 ch = true) (hl : xs.length ≤ LIM) (h : ∀ x ∈ xs, ∀ acc, turnC vs tg ti fe δ x (S1 ++ [.lst acc]) = .ok (g x) (S1 ++ [.lst acc])) (hc : ∀ x ∈ xs, clos S1.length (g x).toList = true) :
    evCmp false ik tg vs gi ti fe δ S = .ok (.lst (xs.filterMap g)) S1 := by
  unfold evCmp compM
  rw [h1, bind_ok, h2]
  dsimp only
  rw [if_pos hl]
  have := compF_run (acc := []) hs h hc
  simpa using this
theorem evCmp_T {ik : IK} {tg : Tg} {vs : List Nat} {gi : Env → Store → R (List D)} {ti : Env → Store → R Bool} {fe : Env → Store → R D} {δ : Env} {S S1 : Store} {ds xs : List D} {ch : List (Nat × List D)} (g : D → Option D)
    (h1 : gi δ S = .ok ds S1) (h2 : walkOf S1 ik ds = some (xs, ch)) (hs : stays S1 ch = true) (hl : xs.length ≤ LIM) (h : ∀ x ∈ xs, ∀ acc, turnC vs tg ti fe δ x (S1 ++ [.lst acc]) = .ok (g x) (S1 ++ [.lst acc])) :
    evCmp true ik tg vs gi ti fe δ S = .ok (.loc S1.length) (S1 ++ [.lst (xs.filterMap g)]) := by
  unfold evCmp compM
  rw [h1, bind_ok, h2]
  dsimp only
  rw [if_pos hl]
  have := compT_run (acc := []) hs h (by simpa using hl)
  simpa using this
/-- a loop by what stays true at its turns -/
theorem forL_run {ch : List (Nat × List D)} {tg : Tg} {f : Env → Store → RS} (I : Nat → Env → Store → Prop) : ∀ {xs : List D} {k : Nat} {δ : Env} {S : Store}, I k δ S → (∀ i δ S, I i δ S → stays S ch = true) →
    (∀ i x δ S, xs[i]? = some x → I (k + i) δ S → ∃ δ1, setT tg x δ = some δ1 ∧ ∃ δ2 S2, f δ1 S = .nx δ2 S2 ∧ I (k + i + 1) δ2 S2) → ∃ δ' S', forL ch tg f xs δ S = .nx δ' S' ∧ I (k + xs.length) δ' S'
  | [], k, δ, S, h0, hs, _ => ⟨δ, S, by simp [forL, hs _ _ _ h0], h0⟩
  | x :: xs, k, δ, S, h0, hs, h => by
    obtain ⟨δ1, e1, δ2, S2, e2, h1⟩ := h 0 x δ S rfl h0
    obtain ⟨δ', S', e3, h2⟩ := forL_run I (xs := xs) (k := k + 1) h1 hs fun i y δ S hy hi => by
      have := h (i + 1) y δ S hy (by rw [show k + (i + 1) = k + 1 + i by omega]; exact hi)
      rw [show k + (i + 1) + 1 = k + 1 + i + 1 by omega] at this
      exact this
    refine ⟨δ', S', ?_, by rw [List.length_cons, show k + (xs.length + 1) = k + 1 + xs.length by omega]; exact h2⟩
    unfold forL
    rw [if_pos (hs _ _ _ h0), e1]
    dsimp only
    rw [e2]
    exact e3
mutual
theorem clo_mono {n : Nat} : ∀ d : D, clo 0 d = true → clo n d = true
  | .tup xs, h => clos_mono xs h
  | .lst xs, h => clos_mono xs h
  | .dic _ xs, h => clos_mono xs h
  | .loc _, h => by simp [clo] at h
  | .opq _, _ => rfl
  | .non, _ | .bl _, _ | .int _, _ | .str _, _ | .scr _, _ => rfl
theorem clos_mono {n : Nat} : ∀ xs : List D, clos 0 xs = true → clos n xs = true
  | [], _ => rfl
  | x :: xs, h => by
    have h := Bool.and_eq_true_iff.mp h
    exact Bool.and_eq_true_iff.mpr ⟨clo_mono x h.1, clos_mono xs h.2⟩
end
theorem fin_clo {S : Store} {d : D} (h : clo 0 d = true) : fin true S d S = .ok d S := fin_self (clo_mono d h)
theorem dic_F {ks : List Str} {vs : List D} {S : Store} (h1 : ks.length = vs.length) (h2 : ks.Nodup) (h3 : ks.length ≤ 15) (h4 : clos 0 vs = true) : dispM false ks (.ok vs (S ++ [.dic []])) S = .ok (.dic ks vs) S := by
  unfold dispM
  rw [bind_ok, if_pos ⟨h1, h2, h3⟩, if_neg (by simp), if_pos ⟨rfl, clos_mono vs h4⟩]
/-- a loop that looks for a bad one -/
theorem forL_find {ch : List (Nat × List D)} {i : Nat} {f : Env → Store → RS} {S : Store} {r : D} {bad : D → Bool} (hs : stays S ch = true) : ∀ {xs : List D} {δ : Env}, (∀ x ∈ xs, f (δ.set i (some x)) S = if bad x then .rt r S else .nx (δ.set i (some x)) S) →
    ∃ δ', (δ' = δ ∨ ∃ x, δ' = δ.set i (some x)) ∧ forL ch (.nm i) f xs δ S = if xs.any bad then .rt r S else .nx δ' S
  | [], δ, _ => ⟨δ, .inl rfl, by simp [forL, hs]⟩
  | x :: xs, δ, h => by
    have h1 := h x (List.mem_cons_self ..)
    obtain ⟨δ', e1, e2⟩ := forL_find hs (xs := xs) (δ := δ.set i (some x)) fun y hy => by rw [List.set_set]; exact h y (List.mem_cons_of_mem _ hy)
    refine ⟨δ', .inr ?_, ?_⟩
    · rcases e1 with e1 | ⟨y, e1⟩
      · exact ⟨x, e1⟩
      · exact ⟨y, by rw [e1, List.set_set]⟩
    · unfold forL
      rw [if_pos hs]
      simp only [setT]
      rw [h1, List.any_cons]
      cases hb : bad x
      · simp only [Bool.false_eq_true, if_false, Bool.false_or]
        exact e2
      · simp
@[simp] theorem ixD_zero (a : D) (as : List D) : ixD (a :: as) 0 = some a := atI_nat (a :: as) 0 (by simp)
theorem pick {xs : List D} {i : Int} (h : 0 ≤ i ∧ i < xs.length) : ∃ d ∈ xs, ixD xs i = some d := by
  obtain ⟨k, rfl⟩ := Int.eq_ofNat_of_zero_le h.1
  have hk : k < xs.length := by omega
  exact ⟨xs[k], List.getElem_mem hk, atI_nat xs k hk⟩
theorem flats_of {n : Nat} : ∀ {l : List D}, (∀ x ∈ l, flat n x = true) → flats n l = true
  | [], _ => rfl
  | x :: l, h => Bool.and_eq_true_iff.mpr ⟨h x (List.mem_cons_self ..), flats_of fun y hy => h y (List.mem_cons_of_mem _ hy)⟩
theorem clos_of {n : Nat} : ∀ {l : List D}, (∀ x ∈ l, clo n x = true) → clos n l = true
  | [], _ => rfl
  | x :: l, h => Bool.and_eq_true_iff.mpr ⟨h x (List.mem_cons_self ..), clos_of fun y hy => h y (List.mem_cons_of_mem _ hy)⟩
theorem eq_nil {S : Store} {l : List D} (h : flats 59 l = true) : op2 S .eq (.lst l) (.lst []) = some (.bl l.isEmpty) := by
  have f1 : isFlat (.lst l) = true := h
  have f2 : isFlat (.lst []) = true := rfl
  rw [show op2 S .eq (.lst l) (.lst []) = if isFlat (.lst l) && isFlat (.lst []) then some (.bl (eqD (.lst l) (.lst []))) else none from rfl, f1, f2]
  cases l <;> rfl
/-! ### lists of numbers -/
def intsD (ns : List Int) : List D := ns.map .int
@[simp] theorem ints_len (ns : List Int) : (intsD ns).length = ns.length := List.length_map _
theorem eqDs_ints : ∀ (xs ys : List Int), eqDs (intsD xs) (intsD ys) = decide (xs = ys)
  | [], [] => rfl
  | [], _ :: _ => rfl
  | _ :: _, [] => rfl
  | x :: xs, y :: ys => by
    have ih := eqDs_ints xs ys
    unfold intsD at ih ⊢
    simp only [List.map_cons, eqDs, ih, eqD]
    by_cases h : x = y <;> simp [h]
theorem flats_ints (n : Nat) : ∀ xs : List Int, flats n (intsD xs) = true
  | [] => rfl
  | x :: xs => by
    have := flats_ints n xs
    unfold intsD at this ⊢
    simp [flats, this, flat]
theorem clos_ints (n : Nat) : ∀ xs : List Int, clos n (intsD xs) = true
  | [] => rfl
  | x :: xs => by
    have := clos_ints n xs
    unfold intsD at this ⊢
    simp [clos, this, clo]
theorem byVal_items {S : Store} {d : D} {xs : List D} (h : items S d = some xs) : byVal S d = .lst xs := by
  cases d <;> simp only [items, reduceCtorEq, Option.some.injEq] at h
  · subst h; rfl
  · rename_i n
    simp only [byVal]
    split at h
    · cases h
      rfl
    · cases h
theorem op2_eq (S : Store) (a b : D) : op2 S .eq a b = if isFlat (byVal S a) && isFlat (byVal S b) then some (.bl (eqD (byVal S a) (byVal S b))) else none := rfl
theorem op2_ne (S : Store) (a b : D) : op2 S .ne a b = if isFlat (byVal S a) && isFlat (byVal S b) then some (.bl (!eqD (byVal S a) (byVal S b))) else none := rfl
theorem items_app {S T : Store} {d : D} {xs : List D} (h : items S d = some xs) : items (S ++ T) d = some xs := by
  cases d <;> simp only [items, reduceCtorEq, Option.some.injEq] at h ⊢
  · exact h
  · rename_i n
    split at h
    · rename_i ys e
      rw [List.getElem?_append_left (List.getElem?_eq_some_iff.mp e).1, e]
      exact h
    · cases h
theorem walk_items {S : Store} {d : D} {xs : List D} (h : items S d = some xs) : ∃ ch, walkOf S .ex [d] = some (xs, ch) ∧ stays S ch = true := by
  cases d <;> simp only [items, reduceCtorEq, Option.some.injEq] at h
  · subst h; exact ⟨[], rfl, stays_nil⟩
  · rename_i n
    split at h
    · rename_i ys e
      cases h
      exact ⟨[(n, xs)], by simp [walkOf, lstAt, e], stays_one e⟩
    · cases h
theorem eq_items {S : Store} {a b : D} {xs ys : List Int} (ha : items S a = some (intsD xs)) (hb : items S b = some (intsD ys)) : op2 S .eq a b = some (.bl (decide (xs = ys))) := by
  have f : ∀ xs, isFlat (.lst (intsD xs)) = true := fun xs => by
    unfold isFlat flat
    exact flats_ints _ _
  rw [op2_eq, byVal_items ha, byVal_items hb, f, f]
  simp [eqD, eqDs_ints]
theorem ne_items {S : Store} {a b : D} {xs ys : List Int} (ha : items S a = some (intsD xs)) (hb : items S b = some (intsD ys)) : op2 S .ne a b = some (.bl (!decide (xs = ys))) := by
  have f : ∀ xs, isFlat (.lst (intsD xs)) = true := fun xs => by
    unfold isFlat flat
    exact flats_ints _ _
  rw [op2_ne, byVal_items ha, byVal_items hb, f, f]
  simp [eqD, eqDs_ints]
theorem rngD_ints (a b : Int) : rngD a b = intsD ((List.range (b - a).toNat).map fun (i : Nat) => a + i) := by
  unfold rngD intsD
  rw [List.map_map]
  rfl
theorem rng_get {b : Int} {i : Nat} {x : D} (h : (rngD 0 b)[i]? = some x) : (i : Int) < b ∧ x = .int (i : Nat) := by
  unfold rngD at h
  rw [List.getElem?_map] at h
  obtain ⟨j, h1, h2⟩ := Option.map_eq_some_iff.mp h
  obtain ⟨h3, h4⟩ := List.getElem?_eq_some_iff.mp h1
  simp at h3 h4
  subst h4
  exact ⟨by omega, by simpa using h2.symm⟩
theorem seqO_clo {n : Nat} {S : Store} {k : Nat} : ∀ {ds : List D}, clos n ds = true → seqO (ds.map (fz n S k)) = some ds
  | [], _ => rfl
  | d :: ds, h => by
    have h := Bool.and_eq_true_iff.mp h
    have ih := seqO_clo (S := S) (k := k) h.2
    unfold List.map seqO
    rw [fz_clo h.1, ih]
/-- a new list, given out and told by value -/
theorem fin_new {S : Store} {xs : List D} (h : clos 0 xs = true) : fin true S (.loc S.length) (S ++ [.lst xs]) = .ok (.lst xs) S := by
  unfold fin
  rw [if_pos rfl, if_pos take_app]
  have nc : clo S.length (.loc S.length) = false := by simp [clo]
  have hg : (S ++ [Cell.lst xs])[S.length]? = some (.lst xs) := by simp
  have e : fz S.length (S ++ [.lst xs]) 20 (.loc S.length) = some (.lst xs) := by
    unfold fz
    rw [if_neg (by rw [nc]; exact Bool.false_ne_true)]
    simp only [hg]
    rw [seqO_clo (clos_mono _ h)]
    rfl
  rw [e]
theorem at_new (S : Store) (xs : List D) : lstAt (S ++ [.lst xs]) (.loc S.length) = some (S.length, xs) := by simp [lstAt]
theorem app_new (S : Store) (xs : List D) (y : D) (h : xs.length ≤ 10000000) : appD (.loc S.length) y (S ++ [.lst xs]) = .ok .non (S ++ [.lst (xs ++ [y])]) := by
  unfold appD
  rw [at_new]
  simp
  omega
theorem ne_nil {S : Store} {l : List D} (h : flats 59 l = true) : op2 S .ne (.lst l) (.lst []) = some (.bl (!l.isEmpty)) := by
  have f1 : isFlat (.lst l) = true := h
  have f2 : isFlat (.lst []) = true := rfl
  rw [show op2 S .ne (.lst l) (.lst []) = if isFlat (.lst l) && isFlat (.lst []) then some (.bl (!eqD (.lst l) (.lst []))) else none from rfl, f1, f2]
  cases l <;> rfl
/-- [e for k in range(n)] -/
theorem rng_cmp {P : Par} {δ : Env} {S : Store} {elt e : E} {j : Nat} {N : Int} {g : Nat → D} (hN : evE P e δ S = .ok (.int N) S) (h0 : 0 ≤ N ∧ N ≤ 100000) (hc : ∀ i, clo 0 (g i) = true)
    (h : ∀ i : Nat, (i : Int) < N → ∀ T, evE P elt (δ.set j (some (.int i))) (S ++ T) = .ok (g i) (S ++ T)) : evE P (.cmp false elt [j] (.nm j) .rng1 [e] []) δ S = .ok (.lst ((List.range N.toNat).map g)) S := by
  rw [evE_cmp]
  have lr : (rngD 0 N).length = N.toNat := by simp [rngD]
  rw [evCmp_F (S1 := S) (ds := [.int N]) (xs := rngD 0 N) (ch := []) (g := fun d => match d with
    | .int i => if (i : Int) < N then some (g i.toNat) else none
    | _ => none) (by simp [hN]) (by simp [walkOf]; omega) stays_nil (by rw [lr, LIM_nat]; omega) (fun x hx acc => ?_) (fun x hx => ?_)]
  · congr 2
    unfold rngD
    rw [List.filterMap_map, show (N - 0).toNat = N.toNat by omega]
    have : ∀ l : List Nat, (∀ i ∈ l, (i : Int) < N) → l.filterMap ((fun d => match d with
      | D.int i => if (i : Int) < N then some (g i.toNat) else none
      | _ => none) ∘ fun (i : Nat) => D.int (0 + i)) = l.map g := by
      intro l
      induction l with
      | nil => intro _; rfl
      | cons a l ih =>
        intro hl
        have ha := hl a (List.mem_cons_self ..)
        have e : ((fun d => match d with
          | D.int i => if (i : Int) < N then some (g i.toNat) else none
          | _ => none) ∘ fun (i : Nat) => D.int (0 + i)) a = some (g a) := by
          simp [ha]
        rw [List.filterMap_cons, e, List.map_cons, ih fun i hi => hl i (List.mem_cons_of_mem _ hi)]
    exact this _ fun i hi => by have := List.mem_range.mp hi; omega
  · obtain ⟨i, hi⟩ := List.mem_iff_getElem?.mp hx
    obtain ⟨h1, rfl⟩ := rng_get hi
    have := h i h1 [.lst acc]
    simp [turnC, setT, wipeE, this, h1]
  · obtain ⟨i, hi⟩ := List.mem_iff_getElem?.mp hx
    obtain ⟨h1, rfl⟩ := rng_get hi
    simp [h1, clos, clo_mono _ (hc i)]
/-- a comprehension whose results are known one by one -/
theorem compT_all {ch : List (Nat × List D)} {f : D → Store → R (Option D)} {S : Store} (hs : stays S ch = true) : ∀ {xs ys acc : List D}, xs.length = ys.length → (∀ (i : Nat) x y, xs[i]? = some x → ys[i]? = some y → ∀ acc, f x (S ++ [.lst acc]) = .ok (some y) (S ++ [.lst acc])) → acc.length + xs.length ≤ LIM →
    compT S.length ch f xs (S ++ [.lst acc]) = .ok (.loc S.length) (S ++ [.lst (acc ++ ys)])
  | [], [], acc, _, _, _ => by simp [compT, stays_app hs]
  | [], _ :: _, _, h, _, _ => by cases h
  | _ :: _, [], _, h, _, _ => by cases h
  | x :: xs, y :: ys, acc, he, h, hl => by
    unfold compT
    have hlt : acc.length < LIM := by simp only [List.length_cons] at hl; omega
    rw [if_pos (stays_app hs), h 0 x y rfl rfl acc, bind0_ok]
    have e : (S ++ [Cell.lst acc])[S.length]? = some (.lst acc) := by simp
    rw [e]
    dsimp only
    rw [if_pos hlt]
    have e2 : (S ++ [Cell.lst acc]).set S.length (.lst (acc ++ (some y).toList)) = S ++ [.lst (acc ++ [y])] := by simp
    rw [e2, compT_all hs (by simpa using he) (fun i x' y' hx hy => h (i + 1) x' y' (by simpa using hx) (by simpa using hy))]
    · simp
    · simp only [List.length_cons, List.length_append, List.length_nil] at hl ⊢
      omega
theorem evCmp_T2 {ik : IK} {tg : Tg} {vs : List Nat} {gi : Env → Store → R (List D)} {ti : Env → Store → R Bool} {fe : Env → Store → R D} {δ : Env} {S S1 : Store} {ds xs ys : List D} {ch : List (Nat × List D)}
    (h1 : gi δ S = .ok ds S1) (h2 : walkOf S1 ik ds = some (xs, ch)) (hs : stays S1 ch = true) (hl : xs.length ≤ LIM) (he : xs.length = ys.length) (h : ∀ (i : Nat) x y, xs[i]? = some x → ys[i]? = some y → ∀ acc, turnC vs tg ti fe δ x (S1 ++ [.lst acc]) = .ok (some y) (S1 ++ [.lst acc])) :
    evCmp true ik tg vs gi ti fe δ S = .ok (.loc S1.length) (S1 ++ [.lst ys]) := by
  unfold evCmp compM
  rw [h1, bind_ok, h2]
  dsimp only
  rw [if_pos hl]
  have := compT_all (acc := []) hs he h (by simpa using hl)
  simpa using this
mutual
theorem eqD_refl : ∀ (n : Nat) (d : D), flat n d = true → eqD d d = true
  | _, .non, _ => rfl
  | _, .bl b, _ => by cases b <;> rfl
  | _, .int i, _ => by simp [eqD]
  | _, .str s, _ => by simp [eqD]
  | _, .scr _, h => by simp [flat] at h
  | 0, .tup xs, h => by simp [flat] at h
  | n + 1, .tup xs, h => by
    simp only [flat] at h
    simp only [eqD]
    exact eqDs_refl n xs h
  | 0, .lst xs, h => by simp [flat] at h
  | n + 1, .lst xs, h => by
    simp only [flat] at h
    simp only [eqD]
    exact eqDs_refl n xs h
  | _, .dic _ _, h => by simp [flat] at h
  | _, .loc _, h => by simp [flat] at h
  | _, .opq _, h => by simp [flat] at h
theorem eqDs_refl : ∀ (n : Nat) (xs : List D), flats n xs = true → eqDs xs xs = true
  | _, [], _ => rfl
  | n, x :: xs, h => by
    have h := Bool.and_eq_true_iff.mp h
    simp only [eqDs, eqD_refl n x h.1, eqDs_refl n xs h.2, Bool.and_self]
end
theorem eq_self {S : Store} {a b : D} {xs : List D} (ha : items S a = some xs) (hb : items S b = some xs) (h : flats 59 xs = true) : op2 S .eq a b = some (.bl true) ∧ op2 S .ne a b = some (.bl false) := by
  have f : isFlat (.lst xs) = true := h
  have e : eqD (.lst xs) (.lst xs) = true := eqD_refl 60 _ h
  rw [op2_eq, op2_ne, byVal_items ha, byVal_items hb, f, e]
  exact ⟨rfl, rfl⟩
def keepI (p : Int → Bool) : D → Option D
  | .int i => if p i then some (.int i) else none
  | _ => none
theorem filterMap_ints (p : Int → Bool) : ∀ xs : List Int, (intsD xs).filterMap (keepI p) = intsD (xs.filter p)
  | [] => rfl
  | x :: xs => by
    have := filterMap_ints p xs
    unfold intsD at this ⊢
    cases h : p x <;> simp [h, this, keepI]
theorem mem_ints {xs : List Int} {d : D} (h : d ∈ intsD xs) : ∃ i, d = .int i ∧ i ∈ xs := by
  obtain ⟨i, h1, h2⟩ := List.mem_map.mp h
  exact ⟨i, h2.symm, h1⟩
end Ev
namespace Ev
open PySem PySem.Spec PyProof.Rows L2
/-! ### the head's facts of the exceptions' classes -/
def excB (K : PySem.W.Frag) (C : Addr) : Bool :=
  decide (PySem.W.findIn K (.ref C) "__getattribute__" = some (some (.builtin "BaseException.__getattribute__"))) && (decide (PySem.W.findIn K (.ref C) "__getattr__" = some none) && (decide (PySem.W.subIn K (.ref C) (.type "BaseException") = some true) &&
  (PySem.W.hasDictIn K C && (decide (PySem.W.findIn K (.ref C) "__class__" = some (some (.builtin "object.__class__"))) && (decide (PySem.W.specialIn K (.builtin "object.__class__") "__get__" = some (some (.builtin "getset_descriptor.__get__"))) &&
  (decide (PySem.W.takesIn K (.builtin "object.__class__") = some true) && decide (PySem.W.mroIn K C (.type "object") = some true)))))))
theorem excB_ok {K : PySem.W.Frag} {C : Addr} (h : excB K C = true) : ExcC K C := by
  unfold excB at h
  simp only [Bool.and_eq_true, decide_eq_true_eq] at h
  obtain ⟨h1, h2, h3, h4, h5, h6, h7, h8⟩ := h
  exact ⟨h1, h2, h3, h4, h5, h6, h7, h8⟩
def kA (K : PySem.W.Frag) (c : Nat) : Addr := He.ga K (kCls.getD c "")
def kitsB (K : PySem.W.Frag) : Bool := (List.range 8).all fun c => decide (PySem.W.kitOne K (.ref (kA K c)) (.type "ValueError") = some true) && (excB K (kA K c) && (List.range 8).all fun i => decide (PySem.W.kitOne K (.ref (kA K c)) (.ref (kA K i)) = some (decide (c = i))))
theorem kitsB_ok {K : PySem.W.Frag} (h : kitsB K = true) {c : Nat} (hc : c < 8) : PySem.W.kitOne K (.ref (kA K c)) (.type "ValueError") = some true ∧ ExcC K (kA K c) ∧ ∀ i, i < 8 → PySem.W.kitOne K (.ref (kA K c)) (.ref (kA K i)) = some (decide (c = i)) := by
  unfold kitsB at h
  rw [List.all_eq_true] at h
  have := h c (List.mem_range.mpr hc)
  rw [Bool.and_eq_true, Bool.and_eq_true, decide_eq_true_eq, List.all_eq_true] at this
  exact ⟨this.1, excB_ok this.2.1, fun i hi => of_decide_eq_true (this.2.2 i (List.mem_range.mpr hi))⟩
def hookM (n : Nat) (fa : List He.Fa) (fn : List He.DefD) : PySem.W.Hook where
  α := He.AlD × Bool
  obs := fun s => (He.obsDG n fa fn s.heap.get?, kitsB (He.frG s.heap.get? (He.asD s.heap.get? n)))
  val := fun _ => (He.valD fn, true)
  says := fun _ h => ∃ K : PySem.W.Frag, K.In h ∧ He.SaysD fa fn K ∧ kitsB K = true
  of := fun _ _ e => ⟨_, He.frG_in, congrArg (fun z : He.AlD × Bool => z.1) e, congrArg (fun z : He.AlD × Bool => z.2) e⟩
  keeps := fun _ _ _ ⟨K, hK, c⟩ k => ⟨K, PySem.W.Frag.In.keeps hK k, c⟩
def obM (n : Nat) (fa : List He.Fa) (fn : List He.DefD) (g : Addr → Option Obj) : He.AlD × Bool := (He.obsDG n fa fn g, kitsB (He.frG g (He.asD g n)))
theorem obM_eq {n : Nat} {fa : List He.Fa} {fn : List He.DefD} {g : Addr → Option Obj} {s : Shared} (h : ∀ a, g a = s.heap.get? a) : obM n fa fn g = (hookM n fa fn).obs s := by
  have e : g = s.heap.get? := funext h
  rw [e] <;> rfl
def kExc : List (Str × Nat) := [("BadPlan", 0), ("BadLetter", 1), ("Stranger", 2), ("Gone", 3), ("Nothing", 4), ("Closed", 5), ("BadHistory", 6), ("BadText", 7)]
theorem xok_mk {K : PySem.W.Frag} {h : Heap} {mg : Str → Option Value} (X : K.In h) (G : h.Ns mainGlobals mg) (hc : ∀ c, c < 8 → (He.Fa.glo (kCls.getD c "")).ok K = true ∧ (He.Fa.exc (kCls.getD c "")).ok K = true ∧ (He.Fa.exm (kCls.getD c "") "HouseError" true).ok K = true)
    (hh : (He.Fa.glo "HouseError").ok K = true) (h1 : mg "isinstance" = none) (h2 : mg "range" = none) (h3 : mg "ValueError" = none) (kb : kitsB K = true)
    (kd : ∃ st fa fdt, FunD K "_law_kinds" "_law_kinds" (defArgs st) (defBody st) (defScope st) [] [] fa fdt ∧ mg "_law_kinds" = some (.ref fa) ∧ Binds K fdt ["_law_e"] [] ∧ C8.scC kN ["_law_e"] (defScope st) = true ∧ ckK (defScope st) (defBody st) = true) :
    XOk (kA K) K mg kExc "HouseError" "_law_kinds" where
  exc := fun x c hl => by
    have hm := lookup_mem hl
    have go : ∀ c, c < 8 → ExcK K (kA K c) ∧ mg (kCls.getD c "") = some (.ref (kA K c)) := fun c h8 => by
      obtain ⟨g1, g2, g3⟩ := hc c h8
      obtain ⟨e1, e2, e3, e4⟩ := He.exc_ok g2
      exact ⟨⟨e1, e2, e3, e4, (kitsB_ok kb h8).2.1⟩, He.glo_ok X G g1⟩
    simp only [kExc, List.mem_cons, Prod.mk.injEq, List.not_mem_nil, or_false] at hm
    rcases hm with ⟨rfl, rfl⟩ | ⟨rfl, rfl⟩ | ⟨rfl, rfl⟩ | ⟨rfl, rfl⟩ | ⟨rfl, rfl⟩ | ⟨rfl, rfl⟩ | ⟨rfl, rfl⟩ | ⟨rfl, rfl⟩
    · exact go 0 (by decide)
    · exact go 1 (by decide)
    · exact go 2 (by decide)
    · exact go 3 (by decide)
    · exact go 4 (by decide)
    · exact go 5 (by decide)
    · exact go 6 (by decide)
    · exact go 7 (by decide)
  hou := fun _ => ⟨_, He.glo_ok X G hh, fun c h8 => He.exm_ok (hc c h8).2.2⟩
  kd := fun _ => by
    obtain ⟨st, fa, fdt, k1, k2, k3, k4, k5⟩ := kd
    refine ⟨st, fa, fdt, k1, k2, k3, k4, k5, h1, h2, h3, fun c h8 i y hy => ?_, fun c h8 => (kitsB_ok kb h8).1, fun c h8 => (kitsB_ok kb h8).2.1⟩
    have hi : i < 8 := (List.getElem?_eq_some_iff.mp hy).1
    have hy2 : kCls.getD i "" = y := by rw [List.getD_eq_getElem?_getD, hy]; rfl
    refine ⟨?_, (kitsB_ok kb h8).2.2 i hi⟩
    rw [← hy2]
    exact He.glo_ok X G (hc i hi).1
end Ev
namespace LawK
open PySem PySem.Spec PyProof.Rows L2 Ev
abbrev pw : Program := PySem.Challenge.pw_wardhouse_k11_texts_refused
/-- (0 thing, 1 least, 2 most) -/
def f_is_number : Fd := ⟨["thing", "least", "most"], ["thing", "least", "most"], [.ret (.and (.op1 (.isi .int) (.var 0)) (.and (.not (.op1 (.isi .bool) (.var 0))) (.chn .le .le (.var 1) (.var 0) (.var 2))))], true⟩
def s_is_name_0 : Ev.S := .ite (.or (.not (.op1 (.isi .str) (.var 0))) (.not (.chn .le .le (.lit (.int 1)) (.op1 .len (.var 0)) (.con 1)))) [.ret (.lit (.bl false))] []
def b_is_name_1 : List Ev.S := [.ite (.op2 .notin (.var 1) (.con 0)) [.ret (.lit (.bl false))] []]
def s_is_name_1 : Ev.S := .for_ (.nm 1) .ex [.var 0] b_is_name_1
def s_is_name_2 : Ev.S := .ret (.lit (.bl true))
/-- (0 thing, 1 sign) -/
def f_is_name : Fd := ⟨["thing"], ["thing", "sign"], [s_is_name_0, s_is_name_1, s_is_name_2], true⟩
/-- (0 thing, 1 words) -/
def f_is_word_of : Fd := ⟨["thing", "words"], ["thing", "words"], [.ret (.and (.op1 (.isi .str) (.var 0)) (.op2 .in_ (.var 0) (.var 1)))], true⟩
/-- (0 thing, 1 word, 2 size) -/
def f_is_row : Fd := ⟨["thing", "word", "size"], ["thing", "word", "size"], [.ret (.and (.op1 (.isi .tuple) (.var 0)) (.and (.op2 .eq (.op1 .len (.var 0)) (.var 2)) (.call 2 [.op2 .get (.var 0) (.lit (.int 0)), .tup [.var 1]])))], true⟩
def s_is_letter_0 : Ev.S := .ite (.call 3 [.var 0, .lit (.str "add"), .lit (.int 2)]) [.ret (.call 0 [.op2 .get (.var 0) (.lit (.int 1)), .op1 .neg (.con 2), .con 2])] []
def s_is_letter_1 : Ev.S := .ret (.or (.call 3 [.var 0, .lit (.str "fault"), .lit (.int 1)]) (.call 3 [.var 0, .lit (.str "leave"), .lit (.int 1)]))
/-- (0 thing) -/
def f_is_letter : Fd := ⟨["thing"], ["thing"], [s_is_letter_0, s_is_letter_1], true⟩
def s_number_of_0 : Ev.S := .set 1 (.var 0)
def s_number_of_1 : Ev.S := .ite (.op2 .eq (.slt (.var 0) (.lit (.int 1))) (.lit (.str "-"))) [.set 1 (.slf (.var 0) (.lit (.int 1)))] []
def s_number_of_2 : Ev.S := .ite (.or (.not (.chn .le .le (.lit (.int 1)) (.op1 .len (.var 1)) (.lit (.int 10)))) (.and (.op2 .eq (.op2 .get (.var 1) (.lit (.int 0))) (.lit (.str "0"))) (.op2 .ne (.var 0) (.lit (.str "0"))))) [.ret (.lit .non)] []
def b_number_of_3 : List Ev.S := [.ite (.op2 .notin (.var 2) (.con 3)) [.ret (.lit .non)] []]
def s_number_of_3 : Ev.S := .for_ (.nm 2) .ex [.var 1] b_number_of_3
def s_number_of_4 : Ev.S := .ret (.op1 .int (.var 0))
/-- (0 word, 1 figures, 2 sign) -/
def f_number_of : Fd := ⟨["word"], ["word", "figures", "sign"], [s_number_of_0, s_number_of_1, s_number_of_2, s_number_of_3, s_number_of_4], true⟩
def s_letter_of_0 : Ev.S := .set 1 (.op1 .tuple (.var 0))
def s_letter_of_1 : Ev.S := .ite (.op2 .eq (.op1 .len (.var 0)) (.lit (.int 2))) [.set 1 (.tup [.op2 .get (.var 0) (.lit (.int 0)), .call 5 [.op2 .get (.var 0) (.lit (.int 1))]])] []
def s_letter_of_2 : Ev.S := .ite (.call 4 [.var 1]) [.ret (.var 1)] []
def s_letter_of_3 : Ev.S := .ret (.lit .non)
/-- (0 words, 1 letter) -/
def f_letter_of : Fd := ⟨["words"], ["words", "letter"], [s_letter_of_0, s_letter_of_1, s_letter_of_2, s_letter_of_3], true⟩
def s_event_of_0 : Ev.S := .ite (.or (.op2 .lt (.op1 .len (.var 0)) (.lit (.int 2))) (.not (.call 1 [.op2 .get (.var 0) (.lit (.int 1))]))) [.ret (.lit .non)] []
def s_event_of_1 : Ev.S := .ite (.and (.op2 .in_ (.op2 .get (.var 0) (.lit (.int 0))) (.tup [.lit (.str "begins"), .lit (.str "ends"), .lit (.str "fails"), .lit (.str "leaves")])) (.op2 .eq (.op1 .len (.var 0)) (.lit (.int 2)))) [.ret (.tup [.op2 .get (.var 0) (.lit (.int 0)), .op2 .get (.var 0) (.lit (.int 1))])] []
def s_event_of_2 : Ev.S := .ite (.or (.op2 .notin (.op2 .get (.var 0) (.lit (.int 0))) (.tup [.lit (.str "works"), .lit (.str "lost"), .lit (.str "sent")])) (.or (.op2 .lt (.op1 .len (.var 0)) (.lit (.int 3))) (.not (.call 0 [.call 5 [.op2 .get (.var 0) (.lit (.int 2))], .lit (.int 1), .con 4])))) [.ret (.lit .non)] []
def s_event_of_3 : Ev.S := .ite (.op2 .ne (.op2 .get (.var 0) (.lit (.int 0))) (.lit (.str "sent"))) [.ret (.ite (.op2 .eq (.op1 .len (.var 0)) (.lit (.int 3))) (.tup [.op2 .get (.var 0) (.lit (.int 0)), .op2 .get (.var 0) (.lit (.int 1)), .call 5 [.op2 .get (.var 0) (.lit (.int 2))]]) (.lit .non))] []
def s_event_of_4 : Ev.S := .set 1 (.call 6 [.slf (.var 0) (.lit (.int 3))])
def s_event_of_5 : Ev.S := .ite (.op2 .is_ (.var 1) (.lit .non)) [.ret (.lit .non)] []
def s_event_of_6 : Ev.S := .ret (.tup [.lit (.str "sent"), .op2 .get (.var 0) (.lit (.int 1)), .call 5 [.op2 .get (.var 0) (.lit (.int 2))], .var 1])
/-- (0 words, 1 letter) -/
def f_event_of : Fd := ⟨["words"], ["words", "letter"], [s_event_of_0, s_event_of_1, s_event_of_2, s_event_of_3, s_event_of_4, s_event_of_5, s_event_of_6], true⟩
def s_read_0 : Ev.S := .ite (.not (.op1 (.isi .str) (.var 0))) [.raise 7] []
def s_read_1 : Ev.S := .set 1 (.split (.var 0) (.lit (.str "\n")))
def s_read_2 : Ev.S := .ite (.op2 .ne (.op2 .get (.var 1) (.op1 .neg (.lit (.int 1)))) (.lit (.str ""))) [.raise 7] []
def s_read_3 : Ev.S := .set 2 (.cmp false (.call 7 [.split (.var 3) (.lit (.str " "))]) [3] (.nm 3) .ex [.slt (.var 1) (.op1 .neg (.lit (.int 1)))] [])
def s_read_4 : Ev.S := .ite (.op2 .in_ (.lit .non) (.var 2)) [.raise 7] []
def s_read_5 : Ev.S := .ret (.var 2)
/-- (0 text, 1 lines, 2 events, 3 line) -/
def f_read : Fd := ⟨["text"], ["text", "lines", "events", "line"], [s_read_0, s_read_1, s_read_2, s_read_3, s_read_4, s_read_5], true⟩
def s_law_cell_at_0 : Ev.S := .ite (.op2 .lt (.var 1) (.op1 .len (.var 0))) [.ret (.op2 .get (.var 0) (.var 1))] []
def s_law_cell_at_1 : Ev.S := .ret (.lit (.int 0))
/-- (0 _law_script, 1 _law_k) -/
def f_law_cell_at : Fd := ⟨["_law_script", "_law_k"], ["_law_script", "_law_k"], [s_law_cell_at_0, s_law_cell_at_1], true⟩
/-- (0 _law_found) -/
def f_law_whole : Fd := ⟨["_law_found"], ["_law_found"], [.ret (.and (.op1 (.isi .int) (.var 0)) (.not (.op1 (.isi .bool) (.var 0))))], true⟩
def s_law_names_0 : Ev.S := .set 2 (.lit (.str "abcdefghijklmnopqrstuvwxyz"))
def s_law_names_1 : Ev.S := .set 3 (.lit (.str ""))
def s_law_names_2 : Ev.S := .set 4 (.op2 .fdiv (.var 0) (.lit (.int 48)))
def b_law_names_3 : List Ev.S := [.set 3 (.op2 .add (.var 3) (.op2 .get (.var 2) (.op2 .mod (.var 4) (.lit (.int 26))))),
    .set 4 (.op2 .fdiv (.var 4) (.lit (.int 26)))]
def s_law_names_3 : Ev.S := .for_ (.nm 5) .rng1 [.lit (.int 8)] b_law_names_3
def s_law_names_4 : Ev.S := .set 6 (.op2 .mod (.var 0) (.lit (.int 6)))
def s_law_names_5 : Ev.S := .ite (.and (.op2 .eq (.var 6) (.lit (.int 0))) (.op2 .lt (.var 1) (.lit (.int 9)))) [.ret (.cmp false (.slt (.var 3) (.op2 .add (.var 5) (.lit (.int 1)))) [5] (.nm 5) .rng1 [.var 1] [])] []
def s_law_names_6 : Ev.S := .ite (.and (.op2 .eq (.var 6) (.lit (.int 1))) (.op2 .lt (.var 1) (.lit (.int 9)))) [.ret (.cmp false (.slf (.var 3) (.op2 .sub (.lit (.int 7)) (.var 5))) [5] (.nm 5) .rng1 [.var 1] [])] []
def s_law_names_7 : Ev.S := .set 3 (.slt (.var 3) (.op2 .mod (.op2 .fdiv (.var 0) (.lit (.int 6))) (.lit (.int 7))))
def s_law_names_8 : Ev.S := .ite (.and (.op2 .lt (.var 6) (.lit (.int 4))) (.op2 .lt (.var 1) (.lit (.int 27)))) [.set 7 (.slt (.var 3) (.op2 .mod (.op2 .fdiv (.var 0) (.lit (.int 5))) (.op2 .add (.op1 .len (.var 3)) (.lit (.int 1))))),
    .set 8 (.slf (.var 3) (.op1 .len (.var 7))),
    .ret (.cmp false (.op2 .add (.op2 .add (.var 7) (.op2 .get (.var 2) (.op2 .mod (.op2 .add (.op2 .fdiv (.var 0) (.lit (.int 7))) (.op2 .mul (.lit (.int 7)) (.var 5))) (.lit (.int 26))))) (.var 8)) [5] (.nm 5) .rng1 [.var 1] [])] []
def s_law_names_9 : Ev.S := .ret (.cmp false (.op2 .add (.op2 .add (.var 3) (.op2 .get (.var 2) (.op2 .fdiv (.var 5) (.lit (.int 26))))) (.op2 .get (.var 2) (.op2 .mod (.var 5) (.lit (.int 26))))) [5] (.nm 5) .rng1 [.var 1] [])
/-- (0 _law_cell, 1 _law_many, 2 _law_some, 3 _law_head, 4 _law_rest, 5 _law_k, 6 _law_way, 7 _law_left, 8 _law_right) -/
def f_law_names : Fd := ⟨["_law_cell", "_law_many"], ["_law_cell", "_law_many", "_law_some", "_law_head", "_law_rest", "_law_k", "_law_way", "_law_left", "_law_right"], [s_law_names_0, s_law_names_1, s_law_names_2, s_law_names_3, s_law_names_4, s_law_names_5, s_law_names_6, s_law_names_7, s_law_names_8, s_law_names_9], true⟩
def s_law_letter_by_0 : Ev.S := .ite (.op2 .gt (.op2 .mod (.var 0) (.lit (.int 5))) (.lit (.int 2))) [.ret (.op2 .get (.lst false [.tup [.lit (.str "fault")], .tup [.lit (.str "leave")]]) (.op2 .sub (.op2 .mod (.var 0) (.lit (.int 5))) (.lit (.int 3))))] []
def s_law_letter_by_1 : Ev.S := .set 1 (.op2 .get (.lst false [.op2 .sub (.op2 .mod (.op2 .fdiv (.var 0) (.lit (.int 10))) (.lit (.int 9))) (.lit (.int 4)), .op2 .sub (.op2 .mod (.op2 .fdiv (.var 0) (.lit (.int 10))) (.op2 .add (.op2 .mul (.lit (.int 2)) (.op2 .pow (.lit (.int 10)) (.lit (.int 9)))) (.lit (.int 1)))) (.op2 .pow (.lit (.int 10)) (.lit (.int 9)))]) (.op1 .int (.op2 .eq (.op2 .mod (.var 0) (.lit (.int 5))) (.lit (.int 2)))))
def s_law_letter_by_2 : Ev.S := .ret (.tup [.lit (.str "add"), .var 1])
/-- (0 _law_cell, 1 _law_number_here) -/
def f_law_letter_by : Fd := ⟨["_law_cell"], ["_law_cell", "_law_number_here"], [s_law_letter_by_0, s_law_letter_by_1, s_law_letter_by_2], true⟩
def s_law_events_0 : Ev.S := .ite (.not (.op1 (.isi .list) (.var 0))) [.ret (.lit (.bl false))] []
def b_law_events_1 : List Ev.S := [.ite (.or (.not (.op1 (.isi .tuple) (.var 1))) (.or (.op2 .lt (.op1 .len (.var 1)) (.lit (.int 2))) (.or (.not (.op1 (.isi .str) (.op2 .get (.var 1) (.lit (.int 0))))) (.not (.op1 (.isi .str) (.op2 .get (.var 1) (.lit (.int 1)))))))) [.ret (.lit (.bl false))] [],
    .ite (.and (.op2 .gt (.op1 .len (.var 1)) (.lit (.int 2))) (.not (.call 10 [.op2 .get (.var 1) (.lit (.int 2))]))) [.ret (.lit (.bl false))] [],
    .ite (.and (.op2 .gt (.op1 .len (.var 1)) (.lit (.int 3))) (.or (.op2 .gt (.op1 .len (.var 1)) (.lit (.int 4))) (.not (.op1 (.isi .tuple) (.op2 .get (.var 1) (.lit (.int 3))))))) [.ret (.lit (.bl false))] []]
def s_law_events_1 : Ev.S := .for_ (.nm 1) .ex [.var 0] b_law_events_1
def s_law_events_2 : Ev.S := .ret (.lit (.bl true))
/-- (0 _law_found, 1 _law_row) -/
def f_law_events : Fd := ⟨["_law_found"], ["_law_found", "_law_row"], [s_law_events_0, s_law_events_1, s_law_events_2], true⟩
def s_law_row_by_0 : Ev.S := .set 2 (.op2 .get (.lst false [.lit (.str "begins"), .lit (.str "ends"), .lit (.str "fails"), .lit (.str "leaves"), .lit (.str "works"), .lit (.str "lost"), .lit (.str "sent"), .lit (.str "sent")]) (.op2 .mod (.var 0) (.lit (.int 8))))
def s_law_row_by_1 : Ev.S := .set 3 (.op2 .get (.var 1) (.op2 .mod (.op2 .fdiv (.var 0) (.lit (.int 8))) (.op1 .len (.var 1))))
def s_law_row_by_2 : Ev.S := .set 4 (.op2 .add (.lit (.int 1)) (.op2 .get (.lst false [.op2 .mod (.op2 .fdiv (.var 0) (.lit (.int 50))) (.lit (.int 12)), .op2 .mod (.op2 .fdiv (.var 0) (.lit (.int 50))) (.op2 .pow (.lit (.int 10)) (.lit (.int 9)))]) (.op2 .mod (.op2 .fdiv (.var 0) (.lit (.int 8))) (.lit (.int 2)))))
def s_law_row_by_3 : Ev.S := .ite (.op2 .lt (.op2 .mod (.var 0) (.lit (.int 8))) (.lit (.int 4))) [.ret (.tup [.var 2, .var 3])] []
def s_law_row_by_4 : Ev.S := .ite (.op2 .eq (.var 2) (.lit (.str "sent"))) [.ret (.tup [.var 2, .var 3, .var 4, .call 12 [.op2 .fdiv (.var 0) (.lit (.int 20))]])] []
def s_law_row_by_5 : Ev.S := .ret (.tup [.var 2, .var 3, .var 4])
/-- (0 _law_cell, 1 _law_names_here, 2 _law_word, 3 _law_name, 4 _law_number_here) -/
def f_law_row_by : Fd := ⟨["_law_cell", "_law_names_here"], ["_law_cell", "_law_names_here", "_law_word", "_law_name", "_law_number_here"], [s_law_row_by_0, s_law_row_by_1, s_law_row_by_2, s_law_row_by_3, s_law_row_by_4, s_law_row_by_5], true⟩
def s_law_words_of_0 : Ev.S := .set 1 (.lst true [.op2 .get (.var 0) (.lit (.int 0)), .op2 .get (.var 0) (.lit (.int 1))])
def s_law_words_of_1 : Ev.S := .ite (.op2 .gt (.op1 .len (.var 0)) (.lit (.int 2))) [.ex (.app (.var 1) (.op1 .str (.op2 .get (.var 0) (.lit (.int 2)))))] []
def s_law_words_of_2 : Ev.S := .ite (.op2 .gt (.op1 .len (.var 0)) (.lit (.int 3))) [.ex (.app (.var 1) (.op2 .get (.op2 .get (.var 0) (.lit (.int 3))) (.lit (.int 0)))),
    .ite (.op2 .gt (.op1 .len (.op2 .get (.var 0) (.lit (.int 3)))) (.lit (.int 1))) [.ex (.app (.var 1) (.op1 .str (.op2 .get (.op2 .get (.var 0) (.lit (.int 3))) (.lit (.int 1)))))] []] []
def s_law_words_of_3 : Ev.S := .ret (.join (.lit (.str " ")) (.var 1))
/-- (0 _law_row, 1 _law_words) -/
def f_law_words_of : Fd := ⟨["_law_row"], ["_law_row", "_law_words"], [s_law_words_of_0, s_law_words_of_1, s_law_words_of_2, s_law_words_of_3], true⟩
def s_law_is_name_0 : Ev.S := .ite (.or (.not (.op1 (.isi .str) (.var 0))) (.or (.op2 .lt (.op1 .len (.var 0)) (.lit (.int 1))) (.op2 .gt (.op1 .len (.var 0)) (.lit (.int 8))))) [.ret (.lit (.bl false))] []
def s_law_is_name_1 : Ev.S := .ret (.op2 .eq (.cmp false (.var 1) [1] (.nm 1) .ex [.var 0] [.op2 .notin (.var 1) (.lit (.str "abcdefghijklmnopqrstuvwxyz"))]) (.lst false []))
/-- (0 _law_thing, 1 _law_sign) -/
def f_law_is_name : Fd := ⟨["_law_thing"], ["_law_thing", "_law_sign"], [s_law_is_name_0, s_law_is_name_1], true⟩
def s_law_number_0 : Ev.S := .set 2 (.var 0)
def s_law_number_1 : Ev.S := .ite (.op2 .eq (.slt (.var 0) (.lit (.int 1))) (.lit (.str "-"))) [.set 2 (.slf (.var 0) (.lit (.int 1)))] []
def s_law_number_2 : Ev.S := .ite (.or (.op2 .eq (.var 2) (.lit (.str ""))) (.or (.op2 .ne (.cmp false (.var 4) [4] (.nm 4) .ex [.var 2] [.op2 .notin (.var 4) (.lit (.str "0123456789"))]) (.lst false [])) (.op2 .gt (.op1 .len (.var 2)) (.lit (.int 10))))) [.ret (.lit .non)] []
def s_law_number_3 : Ev.S := .set 3 (.op1 .int (.var 0))
def s_law_number_4 : Ev.S := .ite (.or (.op2 .ne (.op1 .str (.var 3)) (.var 0)) (.not (.chn .le .le (.var 1) (.var 3) (.op2 .pow (.lit (.int 10)) (.lit (.int 9)))))) [.ret (.lit .non)] []
def s_law_number_5 : Ev.S := .ret (.var 3)
/-- (0 _law_word, 1 _law_least, 2 _law_figures, 3 _law_number_here, 4 _law_sign) -/
def f_law_number : Fd := ⟨["_law_word", "_law_least"], ["_law_word", "_law_least", "_law_figures", "_law_number_here", "_law_sign"], [s_law_number_0, s_law_number_1, s_law_number_2, s_law_number_3, s_law_number_4, s_law_number_5], true⟩
def s_law_row_of_0 : Ev.S := .set 1 (.split (.var 0) (.lit (.str " ")))
def s_law_row_of_1 : Ev.S := .ite (.or (.op2 .lt (.op1 .len (.var 1)) (.lit (.int 2))) (.not (.call 16 [.op2 .get (.var 1) (.lit (.int 1))]))) [.ret (.lit .non)] []
def s_law_row_of_2 : Ev.S := .ite (.and (.op2 .eq (.op1 .len (.var 1)) (.lit (.int 2))) (.op2 .in_ (.op2 .get (.var 1) (.lit (.int 0))) (.lst false [.lit (.str "begins"), .lit (.str "ends"), .lit (.str "fails"), .lit (.str "leaves")]))) [.ret (.tup [.op2 .get (.var 1) (.lit (.int 0)), .op2 .get (.var 1) (.lit (.int 1))])] []
def s_law_row_of_3 : Ev.S := .ite (.or (.op2 .lt (.op1 .len (.var 1)) (.lit (.int 3))) (.or (.op2 .notin (.op2 .get (.var 1) (.lit (.int 0))) (.lst false [.lit (.str "works"), .lit (.str "lost"), .lit (.str "sent")])) (.op2 .is_ (.call 17 [.op2 .get (.var 1) (.lit (.int 2)), .lit (.int 1)]) (.lit .non)))) [.ret (.lit .non)] []
def s_law_row_of_4 : Ev.S := .set 2 (.tup [.op2 .get (.var 1) (.lit (.int 0)), .op2 .get (.var 1) (.lit (.int 1)), .call 17 [.op2 .get (.var 1) (.lit (.int 2)), .lit (.int 1)]])
def s_law_row_of_5 : Ev.S := .ite (.and (.op2 .eq (.op1 .len (.var 1)) (.lit (.int 3))) (.op2 .ne (.op2 .get (.var 1) (.lit (.int 0))) (.lit (.str "sent")))) [.ret (.var 2)] []
def s_law_row_of_6 : Ev.S := .ite (.and (.op2 .eq (.op2 .get (.var 1) (.lit (.int 0))) (.lit (.str "sent"))) (.or (.op2 .eq (.slf (.var 1) (.lit (.int 3))) (.lst false [.lit (.str "fault")])) (.op2 .eq (.slf (.var 1) (.lit (.int 3))) (.lst false [.lit (.str "leave")])))) [.ret (.op2 .add (.var 2) (.tup [.tup [.op2 .get (.var 1) (.lit (.int 3))]]))] []
def s_law_row_of_7 : Ev.S := .ite (.and (.op2 .eq (.op2 .get (.var 1) (.lit (.int 0))) (.lit (.str "sent"))) (.and (.op2 .eq (.op1 .len (.var 1)) (.lit (.int 5))) (.op2 .eq (.op2 .get (.var 1) (.lit (.int 3))) (.lit (.str "add"))))) [.ite (.op2 .isnt (.call 17 [.op2 .get (.var 1) (.lit (.int 4)), .op1 .neg (.op2 .pow (.lit (.int 10)) (.lit (.int 9)))]) (.lit .non)) [.ret (.op2 .add (.var 2) (.tup [.tup [.lit (.str "add"), .call 17 [.op2 .get (.var 1) (.lit (.int 4)), .op1 .neg (.op2 .pow (.lit (.int 10)) (.lit (.int 9)))]]]))] []] []
def s_law_row_of_8 : Ev.S := .ret (.lit .non)
/-- (0 _law_line, 1 _law_words, 2 _law_row) -/
def f_law_row_of : Fd := ⟨["_law_line"], ["_law_line", "_law_words", "_law_row"], [s_law_row_of_0, s_law_row_of_1, s_law_row_of_2, s_law_row_of_3, s_law_row_of_4, s_law_row_of_5, s_law_row_of_6, s_law_row_of_7, s_law_row_of_8], true⟩
def s_law_odd_by_0 : Ev.S := .set 3 (.lst true [.lit (.str ""), .lit (.str " "), .lit (.str "begins"), .lit (.str "begins "), .lit (.str "begins A"), .lit (.str "begins a b"), .lit (.str "Begins a"), .lit (.str "begin a"), .lit (.str " ends a")])
def s_law_odd_by_1 : Ev.S := .set 3 (.add true (.var 3) (.lst false [.lit (.str "ends  a"), .lit (.str "ends a ")]))
def s_law_odd_by_2 : Ev.S := .set 3 (.add true (.var 3) (.lst false [.lit (.str "ends abcdefghi"), .lit (.str "ends abcdefgh"), .lit (.str "fails\ta"), .lit (.str "leaves a1"), .lit (.str "works a")]))
def s_law_odd_by_3 : Ev.S := .set 3 (.add true (.var 3) (.lst false [.lit (.str "works a 0"), .lit (.str "works a 01")]))
def s_law_odd_by_4 : Ev.S := .set 3 (.add true (.var 3) (.lst false [.lit (.str "works a -1"), .lit (.str "works a 1000000001"), .lit (.str "works a 1000000000"), .lit (.str "works a 1 1")]))
def s_law_odd_by_5 : Ev.S := .set 3 (.add true (.var 3) (.lst false [.lit (.str "works a x"), .lit (.str "lost a +1")]))
def s_law_odd_by_6 : Ev.S := .set 3 (.add true (.var 3) (.lst false [.lit (.str "lost a 1 add 5"), .lit (.str "sent a 1"), .lit (.str "sent a 1 add"), .lit (.str "sent a 1 add -0")]))
def s_law_odd_by_7 : Ev.S := .set 3 (.add true (.var 3) (.lst false [.lit (.str "sent a 1 add 05"), .lit (.str "sent a 1 fault 1")]))
def s_law_odd_by_8 : Ev.S := .set 3 (.add true (.var 3) (.lst false [.lit (.str "sent a 1 add -1000000000"), .lit (.str "sent a 1 add -1000000001"), .lit (.str "sent a 1 leaves")]))
def s_law_odd_by_9 : Ev.S := .ex (.app (.var 3) (.lit (.str "sent a 1 add 5 5")))
def s_law_odd_by_10 : Ev.S := .ite (.op2 .lt (.op2 .mod (.var 0) (.lit (.int 40))) (.lit (.int 34))) [.ret (.op2 .get (.var 3) (.op2 .mod (.var 0) (.lit (.int 40))))] []
def s_law_odd_by_11 : Ev.S := .set 4 (.op2 .mod (.var 1) (.op2 .add (.op1 .len (.var 2)) (.lit (.int 1))))
def s_law_odd_by_12 : Ev.S := .set 5 (.lit (.str " abcdefghijklmnopqrstuvwxyz0123456789-ABCZ.\t"))
def s_law_odd_by_13 : Ev.S := .set 6 (.op2 .get (.var 5) (.op2 .mod (.op2 .fdiv (.var 1) (.lit (.int 50))) (.op1 .len (.var 5))))
def s_law_odd_by_14 : Ev.S := .ite (.op2 .lt (.op2 .mod (.var 0) (.lit (.int 40))) (.lit (.int 36))) [.ret (.op2 .add (.op2 .add (.slt (.var 2) (.var 4)) (.var 6)) (.slf (.var 2) (.var 4)))] []
def s_law_odd_by_15 : Ev.S := .ite (.op2 .lt (.op2 .mod (.var 0) (.lit (.int 40))) (.lit (.int 38))) [.ret (.op2 .add (.slt (.var 2) (.var 4)) (.slf (.var 2) (.op2 .add (.var 4) (.lit (.int 1)))))] []
def s_law_odd_by_16 : Ev.S := .ret (.op2 .add (.op2 .add (.slt (.var 2) (.var 4)) (.var 6)) (.slf (.var 2) (.op2 .add (.var 4) (.lit (.int 1)))))
/-- (0 _law_cell, 1 _law_more, 2 _law_right, 3 _law_some, 4 _law_place, 5 _law_signs, 6 _law_sign) -/
def f_law_odd_by : Fd := ⟨["_law_cell", "_law_more", "_law_right"], ["_law_cell", "_law_more", "_law_right", "_law_some", "_law_place", "_law_signs", "_law_sign"], [s_law_odd_by_0, s_law_odd_by_1, s_law_odd_by_2, s_law_odd_by_3, s_law_odd_by_4, s_law_odd_by_5, s_law_odd_by_6, s_law_odd_by_7, s_law_odd_by_8, s_law_odd_by_9, s_law_odd_by_10, s_law_odd_by_11, s_law_odd_by_12, s_law_odd_by_13, s_law_odd_by_14, s_law_odd_by_15, s_law_odd_by_16], true⟩
def s_law_refused_0 : Ev.S := .tryN [.ex (.call 8 [.var 0])] (.eqK 7)
def s_law_refused_1 : Ev.S := .ret (.lit (.bl false))
/-- (0 _law_thing, 1 _law_e) -/
def f_law_refused : Fd := ⟨["_law_thing"], ["_law_thing", "_law_e"], [s_law_refused_0, s_law_refused_1], true⟩
def s_law_0 : Ev.S := .set 1 (.call 9 [.var 0, .lit (.int 0)])
def s_law_1 : Ev.S := .ite (.op2 .eq (.op2 .mod (.op2 .fdiv (.var 1) (.lit (.int 9))) (.lit (.int 8))) (.lit (.int 1))) [.ret (.call 20 [.op2 .get (.lst false [.lit .non, .lit (.int 5), .lst false [.lit (.str "ends a")], .lit (.bl true), .tup [.lit (.str "ends"), .lit (.str "a")], .dic false [] []]) (.op2 .mod (.call 9 [.var 0, .lit (.int 1)]) (.lit (.int 6)))])] []
def s_law_2 : Ev.S := .set 2 (.call 11 [.call 9 [.var 0, .lit (.int 1)], .lit (.int 6)])
def s_law_3 : Ev.S := .set 3 (.cmp false (.call 15 [.call 14 [.call 9 [.var 0, .op2 .add (.lit (.int 2)) (.var 10)], .var 2]]) [10] (.nm 10) .rng1 [.op2 .mod (.var 1) (.lit (.int 9))] [])
def s_law_4 : Ev.S := .ite (.op2 .ne (.op2 .mod (.call 9 [.var 0, .lit (.int 11)]) (.lit (.int 4))) (.lit (.int 0))) [.set 7 (.op2 .mod (.call 9 [.var 0, .lit (.int 12)]) (.op2 .add (.op1 .len (.var 3)) (.lit (.int 1)))),
    .set 8 (.call 15 [.call 14 [.call 9 [.var 0, .lit (.int 13)], .var 2]]),
    .set 9 (.call 19 [.call 9 [.var 0, .lit (.int 14)], .call 9 [.var 0, .lit (.int 15)], .var 8]),
    .set 3 (.op2 .add (.op2 .add (.slt (.var 3) (.var 7)) (.lst false [.var 9])) (.slf (.var 3) (.var 7)))] []
def s_law_5 : Ev.S := .set 4 (.join (.lit (.str "")) (.cmp false (.op2 .add (.var 11) (.lit (.str "\n"))) [11] (.nm 11) .ex [.var 3] []))
def s_law_6 : Ev.S := .ite (.and (.op2 .ne (.var 3) (.lst false [])) (.op2 .eq (.op2 .mod (.op2 .fdiv (.call 9 [.var 0, .lit (.int 11)]) (.lit (.int 4))) (.lit (.int 6))) (.lit (.int 1)))) [.set 4 (.slt (.var 4) (.op1 .neg (.lit (.int 1)))),
    .ite (.op2 .ne (.op2 .get (.var 3) (.op1 .neg (.lit (.int 1)))) (.lit (.str ""))) [.ret (.call 20 [.var 4])] [],
    .set 3 (.slt (.var 3) (.op1 .neg (.lit (.int 1))))] []
def s_law_7 : Ev.S := .set 5 (.cmp false (.call 18 [.var 11]) [11] (.nm 11) .ex [.var 3] [])
def s_law_8 : Ev.S := .ite (.op2 .in_ (.lit .non) (.var 5)) [.ret (.call 20 [.var 4])] []
def s_law_9 : Ev.S := .set 6 (.call 8 [.var 4])
def s_law_10 : Ev.S := .ret (.and (.call 13 [.var 6]) (.and (.op2 .eq (.var 6) (.var 5)) (.op2 .eq (.call 8 [.var 4]) (.var 5))))
/-- (0 _law_script, 1 _law_cell, 2 _law_names_here, 3 _law_lines, 4 _law_whole_here, 5 _law_due, 6 _law_found, 7 _law_place, 8 _law_right, 9 _law_odd, 10 _law_k, 11 _law_line) -/
def f_law : Fd := ⟨["_law_script"], ["_law_script", "_law_cell", "_law_names_here", "_law_lines", "_law_whole_here", "_law_due", "_law_found", "_law_place", "_law_right", "_law_odd", "_law_k", "_law_line"], [s_law_0, s_law_1, s_law_2, s_law_3, s_law_4, s_law_5, s_law_6, s_law_7, s_law_8, s_law_9, s_law_10], true⟩
def conD : List D := [.str "abcdefghijklmnopqrstuvwxyz", .int 8, .int 1000000000, .str "0123456789", .int 1000000000]
def Tt : Tb := ⟨[f_is_number, f_is_name, f_is_word_of, f_is_row, f_is_letter, f_number_of, f_letter_of, f_event_of, f_read, f_law_cell_at, f_law_whole, f_law_names, f_law_letter_by, f_law_events, f_law_row_by, f_law_words_of, f_law_is_name, f_law_number, f_law_row_of, f_law_odd_by, f_law_refused, f_law], fun _ => none, fun k => conD[k]?, fun _ _ => false, 1000⟩
def fns : List (Str × Nat) := [("is_number", 0), ("is_name", 1), ("is_word_of", 2), ("is_row", 3), ("is_letter", 4), ("number_of", 5), ("letter_of", 6), ("event_of", 7), ("read", 8), ("_law_cell_at", 9), ("_law_whole", 10), ("_law_names", 11), ("_law_letter_by", 12), ("_law_events", 13), ("_law_row_by", 14), ("_law_words_of", 15), ("_law_is_name", 16), ("_law_number", 17), ("_law_row_of", 18), ("_law_odd_by", 19), ("_law_refused", 20), ("law", 21)]
def con : List (Str × Nat) := [("SIGNS", 0), ("LONGEST", 1), ("MOST_plans", 2), ("FIGURES", 3), ("MOST_texts", 4)]
def free : List Str := ["ValueError", "bool", "int", "isinstance", "len", "list", "range", "str", "tuple"]
def sgN (N : List Str) : Sg := ⟨N, fns, con, free, kExc, "HouseError", "_law_kinds"⟩
def top (i : Nat) : Stmt := pw.main.body.getD i (.Pass ⟨0, 0, 0, 0⟩)
theorem ck_is_number : ckB (sgN f_is_number.N) 40 40 (defScope (top 14)) f_is_number.body (defBody (top 14)) = true := by kernel_rfl
theorem sc_is_number : C8.scC f_is_number.N f_is_number.ps (defScope (top 14)) = true := by kernel_rfl
theorem ck_is_name : ckB (sgN f_is_name.N) 40 40 (defScope (top 15)) f_is_name.body (defBody (top 15)) = true := by kernel_rfl
theorem sc_is_name : C8.scC f_is_name.N f_is_name.ps (defScope (top 15)) = true := by kernel_rfl
theorem ck_is_word_of : ckB (sgN f_is_word_of.N) 40 40 (defScope (top 16)) f_is_word_of.body (defBody (top 16)) = true := by kernel_rfl
theorem sc_is_word_of : C8.scC f_is_word_of.N f_is_word_of.ps (defScope (top 16)) = true := by kernel_rfl
theorem ck_is_row : ckB (sgN f_is_row.N) 40 40 (defScope (top 17)) f_is_row.body (defBody (top 17)) = true := by kernel_rfl
theorem sc_is_row : C8.scC f_is_row.N f_is_row.ps (defScope (top 17)) = true := by kernel_rfl
theorem ck_is_letter : ckB (sgN f_is_letter.N) 40 40 (defScope (top 18)) f_is_letter.body (defBody (top 18)) = true := by kernel_rfl
theorem sc_is_letter : C8.scC f_is_letter.N f_is_letter.ps (defScope (top 18)) = true := by kernel_rfl
theorem ck_number_of : ckB (sgN f_number_of.N) 40 40 (defScope (top 22)) f_number_of.body (defBody (top 22)) = true := by kernel_rfl
theorem sc_number_of : C8.scC f_number_of.N f_number_of.ps (defScope (top 22)) = true := by kernel_rfl
theorem ck_letter_of : ckB (sgN f_letter_of.N) 40 40 (defScope (top 23)) f_letter_of.body (defBody (top 23)) = true := by kernel_rfl
theorem sc_letter_of : C8.scC f_letter_of.N f_letter_of.ps (defScope (top 23)) = true := by kernel_rfl
theorem ck_event_of : ckB (sgN f_event_of.N) 40 40 (defScope (top 24)) f_event_of.body (defBody (top 24)) = true := by kernel_rfl
theorem sc_event_of : C8.scC f_event_of.N f_event_of.ps (defScope (top 24)) = true := by kernel_rfl
theorem ck_read : ckB (sgN f_read.N) 40 40 (defScope (top 25)) f_read.body (defBody (top 25)) = true := by kernel_rfl
theorem sc_read : C8.scC f_read.N f_read.ps (defScope (top 25)) = true := by kernel_rfl
theorem ck_law_cell_at : ckB (sgN f_law_cell_at.N) 40 40 (defScope (top 27)) f_law_cell_at.body (defBody (top 27)) = true := by kernel_rfl
theorem sc_law_cell_at : C8.scC f_law_cell_at.N f_law_cell_at.ps (defScope (top 27)) = true := by kernel_rfl
theorem ck_law_whole : ckB (sgN f_law_whole.N) 40 40 (defScope (top 28)) f_law_whole.body (defBody (top 28)) = true := by kernel_rfl
theorem sc_law_whole : C8.scC f_law_whole.N f_law_whole.ps (defScope (top 28)) = true := by kernel_rfl
theorem ck_law_names : ckB (sgN f_law_names.N) 40 40 (defScope (top 29)) f_law_names.body (defBody (top 29)) = true := by kernel_rfl
theorem sc_law_names : C8.scC f_law_names.N f_law_names.ps (defScope (top 29)) = true := by kernel_rfl
theorem ck_law_letter_by : ckB (sgN f_law_letter_by.N) 40 40 (defScope (top 30)) f_law_letter_by.body (defBody (top 30)) = true := by kernel_rfl
theorem sc_law_letter_by : C8.scC f_law_letter_by.N f_law_letter_by.ps (defScope (top 30)) = true := by kernel_rfl
theorem ck_law_events : ckB (sgN f_law_events.N) 40 40 (defScope (top 31)) f_law_events.body (defBody (top 31)) = true := by kernel_rfl
theorem sc_law_events : C8.scC f_law_events.N f_law_events.ps (defScope (top 31)) = true := by kernel_rfl
theorem ck_law_row_by : ckB (sgN f_law_row_by.N) 40 40 (defScope (top 32)) f_law_row_by.body (defBody (top 32)) = true := by kernel_rfl
theorem sc_law_row_by : C8.scC f_law_row_by.N f_law_row_by.ps (defScope (top 32)) = true := by kernel_rfl
theorem ck_law_words_of : ckB (sgN f_law_words_of.N) 40 40 (defScope (top 33)) f_law_words_of.body (defBody (top 33)) = true := by kernel_rfl
theorem sc_law_words_of : C8.scC f_law_words_of.N f_law_words_of.ps (defScope (top 33)) = true := by kernel_rfl
theorem ck_law_is_name : ckB (sgN f_law_is_name.N) 40 40 (defScope (top 35)) f_law_is_name.body (defBody (top 35)) = true := by kernel_rfl
theorem sc_law_is_name : C8.scC f_law_is_name.N f_law_is_name.ps (defScope (top 35)) = true := by kernel_rfl
theorem ck_law_number : ckB (sgN f_law_number.N) 40 40 (defScope (top 36)) f_law_number.body (defBody (top 36)) = true := by kernel_rfl
theorem sc_law_number : C8.scC f_law_number.N f_law_number.ps (defScope (top 36)) = true := by kernel_rfl
theorem ck_law_row_of : ckB (sgN f_law_row_of.N) 40 40 (defScope (top 37)) f_law_row_of.body (defBody (top 37)) = true := by kernel_rfl
theorem sc_law_row_of : C8.scC f_law_row_of.N f_law_row_of.ps (defScope (top 37)) = true := by kernel_rfl
theorem ck_law_odd_by : ckB (sgN f_law_odd_by.N) 40 40 (defScope (top 38)) f_law_odd_by.body (defBody (top 38)) = true := by kernel_rfl
theorem sc_law_odd_by : C8.scC f_law_odd_by.N f_law_odd_by.ps (defScope (top 38)) = true := by kernel_rfl
theorem ck_law_refused : ckB (sgN f_law_refused.N) 40 40 (defScope (top 39)) f_law_refused.body (defBody (top 39)) = true := by kernel_rfl
theorem sc_law_refused : C8.scC f_law_refused.N f_law_refused.ps (defScope (top 39)) = true := by kernel_rfl
theorem ck_law : ckB (sgN f_law.N) 40 40 (defScope (top 40)) f_law.body (defBody (top 40)) = true := by kernel_rfl
theorem sc_law : C8.scC f_law.N f_law.ps (defScope (top 40)) = true := by kernel_rfl
theorem ck_kinds : ckK (defScope (top 34)) (defBody (top 34)) = true := by kernel_rfl
theorem sc_kinds : C8.scC kN ["_law_e"] (defScope (top 34)) = true := by kernel_rfl
end LawK
namespace LawK
open PySem PySem.Spec PyProof.Rows L2 Ev
@[simp] theorem con0 : Tt.con 0 = some (.str "abcdefghijklmnopqrstuvwxyz") := rfl
@[simp] theorem con1 : Tt.con 1 = some (.int 8) := rfl
@[simp] theorem con2 : Tt.con 2 = some (.int 1000000000) := rfl
@[simp] theorem con3 : Tt.con 3 = some (.str "0123456789") := rfl
@[simp] theorem con4 : Tt.con 4 = some (.int 1000000000) := rfl
/-- no place of the store, no script -/
def sim : D → Bool
  | .loc _ | .scr _ | .opq _ => false
  | _ => true
theorem cell_at (n : Nat) (ns : List Int) (i : Nat) (S : Store) : callF Tt (n + 1) 9 [.scr ns, .int i] S = .ok (.int (ns.getD i 0)) S := by
  rw [callF_is (fd := f_law_cell_at) rfl rfl]
  simp [f_law_cell_at, env0, s_law_cell_at_0, s_law_cell_at_1]
  split
  · rename_i h
    simp only [op2]
    rw [atI_nat _ _ h]
    simp [h]
  · rename_i h
    simp [h]
/-- a sign is a small letter -/
def az (c : Nat) : Bool := (("abcdefghijklmnopqrstuvwxyz" : Str).cps.toList).contains c
def nameD : D → Bool
  | .str s => decide (1 ≤ s.length) && (decide (s.length ≤ 8) && s.cps.toList.all az)
  | _ => false
theorem notin_az (S : Store) (c : Nat) : op2 S .notin (.str ⟨#[c]⟩) (.str "abcdefghijklmnopqrstuvwxyz") = some (.bl (!az c)) := rfl
def badS : D → Bool
  | .str s => !az (s.cps.getD 0 0)
  | _ => true
theorem any_bad (cs : List Nat) : (cs.map fun c => D.str ⟨#[c]⟩).any badS = !cs.all az := by
  induction cs with
  | nil => rfl
  | cons c cs ih =>
    simp only [List.map_cons, List.any_cons, List.all_cons, ih, Bool.not_and]
    rfl
theorem len_str (s : Str) : s.length = s.cps.toList.length := by
  rw [Array.length_toList]; rfl
theorem is_name (n : Nat) (S : Store) {x : D} (h : sim x = true) (hl : ∀ s, x = .str s → s.length ≤ 1000) : callF Tt (n + 1) 1 [x] S = .ok (.bl (nameD x)) S := by
  rw [callF_is (fd := f_is_name) rfl rfl]
  show endF true S (evB (parOf Tt n) [s_is_name_0, s_is_name_1, s_is_name_2] [some x, none] S) = _
  cases x <;> first | (cases h; done) | skip
  case str s =>
    have hs := hl s rfl
    have hl2 : ∀ S, op1 S .len (.str s) = some (.int s.length) := fun S => o_lenS S s (by rw [LIM_nat]; omega)
    obtain ⟨δ', _, hf⟩ := forL_find (ch := []) (i := 1) (S := S) (r := .bl false) (bad := badS) (f := fun δ S => evB (parOf Tt n) b_is_name_1 δ S) stays_nil (xs := s.cps.toList.map fun c => .str ⟨#[c]⟩) (δ := [some (.str s), none]) (fun x hx => by
      obtain ⟨c, hc, rfl⟩ := List.mem_map.mp hx
      simp [b_is_name_1, notin_az]
      have e : badS (.str ⟨#[c]⟩) = !az c := rfl
      rw [e]
      cases az c <;> simp)
    have e1 : evS (parOf Tt n) s_is_name_1 [some (.str s), none] S = if s.cps.toList.all az then .nx δ' S else .rt (.bl false) S := by
      simp only [s_is_name_1, evS_for, sFor, evEs_cons, evEs_nil, evE_var, List.getElem?_cons_zero, ofV_some, bind_ok, walkOf]
      rw [hf, any_bad]
      cases s.cps.toList.all az <;> rfl
    have e2 : evS (parOf Tt n) s_is_name_0 [some (.str s), none] S = if 1 ≤ s.length ∧ s.length ≤ 8 then .nx [some (.str s), none] S else .rt (.bl false) S := by
      simp [s_is_name_0, tyIs, hl2]
      repeat' split
      all_goals first | rfl | (exfalso; omega)
    have e3 : evS (parOf Tt n) s_is_name_2 δ' S = .rt (.bl true) S := by simp [s_is_name_2]
    simp only [evB_cons, e2, seq_ite, e1, seq_nx, seq_rt, e3, endF_ite, endF_rt, Ev.fin_bl]
    simp only [nameD]
    by_cases h1 : 1 ≤ s.length <;> by_cases h2 : s.length ≤ 8 <;> cases h3 : s.cps.toList.all az <;> simp [h1, h2, h3]
  all_goals simp [s_is_name_0, tyIs, nameD]
theorem law_is_name (n : Nat) (S : Store) {x : D} (h : sim x = true) (hl : ∀ s, x = .str s → s.length ≤ 1000) : callF Tt (n + 1) 16 [x] S = .ok (.bl (nameD x)) S := by
  rw [callF_is (fd := f_law_is_name) rfl rfl]
  show endF true S (evB (parOf Tt n) [s_law_is_name_0, s_law_is_name_1] [some x, none] S) = _
  cases x <;> first | (cases h; done) | skip
  case str s =>
    have hs := hl s rfl
    have hl2 : ∀ S, op1 S .len (.str s) = some (.int s.length) := fun S => o_lenS S s (by rw [LIM_nat]; omega)
    have e2 : evS (parOf Tt n) s_law_is_name_0 [some (.str s), none] S = if 1 ≤ s.length ∧ s.length ≤ 8 then .nx [some (.str s), none] S else .rt (.bl false) S := by
      simp [s_law_is_name_0, tyIs, hl2]
      repeat' split
      all_goals first | rfl | (exfalso; omega)
    have e1 : evCmp false .ex (.nm 1) [1] (evEs (parOf Tt n) [.var 0]) (evIfs (parOf Tt n) [.op2 .notin (.var 1) (.lit (.str "abcdefghijklmnopqrstuvwxyz"))]) (evE (parOf Tt n) (.var 1)) [some (.str s), none] S = .ok (.lst ((s.cps.toList.map fun c => D.str ⟨#[c]⟩).filterMap fun d => if badS d then some d else none)) S := by
      refine evCmp_F (ds := [.str s]) (ch := []) (g := fun d => if badS d then some d else none) (by simp) (by simp [walkOf]) stays_nil (by simp; rw [← Array.length_toList, ← len_str]; omega) (fun x hx acc => ?_) fun x hx => ?_
      · obtain ⟨c, hc, rfl⟩ := List.mem_map.mp hx
        have e : badS (.str ⟨#[c]⟩) = !az c := rfl
        simp [turnC, setT, wipeE, notin_az, e]
        cases az c <;> simp
      · obtain ⟨c, hc, rfl⟩ := List.mem_map.mp hx
        split <;> rfl
    have e3 : evS (parOf Tt n) s_law_is_name_1 [some (.str s), none] S = .rt (.bl (s.cps.toList.all az)) S := by
      simp only [s_law_is_name_1, evS_ret, evE_op2, evE_cmp, e1, bind_ok, evE_lst, evEs_nil, newL_f]
      rw [if_pos (by simp), bind_ok, eq_nil (flats_of (n := 59) fun x hx => by
        obtain ⟨y, hy, e⟩ := List.mem_filterMap.mp hx
        obtain ⟨c, hc, rfl⟩ := List.mem_map.mp hy
        split at e
        · cases e; rfl
        · cases e)]
      have q : ((s.cps.toList.map fun c => D.str ⟨#[c]⟩).filterMap fun d => if badS d then some d else none).isEmpty = s.cps.toList.all az := by
        induction s.cps.toList with
        | nil => rfl
        | cons c cs ih =>
          have e : badS (.str ⟨#[c]⟩) = !az c := rfl
          simp only [List.map_cons, List.filterMap_cons, e, List.all_cons]
          cases h : az c
          · simp
          · simpa using ih
      rw [q]
      rfl
    simp only [evB_cons, e2, seq_ite, seq_nx, seq_rt, e3, endF_ite, endF_rt, Ev.fin_bl]
    simp only [nameD]
    by_cases h1 : 1 ≤ s.length <;> by_cases h2 : s.length ≤ 8 <;> simp [h1, h2]
  all_goals simp [s_law_is_name_0, tyIs, nameD]
def isS (w : Str) : D → Bool
  | .str s => s == w
  | _ => false
theorem is_word (n : Nat) (S : Store) {x : D} (w : Str) (h : sim x = true) : callF Tt (n + 1) 2 [x, .tup [.str w]] S = .ok (.bl (isS w x)) S := by
  rw [callF_is (fd := f_is_word_of) rfl rfl]
  cases x <;> first | (cases h; done) | skip
  case str s =>
    have e : op2 S .in_ (.str s) (.tup [.str w]) = some (.bl (s == w)) := by
      have e2 : op2 S .in_ (.str s) (.tup [.str w]) = some (.bl ((w == s) || false)) := rfl
      rw [e2, Bool.or_false]
      congr 2
      by_cases q : w = s
      · subst q; simp
      · have q2 : ¬ s = w := fun z => q z.symm
        rw [beq_eq_false_iff_ne.mpr q, beq_eq_false_iff_ne.mpr q2]
    simp [f_is_word_of, env0, tyIs, e, isS]
  all_goals simp [f_is_word_of, env0, tyIs, isS]
def rowD (w : Str) (k : Nat) : D → Bool
  | .tup xs => decide (xs.length = k) && isS w (xs.headD .non)
  | _ => false
def simT : D → Bool
  | .tup xs => xs.all sim
  | d => sim d
theorem is_row (n : Nat) (S : Store) {x : D} (w : Str) (k : Nat) (hk : 1 ≤ k) (h : simT x = true) : callF Tt (n + 2) 3 [x, .str w, .int k] S = .ok (.bl (rowD w k x)) S := by
  rw [callF_is (fd := f_is_row) rfl rfl]
  cases x <;> first | (cases h; done) | skip
  case tup xs =>
    by_cases hl : xs.length = k
    · cases xs with
      | nil => simp at hl; omega
      | cons a as =>
        have ha : sim a = true := by have h : (a :: as).all sim = true := h; simp at h; exact h.1
        have e : ixD (a :: as) 0 = some a := ixD_zero ..
        have e2 := is_word n S w ha
        have hl2 : ((as.length : Int) + 1 = k) := by simp at hl; omega
        simp [f_is_row, env0, tyIs, e, e2, rowD, hl2]
        simp at hl
        simp [hl]
    · have hl2 : ¬ ((xs.length : Int) = k) := by omega
      simp [f_is_row, env0, tyIs, rowD, hl, hl2]
  all_goals simp [f_is_row, env0, tyIs, rowD]
def numD (lo hi : Int) : D → Bool
  | .int i => decide (lo ≤ i) && decide (i ≤ hi)
  | _ => false
theorem is_number (n : Nat) (S : Store) {x : D} (lo hi : Int) (h : sim x = true) : callF Tt (n + 1) 0 [x, .int lo, .int hi] S = .ok (.bl (numD lo hi x)) S := by
  rw [callF_is (fd := f_is_number) rfl rfl]
  cases x <;> first | (cases h; done) | skip
  case int i =>
    simp [f_is_number, env0, tyIs, numD]
    by_cases h1 : lo ≤ i <;> simp [h1]
  all_goals simp [f_is_number, env0, tyIs, numD]
def wholeD : D → Bool
  | .int _ => true
  | _ => false
theorem law_whole (n : Nat) (S : Store) {x : D} (h : sim x = true) : callF Tt (n + 1) 10 [x] S = .ok (.bl (wholeD x)) S := by
  rw [callF_is (fd := f_law_whole) rfl rfl]
  cases x <;> first | (cases h; done) | simp [f_law_whole, env0, tyIs, wholeD]
theorem get_str (S : Store) (s : Str) (i : Int) (h : 0 ≤ i ∧ i < s.length) (hl : s.length ≤ LIM) : ∃ c, op2 S .get (.str s) (.int i) = some (.str ⟨#[c]⟩) := by
  obtain ⟨k, rfl⟩ := Int.eq_ofNat_of_zero_le h.1
  have hk : k < s.cps.toList.length := by rw [← len_str]; omega
  refine ⟨s.cps.toList[k], ?_⟩
  have e : op2 S .get (.str s) (.int k) = if s.length ≤ LIM then (L2.atI s.cps.toList k).map fun c => .str ⟨#[c]⟩ else none := rfl
  rw [e, if_pos hl, atI_nat _ _ hk]
  rfl
theorem app_len (x y : Str) : (x ++ y).length = x.length + y.length := by
  show (x.cps ++ y.cps).size = x.cps.size + y.cps.size
  simp
def strD (ws : List Str) : List D := ws.map .str
theorem clo_strD (n : Nat) : ∀ ws : List Str, clos n (strD ws) = true
  | [] => rfl
  | w :: ws => clo_strD n ws
theorem flats_strD (n : Nat) : ∀ ws : List Str, flats n (strD ws) = true
  | [] => rfl
  | w :: ws => flats_strD n ws
theorem any_strD (w : Str) : ∀ l : List Str, (strD l).any (fun y => eqD y (.str w)) = l.any (· == w)
  | [] => rfl
  | x :: l => by
    have := any_strD w l
    unfold strD at this ⊢
    simp only [List.map_cons, List.any_cons, this]
    rfl
theorem in_tup (S : Store) (w : Str) (l : List Str) : op2 S .in_ (.str w) (.tup (strD l)) = some (.bl (l.any (· == w))) := by
  have e : op2 S .in_ (.str w) (.tup (strD l)) = (inT (.str w) (strD l)).map .bl := rfl
  rw [e]
  unfold inT
  rw [show flat 0 (.str w) = true from rfl, flats_strD, any_strD]
  rfl
theorem in_lst (S : Store) (w : Str) (l : List Str) : op2 S .in_ (.str w) (.lst (strD l)) = some (.bl (l.any (· == w))) ∧ op2 S .notin (.str w) (.lst (strD l)) = some (.bl (!l.any (· == w))) := by
  have e : op2 S .in_ (.str w) (.lst (strD l)) = (inL S (.str w) (.lst (strD l))).map .bl := rfl
  have e2 : op2 S .notin (.str w) (.lst (strD l)) = (inL S (.str w) (.lst (strD l))).map fun c => .bl (!c) := rfl
  have e3 : inL S (.str w) (.lst (strD l)) = some (l.any (· == w)) := by
    unfold inL
    simp only [items]
    rw [show flat 15 (.str w) = true from rfl, flats_strD, any_strD]
    rfl
  rw [e, e2, e3]
  exact ⟨rfl, rfl⟩
def isIn (ws : List Str) : D → Bool
  | .str s => ws.any (· == s)
  | _ => false
theorem is_words (n : Nat) (S : Store) {x : D} (ws : List Str) (h : sim x = true) : callF Tt (n + 1) 2 [x, .tup (strD ws)] S = .ok (.bl (isIn ws x)) S := by
  rw [callF_is (fd := f_is_word_of) rfl rfl]
  cases x <;> first | (cases h; done) | skip
  case str s => simp [f_is_word_of, env0, tyIs, in_tup, isIn]
  all_goals simp [f_is_word_of, env0, tyIs, isIn]
end LawK
namespace LawK
open PySem PySem.Spec PyProof.Rows L2 Ev
/-! ### texts by their signs -/
abbrev mkS (l : List Nat) : Str := ⟨l.toArray⟩
theorem mk_eq {s : Str} {l : List Nat} (h : TL.tl s = l) : s = mkS l := by rw [← h]
theorem mk_self (s : Str) : s = mkS (TL.tl s) := mk_eq rfl
theorem mk_len (l : List Nat) : (mkS l).length = l.length := by rw [TL.len_tl]
theorem mk_beq (a b : List Nat) : (mkS a == mkS b) = decide (a = b) := by
  by_cases h : a = b
  · subst h; simp
  · simp only [h, decide_false]
    refine beq_eq_false_iff_ne.mpr fun e => h ?_
    have := congrArg TL.tl e
    simpa using this
theorem cut_lo (z : Str) (j : Nat) : TL.tl (L2.cutS z (some (j : Int)) none) = (TL.tl z).drop j := by
  unfold L2.cutS
  show (((TL.tl z).drop _).take _) = _
  rw [TL.len_tl]
  simp only [HT.sIx]
  rw [if_neg (by omega), Int.toNat_natCast]
  by_cases h : j ≤ (TL.tl z).length
  · rw [Nat.min_eq_left h, List.take_of_length_le (by simp)]
  · rw [Nat.min_eq_right (by omega), List.drop_of_length_le (by omega), List.drop_of_length_le (by omega), List.take_nil]
theorem cut_hi (z : Str) (j : Nat) : TL.tl (L2.cutS z none (some (j : Int))) = (TL.tl z).take j := by
  unfold L2.cutS
  show (((TL.tl z).drop _).take _) = _
  rw [TL.len_tl]
  simp only [HT.sIx]
  rw [if_neg (by omega), Int.toNat_natCast, List.drop_zero, Nat.sub_zero]
  by_cases h : j ≤ (TL.tl z).length
  · rw [Nat.min_eq_left h]
  · rw [Nat.min_eq_right (by omega), List.take_of_length_le (by omega), List.take_of_length_le (by omega)]
theorem cutS_lo (l : List Nat) (j : Nat) : L2.cutS (mkS l) (some (j : Int)) none = mkS (l.drop j) := mk_eq (cut_lo _ j)
theorem cutS_hi (l : List Nat) (j : Nat) : L2.cutS (mkS l) none (some (j : Int)) = mkS (l.take j) := mk_eq (cut_hi _ j)
theorem o_cut (S : Store) (l : List Nat) (lo hi : Option Int) (h : l.length ≤ 10000000) : cutD S lo hi (.str (mkS l)) = some (.str (L2.cutS (mkS l) lo hi)) := by
  have e : cutD S lo hi (.str (mkS l)) = if (mkS l).length ≤ LIM then some (.str (L2.cutS (mkS l) lo hi)) else none := rfl
  rw [e, if_pos (by rw [mk_len, LIM_nat]; omega)]
theorem s_dash : ("-" : Str) = mkS [45] := by decide +kernel
theorem s_zero : ("0" : Str) = mkS [48] := by decide +kernel
theorem s_emp : ("" : Str) = mkS [] := by decide +kernel
/-! ### numbers as texts -/
def numT (i : Int) : Str := toString i
theorem numT_pos (m : Nat) : numT (m : Int) = mkS (TL.numL m) := mk_eq (TL.tl_num m)
theorem numT_neg (m : Nat) (h : 1 ≤ m) : numT (-(m : Int)) = mkS (45 :: TL.numL m) := by
  obtain ⟨k, rfl⟩ : ∃ k, m = k + 1 := ⟨m - 1, by omega⟩
  have e : toString (-((k + 1 : Nat) : Int)) = "-" ++ toString (((k + 1 : Nat) : Int)) := rfl
  unfold numT
  rw [e]
  apply mk_eq
  have e2 : TL.tl (Str.ofString ("-" ++ toString (((k + 1 : Nat) : Int)))) = TL.tl (Str.ofString "-") ++ TL.tl (Str.ofString (toString (((k + 1 : Nat) : Int)))) := by
    simp only [TL.tl, Str.ofString_eq_toList, String.toList_append, List.map_append]
  rw [e2, TL.tl_num]
  rfl
theorem numL_head (m : Nat) : ∃ d l, TL.numL m = d :: l ∧ 48 ≤ d ∧ d ≤ 57 ∧ (d = 48 → m = 0) := by
  induction m using Nat.strongRecOn with
  | _ m ih =>
    by_cases h : m < 10
    · refine ⟨48 + m, [], TL.numL_lt h, by omega, by omega, by omega⟩
    · obtain ⟨d, l, e, h1, h2, h3⟩ := ih (m / 10) (by omega)
      refine ⟨d, l ++ [48 + m % 10], ?_, h1, h2, fun z => ?_⟩
      · rw [TL.numL_step (by omega), e]; rfl
      · have := h3 z; omega
theorem numL_len (m : Nat) (h : m ≤ 1000000000) : (TL.numL m).length ≤ 10 := TL.numL_len (k := 10) (by omega) (by omega)
def dg (c : Nat) : Bool := (("0123456789" : Str).cps.toList).contains c
theorem notin_dg (S : Store) (c : Nat) : op2 S .notin (.str ⟨#[c]⟩) (.str "0123456789") = some (.bl (!dg c)) := rfl
theorem dg_iff (c : Nat) : dg c = true ↔ 48 ≤ c ∧ c ≤ 57 := by
  constructor
  · intro h
    have k : ∀ c ∈ ("0123456789" : Str).cps.toList, 48 ≤ c ∧ c ≤ 57 := by decide +kernel
    exact k c (by simpa [dg] using h)
  · intro h
    have : c = 48 ∨ c = 49 ∨ c = 50 ∨ c = 51 ∨ c = 52 ∨ c = 53 ∨ c = 54 ∨ c = 55 ∨ c = 56 ∨ c = 57 := by omega
    rcases this with rfl | rfl | rfl | rfl | rfl | rfl | rfl | rfl | rfl | rfl <;> decide +kernel
def badG : D → Bool
  | .str s => !dg (s.cps.getD 0 0)
  | _ => true
theorem any_badG (l : List Nat) : (l.map fun c => D.str ⟨#[c]⟩).any badG = !l.all dg := by
  induction l with
  | nil => rfl
  | cons c cs ih =>
    have e : badG (.str ⟨#[c]⟩) = !dg c := rfl
    simp only [List.map_cons, List.any_cons, e, ih, List.all_cons, Bool.not_and]
open NumText in
theorem val_app (ds : List Nat) (d : Nat) : digitsVal (ds ++ [d]) = digitsVal ds * 10 + (d - 48) := by
  unfold digitsVal
  rw [List.foldl_append]
  rfl
open NumText in
/-- figures, back from their value -/
theorem num_back : ∀ (k : Nat) (ds : List Nat), ds.length = k → (∀ c ∈ ds, 48 ≤ c ∧ c ≤ 57) → ds ≠ [] → (ds.head? = some 48 → ds = [48]) → TL.numL (digitsVal ds) = ds := by
  intro k
  induction k with
  | zero => intro ds h _ hn; exact absurd (List.length_eq_zero_iff.mp h) hn
  | succ k ih =>
    intro ds hl hd hn hz
    rcases List.eq_nil_or_concat ds with rfl | ⟨init, d, rfl⟩
    · exact absurd rfl hn
    · rw [List.concat_eq_append] at *
      have hdd := hd d (by simp)
      cases hi : init with
      | nil =>
        have e : digitsVal ([] ++ [d]) = d - 48 := by simp [digitsVal]
        rw [e, TL.numL_lt (by omega)]
        simp
        omega
      | cons a r =>
        rw [← hi]
        have hne : init ≠ [] := by rw [hi]; simp
        have hh : (init ++ [d]).head? = init.head? := by rw [hi]; rfl
        have h48 : init.head? ≠ some 48 := fun e => by
          have := hz (by rw [hh, e])
          rw [hi] at this
          simp at this
        have e := ih init (by simp at hl; omega) (fun c hc => hd c (List.mem_append_left _ hc)) hne (fun e => absurd e h48)
        have h1 : 1 ≤ digitsVal init := by
          rcases Nat.eq_zero_or_pos (digitsVal init) with h0 | h0
          · rw [h0, TL.numL_lt (by omega)] at e
            rw [← e] at h48
            simp at h48
          · exact h0
        rw [val_app, TL.numL_step (by omega), show (digitsVal init * 10 + (d - 48)) / 10 = digitsVal init by omega, e, show 48 + (digitsVal init * 10 + (d - 48)) % 10 = d by omega]
open NumText in
theorem num_iff {ds : List Nat} (hd : ∀ c ∈ ds, 48 ≤ c ∧ c ≤ 57) (hn : ds ≠ []) : TL.numL (digitsVal ds) = ds ↔ (ds.head? = some 48 → ds = [48]) := by
  constructor
  · intro e h
    obtain ⟨d, l, e2, h1, h2, h3⟩ := numL_head (digitsVal ds)
    have e3 : ds = d :: l := by rw [← e2, e]
    rw [e3] at h
    simp at h
    have h0 := h3 h
    rw [h0, TL.numL_lt (by omega)] at e
    exact e.symm
  · exact num_back _ ds rfl hd hn
/-! ### a word as a number -/
def figs (l : List Nat) : List Nat := if l.take 1 = [45] then l.drop 1 else l
def digs (l : List Nat) : Bool := decide (1 ≤ (figs l).length) && (decide ((figs l).length ≤ 10) && (figs l).all dg)
def zok (l : List Nat) : Bool := !(decide ((figs l).head? = some 48) && decide (l ≠ [48]))
def valI (l : List Nat) : Int := if l.take 1 = [45] then -((NumText.digitsVal (l.drop 1) : Nat) : Int) else ((NumText.digitsVal l : Nat) : Int)
theorem neg_shape {l : List Nat} (h : l.take 1 = [45]) : l = 45 :: l.drop 1 := by
  cases l with
  | nil => simp at h
  | cons c t => simp at h; subst h; rfl
theorem digs_d {l : List Nat} (h : digs l = true) : 1 ≤ (figs l).length ∧ (figs l).length ≤ 10 ∧ ∀ c ∈ figs l, 48 ≤ c ∧ c ≤ 57 := by
  unfold digs at h
  rw [Bool.and_eq_true, Bool.and_eq_true, decide_eq_true_eq, decide_eq_true_eq, List.all_eq_true] at h
  exact ⟨h.1, h.2.1, fun c hc => (dg_iff c).mp (h.2.2 c hc)⟩
theorem figs_len (l : List Nat) : l.length ≤ (figs l).length + 1 ∧ (figs l).length ≤ l.length := by
  unfold figs
  split
  · rename_i h
    have := neg_shape h
    have e := congrArg List.length this
    rw [List.length_cons] at e
    omega
  · omega
theorem int_val {l : List Nat} (h : digs l = true) : intText? (mkS l) = some (valI l) := by
  obtain ⟨h1, h2, h3⟩ := digs_d h
  have hl : l.length ≤ 11 := by have := figs_len l; omega
  unfold figs at h1 h2 h3
  unfold valI
  split
  · rename_i hn
    rw [if_pos hn] at h1 h2 h3
    have e := PySem.intText_neg (x := mkS l) (cs := l.drop 1) (neg_shape hn) h3 (fun e => by rw [e] at h1; simp at h1) (by rw [mk_len]; omega)
    exact e
  · rename_i hn
    rw [if_neg hn] at h1 h2 h3
    exact intText_digits (x := mkS l) h3 (fun e => by
      have e : l = [] := e
      rw [e] at h1; simp at h1) (by rw [mk_len]; omega)
theorem pow10 : ∀ (ds : List Nat), (∀ c ∈ ds, 48 ≤ c ∧ c ≤ 57) → NumText.digitsVal ds < 10 ^ ds.length := by
  intro ds
  induction hk : ds.length generalizing ds with
  | zero => intro _; rw [List.length_eq_zero_iff.mp hk]; simp [NumText.digitsVal]
  | succ k ih =>
    intro h
    rcases List.eq_nil_or_concat ds with rfl | ⟨init, d, rfl⟩
    · simp at hk
    · rw [List.concat_eq_append] at *
      have := ih init (by simp at hk; omega) (fun c hc => h c (List.mem_append_left _ hc))
      have hd := h d (by simp)
      rw [val_app, Nat.pow_succ]
      omega
theorem val_small {l : List Nat} (h : digs l = true) : (valI l).natAbs < 2 ^ 128 := by
  obtain ⟨h1, h2, h3⟩ := digs_d h
  have hp := pow10 _ h3
  have hp2 : 10 ^ (figs l).length ≤ 10 ^ 10 := Nat.pow_le_pow_right (by decide) h2
  have k : (10 : Nat) ^ 10 < 2 ^ 128 := by decide
  have e : (valI l).natAbs = NumText.digitsVal (figs l) := by
    unfold valI figs
    split
    · rw [Int.natAbs_neg]; rfl
    · rfl
  rw [e]
  omega
/-- the text of its value is the word: just where no needless nought stands in it -/
theorem back_iff {l : List Nat} (h : digs l = true) : (numT (valI l) == mkS l) = zok l := by
  obtain ⟨h1, h2, h3⟩ := digs_d h
  have hn : figs l ≠ [] := fun e => by rw [e] at h1; simp at h1
  have ni := num_iff h3 hn
  unfold zok
  unfold valI
  by_cases hs : l.take 1 = [45]
  · have ef : figs l = l.drop 1 := if_pos hs
    have sh := neg_shape hs
    have hl48 : l ≠ [48] := fun e => by rw [e] at hs; simp at hs
    rw [if_pos hs]
    rw [ef] at ni h1 hn ⊢
    generalize hm : NumText.digitsVal (l.drop 1) = m at ni
    rcases Nat.eq_zero_or_pos m with h0 | h0
    · subst h0
      have hh : (l.drop 1).head? = some 48 := by
        rcases Decidable.em ((l.drop 1).head? = some 48) with e | e
        · exact e
        · have := ni.mpr fun z => absurd z e
          rw [TL.numL_lt (by omega)] at this
          rw [← this]
          rfl
      have e0 : numT (-((0 : Nat) : Int)) = mkS (TL.numL 0) := numT_pos 0
      rw [e0, mk_beq, TL.numL_lt (by omega)]
      have : ¬ ([48 + 0] = l) := fun e => hl48 e.symm
      rw [decide_eq_false this, decide_eq_true hh, decide_eq_true hl48]
      rfl
    · rw [numT_neg m h0, mk_beq]
      have k1 : (45 :: TL.numL m = l) ↔ (TL.numL m = l.drop 1) := by
        constructor
        · intro e
          rw [← e]
          rfl
        · intro e
          rw [e, ← sh]
      have key : (45 :: TL.numL m = l) ↔ ¬ ((l.drop 1).head? = some 48) := by
        rw [k1, ni]
        constructor
        · intro k z
          have e := k z
          rw [e] at hm
          simp [NumText.digitsVal] at hm
          omega
        · intro k z
          exact absurd z k
      by_cases hh : (l.drop 1).head? = some 48
      · rw [decide_eq_false fun e => key.mp e hh, decide_eq_true hh, decide_eq_true hl48]
        rfl
      · rw [decide_eq_true (key.mpr hh), decide_eq_false hh]
        rfl
  · have ef : figs l = l := if_neg hs
    rw [if_neg hs]
    rw [ef] at ni ⊢
    rw [numT_pos, mk_beq]
    by_cases hh : l.head? = some 48
    · by_cases h48 : l = [48]
      · rw [decide_eq_true (ni.mpr fun _ => h48), decide_eq_true hh, decide_eq_false (fun e => e h48)]
        rfl
      · rw [decide_eq_false (fun e => h48 (ni.mp e hh)), decide_eq_true hh, decide_eq_true h48]
        rfl
    · rw [decide_eq_true (ni.mpr fun z => absurd z hh), decide_eq_false hh]
      rfl
end LawK
namespace LawK
open PySem PySem.Spec PyProof.Rows L2 Ev
def optI : Option Int → D
  | some i => .int i
  | none => .non
def numV (l : List Nat) : Option Int := if digs l && zok l then some (valI l) else none
theorem c_hi1 (l : List Nat) : L2.cutS (mkS l) none (some 1) = mkS (l.take 1) := cutS_hi l 1
theorem c_lo1 (l : List Nat) : L2.cutS (mkS l) (some 1) none = mkS (l.drop 1) := cutS_lo l 1
theorem o_lenM (S : Store) (l : List Nat) (h : l.length ≤ 10000000) : op1 S .len (.str (mkS l)) = some (.int l.length) := by
  rw [o_lenS S _ (by rw [mk_len, LIM_nat]; omega), mk_len]
theorem o_intM (S : Store) {l : List Nat} (h : digs l = true) : op1 S .int (.str (mkS l)) = some (.int (valI l)) := by
  have hl := figs_len l
  have hd := digs_d h
  have e : op1 S .int (.str (mkS l)) = if (mkS l).length ≤ 640 then (intText? (mkS l)).map .int else none := rfl
  rw [e, if_pos (by rw [mk_len]; omega), int_val h]
  rfl
theorem get0 (S : Store) (c : Nat) (l : List Nat) (h : l.length ≤ 1000000) : op2 S .get (.str (mkS (c :: l))) (.int 0) = some (.str (mkS [c])) := by
  have e : op2 S .get (.str (mkS (c :: l))) (.int 0) = if (mkS (c :: l)).length ≤ LIM then (L2.atI (mkS (c :: l)).cps.toList 0).map fun c => .str ⟨#[c]⟩ else none := rfl
  rw [e, if_pos (by rw [mk_len, LIM_nat]; simp; omega)]
  have := atI_nat (c :: l) 0 (by simp)
  rw [show L2.atI (mkS (c :: l)).cps.toList 0 = L2.atI (c :: l) ((0 : Nat) : Int) from rfl, this]
  rfl
theorem number_of (n : Nat) (S : Store) (l : List Nat) (hl : l.length ≤ 100000) : callF Tt (n + 1) 5 [.str (mkS l)] S = .ok (optI (numV l)) S := by
  rw [callF_is (fd := f_number_of) rfl rfl]
  show endF true S (evB (parOf Tt n) [s_number_of_0, s_number_of_1, s_number_of_2, s_number_of_3, s_number_of_4] [some (.str (mkS l)), none, none] S) = _
  have hf := figs_len l
  have e0 : evS (parOf Tt n) s_number_of_0 [some (.str (mkS l)), none, none] S = .nx [some (.str (mkS l)), some (.str (mkS l)), none] S := by simp [s_number_of_0]
  have e1 : evS (parOf Tt n) s_number_of_1 [some (.str (mkS l)), some (.str (mkS l)), none] S = .nx [some (.str (mkS l)), some (.str (mkS (figs l))), none] S := by
    have c1 := o_cut S l none (some 1) (by omega)
    have c2 := o_cut S l (some 1) none (by omega)
    rw [c_hi1] at c1
    rw [c_lo1] at c2
    by_cases h : l.take 1 = [45]
    · simp [s_number_of_1, c1, c2, s_dash, mk_beq, h, figs]
    · simp [s_number_of_1, c1, c2, s_dash, mk_beq, h, figs]
  rw [evB_cons, e0, seq_nx, evB_cons, e1, seq_nx]
  generalize hds : figs l = ds at hf
  have ln := fun S => o_lenM S ds (by omega)
  by_cases h1 : 1 ≤ ds.length
  · by_cases h2 : ds.length ≤ 10
    · obtain ⟨c, r, rfl⟩ : ∃ c r, ds = c :: r := by cases ds with
        | nil => simp at h1
        | cons c r => exact ⟨c, r, rfl⟩
      have gt := fun S => get0 S c r (by simp at h2; omega)
      have q1 : (1 : Int) ≤ ((c :: r).length : Int) := by simp; omega
      have q2 : ((c :: r).length : Int) ≤ 10 := by omega
      by_cases hz : zok l = true
      · have e2 : evS (parOf Tt n) s_number_of_2 [some (.str (mkS l)), some (.str (mkS (c :: r))), none] S = .nx [some (.str (mkS l)), some (.str (mkS (c :: r))), none] S := by
          unfold zok at hz
          rw [hds] at hz
          by_cases hc : c = 48
          · subst hc
            have h48 : l = [48] := by simpa using hz
            simp only [s_number_of_2, evS_ite, evE_or, evE_not, evE_chn, evE_lit, evE_op1, evE_var, List.getElem?_cons_succ, List.getElem?_cons_zero, ofV_some, bind_ok, ln, ofO_some, c_le, q1, q2, evE_and, evE_op2, gt, s_zero, o_eqS, o_neS, mk_beq, h48]
            simp
          · simp only [s_number_of_2, evS_ite, evE_or, evE_not, evE_chn, evE_lit, evE_op1, evE_var, List.getElem?_cons_succ, List.getElem?_cons_zero, ofV_some, bind_ok, ln, ofO_some, c_le, q1, q2, evE_and, evE_op2, gt, s_zero, o_eqS, o_neS, mk_beq]
            simp [hc]
        obtain ⟨δ', hδ, hfl⟩ := forL_find (ch := []) (i := 2) (S := S) (r := .non) (bad := badG) (f := fun δ S => evB (parOf Tt n) b_number_of_3 δ S) stays_nil (xs := (c :: r).map fun c => .str ⟨#[c]⟩) (δ := [some (.str (mkS l)), some (.str (mkS (c :: r))), none]) (fun x hx => by
          obtain ⟨d, hd', rfl⟩ := List.mem_map.mp hx
          simp [b_number_of_3, notin_dg]
          have e : badG (.str ⟨#[d]⟩) = !dg d := rfl
          rw [e]
          cases dg d <;> simp)
        rw [any_badG] at hfl
        have e3 : evS (parOf Tt n) s_number_of_3 [some (.str (mkS l)), some (.str (mkS (c :: r))), none] S = if (!(c :: r).all dg) = true then .rt .non S else .nx δ' S := by
          simp only [s_number_of_3, evS_for, sFor, evEs_cons, evEs_nil, evE_var, List.getElem?_cons_zero, List.getElem?_cons_succ, ofV_some, bind_ok, walkOf]
          exact hfl
        have hw0 : δ'[0]? = some (some (.str (mkS l))) := by
          rcases hδ with rfl | ⟨x, rfl⟩ <;> rfl
        rw [evB_cons, e2, seq_nx, evB_cons, e3]
        cases ha : (c :: r).all dg
        · have hdg : digs l = false := by unfold digs; rw [hds, ha]; simp
          simp [numV, hdg, optI]
        · have hdg : digs l = true := by unfold digs; rw [hds, ha, decide_eq_true h1, decide_eq_true h2]; rfl
          have oi := o_intM S hdg
          simp [s_number_of_4, hw0, oi, numV, hdg, hz, optI]
      · have e2 : evS (parOf Tt n) s_number_of_2 [some (.str (mkS l)), some (.str (mkS (c :: r))), none] S = .rt .non S := by
          unfold zok at hz
          rw [hds] at hz
          have hz : c = 48 ∧ ¬ (l = [48]) := by simpa using hz
          simp only [s_number_of_2, evS_ite, evE_or, evE_not, evE_chn, evE_lit, evE_op1, evE_var, List.getElem?_cons_succ, List.getElem?_cons_zero, ofV_some, bind_ok, ln, ofO_some, c_le, q1, q2, evE_and, evE_op2, gt, s_zero, o_eqS, o_neS, mk_beq]
          simp [hz.1, hz.2]
        rw [evB_cons, e2, seq_rt]
        have hz2 : zok l = false := by simpa using hz
        simp [numV, hz2, optI]
    · have q1 : (1 : Int) ≤ (ds.length : Int) := by omega
      have q2 : ¬ ((ds.length : Int) ≤ 10) := by omega
      have e2 : evS (parOf Tt n) s_number_of_2 [some (.str (mkS l)), some (.str (mkS ds)), none] S = .rt .non S := by
        simp [s_number_of_2, ln, q1, q2]
      have hdg : digs l = false := by unfold digs; rw [hds, decide_eq_false h2]; simp
      rw [evB_cons, e2, seq_rt]
      simp [numV, hdg, optI]
  · have q1 : ¬ ((1 : Int) ≤ (ds.length : Int)) := by omega
    have e2 : evS (parOf Tt n) s_number_of_2 [some (.str (mkS l)), some (.str (mkS ds)), none] S = .rt .non S := by
      simp [s_number_of_2, ln, q1]
    have hdg : digs l = false := by unfold digs; rw [hds, decide_eq_false h1]; simp
    rw [evB_cons, e2, seq_rt]
    simp [numV, hdg, optI]
/-- the law's own reading of a number, at least so great -/
def numO (l : List Nat) (least : Int) : Option Int := if digs l && (zok l && (decide (least ≤ valI l) && decide (valI l ≤ 1000000000))) then some (valI l) else none
theorem law_number (n : Nat) (S : Store) (l : List Nat) (least : Int) (hl : l.length ≤ 100000) : callF Tt (n + 1) 17 [.str (mkS l), .int least] S = .ok (optI (numO l least)) S := by
  rw [callF_is (fd := f_law_number) rfl rfl]
  show endF true S (evB (parOf Tt n) [s_law_number_0, s_law_number_1, s_law_number_2, s_law_number_3, s_law_number_4, s_law_number_5] [some (.str (mkS l)), some (.int least), none, none, none] S) = _
  have hf := figs_len l
  have e0 : evS (parOf Tt n) s_law_number_0 [some (.str (mkS l)), some (.int least), none, none, none] S = .nx [some (.str (mkS l)), some (.int least), some (.str (mkS l)), none, none] S := by simp [s_law_number_0]
  have e1 : evS (parOf Tt n) s_law_number_1 [some (.str (mkS l)), some (.int least), some (.str (mkS l)), none, none] S = .nx [some (.str (mkS l)), some (.int least), some (.str (mkS (figs l))), none, none] S := by
    have c1 := o_cut S l none (some 1) (by omega)
    have c2 := o_cut S l (some 1) none (by omega)
    rw [c_hi1] at c1
    rw [c_lo1] at c2
    by_cases h : l.take 1 = [45]
    · simp [s_law_number_1, c1, c2, s_dash, mk_beq, h, figs]
    · simp [s_law_number_1, c1, c2, s_dash, mk_beq, h, figs]
  rw [evB_cons, e0, seq_nx, evB_cons, e1, seq_nx]
  generalize hds : figs l = ds at hf
  have ln := fun S => o_lenM S ds (by omega)
  have cm : evCmp false .ex (.nm 4) [4] (evEs (parOf Tt n) [.var 2]) (evIfs (parOf Tt n) [.op2 .notin (.var 4) (.lit (.str "0123456789"))]) (evE (parOf Tt n) (.var 4)) [some (.str (mkS l)), some (.int least), some (.str (mkS ds)), none, none] S = .ok (.lst ((ds.map fun c => D.str ⟨#[c]⟩).filterMap fun d => if badG d then some d else none)) S := by
    refine evCmp_F (ds := [.str (mkS ds)]) (ch := []) (g := fun d => if badG d then some d else none) (by simp) (by simp [walkOf]) stays_nil (by simp; omega) (fun x hx acc => ?_) fun x hx => ?_
    · obtain ⟨c, hc, rfl⟩ := List.mem_map.mp hx
      have e : badG (.str ⟨#[c]⟩) = !dg c := rfl
      simp [turnC, setT, wipeE, notin_dg, e]
      cases dg c <;> simp
    · obtain ⟨c, hc, rfl⟩ := List.mem_map.mp hx
      split <;> rfl
  have ne : op2 S .ne (.lst ((ds.map fun c => D.str ⟨#[c]⟩).filterMap fun d => if badG d then some d else none)) (.lst []) = some (.bl (!ds.all dg)) := by
    rw [ne_nil (flats_of (n := 59) fun x hx => by
        obtain ⟨y, hy, e⟩ := List.mem_filterMap.mp hx
        obtain ⟨c, hc, rfl⟩ := List.mem_map.mp hy
        split at e
        · cases e; rfl
        · cases e)]
    have q : ((ds.map fun c => D.str ⟨#[c]⟩).filterMap fun d => if badG d then some d else none).isEmpty = ds.all dg := by
      clear hf ln cm hds
      induction ds with
      | nil => rfl
      | cons c cs ih =>
        have e : badG (.str ⟨#[c]⟩) = !dg c := rfl
        simp only [List.map_cons, List.filterMap_cons, e, List.all_cons]
        cases h : dg c
        · simp
        · simpa using ih
    rw [q]
  have e2 : evS (parOf Tt n) s_law_number_2 [some (.str (mkS l)), some (.int least), some (.str (mkS ds)), none, none] S = if digs l = true then .nx [some (.str (mkS l)), some (.int least), some (.str (mkS ds)), none, none] S else .rt .non S := by
    have hdg : digs l = (decide (1 ≤ ds.length) && (decide (ds.length ≤ 10) && ds.all dg)) := by unfold digs; rw [hds]
    rw [hdg]
    rw [s_law_number_2, evS_ite]
    simp only [evE_or, evE_op2, evE_var, evE_lit, List.getElem?_cons_succ, List.getElem?_cons_zero, ofV_some, bind_ok, s_emp, o_eqS, mk_beq, ofO_some, ifB_bl, evE_cmp, cm, evE_lst, evEs_nil, evE_op1, ln, o_gt]
    by_cases hne : ds = []
    · simp [hne]
    · have h1 : 1 ≤ ds.length := List.length_pos_iff.mpr hne
      have ne' := ne
      simp only [List.length_nil, Nat.zero_le, if_true, newL_f, bind_ok, ne', ofO_some]
      by_cases h10 : ds.length ≤ 10
      · have q : ¬ (10 : Int) < ds.length := by omega
        cases ds.all dg <;> simp [hne, h1, h10, q]
      · have q : (10 : Int) < ds.length := by omega
        cases ds.all dg <;> simp [hne, h1, h10, q]
  rw [evB_cons, e2]
  cases hdg : digs l
  · simp [numO, hdg, optI]
  · have oi := o_intM S hdg
    have os : op1 S .str (.int (valI l)) = some (.str (numT (valI l))) := by
      have e : op1 S .str (.int (valI l)) = if (valI l).natAbs < 2 ^ 128 then some (.str (toString (valI l))) else none := rfl
      rw [e, if_pos (val_small hdg)]
      rfl
    have bk := back_iff hdg
    rw [if_pos rfl, seq_nx, evB_cons, show evS (parOf Tt n) s_law_number_3 [some (.str (mkS l)), some (.int least), some (.str (mkS ds)), none, none] S = .nx [some (.str (mkS l)), some (.int least), some (.str (mkS ds)), some (.int (valI l)), none] S by simp [s_law_number_3, oi]]
    rw [seq_nx, evB_cons]
    have e4 : evS (parOf Tt n) s_law_number_4 [some (.str (mkS l)), some (.int least), some (.str (mkS ds)), some (.int (valI l)), none] S = if (zok l && (decide (least ≤ valI l) && decide (valI l ≤ 1000000000))) = true then .nx [some (.str (mkS l)), some (.int least), some (.str (mkS ds)), some (.int (valI l)), none] S else .rt .non S := by
      rw [s_law_number_4, evS_ite]
      simp only [evE_or, evE_op2, evE_op1, evE_var, evE_lit, List.getElem?_cons_succ, List.getElem?_cons_zero, ofV_some, bind_ok, os, ofO_some, o_neS, bk, ifB_bl, evE_not, evE_chn, o_pow9, c_le]
      cases hz : zok l
      · simp
      · by_cases q1 : least ≤ valI l <;> by_cases q2 : valI l ≤ 1000000000 <;> simp [q1, q2]
    rw [e4]
    cases hc : (zok l && (decide (least ≤ valI l) && decide (valI l ≤ 1000000000)))
    · simp [numO, hdg, hc, optI]
    · simp [numO, hdg, hc, optI, s_law_number_5]
end LawK
namespace LawK
open PySem PySem.Spec PyProof.Rows L2 Ev
theorem ix1 (a b : D) (r : List D) : ixD (a :: b :: r) 1 = some b := atI_nat (a :: b :: r) 1 (by simp)
theorem ix2 (a b c : D) (r : List D) : ixD (a :: b :: c :: r) 2 = some c := atI_nat (a :: b :: c :: r) 2 (by simp)
theorem ix3 (a b c d : D) (r : List D) : ixD (a :: b :: c :: d :: r) 3 = some d := atI_nat (a :: b :: c :: d :: r) 3 (by simp)
theorem ix4 (a b c d e : D) (r : List D) : ixD (a :: b :: c :: d :: e :: r) 4 = some e := atI_nat (a :: b :: c :: d :: e :: r) 4 (by simp)
def letterD (x : D) : Bool := if rowD "add" 2 x then numD (-1000000000) 1000000000 (match x with
  | .tup [_, b] => b
  | _ => .non) else rowD "fault" 1 x || rowD "leave" 1 x
theorem is_letter (n : Nat) (S : Store) {x : D} (h : simT x = true) : callF Tt (n + 3) 4 [x] S = .ok (.bl (letterD x)) S := by
  rw [callF_is (fd := f_is_letter) rfl rfl]
  have r1 := is_row n S "add" 2 (by omega) h
  have r2 := is_row n S "fault" 1 (by omega) h
  have r3 := is_row n S "leave" 1 (by omega) h
  show endF true S (evB (parOf Tt (n + 2)) [s_is_letter_0, s_is_letter_1] [some x] S) = _
  have e1 : evS (parOf Tt (n + 2)) s_is_letter_1 [some x] S = .rt (.bl (rowD "fault" 1 x || rowD "leave" 1 x)) S := by
    simp at r2 r3
    simp [s_is_letter_1, r2, r3]
    cases rowD "fault" 1 x <;> simp
  cases hr : rowD "add" 2 x
  · have e0 : evS (parOf Tt (n + 2)) s_is_letter_0 [some x] S = .nx [some x] S := by
      simp at r1
      simp [s_is_letter_0, r1, hr]
    simp [e0, e1, letterD, hr]
  · have : ∃ a b, x = .tup [a, b] := by
      unfold rowD at hr
      split at hr
      · rename_i xs
        simp at hr
        match xs, hr with
        | [a, b], _ => exact ⟨a, b, rfl⟩
      · cases hr
    obtain ⟨a, b, rfl⟩ := this
    have hb : sim b = true := by have h : [a, b].all sim = true := h; simp at h; exact h.2
    have r4 := is_number (n + 1) S (-1000000000) 1000000000 hb
    have e0 : evS (parOf Tt (n + 2)) s_is_letter_0 [some (.tup [a, b])] S = .rt (.bl (numD (-1000000000) 1000000000 b)) S := by
      have e : ixD [a, b] 1 = some b := rfl
      simp at r1
      simp [s_is_letter_0, r1, hr, e, r4]
    simp [e0, letterD, hr]
theorem notin_tup (S : Store) (w : Str) (l : List Str) : op2 S .notin (.str w) (.tup (strD l)) = some (.bl (!l.any (· == w))) := by
  have e : op2 S .notin (.str w) (.tup (strD l)) = (inT (.str w) (strD l)).map fun c => .bl (!c) := rfl
  rw [e]
  unfold inT
  rw [show flat 0 (.str w) = true from rfl, flats_strD, any_strD]
  rfl
def W4 : List Str := ["begins", "ends", "fails", "leaves"]
def W3 : List Str := ["works", "lost", "sent"]
theorem in4 (S : Store) (w : Str) : op2 S .in_ (.str w) (.tup [.str "begins", .str "ends", .str "fails", .str "leaves"]) = some (.bl (W4.any (· == w))) := in_tup S w W4
theorem in4L (S : Store) (w : Str) : op2 S .in_ (.str w) (.lst [.str "begins", .str "ends", .str "fails", .str "leaves"]) = some (.bl (W4.any (· == w))) := (in_lst S w W4).1
theorem notin3 (S : Store) (w : Str) : op2 S .notin (.str w) (.tup [.str "works", .str "lost", .str "sent"]) = some (.bl (!W3.any (· == w))) := notin_tup S w W3
theorem notin3L (S : Store) (w : Str) : op2 S .notin (.str w) (.lst [.str "works", .str "lost", .str "sent"]) = some (.bl (!W3.any (· == w))) := (in_lst S w W3).2
theorem number_ofS (n : Nat) (S : Store) (w : Str) (hl : w.length ≤ 1000) : callF Tt (n + 1) 5 [.str w] S = .ok (optI (numV (TL.tl w))) S := by
  have := number_of n S (TL.tl w) (by rw [← TL.len_tl]; omega)
  rwa [← mk_self] at this
theorem law_numberS (n : Nat) (S : Store) (w : Str) (least : Int) (hl : w.length ≤ 1000) : callF Tt (n + 1) 17 [.str w, .int least] S = .ok (optI (numO (TL.tl w) least)) S := by
  have := law_number n S (TL.tl w) least (by rw [← TL.len_tl]; omega)
  rwa [← mk_self] at this
theorem num_some {l : List Nat} {lo i : Int} (h : numO l lo = some i) : numV l = some i ∧ numD lo 1000000000 (optI (numV l)) = true := by
  unfold numO at h
  split at h
  · rename_i q
    rw [Bool.and_eq_true, Bool.and_eq_true, Bool.and_eq_true] at q
    obtain ⟨q1, q2, q3, q4⟩ := q
    have e : numV l = some (valI l) := by unfold numV; rw [q1, q2]; rfl
    rw [e]
    refine ⟨h, ?_⟩
    show (decide (lo ≤ valI l) && decide (valI l ≤ 1000000000)) = true
    rw [q3, q4]
    rfl
  · cases h
theorem num_none {l : List Nat} {lo : Int} (h : numO l lo = none) : numD lo 1000000000 (optI (numV l)) = false := by
  unfold numO at h
  unfold numV
  cases q1 : digs l <;> cases q2 : zok l <;> simp only [q1, q2, Bool.true_and, Bool.and_true, Bool.false_and, Bool.and_false, if_true] at h ⊢ <;> first | rfl | skip
  show (decide (lo ≤ valI l) && decide (valI l ≤ 1000000000)) = false
  cases q : (decide (lo ≤ valI l) && decide (valI l ≤ 1000000000))
  · rfl
  · rw [q] at h; cases h
theorem sim_optI (o : Option Int) : sim (optI o) = true := by cases o <;> rfl
def letS : List Str → Option (List D)
  | [w] => if w == "fault" then some [.str "fault"] else if w == "leave" then some [.str "leave"] else none
  | [w, v] => if w == "add" then (match numO (TL.tl v) (-1000000000) with
    | some i => some [.str "add", .int i]
    | none => none) else none
  | _ => none
def optL : Option (List D) → D
  | some ld => .tup ld
  | none => .non
theorem sim_strD : ∀ ws : List Str, (strD ws).all sim = true
  | [] => rfl
  | w :: ws => sim_strD ws
theorem letter_of (n : Nat) (S : Store) (ws : List Str) (hw : ∀ w ∈ ws, w.length ≤ 1000) (hl : ws.length ≤ 1000) : callF Tt (n + 4) 6 [.lst (strD ws)] S = .ok (optL (letS ws)) S := by
  rw [callF_is (fd := f_letter_of) rfl rfl]
  show endF true S (evB (parOf Tt (n + 3)) [s_letter_of_0, s_letter_of_1, s_letter_of_2, s_letter_of_3] [some (.lst (strD ws)), none] S) = _
  have tp : ∀ (S : Store) (xs : List D), op1 S .tuple (.lst xs) = some (.tup xs) := fun _ _ => rfl
  have sl : (strD ws).length = ws.length := List.length_map _
  -- a letter that is none: any length but one and two
  have far : ws.length ≠ 1 → ws.length ≠ 2 → endF true S (evB (parOf Tt (n + 3)) [s_letter_of_0, s_letter_of_1, s_letter_of_2, s_letter_of_3] [some (.lst (strD ws)), none] S) = .ok .non S := fun h1 h2 => by
    have il := is_letter n S (x := .tup (strD ws)) (sim_strD ws)
    have q1 : rowD "add" 2 (.tup (strD ws)) = false := by simp [rowD, sl, h2]
    have q2 : rowD "fault" 1 (.tup (strD ws)) = false := by simp [rowD, sl, h1]
    have q3 : rowD "leave" 1 (.tup (strD ws)) = false := by simp [rowD, sl, h1]
    have hlt : letterD (.tup (strD ws)) = false := by unfold letterD; rw [q1, q2, q3]; rfl
    rw [hlt] at il
    have h2' : ¬ ((ws.length : Int) = 2) := by omega
    simp [s_letter_of_0, s_letter_of_1, s_letter_of_2, s_letter_of_3, tp, sl, h2', il]
  match ws, hw, sl, far with
  | [], _, _, far => exact far (by decide) (by decide)
  | a :: b :: c :: r, _, _, far => exact far (by simp) (by simp)
  | [w], _, _, _ =>
    have il := is_letter n S (x := .tup [.str w]) rfl
    have q1 : rowD "add" 2 (.tup [.str w]) = false := by simp [rowD]
    have hlt : letterD (.tup [.str w]) = (w == "fault" || w == "leave") := by
      unfold letterD
      rw [q1]
      simp [rowD, isS]
    rw [hlt] at il
    have f1 : ((strD [w]).length : Int) = 1 := rfl
    cases h1 : (w == ("fault" : Str))
    · cases h2 : (w == ("leave" : Str))
      · rw [h1, h2] at il
        simp only [strD, List.map_cons, List.map_nil]
        simp [s_letter_of_0, s_letter_of_1, s_letter_of_2, s_letter_of_3, tp, il, letS, h1, h2, optL]
      · rw [h1, h2] at il
        have e : w = "leave" := eq_of_beq h2
        subst e
        simp only [strD, List.map_cons, List.map_nil]
        simp [s_letter_of_0, s_letter_of_1, s_letter_of_2, s_letter_of_3, tp, il, letS, h1, optL]
        exact fin_clo rfl
    · rw [h1] at il
      have e : w = "fault" := eq_of_beq h1
      subst e
      simp only [strD, List.map_cons, List.map_nil]
      simp [s_letter_of_0, s_letter_of_1, s_letter_of_2, s_letter_of_3, tp, il, letS, optL]
      exact fin_clo rfl
  | [w, v], hw, _, _ =>
    have e := number_ofS (n + 2) S v (hw v (by simp))
    have il := is_letter n S (x := .tup [.str w, optI (numV (TL.tl v))]) (by show ([D.str w, optI (numV (TL.tl v))].all sim) = true; simp [sim_optI]; rfl)
    have hlt : letterD (.tup [.str w, optI (numV (TL.tl v))]) = ((w == "add") && numD (-1000000000) 1000000000 (optI (numV (TL.tl v)))) := by
      unfold letterD
      have q1 : rowD "add" 2 (.tup [.str w, optI (numV (TL.tl v))]) = (w == "add") := by simp [rowD, isS]
      have q2 : rowD "fault" 1 (.tup [.str w, optI (numV (TL.tl v))]) = false := by simp [rowD]
      have q3 : rowD "leave" 1 (.tup [.str w, optI (numV (TL.tl v))]) = false := by simp [rowD]
      rw [q1, q2, q3]
      cases (w == ("add" : Str)) <;> simp
    rw [hlt] at il
    cases h1 : (w == ("add" : Str))
    · rw [h1] at il
      simp only [strD, List.map_cons, List.map_nil]
      simp [s_letter_of_0, s_letter_of_1, s_letter_of_2, s_letter_of_3, tp, ix1, e, il, letS, h1, optL]
    · have ew : w = "add" := eq_of_beq h1
      subst ew
      cases hn : numO (TL.tl v) (-1000000000) with
      | none =>
        rw [h1, num_none hn] at il
        simp only [strD, List.map_cons, List.map_nil]
        simp [s_letter_of_0, s_letter_of_1, s_letter_of_2, s_letter_of_3, tp, ix1, e, il, letS, optL, hn]
      | some i =>
        obtain ⟨e1, e2⟩ := num_some hn
        rw [h1, e2] at il
        rw [e1] at il e
        simp only [strD, List.map_cons, List.map_nil]
        simp [s_letter_of_0, s_letter_of_1, s_letter_of_2, s_letter_of_3, tp, ix1, e, il, letS, optL, hn, optI]
        simp [optI] at il
        simp [il]
        exact fin_clo rfl
end LawK
namespace LawK
open PySem PySem.Spec PyProof.Rows L2 Ev
/-- what a row's words tell -/
def tailS (w0 w1 : Str) : List Str → D
  | [] => .non
  | w2 :: r => if W3.any (· == w0) then (match numO (TL.tl w2) 1 with
    | none => .non
    | some i => if w0 == "sent" then (match letS r with
      | some ld => .tup [.str "sent", .str w1, .int i, .tup ld]
      | none => .non) else if r.isEmpty then .tup [.str w0, .str w1, .int i] else .non) else .non
def rowS : List Str → D
  | w0 :: w1 :: r => if nameD (.str w1) then (if r.isEmpty && W4.any (· == w0) then .tup [.str w0, .str w1] else tailS w0 w1 r) else .non
  | _ => .non
theorem letS_clo {ws : List Str} {ld : List D} (h : letS ws = some ld) : clos 0 ld = true := by
  unfold letS at h
  split at h
  · split at h
    · cases h; rfl
    · split at h
      · cases h; rfl
      · cases h
  · split at h
    · split at h
      · cases h; rfl
      · cases h
    · cases h
  · cases h
theorem w34 (w : Str) (h : W3.any (· == w) = true) : W4.any (· == w) = false := by
  obtain ⟨x, hx, e⟩ := List.any_eq_true.mp h
  have := eq_of_beq e
  subst this
  have k : ∀ w ∈ W3, W4.any (· == w) = false := by decide +kernel
  exact k x hx
theorem cut3 (S : Store) (a b c : D) (r : List D) : cutD S (some 3) none (.lst (a :: b :: c :: r)) = some (.lst r) := by
  have e : cutD S (some 3) none (.lst (a :: b :: c :: r)) = some (.lst (cutG (a :: b :: c :: r) (some 3) none)) := rfl
  rw [e]
  simp [cutG, HT.sIx]
theorem event_of (n : Nat) (S : Store) (ws : List Str) (hw : ∀ w ∈ ws, w.length ≤ 1000) (hl : ws.length ≤ 1000) : callF Tt (n + 5) 7 [.lst (strD ws)] S = .ok (rowS ws) S := by
  rw [callF_is (fd := f_event_of) rfl rfl]
  show endF true S (evB (parOf Tt (n + 4)) [s_event_of_0, s_event_of_1, s_event_of_2, s_event_of_3, s_event_of_4, s_event_of_5, s_event_of_6] [some (.lst (strD ws)), none] S) = _
  match ws, hw, hl with
  | [], _, _ => simp [strD, s_event_of_0, rowS]
  | [a], _, _ => simp [strD, s_event_of_0, rowS]
  | w0 :: w1 :: r, hw, hl =>
    have e := is_name (n + 3) S (x := .str w1) rfl (fun s e => by cases e; exact hw _ (by simp))
    have sl : (strD r).length = r.length := List.length_map _
    have es : strD (w0 :: w1 :: r) = .str w0 :: .str w1 :: strD r := rfl
    rw [es]
    have g1 : ¬ ((r.length : Int) + 1 + 1) < 2 := by omega
    cases hn : nameD (.str w1)
    · rw [hn] at e
      simp [s_event_of_0, ix1, e, rowS, hn, sl, g1]
    · rw [hn] at e
      have e0 : evS (parOf Tt (n + 4)) s_event_of_0 [some (.lst (.str w0 :: .str w1 :: strD r)), none] S = .nx [some (.lst (.str w0 :: .str w1 :: strD r)), none] S := by
        simp [s_event_of_0, ix1, e, sl, g1]
      rw [evB_cons, e0, seq_nx]
      match r, hw, hl, sl, g1 with
      | [], _, _, _, _ =>
        cases h4 : W4.any (· == w0)
        · cases h3 : W3.any (· == w0)
          · simp [strD, s_event_of_1, s_event_of_2, in4, notin3, h4, h3, rowS, hn, tailS]
          · simp [strD, s_event_of_1, s_event_of_2, in4, notin3, h4, h3, rowS, hn, tailS]
        · simp [strD, s_event_of_1, in4, h4, rowS, hn, ix1]
          exact fin_clo rfl
      | w2 :: r', hw, hl, sl, g1 =>
        have sl' : (strD r').length = r'.length := List.length_map _
        have es' : strD (w2 :: r') = .str w2 :: strD r' := rfl
        rw [es']
        have g2 : ¬ ((r'.length : Int) + 1 + 1 + 1) = 2 := by omega
        have g3 : ¬ ((r'.length : Int) + 1 + 1 + 1) < 3 := by omega
        have e1 : evS (parOf Tt (n + 4)) s_event_of_1 [some (.lst (.str w0 :: .str w1 :: .str w2 :: strD r')), none] S = .nx [some (.lst (.str w0 :: .str w1 :: .str w2 :: strD r')), none] S := by
          cases h4 : W4.any (· == w0)
          · simp [s_event_of_1, in4, h4]
          · simp [s_event_of_1, in4, h4, sl', g2]
        rw [evB_cons, e1, seq_nx]
        have hr : rowS (w0 :: w1 :: w2 :: r') = tailS w0 w1 (w2 :: r') := by simp [rowS, hn]
        rw [hr]
        cases h3 : W3.any (· == w0)
        · simp [s_event_of_2, notin3, h3, tailS]
        · have e2 := number_ofS (n + 3) S w2 (hw w2 (by simp))
          have e3 := is_number (n + 3) S (x := optI (numV (TL.tl w2))) 1 1000000000 (sim_optI _)
          cases ho : numO (TL.tl w2) 1 with
          | none =>
            rw [num_none ho] at e3
            simp [s_event_of_2, notin3, h3, sl', g3, ix2, e2, e3, tailS, ho]
          | some i =>
            obtain ⟨v1, v2⟩ := num_some ho
            rw [v2] at e3
            have e4 : evS (parOf Tt (n + 4)) s_event_of_2 [some (.lst (.str w0 :: .str w1 :: .str w2 :: strD r')), none] S = .nx [some (.lst (.str w0 :: .str w1 :: .str w2 :: strD r')), none] S := by
              simp [s_event_of_2, notin3, h3, sl', g3, ix2, e2, e3]
            rw [evB_cons, e4, seq_nx]
            rw [v1] at e2
            simp only [optI] at e2
            cases hs : (w0 == ("sent" : Str))
            · have wn : ¬ w0 = "sent" := by simpa using hs
              match r' with
              | [] =>
                simp [strD, s_event_of_3, wn, ix1, ix2, e2, tailS, h3, ho, hs]
                exact fin_clo rfl
              | x :: xs =>
                have q : ¬ (((xs.length : Int) + 1 + 1 + 1 + 1) = 3) := by omega
                simp [strD, s_event_of_3, wn, ix1, ix2, tailS, h3, ho, hs, q]
            · have e5 := letter_of n S r' (fun w hwr => hw w (by simp [hwr])) (by simp at hl; omega)
              have ew : w0 = "sent" := eq_of_beq hs
              subst ew
              cases hL : letS r' with
              | none =>
                rw [hL] at e5
                simp only [optL] at e5
                have isn : ∀ S, op2 S .is_ .non .non = some (.bl true) := fun _ => rfl
                simp [s_event_of_3, s_event_of_4, s_event_of_5, cut3, e5, isn, tailS, h3, ho, hL]
              | some ld =>
                rw [hL] at e5
                simp only [optL] at e5
                have isn : ∀ S, op2 S .is_ (.tup ld) .non = some (.bl false) := fun _ => rfl
                simp [s_event_of_3, s_event_of_4, s_event_of_5, s_event_of_6, cut3, e5, isn, tailS, h3, ho, hL, ix1, ix2, e2]
                exact fin_clo (by simp [clo, clos, letS_clo hL])
end LawK
namespace LawK
open PySem PySem.Spec PyProof.Rows L2 Ev
theorem eqDs_strs : ∀ (xs ys : List Str), eqDs (strD xs) (strD ys) = decide (xs = ys)
  | [], [] => rfl
  | [], _ :: _ => rfl
  | _ :: _, [] => rfl
  | x :: xs, y :: ys => by
    have ih := eqDs_strs xs ys
    unfold strD at ih ⊢
    simp only [List.map_cons, eqDs, ih, eqD]
    by_cases h : x = y <;> simp [h]
theorem eq_strs (S : Store) (a b : List Str) : op2 S .eq (.lst (strD a)) (.lst (strD b)) = some (.bl (decide (a = b))) := by
  have f : ∀ l, isFlat (.lst (strD l)) = true := fun l => flats_strD 59 l
  have e : op2 S .eq (.lst (strD a)) (.lst (strD b)) = if isFlat (.lst (strD a)) && isFlat (.lst (strD b)) then some (.bl (eqDs (strD a) (strD b))) else none := rfl
  rw [e, f, f, eqDs_strs]
  rfl
theorem eq_fault (S : Store) (a : List Str) : op2 S .eq (.lst (strD a)) (.lst [.str "fault"]) = some (.bl (decide (a = [("fault" : Str)]))) := eq_strs S a [("fault" : Str)]
theorem eq_leave (S : Store) (a : List Str) : op2 S .eq (.lst (strD a)) (.lst [.str "leave"]) = some (.bl (decide (a = [("leave" : Str)]))) := eq_strs S a [("leave" : Str)]
theorem sp_len : (" " : Str).length = 1 := by decide +kernel
theorem split_o (z w : Str) (h1 : w.length = 1) (h2 : w.cps.all (· < 256) = true) (h3 : z.length ≤ 1000000) : splitO (.str z) (.str w) = some (.lst (strD (Txt.split z w))) := by
  show (if _ then _ else _) = _
  rw [if_pos ⟨h1, h2, by rw [LIM_nat]; omega⟩]
  rfl
/-- a line's words are short -/
def Words (line : Str) : Prop := line.length ≤ 1000000 ∧ (Txt.split line " ").length ≤ 1000 ∧ ∀ w ∈ Txt.split line " ", w.length ≤ 1000
theorem law_row_of (n : Nat) (S : Store) (line : Str) (h : Words line) : callF Tt (n + 2) 18 [.str line] S = .ok (rowS (Txt.split line " ")) S := by
  rw [callF_is (fd := f_law_row_of) rfl rfl]
  show endF true S (evB (parOf Tt (n + 1)) [s_law_row_of_0, s_law_row_of_1, s_law_row_of_2, s_law_row_of_3, s_law_row_of_4, s_law_row_of_5, s_law_row_of_6, s_law_row_of_7, s_law_row_of_8] [some (.str line), none, none] S) = _
  obtain ⟨hl0, hl, hw⟩ := h
  have so := split_o line " " sp_len (by decide +kernel) hl0
  have e0 : evS (parOf Tt (n + 1)) s_law_row_of_0 [some (.str line), none, none] S = .nx [some (.str line), some (.lst (strD (Txt.split line " "))), none] S := by
    simp [s_law_row_of_0, so, isStr]
  rw [evB_cons, e0, seq_nx]
  generalize Txt.split line " " = ws at hl hw
  match ws, hw, hl with
  | [], _, _ => simp [strD, s_law_row_of_1, rowS]
  | [a], _, _ => simp [strD, s_law_row_of_1, rowS]
  | w0 :: w1 :: r, hw, hl =>
    have e := law_is_name n S (x := .str w1) rfl (fun s e => by cases e; exact hw _ (by simp))
    have sl : (strD r).length = r.length := List.length_map _
    have es : strD (w0 :: w1 :: r) = .str w0 :: .str w1 :: strD r := rfl
    rw [es]
    have g1 : ¬ ((r.length : Int) + 1 + 1) < 2 := by omega
    cases hn : nameD (.str w1)
    · rw [hn] at e
      simp [s_law_row_of_1, ix1, e, rowS, hn, sl, g1]
    · rw [hn] at e
      have e0 : evS (parOf Tt (n + 1)) s_law_row_of_1 [some (.str line), some (.lst (.str w0 :: .str w1 :: strD r)), none] S = .nx [some (.str line), some (.lst (.str w0 :: .str w1 :: strD r)), none] S := by
        simp [s_law_row_of_1, ix1, e, sl, g1]
      rw [evB_cons, e0, seq_nx]
      match r, hw, hl, sl, g1 with
      | [], _, _, _, _ =>
        cases h4 : W4.any (· == w0)
        · simp [strD, s_law_row_of_2, s_law_row_of_3, in4L, h4, rowS, hn, tailS]
        · simp [strD, s_law_row_of_2, in4L, h4, rowS, hn, ix1]
          exact fin_clo rfl
      | w2 :: r', hw, hl, sl, g1 =>
        have sl' : (strD r').length = r'.length := List.length_map _
        have es' : strD (w2 :: r') = .str w2 :: strD r' := rfl
        rw [es']
        have g2 : ¬ ((r'.length : Int) + 1 + 1 + 1) = 2 := by omega
        have g3 : ¬ ((r'.length : Int) + 1 + 1 + 1) < 3 := by omega
        have e1 : evS (parOf Tt (n + 1)) s_law_row_of_2 [some (.str line), some (.lst (.str w0 :: .str w1 :: .str w2 :: strD r')), none] S = .nx [some (.str line), some (.lst (.str w0 :: .str w1 :: .str w2 :: strD r')), none] S := by
          simp [s_law_row_of_2, sl', g2]
        rw [evB_cons, e1, seq_nx]
        have hr : rowS (w0 :: w1 :: w2 :: r') = tailS w0 w1 (w2 :: r') := by simp [rowS, hn]
        rw [hr]
        cases h3 : W3.any (· == w0)
        · simp [s_law_row_of_3, notin3L, h3, tailS, sl', g3]
        · have e2 := law_numberS n S w2 1 (hw w2 (by simp))
          cases ho : numO (TL.tl w2) 1 with
          | none =>
            rw [ho] at e2
            simp only [optI] at e2
            have isn : ∀ S, op2 S .is_ .non .non = some (.bl true) := fun _ => rfl
            simp [s_law_row_of_3, notin3L, h3, sl', g3, ix2, e2, isn, tailS, ho]
          | some i =>
            rw [ho] at e2
            simp only [optI] at e2
            have isn : ∀ S, op2 S .is_ (.int i) .non = some (.bl false) := fun _ => rfl
            have e4 : evS (parOf Tt (n + 1)) s_law_row_of_3 [some (.str line), some (.lst (.str w0 :: .str w1 :: .str w2 :: strD r')), none] S = .nx [some (.str line), some (.lst (.str w0 :: .str w1 :: .str w2 :: strD r')), none] S := by
              simp [s_law_row_of_3, notin3L, h3, sl', g3, ix2, e2, isn]
            have e5 : evS (parOf Tt (n + 1)) s_law_row_of_4 [some (.str line), some (.lst (.str w0 :: .str w1 :: .str w2 :: strD r')), none] S = .nx [some (.str line), some (.lst (.str w0 :: .str w1 :: .str w2 :: strD r')), some (.tup [.str w0, .str w1, .int i])] S := by
              simp [s_law_row_of_4, ix1, ix2, e2]
            rw [evB_cons, e4, seq_nx, evB_cons, e5, seq_nx]
            cases hs : (w0 == ("sent" : Str))
            · have wn : ¬ w0 = "sent" := by simpa using hs
              match r' with
              | [] =>
                simp [strD, s_law_row_of_5, wn, tailS, h3, ho, hs]
                exact fin_clo rfl
              | x :: xs =>
                have q : ¬ (((xs.length : Int) + 1 + 1 + 1 + 1) = 3) := by omega
                simp [strD, s_law_row_of_5, s_law_row_of_6, s_law_row_of_7, s_law_row_of_8, wn, tailS, h3, ho, hs, q]
            · have ew : w0 = "sent" := eq_of_beq hs
              subst ew
              have e6 : evS (parOf Tt (n + 1)) s_law_row_of_5 [some (.str line), some (.lst (.str "sent" :: .str w1 :: .str w2 :: strD r')), some (.tup [.str "sent", .str w1, .int i])] S = .nx [some (.str line), some (.lst (.str "sent" :: .str w1 :: .str w2 :: strD r')), some (.tup [.str "sent", .str w1, .int i])] S := by
                by_cases q : ((r'.length : Int) + 1 + 1 + 1) = 3
                · simp [s_law_row_of_5, sl', q]
                · simp [s_law_row_of_5, sl', q]
              rw [evB_cons, e6, seq_nx]
              have ht : tailS "sent" w1 (w2 :: r') = match letS r' with
                  | some ld => .tup [.str "sent", .str w1, .int i, .tup ld]
                  | none => .non := by
                simp [tailS, h3, ho] <;> (cases letS r' <;> rfl)
              rw [ht]
              have ad : ∀ (S : Store) (x : D), op2 S .add (.tup [.str "sent", .str w1, .int i]) (.tup [x]) = some (.tup [.str "sent", .str w1, .int i, x]) := fun S x => o_addT S [.str "sent", .str w1, .int i] [x] (by rw [LIM_nat]; simp)
              match r', hw, sl' with
              | [], _, _ => simp [strD, s_law_row_of_6, s_law_row_of_7, s_law_row_of_8, cut3, eq_fault S [], eq_leave S [], letS, show ∀ S, op2 S .eq (.lst []) (.lst [.str "fault"]) = some (.bl false) from fun S => eq_fault S [], show ∀ S, op2 S .eq (.lst []) (.lst [.str "leave"]) = some (.bl false) from fun S => eq_leave S []]
              | [w], _, _ =>
                have q1 : ∀ S, op2 S .eq (.lst [.str w]) (.lst [.str "fault"]) = some (.bl (decide (w = "fault"))) := fun S => by
                  have := eq_fault S [w]
                  simpa [strD] using this
                have q2 : ∀ S, op2 S .eq (.lst [.str w]) (.lst [.str "leave"]) = some (.bl (decide (w = "leave"))) := fun S => by
                  have := eq_leave S [w]
                  simpa [strD] using this
                by_cases h1 : w = "fault"
                · subst h1
                  simp [strD, s_law_row_of_6, cut3, q1, ix3, ad, letS]
                  exact fin_clo rfl
                · by_cases h2 : w = "leave"
                  · subst h2
                    have h1' : ¬ (("leave" : Str) = "fault") := h1
                    simp [strD, s_law_row_of_6, cut3, q1, q2, ix3, ad, letS, h1']
                    exact fin_clo rfl
                  · simp [strD, s_law_row_of_6, s_law_row_of_7, s_law_row_of_8, cut3, q1, q2, letS, h1, h2]
              | [w, v], hw, _ =>
                have q1 : ∀ S, op2 S .eq (.lst [.str w, .str v]) (.lst [.str "fault"]) = some (.bl false) := fun S => by
                  have := eq_fault S [w, v]
                  simpa [strD] using this
                have q2 : ∀ S, op2 S .eq (.lst [.str w, .str v]) (.lst [.str "leave"]) = some (.bl false) := fun S => by
                  have := eq_leave S [w, v]
                  simpa [strD] using this
                have e7 := law_numberS n S v (-1000000000) (hw v (by simp))
                by_cases h1 : w = "add"
                · subst h1
                  cases hv : numO (TL.tl v) (-1000000000) with
                  | none =>
                    rw [hv] at e7
                    simp only [optI] at e7
                    have isn2 : ∀ S, op2 S .isnt .non .non = some (.bl false) := fun _ => rfl
                    simp [strD, s_law_row_of_6, s_law_row_of_7, s_law_row_of_8, cut3, q1, q2, ix3, ix4, e7, isn2, letS, hv]
                  | some j =>
                    rw [hv] at e7
                    simp only [optI] at e7
                    have isn2 : ∀ S, op2 S .isnt (.int j) .non = some (.bl true) := fun _ => rfl
                    simp [strD, s_law_row_of_6, s_law_row_of_7, cut3, q1, q2, ix3, ix4, e7, isn2, letS, hv, ad]
                    exact fin_clo rfl
                · simp [strD, s_law_row_of_6, s_law_row_of_7, s_law_row_of_8, cut3, q1, q2, ix3, letS, h1]
              | a :: b :: c :: xs, hw, _ =>
                have q1 : ∀ S, op2 S .eq (.lst (.str a :: .str b :: .str c :: strD xs)) (.lst [.str "fault"]) = some (.bl false) := fun S => by
                  have := eq_fault S (a :: b :: c :: xs)
                  simpa [strD] using this
                have q2 : ∀ S, op2 S .eq (.lst (.str a :: .str b :: .str c :: strD xs)) (.lst [.str "leave"]) = some (.bl false) := fun S => by
                  have := eq_leave S (a :: b :: c :: xs)
                  simpa [strD] using this
                have es3 : strD (a :: b :: c :: xs) = .str a :: .str b :: .str c :: strD xs := rfl
                have sl3 : (strD xs).length = xs.length := List.length_map _
                have g5 : ¬ (((xs.length : Int) + 1 + 1 + 1 + 1 + 1 + 1) = 5) := by omega
                rw [es3]
                simp [s_law_row_of_6, s_law_row_of_7, s_law_row_of_8, cut3, q1, q2, letS, sl3, g5]
end LawK
namespace LawK
open PySem PySem.Spec PyProof.Rows L2 Ev
@[simp] theorem evS_raise (P : Par) (c : Nat) (δ : Ev.Env) (S : Store) : evS P (.raise c) δ S = .exn c δ S := rfl
theorem evS_try (P : Par) (b : List Ev.S) (h : Hd) (δ : Ev.Env) (S : Store) : evS P (.tryN b h) δ S = sTry (fun δ S => evB P b δ S) h δ S := rfl
theorem endF_exn (c : Nat) (δ : Ev.Env) (S : Store) : endF true S (.exn c δ S) = .exn c S := by
  unfold endF
  have e : S.take S.length = S := List.take_length
  dsimp only
  rw [if_pos rfl, if_pos e]
theorem tl_nl : TL.tl "\n" = [10] := by decide +kernel
theorem nl_len : ("\n" : Str).length = 1 := by decide +kernel
theorem tl_e : TL.tl "" = [] := by decide +kernel
theorem letS_flat {ws : List Str} {ld : List D} (h : letS ws = some ld) : flats 10 ld = true := by
  unfold letS at h
  split at h
  · split at h
    · cases h; rfl
    · split at h
      · cases h; rfl
      · cases h
  · split at h
    · split at h
      · cases h; rfl
      · cases h
    · cases h
  · cases h
/-- a row, or None -/
inductive IsRow : D → Prop
  | n : IsRow .non
  | a (w nm : Str) : IsRow (.tup [.str w, .str nm])
  | b (w nm : Str) (i : Int) : IsRow (.tup [.str w, .str nm, .int i])
  | c (w nm : Str) (i : Int) (ld : List D) : flats 10 ld = true → clos 0 ld = true → IsRow (.tup [.str w, .str nm, .int i, .tup ld])
theorem is_rowS (ws : List Str) : IsRow (rowS ws) := by
  unfold rowS
  split
  · split
    · split
      · exact .a _ _
      · unfold tailS
        split
        · exact .n
        · split
          · split
            · exact .n
            · split
              · split
                · rename_i ld hL
                  exact .c _ _ _ _ (letS_flat hL) (letS_clo hL)
                · exact .n
              · split
                · exact .b _ _ _
                · exact .n
          · exact .n
    · exact .n
  · exact .n
theorem row_flat {d : D} (h : IsRow d) : flat 15 d = true ∧ clo 0 d = true ∧ eqD d .non = isNon d := by
  cases h with
  | n => exact ⟨rfl, rfl, rfl⟩
  | a => exact ⟨rfl, rfl, rfl⟩
  | b => exact ⟨rfl, rfl, rfl⟩
  | c w nm i ld h1 h2 =>
    have f : ∀ {n m : Nat} {l : List D}, n ≤ m → flats n l = true → flats m l = true := by
      intro n
      have go : ∀ (n m : Nat) (d : D), n ≤ m → flat n d = true → flat m d = true := by
        intro n
        induction n with
        | zero =>
          intro m d hm h
          cases d <;> first | rfl | (simp [flat] at h; done) | skip
        | succ n ih =>
          intro m d hm h
          obtain ⟨m, rfl⟩ : ∃ k, m = k + 1 := ⟨m - 1, by omega⟩
          have all : ∀ l : List D, flats n l = true → flats m l = true := by
            intro l
            induction l with
            | nil => intro _; rfl
            | cons x l il =>
              intro h
              have h := Bool.and_eq_true_iff.mp h
              exact Bool.and_eq_true_iff.mpr ⟨ih m x (by omega) h.1, il h.2⟩
          cases d with
          | lst xs => exact all xs h
          | tup xs => exact all xs h
          | _ => first | rfl | (simp [flat] at h; done)
      intro m l hm h
      induction l with
      | nil => rfl
      | cons x l il =>
        have h := Bool.and_eq_true_iff.mp h
        exact Bool.and_eq_true_iff.mpr ⟨go n m x hm h.1, il h.2⟩
    have f14 : flats 13 ld = true := f (by omega) h1
    refine ⟨?_, ?_, rfl⟩
    · simp [flat, flats, f14]
    · simp [clo, clos, h2]
def rowL (line : Str) : D := rowS (Txt.split line " ")
/-- a line: its words short, no line's end in it -/
def Line (l : Str) : Prop := Words l ∧ 10 ∉ TL.tl l
theorem read (n : Nat) (S : Store) (xs : List Str) (last : Str) (h : ∀ l ∈ xs ++ [last], Line l) (hn : xs.length ≤ 1000) (hl : (Str.join "\n" (xs ++ [last])).length ≤ 1000000) :
    callF Tt (n + 6) 8 [.str (Str.join "\n" (xs ++ [last]))] S = if last = "" ∧ (xs.map rowL).any isNon = false then .ok (.lst (xs.map rowL)) S else .exn 7 S := by
  rw [callF_is (fd := f_read) rfl rfl]
  show endF true S (evB (parOf Tt (n + 5)) [s_read_0, s_read_1, s_read_2, s_read_3, s_read_4, s_read_5] [some (.str (Str.join "\n" (xs ++ [last]))), none, none, none] S) = _
  have spl : Txt.split (Str.join "\n" (xs ++ [last])) "\n" = xs ++ [last] := by
    have q := TL.split_join (y := "\n") (parts := xs ++ [last]) tl_nl (by decide +kernel) (by simp) fun w hw => (h w hw).2
    rw [TL.join_eq] at q
    exact q
  generalize Str.join "\n" (xs ++ [last]) = text at hl spl
  have sp : splitO (.str text) (.str "\n") = some (.lst (strD (xs ++ [last]))) := by
    rw [split_o _ _ nl_len (by decide +kernel) hl, spl]
  have hlen : (strD (xs ++ [last])).length = xs.length + 1 := by simp [strD]
  have e0 : evS (parOf Tt (n + 5)) s_read_0 [some (.str text), none, none, none] S = .nx [some (.str text), none, none, none] S := by simp [s_read_0, tyIs]
  have e1 : evS (parOf Tt (n + 5)) s_read_1 [some (.str text), none, none, none] S = .nx [some (.str text), some (.lst (strD (xs ++ [last]))), none, none] S := by simp [s_read_1, isStr, sp]
  have lst : ixD (strD (xs ++ [last])) (-1) = some (.str last) := by
    have := atI_neg (strD (xs ++ [last])) 0 (by omega)
    unfold ixD
    rw [show (-1 : Int) = -(((0 : Nat) : Int) + 1) from rfl, this]
    simp [strD]
  rw [evB_cons, e0, seq_nx, evB_cons, e1, seq_nx]
  by_cases hla : last = ""
  · subst hla
    have e2 : evS (parOf Tt (n + 5)) s_read_2 [some (.str text), some (.lst (strD (xs ++ [("" : Str)]))), none, none] S = .nx [some (.str text), some (.lst (strD (xs ++ [("" : Str)]))), none, none] S := by simp [s_read_2, lst]
    have cu : cutD S none (some (-1)) (.lst (strD (xs ++ [("" : Str)]))) = some (.lst (strD xs)) := by
      have e : cutD S none (some (-1)) (.lst (strD (xs ++ [("" : Str)]))) = some (.lst (cutG (strD (xs ++ [("" : Str)])) none (some (-1)))) := rfl
      rw [e]
      unfold cutG
      have h1 : HT.sIx (strD (xs ++ [("" : Str)])).length 0 none = 0 := rfl
      have h2 : HT.sIx (strD (xs ++ [("" : Str)])).length (strD (xs ++ [("" : Str)])).length (some (-1)) = xs.length := by
        rw [hlen]
        simp [HT.sIx]
        omega
      rw [h1, h2]
      simp [strD]
    have e3 : evS (parOf Tt (n + 5)) s_read_3 [some (.str text), some (.lst (strD (xs ++ [("" : Str)]))), none, none] S = .nx [some (.str text), some (.lst (strD (xs ++ [("" : Str)]))), some (.lst (xs.map rowL)), none] S := by
      have hc : evCmp false .ex (.nm 3) [3] (evEs (parOf Tt (n + 5)) [.slt (.var 1) (.op1 .neg (.lit (.int 1)))]) (evIfs (parOf Tt (n + 5)) []) (evE (parOf Tt (n + 5)) (.call 7 [.split (.var 3) (.lit (.str " "))]))
          [some (.str text), some (.lst (strD (xs ++ [("" : Str)]))), none, none] S = .ok (.lst ((strD xs).filterMap fun d => match d with
            | .str l => some (rowL l)
            | _ => none)) S := by
        refine evCmp_F (ds := [.lst (strD xs)]) (ch := []) _ (by simp [cu]) rfl stays_nil (by simp [strD]; omega) (fun x hx acc => ?_) fun x hx => ?_
        · obtain ⟨l, hlm, rfl⟩ := List.mem_map.mp hx
          obtain ⟨⟨w1, w2, w3⟩, _⟩ := h l (List.mem_append_left _ hlm)
          have sp2 : splitO (.str l) (.str " ") = some (.lst (strD (Txt.split l " "))) := split_o _ _ sp_len (by decide +kernel) w1
          have ev := event_of n (S ++ [.lst acc]) (Txt.split l " ") w3 w2
          simp [turnC, setT, wipeE, isStr, sp2, ev, rowL]
        · obtain ⟨l, hlm, rfl⟩ := List.mem_map.mp hx
          show clos _ [rowL l] = true
          simp [clos, clo_mono _ (row_flat (is_rowS _)).2.1, rowL]
      have fm : (strD xs).filterMap (fun d => match d with
            | .str l => some (rowL l)
            | _ => none) = xs.map rowL := by
        unfold strD
        rw [List.filterMap_map]
        exact congrFun (List.filterMap_eq_map' (f := rowL)) xs
      rw [fm] at hc
      simp [s_read_3, hc]
    have q : op2 S .in_ .non (.lst (xs.map rowL)) = some (.bl ((xs.map rowL).any isNon)) := by
      have e : op2 S .in_ .non (.lst (xs.map rowL)) = (inL S .non (.lst (xs.map rowL))).map .bl := rfl
      rw [e]
      unfold inL
      simp only [items]
      have f1 : flats 15 (xs.map rowL) = true := flats_of fun d hd => by
        obtain ⟨l, _, rfl⟩ := List.mem_map.mp hd
        exact (row_flat (is_rowS _)).1
      have f2 : ((xs.map rowL).any fun y => eqD y .non) = (xs.map rowL).any isNon := by
        rw [List.any_map, List.any_map]
        congr 1
        funext l
        exact (row_flat (is_rowS _)).2.2
      rw [f1, f2]
      rfl
    rw [evB_cons, e2, seq_nx, evB_cons, e3, seq_nx]
    cases hb : (xs.map rowL).any isNon
    · rw [hb] at q
      simp [s_read_4, s_read_5, q]
      exact fin_clo (clos_of fun d hd => by
        obtain ⟨l, _, rfl⟩ := List.mem_map.mp hd
        exact (row_flat (is_rowS _)).2.1)
    · rw [hb] at q
      have e4 : evS (parOf Tt (n + 5)) s_read_4 [some (.str text), some (.lst (strD (xs ++ [("" : Str)]))), some (.lst (xs.map rowL)), none] S = .exn 7 [some (.str text), some (.lst (strD (xs ++ [("" : Str)]))), some (.lst (xs.map rowL)), none] S := by simp [s_read_4, q]
      rw [evB_cons, e4, seq_exn, endF_exn]
      simp
  · have e2 : evS (parOf Tt (n + 5)) s_read_2 [some (.str text), some (.lst (strD (xs ++ [last]))), none, none] S = .exn 7 [some (.str text), some (.lst (strD (xs ++ [last]))), none, none] S := by
      simp [s_read_2, lst, hla]
    rw [evB_cons, e2, seq_exn, endF_exn]
    simp [hla]
/-- what is no text is refused -/
theorem read_no (n : Nat) (S : Store) {d : D} (h : tyIs S .str d = some false) : callF Tt (n + 1) 8 [d] S = .exn 7 S := by
  rw [callF_is (fd := f_read) rfl rfl]
  show endF true S (evB (parOf Tt n) [s_read_0, s_read_1, s_read_2, s_read_3, s_read_4, s_read_5] [some d, none, none, none] S) = _
  have e0 : evS (parOf Tt n) s_read_0 [some d, none, none, none] S = .exn 7 [some d, none, none, none] S := by simp [s_read_0, h]
  rw [evB_cons, e0, seq_exn, endF_exn]
/-- _law_refused of what is refused -/
theorem refused (n : Nat) (S : Store) {d : D} (h : callF Tt n 8 [d] S = .exn 7 S) : callF Tt (n + 1) 20 [d] S = .ok (.bl true) S := by
  rw [callF_is (fd := f_law_refused) rfl rfl]
  show endF true S (evB (parOf Tt n) [s_law_refused_0, s_law_refused_1] [some d, none] S) = _
  have e0 : evS (parOf Tt n) s_law_refused_0 [some d, none] S = .rt (.bl true) S := by
    rw [s_law_refused_0, evS_try]
    unfold sTry
    have e : evB (parOf Tt n) [.ex (.call 8 [.var 0])] [some d, none] S = .exn 7 [some d, none] S := by simp [h]
    dsimp only
    rw [e]
    rfl
  rw [evB_cons, e0, seq_rt, endF_rt, Ev.fin_bl]
end LawK
namespace LawK
open PySem PySem.Spec PyProof.Rows L2 Ev
theorem int_numT (i : Int) (h : -1000000000 ≤ i ∧ i ≤ 1000000000) : intText? (numT i) = some i ∧ (numT i).length ≤ 11 := by
  rcases Int.lt_or_le i 0 with hi | hi
  · obtain ⟨m, rfl⟩ : ∃ m : Nat, i = -(m : Int) := ⟨i.natAbs, by omega⟩
    have hl := numL_len m (by omega)
    have e := PySem.intText_neg (x := mkS (45 :: TL.numL m)) (cs := TL.numL m) rfl (TL.numL_digits m) (TL.numL_ne m) (by rw [mk_len]; simp; omega)
    rw [numT_neg m (by omega)]
    refine ⟨by rw [e, TL.numL_val], by rw [mk_len]; simp; omega⟩
  · obtain ⟨m, rfl⟩ := Int.eq_ofNat_of_zero_le hi
    have hl := numL_len m (by omega)
    have e := TL.int_num (n := m) (by omega)
    refine ⟨e, by rw [numT_pos, mk_len]; omega⟩
/-! ### rows -/
def LetOk (ld : List D) (lw : List Str) : Prop := (ld = [.str "fault"] ∧ lw = [("fault" : Str)]) ∨ (ld = [.str "leave"] ∧ lw = [("leave" : Str)]) ∨ ∃ v : Int, (-1000000000 ≤ v ∧ v ≤ 1000000000) ∧ ld = [.str "add", .int v] ∧ lw = [("add" : Str), numT v]
inductive RowOk : D → List Str → Prop
  | a (w nm : Str) : w ∈ (["begins", "ends", "fails", "leaves"] : List Str) → nameD (.str nm) = true → RowOk (.tup [.str w, .str nm]) [w, nm]
  | b (w nm : Str) (k : Int) : w ∈ (["works", "lost"] : List Str) → nameD (.str nm) = true → 1 ≤ k ∧ k ≤ 1000000000 → RowOk (.tup [.str w, .str nm, .int k]) [w, nm, numT k]
  | c (nm : Str) (k : Int) (ld : List D) (lw : List Str) : nameD (.str nm) = true → 1 ≤ k ∧ k ≤ 1000000000 → LetOk ld lw → RowOk (.tup [.str "sent", .str nm, .int k, .tup ld]) ("sent" :: nm :: numT k :: lw)
theorem o_str (S : Store) (i : Int) (h : -1000000000 ≤ i ∧ i ≤ 1000000000) : op1 S .str (.int i) = some (.str (numT i)) := by
  have e : op1 S .str (.int i) = if i.natAbs < 2 ^ 128 then some (.str (toString i)) else none := rfl
  rw [e, if_pos (Nat.lt_of_lt_of_le (show i.natAbs < 2 ^ 40 by omega) (by decide))]
  rfl
theorem strsOf_strD : ∀ ws : List Str, strsOf (strD ws) = some ws
  | [] => rfl
  | w :: ws => by
    have := strsOf_strD ws
    unfold strD at this ⊢
    simp [strsOf, this]
theorem name_len {nm : Str} (h : nameD (.str nm) = true) : 1 ≤ nm.length ∧ nm.length ≤ 8 ∧ ∀ c ∈ TL.tl nm, az c = true := by
  simp only [nameD, Bool.and_eq_true, decide_eq_true_eq, List.all_eq_true] at h
  exact ⟨h.1, h.2.1, h.2.2⟩
theorem numT_len (k : Int) (h : -1000000000 ≤ k ∧ k ≤ 1000000000) : (numT k).length ≤ 11 := (int_numT k h).2
theorem row_len {d : D} {ws : List Str} (h : RowOk d ws) : (ws.map Str.length).sum ≤ 100 ∧ ws.length ≤ 5 ∧ 2 ≤ ws.length := by
  have wl : ∀ w ∈ (["begins", "ends", "fails", "leaves", "works", "lost", "sent", "fault", "leave", "add"] : List Str), w.length ≤ 6 := by decide +kernel
  cases h with
  | a w nm hw hn =>
    have h1 := wl w (by simp at hw ⊢; rcases hw with h | h | h | h <;> simp [h])
    have h2 := (name_len hn).2.1
    simp
    omega
  | b w nm k hw hn hk =>
    have h1 := wl w (by simp at hw ⊢; rcases hw with h | h <;> simp [h])
    have h2 := (name_len hn).2.1
    have h3 := numT_len k (by omega)
    simp
    omega
  | c nm k ld lw hn hk hl =>
    have h1 := wl "sent" (by simp)
    have h2 := (name_len hn).2.1
    have h3 := numT_len k (by omega)
    rcases hl with ⟨rfl, rfl⟩ | ⟨rfl, rfl⟩ | ⟨v, hv, rfl, rfl⟩
    · have h4 := wl "fault" (by simp)
      simp
      omega
    · have h4 := wl "leave" (by simp)
      simp
      omega
    · have h4 := wl "add" (by simp)
      have h5 := numT_len v hv
      simp
      omega
theorem at_last (S : Store) (xs : List D) : lstAt (S ++ [.lst xs]) (.loc S.length) = some (S.length, xs) := by simp [lstAt]
theorem app_last (S : Store) (xs : List D) (y : D) (h : xs.length ≤ 1000) : appD (.loc S.length) y (S ++ [.lst xs]) = .ok .non (S ++ [.lst (xs ++ [y])]) := by
  unfold appD
  rw [at_last]
  simp
  omega
theorem join_at {S : Store} {d : D} {z : Str} {ws : List Str} (h : items S d = some (strD ws)) (hl : (ws.map Str.length).sum + ws.length * z.length ≤ LIM) : joinO S (.str z) d = some (.str (Str.join z ws)) := by
  unfold joinO
  rw [h]
  simp only [Option.bind_some, strsOf_strD]
  rw [if_pos hl]
def lineS (ws : List Str) : Str := Str.join " " ws
theorem law_words_of (n : Nat) (S : Store) {d : D} {ws : List Str} (h : RowOk d ws) : callF Tt (n + 1) 15 [d] S = .ok (.str (lineS ws)) S := by
  rw [callF_is (fd := f_law_words_of) rfl rfl]
  show endF true S (evB (parOf Tt n) [s_law_words_of_0, s_law_words_of_1, s_law_words_of_2, s_law_words_of_3] [some d, none] S) = _
  obtain ⟨l1, l2, l3⟩ := row_len h
  have e3 : evS (parOf Tt n) s_law_words_of_3 [some d, some (.loc S.length)] (S ++ [.lst (strD ws)]) = .rt (.str (lineS ws)) (S ++ [.lst (strD ws)]) := by
    have it : items (S ++ [Cell.lst (strD ws)]) (.loc S.length) = some (strD ws) := by simp [items]
    have j := join_at (z := " ") it (by rw [sp_len, LIM_nat]; omega)
    simp [s_law_words_of_3, isStr, j, lineS]
  have fa : ∀ (y : Str) (T : Store), fin true S (.str y) (S ++ T) = .ok (.str y) S := fun y T => fin_app rfl
  have key : evB (parOf Tt n) [s_law_words_of_0, s_law_words_of_1, s_law_words_of_2] [some d, none] S = .nx [some d, some (.loc S.length)] (S ++ [.lst (strD ws)]) := by
    cases h with
    | a w nm hw hn =>
      simp [s_law_words_of_0, s_law_words_of_1, s_law_words_of_2, ix1, strD]
    | b w nm k hw hn hk =>
      have e := o_str (S ++ [.lst [.str w, .str nm]]) k (by omega)
      have e2 := app_last S [.str w, .str nm] (.str (numT k)) (by simp)
      simp [s_law_words_of_0, s_law_words_of_1, s_law_words_of_2, ix1, ix2, strD, at_last, e, e2]
    | c nm k ld lw hn hk hl =>
      have e := o_str (S ++ [.lst [.str "sent", .str nm]]) k (by omega)
      have e2 := app_last S [.str "sent", .str nm] (.str (numT k)) (by simp)
      rcases hl with ⟨rfl, rfl⟩ | ⟨rfl, rfl⟩ | ⟨v, hv, rfl, rfl⟩
      · have e3 := app_last S [.str "sent", .str nm, .str (numT k)] (.str "fault") (by simp)
        simp at e2 e3
        simp [s_law_words_of_0, s_law_words_of_1, s_law_words_of_2, ix1, ix2, ix3, strD, at_last, e, e2, e3]
      · have e3 := app_last S [.str "sent", .str nm, .str (numT k)] (.str "leave") (by simp)
        simp at e2 e3
        simp [s_law_words_of_0, s_law_words_of_1, s_law_words_of_2, ix1, ix2, ix3, strD, at_last, e, e2, e3]
      · have e3 := app_last S [.str "sent", .str nm, .str (numT k)] (.str "add") (by simp)
        have e4 := app_last S [.str "sent", .str nm, .str (numT k), .str "add"] (.str (numT v)) (by simp)
        have e5 := o_str (S ++ [.lst [.str "sent", .str nm, .str (numT k), .str "add"]]) v hv
        simp at e2 e3 e4
        simp [s_law_words_of_0, s_law_words_of_1, s_law_words_of_2, ix1, ix2, ix3, strD, at_last, e, e2, e3, e4, e5]
  have split : evB (parOf Tt n) [s_law_words_of_0, s_law_words_of_1, s_law_words_of_2, s_law_words_of_3] [some d, none] S = (evB (parOf Tt n) [s_law_words_of_0, s_law_words_of_1, s_law_words_of_2] [some d, none] S).seq fun δ S => evB (parOf Tt n) [s_law_words_of_3] δ S := by
    simp only [evB_cons, seq_seq, evB_nil, seq_nx]
  rw [split, key, seq_nx, evB_cons, e3]
  exact fa _ _
theorem az_is {c : Nat} (h : az c = true) : 97 ≤ c ∧ c ≤ 122 := by
  have e : (("abcdefghijklmnopqrstuvwxyz" : Str).cps.toList) = [97, 98, 99, 100, 101, 102, 103, 104, 105, 106, 107, 108, 109, 110, 111, 112, 113, 114, 115, 116, 117, 118, 119, 120, 121, 122] := by decide +kernel
  unfold az at h
  rw [e] at h
  simp at h
  omega
def fine (c : Nat) : Prop := c ≠ 10 ∧ c ≠ 32
theorem fine_numT (k : Int) : ∀ c ∈ TL.tl (numT k), fine c := by
  have nl : ∀ m : Nat, ∀ c ∈ TL.numL m, fine c := fun m c hc => by
    have := TL.numL_digits m c hc
    exact ⟨by omega, by omega⟩
  rcases Int.lt_or_le k 0 with hi | hi
  · obtain ⟨m, rfl⟩ : ∃ m : Nat, k = -(m : Int) := ⟨k.natAbs, by omega⟩
    rw [numT_neg m (by omega)]
    intro c hc
    have hc : c ∈ 45 :: TL.numL m := hc
    rcases List.mem_cons.mp hc with rfl | hc
    · exact ⟨by omega, by omega⟩
    · exact nl m c hc
  · obtain ⟨m, rfl⟩ := Int.eq_ofNat_of_zero_le hi
    rw [numT_pos m]
    exact nl m
theorem fine_name {nm : Str} (h : nameD (.str nm) = true) : ∀ c ∈ TL.tl nm, fine c := fun c hc => by
  have := az_is ((name_len h).2.2 c hc)
  exact ⟨by omega, by omega⟩
theorem fine_words : ∀ w ∈ (["begins", "ends", "fails", "leaves", "works", "lost", "sent", "fault", "leave", "add"] : List Str), ∀ c ∈ TL.tl w, fine c := by
  have e : ∀ w ∈ (["begins", "ends", "fails", "leaves", "works", "lost", "sent", "fault", "leave", "add"] : List Str), (TL.tl w).all (fun c => decide (c ≠ 10) && decide (c ≠ 32)) = true := by decide +kernel
  intro w hw c hc
  have := List.all_eq_true.mp (e w hw) c hc
  simpa [fine] using this
theorem fine_row {d : D} {ws : List Str} (h : RowOk d ws) : ∀ w ∈ ws, ∀ c ∈ TL.tl w, fine c := by
  cases h with
  | a w nm hw hn =>
    intro v hv
    simp at hv
    rcases hv with rfl | rfl
    · exact fine_words _ (by simp at hw ⊢; rcases hw with h | h | h | h <;> simp [h])
    · exact fine_name hn
  | b w nm k hw hn hk =>
    intro v hv
    simp at hv
    rcases hv with rfl | rfl | rfl
    · exact fine_words _ (by simp at hw ⊢; rcases hw with h | h <;> simp [h])
    · exact fine_name hn
    · exact fine_numT k
  | c nm k ld lw hn hk hl =>
    have hlw : ∀ w ∈ lw, ∀ c ∈ TL.tl w, fine c := by
      rcases hl with ⟨rfl, rfl⟩ | ⟨rfl, rfl⟩ | ⟨v, hv, rfl, rfl⟩
      · intro w hw; simp at hw; subst hw; exact fine_words _ (by simp)
      · intro w hw; simp at hw; subst hw; exact fine_words _ (by simp)
      · intro w hw
        simp at hw
        rcases hw with rfl | rfl
        · exact fine_words _ (by simp)
        · exact fine_numT v
    intro v hv
    simp at hv
    rcases hv with rfl | rfl | rfl | hv
    · exact fine_words _ (by simp)
    · exact fine_name hn
    · exact fine_numT k
    · exact hlw v hv
theorem joinL_mem {S : List Nat} {c : Nat} : ∀ {l : List (List Nat)}, c ∈ TL.joinL S l → c ∈ S ∨ ∃ p ∈ l, c ∈ p
  | [], h => by cases h
  | [p], h => .inr ⟨p, List.mem_cons_self .., h⟩
  | p :: q :: r, h => by
    have h : c ∈ p ++ (S ++ TL.joinL S (q :: r)) := h
    rcases List.mem_append.mp h with h | h
    · exact .inr ⟨p, List.mem_cons_self .., h⟩
    · rcases List.mem_append.mp h with h | h
      · exact .inl h
      · rcases joinL_mem h with h | ⟨z, hz, h⟩
        · exact .inl h
        · exact .inr ⟨z, List.mem_cons_of_mem _ hz, h⟩
theorem tl_sp : TL.tl " " = [32] := by decide +kernel
theorem line_free {d : D} {ws : List Str} (h : RowOk d ws) : 10 ∉ TL.tl (lineS ws) := fun hc => by
  unfold lineS at hc
  rw [TL.tl_join, tl_sp] at hc
  rcases joinL_mem hc with h1 | ⟨p, hp, h1⟩
  · simp at h1
  · obtain ⟨w, hw, rfl⟩ := List.mem_map.mp hp
    exact (fine_row h w hw 10 h1).1 rfl
theorem join_len (z : Str) : ∀ ws : List Str, (Str.join z ws).length ≤ (ws.map Str.length).sum + ws.length * z.length
  | [] => Nat.zero_le _
  | [x] => by simp [Str.join]
  | x :: y :: r => by
    have ih := join_len z (y :: r)
    have e : Str.join z (x :: y :: r) = x ++ z ++ Str.join z (y :: r) := rfl
    rw [e, app_len, app_len]
    simp only [List.map_cons, List.sum_cons, List.length_cons] at ih ⊢
    rw [Nat.succ_mul]
    omega
theorem line_len {d : D} {ws : List Str} (h : RowOk d ws) : (lineS ws).length ≤ 105 := by
  have h1 := join_len " " ws
  have h2 := row_len h
  rw [sp_len] at h1
  unfold lineS
  omega
theorem is_let {ld : List D} {lw : List Str} (h : LetOk ld lw) : letterD (.tup ld) = true ∧ ld.all sim = true ∧ clos 0 ld = true := by
  rcases h with ⟨rfl, rfl⟩ | ⟨rfl, rfl⟩ | ⟨v, hv, rfl, rfl⟩
  · exact ⟨by decide +kernel, rfl, rfl⟩
  · exact ⟨by decide +kernel, rfl, rfl⟩
  · refine ⟨?_, rfl, rfl⟩
    have e : rowD "add" 2 (.tup [.str "add", .int v]) = true := by simp [rowD, isS]
    simp [letterD, e, numD]
    omega
theorem letter_by (n : Nat) (c : Int) : ∃ ld lw, LetOk ld lw ∧ ∀ S, callF Tt (n + 1) 12 [.int c] S = .ok (.tup ld) S := by
  have go : ∀ S, callF Tt (n + 1) 12 [.int c] S = endF true S (evB (parOf Tt n) [s_law_letter_by_0, s_law_letter_by_1, s_law_letter_by_2] [some (.int c), none] S) := fun S => by
    rw [callF_is (fd := f_law_letter_by) rfl rfl]
    rfl
  by_cases h : 2 < c % 5
  · have h2 : c % 5 = 3 ∨ c % 5 = 4 := by omega
    rcases h2 with h2 | h2
    · refine ⟨_, _, .inl ⟨rfl, rfl⟩, fun S => ?_⟩
      have e : ixD [D.tup [.str "fault"], .tup [.str "leave"]] 0 = some (.tup [.str "fault"]) := rfl
      rw [go]
      simp [s_law_letter_by_0, h2, e]
      exact fin_clo rfl
    · refine ⟨_, _, .inr (.inl ⟨rfl, rfl⟩), fun S => ?_⟩
      have e : ixD [D.tup [.str "fault"], .tup [.str "leave"]] 1 = some (.tup [.str "leave"]) := rfl
      rw [go]
      simp [s_law_letter_by_0, h2, e]
      exact fin_clo rfl
  · by_cases h2 : c % 5 = 2
    · refine ⟨_, _, .inr (.inr ⟨c / 10 % 2000000001 - 1000000000, by omega, rfl, rfl⟩), fun S => ?_⟩
      have e : ixD [D.int (c / 10 % 9 - 4), .int (c / 10 % 2000000001 - 1000000000)] 1 = some (.int (c / 10 % 2000000001 - 1000000000)) := rfl
      rw [go]
      simp [s_law_letter_by_0, s_law_letter_by_1, s_law_letter_by_2, h2, e]
      exact fin_clo rfl
    · refine ⟨_, _, .inr (.inr ⟨c / 10 % 9 - 4, by omega, rfl, rfl⟩), fun S => ?_⟩
      rw [go]
      simp [s_law_letter_by_0, s_law_letter_by_1, s_law_letter_by_2, h, h2]
      exact fin_clo rfl
theorem pickn {xs : List D} (i : Int) (k : Nat) (hi : i = k) (h : k < xs.length) : ixD xs i = some xs[k] := by
  subst hi
  exact atI_nat xs k h
theorem row_by (n : Nat) (c : Int) {nms : List Str} (hl : nms.length = 6) (hn : ∀ nm ∈ nms, nameD (.str nm) = true) : ∃ d ws, RowOk d ws ∧ ∀ S, callF Tt (n + 2) 14 [.int c, .lst (strD nms)] S = .ok d S := by
  have go : ∀ S, callF Tt (n + 2) 14 [.int c, .lst (strD nms)] S = endF true S (evB (parOf Tt (n + 1)) [s_law_row_by_0, s_law_row_by_1, s_law_row_by_2, s_law_row_by_3, s_law_row_by_4, s_law_row_by_5] [some (.int c), some (.lst (strD nms)), none, none, none] S) := fun S => by
    rw [callF_is (fd := f_law_row_by) rfl rfl]
    rfl
  obtain ⟨m, hm⟩ : ∃ m : Nat, c / 8 % 6 = (m : Int) := Int.eq_ofNat_of_zero_le (by omega)
  have hm8 : m < nms.length := by omega
  have hnm := hn nms[m] (List.getElem_mem hm8)
  have lenN : (strD nms).length = 6 := by simp [strD, hl]
  have gn : ixD (strD nms) (c / 8 % 6) = some (.str nms[m]) := by
    rw [pickn (c / 8 % 6) m hm (by rw [lenN]; omega)]
    simp [strD]
  generalize nms[m] = nm at hnm gn
  obtain ⟨k, hk, gk⟩ : ∃ k : Int, (1 ≤ 1 + k ∧ 1 + k ≤ 1000000000) ∧ ixD [D.int (c / 50 % 12), .int (c / 50 % 1000000000)] (c / 8 % 2) = some (.int k) := by
    have h2 : c / 8 % 2 = 0 ∨ c / 8 % 2 = 1 := by omega
    rcases h2 with h2 | h2
    · exact ⟨c / 50 % 12, by omega, by rw [h2]; rfl⟩
    · exact ⟨c / 50 % 1000000000, by omega, by rw [h2]; rfl⟩
  obtain ⟨ld, lw, hlt, elt⟩ := letter_by n (c / 20)
  have st : ∀ (w : Str) S, ixD [D.str "begins", .str "ends", .str "fails", .str "leaves", .str "works", .str "lost", .str "sent", .str "sent"] (c % 8) = some (.str w) →
      evB (parOf Tt (n + 1)) [s_law_row_by_0, s_law_row_by_1, s_law_row_by_2, s_law_row_by_3, s_law_row_by_4, s_law_row_by_5] [some (.int c), some (.lst (strD nms)), none, none, none] S =
      evB (parOf Tt (n + 1)) [s_law_row_by_3, s_law_row_by_4, s_law_row_by_5] [some (.int c), some (.lst (strD nms)), some (.str w), some (.str nm), some (.int (1 + k))] S := by
    intro w S hw
    have e0 : evS (parOf Tt (n + 1)) s_law_row_by_0 [some (.int c), some (.lst (strD nms)), none, none, none] S = .nx [some (.int c), some (.lst (strD nms)), some (.str w), none, none] S := by simp [s_law_row_by_0, hw]
    have e1 : evS (parOf Tt (n + 1)) s_law_row_by_1 [some (.int c), some (.lst (strD nms)), some (.str w), none, none] S = .nx [some (.int c), some (.lst (strD nms)), some (.str w), some (.str nm), none] S := by simp [s_law_row_by_1, lenN, gn]
    have e2 : evS (parOf Tt (n + 1)) s_law_row_by_2 [some (.int c), some (.lst (strD nms)), some (.str w), some (.str nm), none] S = .nx [some (.int c), some (.lst (strD nms)), some (.str w), some (.str nm), some (.int (1 + k))] S := by simp [s_law_row_by_2, gk]
    simp only [evB_cons, e0, e1, e2, seq_nx]
  have h8 : c % 8 = 0 ∨ c % 8 = 1 ∨ c % 8 = 2 ∨ c % 8 = 3 ∨ c % 8 = 4 ∨ c % 8 = 5 ∨ c % 8 = 6 ∨ c % 8 = 7 := by omega
  have four : ∀ w : Str, w ∈ (["begins", "ends", "fails", "leaves"] : List Str) → c % 8 < 4 → ixD [D.str "begins", .str "ends", .str "fails", .str "leaves", .str "works", .str "lost", .str "sent", .str "sent"] (c % 8) = some (.str w) → ∃ d ws, RowOk d ws ∧ ∀ S, callF Tt (n + 2) 14 [.int c, .lst (strD nms)] S = .ok d S := by
    intro w hw hc e
    have r := RowOk.a w nm hw hnm
    refine ⟨_, _, r, fun S => ?_⟩
    rw [go, st w S e]
    simp [s_law_row_by_3, hc]
    exact fin_clo rfl
  have two : ∀ w : Str, w ∈ (["works", "lost"] : List Str) → ¬ c % 8 < 4 → ixD [D.str "begins", .str "ends", .str "fails", .str "leaves", .str "works", .str "lost", .str "sent", .str "sent"] (c % 8) = some (.str w) → ∃ d ws, RowOk d ws ∧ ∀ S, callF Tt (n + 2) 14 [.int c, .lst (strD nms)] S = .ok d S := by
    intro w hw hc e
    have r := RowOk.b w nm (1 + k) hw hnm hk
    refine ⟨_, _, r, fun S => ?_⟩
    have hs : ¬ w = "sent" := by
      have q : ∀ w ∈ (["works", "lost"] : List Str), (w == ("sent" : Str)) = false := by decide +kernel
      simpa using q w hw
    rw [go, st w S e]
    simp [s_law_row_by_3, s_law_row_by_4, s_law_row_by_5, hc, hs]
    exact fin_clo rfl
  have last : ¬ c % 8 < 4 → ixD [D.str "begins", .str "ends", .str "fails", .str "leaves", .str "works", .str "lost", .str "sent", .str "sent"] (c % 8) = some (.str "sent") → ∃ d ws, RowOk d ws ∧ ∀ S, callF Tt (n + 2) 14 [.int c, .lst (strD nms)] S = .ok d S := by
    intro hc e
    have r := RowOk.c nm (1 + k) ld lw hnm hk hlt
    refine ⟨_, _, r, fun S => ?_⟩
    rw [go, st "sent" S e]
    simp [s_law_row_by_3, s_law_row_by_4, hc, elt]
    exact fin_clo (by simp [clo, clos, (is_let hlt).2.2])
  rcases h8 with h | h | h | h | h | h | h | h
  · exact four "begins" (by simp) (by omega) (by rw [h]; rfl)
  · exact four "ends" (by simp) (by omega) (by rw [h]; rfl)
  · exact four "fails" (by simp) (by omega) (by rw [h]; rfl)
  · exact four "leaves" (by simp) (by omega) (by rw [h]; rfl)
  · exact two "works" (by simp) (by omega) (by rw [h]; rfl)
  · exact two "lost" (by simp) (by omega) (by rw [h]; rfl)
  · exact last (by omega) (by rw [h]; rfl)
  · exact last (by omega) (by rw [h]; rfl)
end LawK
namespace LawK
open PySem PySem.Spec PyProof.Rows L2 Ev
theorem e_len : ("" : Str).length = 0 := by decide +kernel
theorem strD_map {α : Type} (ds : List α) (f : α → Str) : strD (ds.map f) = ds.map fun d => .str (f d) := by
  unfold strD
  rw [List.map_map]
  rfl
/-! ### names -/
def azc (k : Nat) : Nat := (TL.tl "abcdefghijklmnopqrstuvwxyz").getD k 0
theorem azc_ok (k : Nat) (h : k < 26) : az (azc k) = true := by
  have : ∀ k < 26, az (azc k) = true := by decide +kernel
  exact this k h
theorem abc_len : ("abcdefghijklmnopqrstuvwxyz" : Str).length = 26 := by decide +kernel
theorem get_abc (S : Store) (i : Int) (h : 0 ≤ i ∧ i < 26) : op2 S .get (.str "abcdefghijklmnopqrstuvwxyz") (.int i) = some (.str (mkS [azc i.toNat])) := by
  obtain ⟨k, rfl⟩ := Int.eq_ofNat_of_zero_le h.1
  have hk : k < (TL.tl "abcdefghijklmnopqrstuvwxyz").length := by rw [← TL.len_tl, abc_len]; omega
  have e : op2 S .get (.str "abcdefghijklmnopqrstuvwxyz") (.int k) = if ("abcdefghijklmnopqrstuvwxyz" : Str).length ≤ LIM then (L2.atI (TL.tl "abcdefghijklmnopqrstuvwxyz") k).map fun c => .str ⟨#[c]⟩ else none := rfl
  rw [e, if_pos (by rw [abc_len]; decide), atI_nat _ _ hk]
  unfold azc
  rw [List.getD_eq_getElem?_getD, List.getElem?_eq_getElem (by simpa using hk)]
  rfl
def azS (s : Str) : Prop := ∀ c ∈ TL.tl s, az c = true
theorem azS_app {x y : Str} (hx : azS x) (hy : azS y) : azS (x ++ y) := fun c hc => by
  rw [TL.tl_append] at hc
  rcases List.mem_append.mp hc with h | h
  · exact hx c h
  · exact hy c h
theorem azS_one (k : Nat) (h : k < 26) : azS (mkS [azc k]) := fun c hc => by
  have : c ∈ [azc k] := hc
  rw [List.mem_singleton.mp this]
  exact azc_ok k h
theorem azS_lo {z : Str} (j : Nat) (h : azS z) : azS (L2.cutS z (some (j : Int)) none) := fun c hc => by
  rw [cut_lo] at hc
  exact h c (List.mem_of_mem_drop hc)
theorem azS_hi {z : Str} (j : Nat) (h : azS z) : azS (L2.cutS z none (some (j : Int))) := fun c hc => by
  rw [cut_hi] at hc
  exact h c (List.mem_of_mem_take hc)
theorem len_lo (z : Str) (j : Nat) : (L2.cutS z (some (j : Int)) none).length = z.length - j := by rw [TL.len_tl, cut_lo, TL.len_tl, List.length_drop]
theorem len_hi (z : Str) (j : Nat) : (L2.cutS z none (some (j : Int))).length = min j z.length := by rw [TL.len_tl, cut_hi, TL.len_tl, List.length_take]
theorem name_ok {s : Str} (h : azS s) (h1 : 1 ≤ s.length ∧ s.length ≤ 8) : nameD (.str s) = true := by
  simp only [nameD, Bool.and_eq_true, decide_eq_true_eq, List.all_eq_true]
  exact ⟨h1.1, h1.2, h⟩
theorem o_cutZ (S : Store) (z : Str) (lo hi : Option Int) (h : z.length ≤ 1000) : cutD S lo hi (.str z) = some (.str (L2.cutS z lo hi)) := by
  have e : cutD S lo hi (.str z) = if z.length ≤ LIM then some (.str (L2.cutS z lo hi)) else none := rfl
  rw [e, if_pos (by rw [LIM_nat]; omega)]
theorem l1 (k : Nat) : (mkS [k]).length = 1 := rfl
def hr (c : Int) : Nat → Str × Int
  | 0 => ("", c / 48)
  | i + 1 => ((hr c i).1 ++ mkS [azc ((hr c i).2 % 26).toNat], (hr c i).2 / 26)
theorem namesM (n : Nat) (c m : Int) (hm : 1 ≤ m ∧ m ≤ 70) : ∃ nms : List Str, nms.length = m.toNat ∧ (∀ nm ∈ nms, nameD (.str nm) = true) ∧ ∀ S, callF Tt (n + 1) 11 [.int c, .int m] S = .ok (.lst (strD nms)) S := by
  have ends : ∀ (f : Nat → Str), (∀ i : Nat, (i : Int) < m → azS (f i) ∧ 1 ≤ (f i).length ∧ (f i).length ≤ 8) → (∀ S, endF true S (evB (parOf Tt n) [s_law_names_0, s_law_names_1, s_law_names_2, s_law_names_3, s_law_names_4, s_law_names_5, s_law_names_6, s_law_names_7, s_law_names_8, s_law_names_9] [some (.int c), some (.int m), none, none, none, none, none, none, none] S) = .ok (.lst ((List.range (m.toNat)).map fun i => .str (f i))) S) →
      ∃ nms : List Str, nms.length = m.toNat ∧ (∀ nm ∈ nms, nameD (.str nm) = true) ∧ ∀ S, callF Tt (n + 1) 11 [.int c, .int m] S = .ok (.lst (strD nms)) S := by
    intro f hf h
    refine ⟨(List.range m.toNat).map f, by simp, fun nm hm => ?_, fun S => ?_⟩
    · obtain ⟨i, hi, rfl⟩ := List.mem_map.mp hm
      have := hf i (by have := List.mem_range.mp hi; omega)
      exact name_ok this.1 this.2
    · rw [callF_is (fd := f_law_names) rfl rfl, strD_map]
      exact h S
  have e3 : ∃ hd r, azS hd ∧ hd.length = 8 ∧ ∀ S, ∃ o, evS (parOf Tt n) s_law_names_3 [some (.int c), some (.int m), some (.str "abcdefghijklmnopqrstuvwxyz"), some (.str ""), some (.int (c / 48)), none, none, none, none] S =
      .nx [some (.int c), some (.int m), some (.str "abcdefghijklmnopqrstuvwxyz"), some (.str hd), some (.int r), o, none, none, none] S := by
    have az8 : ∀ i, azS (hr c i).1 ∧ (hr c i).1.length = i := by
      intro i
      induction i with
      | zero =>
        refine ⟨fun d hd => ?_, e_len⟩
        rw [show (hr c 0).1 = "" from rfl, tl_e] at hd
        cases hd
      | succ i ih =>
        have e : (hr c (i + 1)).1 = (hr c i).1 ++ mkS [azc ((hr c i).2 % 26).toNat] := rfl
        rw [e]
        refine ⟨azS_app ih.1 (azS_one _ (by omega)), ?_⟩
        rw [app_len, ih.2, mk_len]
        rfl
    refine ⟨(hr c 8).1, (hr c 8).2, (az8 8).1, (az8 8).2, fun S => ?_⟩
    obtain ⟨δ', S', e, o, hδ, hS⟩ := forL_run (ch := []) (tg := .nm 5) (f := fun δ S => evB (parOf Tt n) b_law_names_3 δ S) (fun i δ S' => ∃ o, δ = [some (.int c), some (.int m), some (.str "abcdefghijklmnopqrstuvwxyz"), some (.str (hr c i).1), some (.int (hr c i).2), o, none, none, none] ∧ S' = S)
      (xs := rngD 0 8) (k := 0) (δ := [some (.int c), some (.int m), some (.str "abcdefghijklmnopqrstuvwxyz"), some (.str ""), some (.int (c / 48)), none, none, none, none]) (S := S) ⟨_, rfl, rfl⟩ (fun _ _ _ _ => stays_nil) (by
      rintro i x δ S' hx ⟨o, rfl, rfl⟩
      obtain ⟨hi, rfl⟩ := rng_get hx
      refine ⟨_, rfl, ?_⟩
      have g := get_abc S' ((hr c (0 + i)).2 % 26) (by omega)
      have ad : ∀ k : Nat, op2 S' .add (.str (hr c (0 + i)).1) (.str (mkS [k])) = some (.str ((hr c (0 + i)).1 ++ mkS [k])) := fun k => o_addS _ _ _ (by rw [(az8 _).2, mk_len, LIM_nat]; simp; omega)
      refine ⟨[some (.int c), some (.int m), some (.str "abcdefghijklmnopqrstuvwxyz"), some (.str (hr c (0 + i + 1)).1), some (.int (hr c (0 + i + 1)).2), some (.int (i : Nat)), none, none, none], S', ?_, _, rfl, rfl⟩
      have e1 : (hr c (0 + i + 1)).1 = (hr c (0 + i)).1 ++ mkS [azc ((hr c (0 + i)).2 % 26).toNat] := rfl
      have e2 : (hr c (0 + i + 1)).2 = (hr c (0 + i)).2 / 26 := rfl
      rw [e1, e2]
      generalize hr c (0 + i) = q at *
      simp [b_law_names_3, g, ad])
    have l8 : (rngD 0 8).length = 8 := rfl
    rw [hδ, hS, l8] at e
    exact ⟨o, by
      simp [s_law_names_3, sFor, walkOf]
      exact e⟩
  obtain ⟨hd, r, az, hl, e3⟩ := e3
  have start : ∀ S, ∃ o, evB (parOf Tt n) [s_law_names_0, s_law_names_1, s_law_names_2, s_law_names_3, s_law_names_4, s_law_names_5, s_law_names_6, s_law_names_7, s_law_names_8, s_law_names_9] [some (.int c), some (.int m), none, none, none, none, none, none, none] S =
      evB (parOf Tt n) [s_law_names_5, s_law_names_6, s_law_names_7, s_law_names_8, s_law_names_9] [some (.int c), some (.int m), some (.str "abcdefghijklmnopqrstuvwxyz"), some (.str hd), some (.int r), o, some (.int (c % 6)), none, none] S := by
    intro S
    obtain ⟨o, e3⟩ := e3 S
    refine ⟨o, ?_⟩
    have e0 : evS (parOf Tt n) s_law_names_0 [some (.int c), some (.int m), none, none, none, none, none, none, none] S = .nx [some (.int c), some (.int m), some (.str "abcdefghijklmnopqrstuvwxyz"), none, none, none, none, none, none] S := by simp [s_law_names_0]
    have e1 : evS (parOf Tt n) s_law_names_1 [some (.int c), some (.int m), some (.str "abcdefghijklmnopqrstuvwxyz"), none, none, none, none, none, none] S = .nx [some (.int c), some (.int m), some (.str "abcdefghijklmnopqrstuvwxyz"), some (.str ""), none, none, none, none, none] S := by simp [s_law_names_1]
    have e2 : evS (parOf Tt n) s_law_names_2 [some (.int c), some (.int m), some (.str "abcdefghijklmnopqrstuvwxyz"), some (.str ""), none, none, none, none, none] S = .nx [some (.int c), some (.int m), some (.str "abcdefghijklmnopqrstuvwxyz"), some (.str ""), some (.int (c / 48)), none, none, none, none] S := by simp [s_law_names_2]
    have e4 : evS (parOf Tt n) s_law_names_4 [some (.int c), some (.int m), some (.str "abcdefghijklmnopqrstuvwxyz"), some (.str hd), some (.int r), o, none, none, none] S = .nx [some (.int c), some (.int m), some (.str "abcdefghijklmnopqrstuvwxyz"), some (.str hd), some (.int r), o, some (.int (c % 6)), none, none] S := by simp [s_law_names_4]
    simp only [evB_cons, e0, e1, e2, e3, e4, seq_nx]
  have fl : ∀ (f : Nat → Str) S, fin true S (.lst ((List.range (m.toNat)).map fun i => .str (f i))) S = .ok (.lst ((List.range (m.toNat)).map fun i => .str (f i))) S := fun f S => fin_clo (by
    rw [← strD_map (List.range (m.toNat)) f]
    exact clo_strD 0 _)
  have o_abc : ∀ (S : Store) (x y : Str), x.length ≤ 100 → y.length ≤ 100 → op2 S .add (.str x) (.str y) = some (.str (x ++ y)) := fun S x y h1 h2 => o_addS S x y (by rw [LIM_nat]; omega)
  by_cases w0 : c % 6 = 0 ∧ m < 9
  · obtain ⟨w0, w09⟩ := w0
    refine ends (fun i => L2.cutS hd none (some ((i + 1 : Nat) : Int))) (fun i hi => ⟨azS_hi _ az, by rw [len_hi]; omega, by rw [len_hi]; omega⟩) fun S => ?_
    obtain ⟨o, st⟩ := start S
    have rc := rng_cmp (P := parOf Tt n) (δ := [some (.int c), some (.int m), some (.str "abcdefghijklmnopqrstuvwxyz"), some (.str hd), some (.int r), o, some (.int (c % 6)), none, none]) (S := S) (elt := .slt (.var 3) (.op2 .add (.var 5) (.lit (.int 1)))) (e := .var 1) (j := 5) (N := m)
      (g := fun i => .str (L2.cutS hd none (some ((i + 1 : Nat) : Int)))) (by simp) (by omega) (fun _ => rfl) (fun i hi T => by simp [o_cutZ _ _ _ _ (show hd.length ≤ 1000 by omega)])
    rw [evE_cmp] at rc
    rw [st]
    simp only [w0] at rc ⊢
    simp [s_law_names_5, rc, w09]
    exact fl _ S
  by_cases w1 : c % 6 = 1 ∧ m < 9
  · obtain ⟨w1, w19⟩ := w1
    refine ends (fun i => L2.cutS hd (some ((7 - i : Nat) : Int)) none) (fun i hi => ⟨azS_lo _ az, by rw [len_lo]; omega, by rw [len_lo]; omega⟩) fun S => ?_
    obtain ⟨o, st⟩ := start S
    have rc := rng_cmp (P := parOf Tt n) (δ := [some (.int c), some (.int m), some (.str "abcdefghijklmnopqrstuvwxyz"), some (.str hd), some (.int r), o, some (.int (c % 6)), none, none]) (S := S) (elt := .slf (.var 3) (.op2 .sub (.lit (.int 7)) (.var 5))) (e := .var 1) (j := 5) (N := m)
      (g := fun i => .str (L2.cutS hd (some ((7 - i : Nat) : Int)) none)) (by simp) (by omega) (fun _ => rfl) (fun i hi T => by
        rw [show ((7 - i : Nat) : Int) = 7 - (i : Int) by omega]
        simp [o_cutZ _ _ _ _ (show hd.length ≤ 1000 by omega)])
    rw [evE_cmp] at rc
    rw [st]
    simp only [w1] at rc ⊢
    simp [s_law_names_5, s_law_names_6, rc, w19]
    exact fl _ S
  obtain ⟨t, ht⟩ : ∃ t : Nat, c / 6 % 7 = (t : Int) := Int.eq_ofNat_of_zero_le (by omega)
  have ht7 : t < 7 := by omega
  have az2 : azS (L2.cutS hd none (some (t : Int))) := azS_hi _ az
  have hl2 : (L2.cutS hd none (some (t : Int))).length ≤ 6 := by rw [len_hi]; omega
  have s7 : ∀ S o, evB (parOf Tt n) [s_law_names_5, s_law_names_6, s_law_names_7, s_law_names_8, s_law_names_9] [some (.int c), some (.int m), some (.str "abcdefghijklmnopqrstuvwxyz"), some (.str hd), some (.int r), o, some (.int (c % 6)), none, none] S =
      evB (parOf Tt n) [s_law_names_8, s_law_names_9] [some (.int c), some (.int m), some (.str "abcdefghijklmnopqrstuvwxyz"), some (.str (L2.cutS hd none (some (t : Int)))), some (.int r), o, some (.int (c % 6)), none, none] S := by
    intro S o
    have e5 : evS (parOf Tt n) s_law_names_5 [some (.int c), some (.int m), some (.str "abcdefghijklmnopqrstuvwxyz"), some (.str hd), some (.int r), o, some (.int (c % 6)), none, none] S = .nx [some (.int c), some (.int m), some (.str "abcdefghijklmnopqrstuvwxyz"), some (.str hd), some (.int r), o, some (.int (c % 6)), none, none] S := by
      simp [s_law_names_5]
      intro a b
      exact absurd ⟨a, b⟩ w0
    have e6 : evS (parOf Tt n) s_law_names_6 [some (.int c), some (.int m), some (.str "abcdefghijklmnopqrstuvwxyz"), some (.str hd), some (.int r), o, some (.int (c % 6)), none, none] S = .nx [some (.int c), some (.int m), some (.str "abcdefghijklmnopqrstuvwxyz"), some (.str hd), some (.int r), o, some (.int (c % 6)), none, none] S := by
      simp [s_law_names_6]
      intro a b
      exact absurd ⟨a, b⟩ w1
    have e7 : evS (parOf Tt n) s_law_names_7 [some (.int c), some (.int m), some (.str "abcdefghijklmnopqrstuvwxyz"), some (.str hd), some (.int r), o, some (.int (c % 6)), none, none] S = .nx [some (.int c), some (.int m), some (.str "abcdefghijklmnopqrstuvwxyz"), some (.str (L2.cutS hd none (some (t : Int)))), some (.int r), o, some (.int (c % 6)), none, none] S := by
      simp [s_law_names_7, o_cutZ _ _ _ _ (show hd.length ≤ 1000 by omega), ht]
    simp only [evB_cons, e5, e6, e7, seq_nx]
  generalize hh : L2.cutS hd none (some (t : Int)) = h2 at az2 hl2 s7
  by_cases w2 : c % 6 < 4 ∧ m < 27
  · obtain ⟨q, hq⟩ : ∃ q : Nat, c / 5 % ((h2.length : Int) + 1) = (q : Int) := Int.eq_ofNat_of_zero_le (Int.emod_nonneg _ (by omega))
    have hq2 : q ≤ h2.length := by have := Int.emod_lt_of_pos (c / 5) (show 0 < (h2.length : Int) + 1 by omega); omega
    have ll : (L2.cutS h2 none (some (q : Int))).length = q := by rw [len_hi]; omega
    have lr : (L2.cutS h2 (some (q : Int)) none).length = h2.length - q := len_lo _ _
    refine ends (fun i => L2.cutS h2 none (some (q : Int)) ++ mkS [azc ((c / 7 + 7 * (i : Int)) % 26).toNat] ++ L2.cutS h2 (some (q : Int)) none) (fun i hi => ⟨azS_app (azS_app (azS_hi _ az2) (azS_one _ (by omega))) (azS_lo _ az2), by rw [app_len, app_len, ll, lr, mk_len]; simp; omega, by rw [app_len, app_len, ll, lr, mk_len]; simp; omega⟩) fun S => ?_
    obtain ⟨o, st⟩ := start S
    have rc := rng_cmp (P := parOf Tt n) (δ := [some (.int c), some (.int m), some (.str "abcdefghijklmnopqrstuvwxyz"), some (.str h2), some (.int r), o, some (.int (c % 6)), some (.str (L2.cutS h2 none (some (q : Int)))), some (.str (L2.cutS h2 (some (q : Int)) none))]) (S := S)
      (elt := .op2 .add (.op2 .add (.var 7) (.op2 .get (.var 2) (.op2 .mod (.op2 .add (.op2 .fdiv (.var 0) (.lit (.int 7))) (.op2 .mul (.lit (.int 7)) (.var 5))) (.lit (.int 26))))) (.var 8)) (e := .var 1) (j := 5) (N := m)
      (g := fun i => .str (L2.cutS h2 none (some (q : Int)) ++ mkS [azc ((c / 7 + 7 * (i : Int)) % 26).toNat] ++ L2.cutS h2 (some (q : Int)) none)) (by simp) (by omega) (fun _ => rfl) (fun i hi T => by
        have g := get_abc (S ++ T) ((c / 7 + 7 * (i : Int)) % 26) (by omega)
        have a1 := o_abc (S ++ T) (L2.cutS h2 none (some (q : Int))) (mkS [azc ((c / 7 + 7 * (i : Int)) % 26).toNat]) (by omega) (by rw [mk_len]; simp)
        have a2 := o_abc (S ++ T) (L2.cutS h2 none (some (q : Int)) ++ mkS [azc ((c / 7 + 7 * (i : Int)) % 26).toNat]) (L2.cutS h2 (some (q : Int)) none) (by rw [app_len, ll, mk_len]; simp; omega) (by omega)
        simp [g, a1, a2])
    rw [evE_cmp] at rc
    rw [st, s7]
    have lh := o_lenS S h2 (by rw [LIM_nat]; omega)
    have ll2 := o_lenS S (L2.cutS h2 none (some (q : Int))) (by rw [LIM_nat]; omega)
    rw [ll] at ll2
    have hp : (0 : Int) < (h2.length : Int) + 1 := by omega
    simp [s_law_names_8, w2.1, w2.2, lh, hp, hq, ll2, o_cutZ _ _ _ _ (show h2.length ≤ 1000 by omega), rc]
    exact fl _ S
  · refine ends (fun i => h2 ++ mkS [azc ((i : Int) / 26).toNat] ++ mkS [azc ((i : Int) % 26).toNat]) (fun i hi => ⟨azS_app (azS_app az2 (azS_one _ (by omega))) (azS_one _ (by omega)), by rw [app_len, app_len, l1, l1]; omega, by rw [app_len, app_len, l1, l1]; omega⟩) fun S => ?_
    obtain ⟨o, st⟩ := start S
    have rc := rng_cmp (P := parOf Tt n) (δ := [some (.int c), some (.int m), some (.str "abcdefghijklmnopqrstuvwxyz"), some (.str h2), some (.int r), o, some (.int (c % 6)), none, none]) (S := S)
      (elt := .op2 .add (.op2 .add (.var 3) (.op2 .get (.var 2) (.op2 .fdiv (.var 5) (.lit (.int 26))))) (.op2 .get (.var 2) (.op2 .mod (.var 5) (.lit (.int 26))))) (e := .var 1) (j := 5) (N := m)
      (g := fun i => .str (h2 ++ mkS [azc ((i : Int) / 26).toNat] ++ mkS [azc ((i : Int) % 26).toNat])) (by simp) (by omega) (fun _ => rfl) (fun i hi T => by
        have g1 := get_abc (S ++ T) ((i : Int) / 26) (by omega)
        have g2 := get_abc (S ++ T) ((i : Int) % 26) (by omega)
        have a1 := o_abc (S ++ T) h2 (mkS [azc ((i : Int) / 26).toNat]) (by omega) (by rw [mk_len]; simp)
        have a2 := o_abc (S ++ T) (h2 ++ mkS [azc ((i : Int) / 26).toNat]) (mkS [azc ((i : Int) % 26).toNat]) (by rw [app_len, l1]; omega) (by rw [mk_len]; simp)
        simp [g1, g2, a1, a2])
    rw [evE_cmp] at rc
    rw [st, s7]
    have e8 : evS (parOf Tt n) s_law_names_8 [some (.int c), some (.int m), some (.str "abcdefghijklmnopqrstuvwxyz"), some (.str h2), some (.int r), o, some (.int (c % 6)), none, none] S = .nx [some (.int c), some (.int m), some (.str "abcdefghijklmnopqrstuvwxyz"), some (.str h2), some (.int r), o, some (.int (c % 6)), none, none] S := by
      simp [s_law_names_8]
      intro a b
      exact absurd ⟨a, b⟩ w2
    rw [evB_cons, e8, seq_nx]
    simp [s_law_names_9, rc]
    exact fl _ S
end LawK
namespace LawK
open PySem PySem.Spec PyProof.Rows L2 Ev
theorem spl_small : ∀ (l acc : List Nat), (TL.spl [32] 0 acc l).length ≤ l.length + 1 ∧ ∀ p ∈ TL.spl [32] 0 acc l, p.length ≤ acc.length + l.length
  | [], acc => by
    rw [TL.spl_nil]
    exact ⟨by simp, fun p hp => by simp at hp; subst hp; simp⟩
  | c :: r, acc => by
    cases hp : TL.pre [32] (c :: r)
    · rw [TL.spl_miss hp]
      obtain ⟨h1, h2⟩ := spl_small r (acc ++ [c])
      refine ⟨by simp only [List.length_cons]; omega, fun p hp => ?_⟩
      have := h2 p hp
      simp only [List.length_append, List.length_cons, List.length_nil] at this ⊢
      omega
    · rw [TL.spl_hit hp]
      obtain ⟨h1, h2⟩ := spl_small r []
      have e0 : ([32] : List Nat).length - 1 = 0 := rfl
      rw [e0]
      refine ⟨by simp only [List.length_cons]; omega, fun p hp => ?_⟩
      rcases List.mem_cons.mp hp with rfl | hp
      · omega
      · have := h2 p hp
        simp only [List.length_cons, List.length_nil] at this ⊢
        omega
theorem short_words {line : Str} (h : line.length ≤ 500) : Words line := by
  have e : (Txt.split line " ").map TL.tl = TL.spl [32] 0 [] (TL.tl line) := by
    have := TL.split_spl line " " (by rw [tl_sp]; simp) (TL.kind_ok (by decide +kernel))
    rwa [tl_sp] at this
  obtain ⟨h1, h2⟩ := spl_small (TL.tl line) []
  rw [← e] at h1 h2
  rw [← TL.len_tl] at h1
  refine ⟨by omega, by simp at h1; omega, fun w hw => ?_⟩
  have := h2 (TL.tl w) (List.mem_map.mpr ⟨w, hw, rfl⟩)
  rw [← TL.len_tl, ← TL.len_tl] at this
  simp at this
  omega
theorem line_of {l : Str} (h : l.length ≤ 500) (f : 10 ∉ TL.tl l) : Line l := ⟨short_words h, f⟩
def o0 : List Str := ["", " ", "begins", "begins ", "begins A", "begins a b", "Begins a", "begin a", " ends a"]
def oC : List (List Str) := [["ends  a", "ends a "], ["ends abcdefghi", "ends abcdefgh", "fails\ta", "leaves a1", "works a"], ["works a 0", "works a 01"], ["works a -1", "works a 1000000001", "works a 1000000000", "works a 1 1"], ["works a x", "lost a +1"], ["lost a 1 add 5", "sent a 1", "sent a 1 add", "sent a 1 add -0"], ["sent a 1 add 05", "sent a 1 fault 1"], ["sent a 1 add -1000000000", "sent a 1 add -1000000001", "sent a 1 leaves"]]
def oddL : List Str := o0 ++ oC.flatten ++ (["sent a 1 add 5 5"] : List Str)
theorem odd_len : oddL.length = 34 := rfl
theorem odd_ok : ∀ w ∈ oddL, w.length ≤ 40 ∧ 10 ∉ TL.tl w := by
  have e : oddL.all (fun w => decide (w.length ≤ 40) && !(TL.tl w).contains 10) = true := by decide +kernel
  intro w hw
  have := List.all_eq_true.mp e w hw
  simpa using this
def signL : Str := " abcdefghijklmnopqrstuvwxyz0123456789-ABCZ.\t"
theorem sign_ok : ∀ c ∈ TL.tl signL, c ≠ 10 := by decide +kernel
theorem sign_len : signL.length = 43 ∨ signL.length = 42 ∨ signL.length = 44 := by decide +kernel
theorem odd_step (n : Nat) (a b c d e f : Option D) (S : Store) (xs ws : List Str) (h : xs.length + ws.length ≤ 1000) :
    evS (parOf Tt n) (.set 3 (.add true (.var 3) (.lst false (ws.map fun w => E.lit (.str w))))) [a, b, c, some (.loc S.length), d, e, f] (S ++ [.lst (strD xs)]) =
    .nx [a, b, c, some (.loc (S ++ [Cell.lst (strD xs)]).length), d, e, f] ((S ++ [.lst (strD xs)]) ++ [.lst (strD (xs ++ ws))]) := by
  have es : ∀ (ws : List Str) (δ : Ev.Env) (S : Store), evEs (parOf Tt n) (ws.map fun w => E.lit (.str w)) δ S = .ok (strD ws) S := by
    intro ws
    induction ws with
    | nil => intro δ S; rfl
    | cons w ws ih =>
      intro δ S
      simp only [List.map_cons, evEs_cons, evE_lit, bind_ok, ih]
      rfl
  have it : items (S ++ [Cell.lst (strD xs)]) (.loc S.length) = some (strD xs) := by simp [items]
  have ad : addL (S ++ [Cell.lst (strD xs)]) (.loc S.length) (.lst (strD ws)) = some (strD (xs ++ ws)) := by
    unfold addL
    rw [it]
    simp only [items]
    rw [if_pos (by rw [LIM_nat]; simp [strD]; omega)]
    simp [strD]
  rw [evS_set, evE_add, evE_var]
  simp only [List.getElem?_cons_succ, List.getElem?_cons_zero, ofV_some, bind_ok, evE_lst, es]
  rw [if_pos (by rw [LIM_nat]; simp [strD]; omega), newL_f, bind_ok, ad, ofL_some, newL_t, thenS_ok]
  rfl
def oSt (ws : List Str) : Ev.S := .set 3 (.add true (.var 3) (.lst false (ws.map fun w => E.lit (.str w))))
theorem odd_chain (n : Nat) (a b c d e f : Option D) : ∀ (cs : List (List Str)) (S1 : Store) (xs : List Str), xs.length + cs.flatten.length ≤ 1000 →
    ∃ U, evB (parOf Tt n) (cs.map oSt) [a, b, c, some (.loc S1.length), d, e, f] (S1 ++ [.lst (strD xs)]) = .nx [a, b, c, some (.loc (S1 ++ U).length), d, e, f] ((S1 ++ U) ++ [.lst (strD (xs ++ cs.flatten))])
  | [], S1, xs, _ => ⟨[], by simp⟩
  | ws :: cs, S1, xs, h => by
    have hlen : (ws :: cs).flatten.length = ws.length + cs.flatten.length := by rw [List.flatten_cons, List.length_append]
    have st := odd_step n a b c d e f S1 xs ws (by omega)
    obtain ⟨U, ih⟩ := odd_chain n a b c d e f cs (S1 ++ [.lst (strD xs)]) (xs ++ ws) (by rw [List.length_append]; omega)
    refine ⟨[.lst (strD xs)] ++ U, ?_⟩
    rw [List.map_cons, evB_cons, oSt, st, seq_nx, ih, List.flatten_cons, ← List.append_assoc xs, List.append_assoc S1]
theorem odd_list (n : Nat) (c m : D) (r : D) (S : Store) : ∃ T p, evB (parOf Tt n) [s_law_odd_by_0, s_law_odd_by_1, s_law_odd_by_2, s_law_odd_by_3, s_law_odd_by_4, s_law_odd_by_5, s_law_odd_by_6, s_law_odd_by_7, s_law_odd_by_8, s_law_odd_by_9] [some c, some m, some r, none, none, none, none] S =
    .nx [some c, some m, some r, some (.loc p), none, none, none] (S ++ T) ∧ items (S ++ T) (.loc p) = some (strD oddL) := by
  have e0 : evS (parOf Tt n) s_law_odd_by_0 [some c, some m, some r, none, none, none, none] S = .nx [some c, some m, some r, some (.loc S.length), none, none, none] (S ++ [.lst (strD o0)]) := by
    simp [s_law_odd_by_0, strD, o0]
  obtain ⟨T', ch⟩ := odd_chain n (some c) (some m) (some r) none none none oC S o0 (by decide)
  have sp : ∀ δ S, evB (parOf Tt n) [s_law_odd_by_1, s_law_odd_by_2, s_law_odd_by_3, s_law_odd_by_4, s_law_odd_by_5, s_law_odd_by_6, s_law_odd_by_7, s_law_odd_by_8, s_law_odd_by_9] δ S = (evB (parOf Tt n) (oC.map oSt) δ S).seq fun δ S => evB (parOf Tt n) [s_law_odd_by_9] δ S := fun δ S => by
    have e : oC.map oSt = [s_law_odd_by_1, s_law_odd_by_2, s_law_odd_by_3, s_law_odd_by_4, s_law_odd_by_5, s_law_odd_by_6, s_law_odd_by_7, s_law_odd_by_8] := rfl
    rw [e]
    simp only [evB_cons, seq_seq, evB_nil, seq_nx]
  have ap := app_last (S ++ T') (strD (o0 ++ oC.flatten)) (.str "sent a 1 add 5 5") (by decide)
  have at_ := at_last (S ++ T') (strD (o0 ++ oC.flatten))
  refine ⟨T' ++ [.lst (strD oddL)], (S ++ T').length, ?_, ?_⟩
  · rw [evB_cons, e0, seq_nx, sp, ch, seq_nx, evB_cons, s_law_odd_by_9, evS_ex, evE_app, evE_var]
    simp only [List.getElem?_cons_succ, List.getElem?_cons_zero, ofV_some, bind_ok, at_, Option.isSome_some, if_true, evE_lit, ap, thenS_ok, seq_nx, evB_nil]
    have e : strD (o0 ++ oC.flatten) ++ [.str "sent a 1 add 5 5"] = strD oddL := rfl
    rw [e, List.append_assoc]
  · rw [← List.append_assoc]
    simp [items]
end LawK
namespace LawK
open PySem PySem.Spec PyProof.Rows L2 Ev
theorem mk_app (a b : List Nat) : mkS a ++ mkS b = mkS (a ++ b) := TL.ext_tl (TL.tl_append (mkS a) (mkS b))
theorem get_items {S : Store} {p : Nat} {xs : List D} (h : items S (.loc p) = some xs) (i : Int) : op2 S .get (.loc p) (.int i) = ixD xs i := by
  have e : op2 S .get (.loc p) (.int i) = getC S[p]? (.int i) := rfl
  rw [e]
  simp only [items] at h
  split at h
  · rename_i ys hy
    cases h
    rw [hy]
    rfl
  · cases h
theorem add_mk (S : Store) (a b : List Nat) (h : a.length + b.length ≤ 100000) : op2 S .add (.str (mkS a)) (.str (mkS b)) = some (.str (mkS (a ++ b))) := by
  rw [o_addS S _ _ (by rw [mk_len, mk_len, LIM_nat]; omega), mk_app]
theorem odd_by (n : Nat) (c m : Int) (l : List Nat) (hl : l.length ≤ 200) (h10 : 10 ∉ l) (S : Store) : ∃ w : List Nat, (w.length ≤ 210 ∧ 10 ∉ w) ∧ callF Tt (n + 1) 19 [.int c, .int m, .str (mkS l)] S = .ok (.str (mkS w)) S := by
  rw [callF_is (fd := f_law_odd_by) rfl rfl]
  show ∃ w : List Nat, _ ∧ endF true S (evB (parOf Tt n) [s_law_odd_by_0, s_law_odd_by_1, s_law_odd_by_2, s_law_odd_by_3, s_law_odd_by_4, s_law_odd_by_5, s_law_odd_by_6, s_law_odd_by_7, s_law_odd_by_8, s_law_odd_by_9, s_law_odd_by_10, s_law_odd_by_11, s_law_odd_by_12, s_law_odd_by_13, s_law_odd_by_14, s_law_odd_by_15, s_law_odd_by_16] [some (.int c), some (.int m), some (.str (mkS l)), none, none, none, none] S) = _
  obtain ⟨T, p, e1, it⟩ := odd_list n (.int c) (.int m) (.str (mkS l)) S
  have sp : ∀ δ S, evB (parOf Tt n) [s_law_odd_by_0, s_law_odd_by_1, s_law_odd_by_2, s_law_odd_by_3, s_law_odd_by_4, s_law_odd_by_5, s_law_odd_by_6, s_law_odd_by_7, s_law_odd_by_8, s_law_odd_by_9, s_law_odd_by_10, s_law_odd_by_11, s_law_odd_by_12, s_law_odd_by_13, s_law_odd_by_14, s_law_odd_by_15, s_law_odd_by_16] δ S =
      (evB (parOf Tt n) [s_law_odd_by_0, s_law_odd_by_1, s_law_odd_by_2, s_law_odd_by_3, s_law_odd_by_4, s_law_odd_by_5, s_law_odd_by_6, s_law_odd_by_7, s_law_odd_by_8, s_law_odd_by_9] δ S).seq fun δ S => evB (parOf Tt n) [s_law_odd_by_10, s_law_odd_by_11, s_law_odd_by_12, s_law_odd_by_13, s_law_odd_by_14, s_law_odd_by_15, s_law_odd_by_16] δ S := fun δ S => by
    simp only [evB_cons, seq_seq, evB_nil, seq_nx]
  rw [sp, e1, seq_nx]
  have fa : ∀ (w : List Nat), fin true S (.str (mkS w)) (S ++ T) = .ok (.str (mkS w)) S := fun w => fin_app rfl
  generalize hS : S ++ T = S2 at it fa
  by_cases h34 : c % 40 < 34
  · obtain ⟨d, hd, e⟩ := pick (xs := strD oddL) (i := c % 40) (by simp [strD, odd_len]; omega)
    obtain ⟨w, hw, rfl⟩ := List.mem_map.mp hd
    obtain ⟨w1, w2⟩ := odd_ok w hw
    refine ⟨TL.tl w, ⟨by rw [← TL.len_tl]; omega, w2⟩, ?_⟩
    have g : op2 S2 .get (.loc p) (.int (c % 40)) = some (.str w) := by rw [get_items it, e]
    have e10 : evS (parOf Tt n) s_law_odd_by_10 [some (.int c), some (.int m), some (.str (mkS l)), some (.loc p), none, none, none] S2 = .rt (.str w) S2 := by
      simp [s_law_odd_by_10, h34, g]
    rw [evB_cons, e10, seq_rt, endF_rt, ← mk_self]
    have := fa (TL.tl w)
    rwa [← mk_self] at this
  · obtain ⟨k, hk⟩ : ∃ k : Nat, m % ((l.length : Int) + 1) = (k : Int) := Int.eq_ofNat_of_zero_le (Int.emod_nonneg _ (by omega))
    have hkl : k ≤ l.length := by
      have := Int.emod_lt_of_pos m (show (0 : Int) < (l.length : Int) + 1 by omega)
      omega
    have hsg : ∃ g : Nat, signL.length = g ∧ 0 < g ∧ g ≤ 50 := ⟨_, rfl, by rcases sign_len with h | h | h <;> omega, by rcases sign_len with h | h | h <;> omega⟩
    obtain ⟨g, hg, g0, g50⟩ := hsg
    obtain ⟨q, hq⟩ : ∃ q : Nat, m / 50 % (g : Int) = (q : Int) := Int.eq_ofNat_of_zero_le (Int.emod_nonneg _ (by omega))
    have hqg : q < (TL.tl signL).length := by
      have := Int.emod_lt_of_pos (m / 50) (show (0 : Int) < (g : Int) by omega)
      rw [← TL.len_tl]
      omega
    have hch := sign_ok (TL.tl signL)[q] (List.getElem_mem hqg)
    have gs : ∀ S, op2 S .get (.str signL) (.int (q : Int)) = some (.str (mkS [(TL.tl signL)[q]])) := fun S => by
      have e : op2 S .get (.str signL) (.int (q : Int)) = if signL.length ≤ LIM then (L2.atI (TL.tl signL) (q : Int)).map fun c => .str ⟨#[c]⟩ else none := rfl
      rw [e, if_pos (by rw [LIM_nat]; omega), atI_nat _ _ hqg]
      rfl
    generalize (TL.tl signL)[q] = ch at hch gs
    have ln := fun S => o_lenM S l (by omega)
    have lg : ∀ S, op1 S .len (.str signL) = some (.int g) := fun S => by rw [o_lenS S _ (by rw [LIM_nat]; omega), hg]
    have cu1 : ∀ S, cutD S none (some (k : Int)) (.str (mkS l)) = some (.str (mkS (l.take k))) := fun S => by rw [o_cut S l _ _ (by omega), cutS_hi]
    have cu2 : ∀ S, cutD S (some (k : Int)) none (.str (mkS l)) = some (.str (mkS (l.drop k))) := fun S => by rw [o_cut S l _ _ (by omega), cutS_lo]
    have cu3 : ∀ S, cutD S (some ((k : Int) + 1)) none (.str (mkS l)) = some (.str (mkS (l.drop (k + 1)))) := fun S => by
      have := cutS_lo l (k + 1)
      rw [o_cut S l _ _ (by omega), ← this]
      rfl
    have lt : (l.take k).length ≤ 200 := by rw [List.length_take]; omega
    have ld : (l.drop k).length ≤ 200 := by rw [List.length_drop]; omega
    have ld1 : (l.drop (k + 1)).length ≤ 200 := by rw [List.length_drop]; omega
    have ad1 : ∀ S, op2 S .add (.str (mkS (l.take k))) (.str (mkS [ch])) = some (.str (mkS (l.take k ++ [ch]))) := fun S => add_mk S _ _ (by simp; omega)
    have ad2 : ∀ S, op2 S .add (.str (mkS (l.take k ++ [ch]))) (.str (mkS (l.drop k))) = some (.str (mkS (l.take k ++ [ch] ++ l.drop k))) := fun S => add_mk S _ _ (by simp; omega)
    have ad3 : ∀ S, op2 S .add (.str (mkS (l.take k ++ [ch]))) (.str (mkS (l.drop (k + 1)))) = some (.str (mkS (l.take k ++ [ch] ++ l.drop (k + 1)))) := fun S => add_mk S _ _ (by simp; omega)
    have ad4 : ∀ S, op2 S .add (.str (mkS (l.take k))) (.str (mkS (l.drop (k + 1)))) = some (.str (mkS (l.take k ++ l.drop (k + 1)))) := fun S => add_mk S _ _ (by simp; omega)
    have n1 : 10 ∉ l.take k := fun h => h10 (List.mem_of_mem_take h)
    have n2 : 10 ∉ l.drop k := fun h => h10 (List.mem_of_mem_drop h)
    have n3 : 10 ∉ l.drop (k + 1) := fun h => h10 (List.mem_of_mem_drop h)
    have e10 : evS (parOf Tt n) s_law_odd_by_10 [some (.int c), some (.int m), some (.str (mkS l)), some (.loc p), none, none, none] S2 = .nx [some (.int c), some (.int m), some (.str (mkS l)), some (.loc p), none, none, none] S2 := by
      simp [s_law_odd_by_10, h34]
    have e11 : evS (parOf Tt n) s_law_odd_by_11 [some (.int c), some (.int m), some (.str (mkS l)), some (.loc p), none, none, none] S2 = .nx [some (.int c), some (.int m), some (.str (mkS l)), some (.loc p), some (.int (k : Int)), none, none] S2 := by
      have md : op2 S2 .mod (.int m) (.int ((l.length : Int) + 1)) = some (.int (k : Int)) := by rw [o_mod _ _ _ (by omega), hk]
      simp [s_law_odd_by_11, ln, md]
    have e12 : evS (parOf Tt n) s_law_odd_by_12 [some (.int c), some (.int m), some (.str (mkS l)), some (.loc p), some (.int (k : Int)), none, none] S2 = .nx [some (.int c), some (.int m), some (.str (mkS l)), some (.loc p), some (.int (k : Int)), some (.str signL), none] S2 := by
      simp [s_law_odd_by_12, signL]
    have e13 : evS (parOf Tt n) s_law_odd_by_13 [some (.int c), some (.int m), some (.str (mkS l)), some (.loc p), some (.int (k : Int)), some (.str signL), none] S2 = .nx [some (.int c), some (.int m), some (.str (mkS l)), some (.loc p), some (.int (k : Int)), some (.str signL), some (.str (mkS [ch]))] S2 := by
      have md : op2 S2 .mod (.int (m / 50)) (.int (g : Int)) = some (.int (q : Int)) := by rw [o_mod _ _ _ (by omega), hq]
      simp [s_law_odd_by_13, lg, md, gs]
    rw [evB_cons, e10, seq_nx, evB_cons, e11, seq_nx, evB_cons, e12, seq_nx, evB_cons, e13, seq_nx]
    by_cases h36 : c % 40 < 36
    · refine ⟨l.take k ++ [ch] ++ l.drop k, ⟨by simp; omega, by simp [n1, n2]; omega⟩, ?_⟩
      have e14 : evS (parOf Tt n) s_law_odd_by_14 [some (.int c), some (.int m), some (.str (mkS l)), some (.loc p), some (.int (k : Int)), some (.str signL), some (.str (mkS [ch]))] S2 = .rt (.str (mkS (l.take k ++ [ch] ++ l.drop k))) S2 := by
        rw [s_law_odd_by_14, evS_ite]
        simp only [evE_op2, evE_var, evE_lit, List.getElem?_cons_succ, List.getElem?_cons_zero, ofV_some, bind_ok, o_mod S2 c 40 (by omega), ofO_some, o_lt, thenS_ok, ifB_bl, decide_eq_true h36, if_true, evB_cons, evS_ret, evE_slt, evE_slf, ofI_int, cu1, cu2, ad1, ad2, seq_rt]
      rw [evB_cons, e14, seq_rt, endF_rt, fa]
    · have e14 : evS (parOf Tt n) s_law_odd_by_14 [some (.int c), some (.int m), some (.str (mkS l)), some (.loc p), some (.int (k : Int)), some (.str signL), some (.str (mkS [ch]))] S2 = .nx [some (.int c), some (.int m), some (.str (mkS l)), some (.loc p), some (.int (k : Int)), some (.str signL), some (.str (mkS [ch]))] S2 := by
        simp [s_law_odd_by_14, h36]
      rw [evB_cons, e14, seq_nx]
      by_cases h38 : c % 40 < 38
      · refine ⟨l.take k ++ l.drop (k + 1), ⟨by simp; omega, by simp [n1, n3]⟩, ?_⟩
        have e15 : evS (parOf Tt n) s_law_odd_by_15 [some (.int c), some (.int m), some (.str (mkS l)), some (.loc p), some (.int (k : Int)), some (.str signL), some (.str (mkS [ch]))] S2 = .rt (.str (mkS (l.take k ++ l.drop (k + 1)))) S2 := by
          rw [s_law_odd_by_15, evS_ite]
          simp only [evE_op2, evE_var, evE_lit, List.getElem?_cons_succ, List.getElem?_cons_zero, ofV_some, bind_ok, o_mod S2 c 40 (by omega), ofO_some, o_lt, thenS_ok, ifB_bl, decide_eq_true h38, if_true, evB_cons, evS_ret, evE_slt, evE_slf, ofI_int, o_add, cu1, cu3, ad4, seq_rt]
        rw [evB_cons, e15, seq_rt, endF_rt, fa]
      · refine ⟨l.take k ++ [ch] ++ l.drop (k + 1), ⟨by simp; omega, by simp [n1, n3]; omega⟩, ?_⟩
        have e15 : evS (parOf Tt n) s_law_odd_by_15 [some (.int c), some (.int m), some (.str (mkS l)), some (.loc p), some (.int (k : Int)), some (.str signL), some (.str (mkS [ch]))] S2 = .nx [some (.int c), some (.int m), some (.str (mkS l)), some (.loc p), some (.int (k : Int)), some (.str signL), some (.str (mkS [ch]))] S2 := by
          simp [s_law_odd_by_15, h38]
        have e16 : evS (parOf Tt n) s_law_odd_by_16 [some (.int c), some (.int m), some (.str (mkS l)), some (.loc p), some (.int (k : Int)), some (.str signL), some (.str (mkS [ch]))] S2 = .rt (.str (mkS (l.take k ++ [ch] ++ l.drop (k + 1)))) S2 := by
          rw [s_law_odd_by_16, evS_ret]
          simp only [evE_op2, evE_var, evE_lit, List.getElem?_cons_succ, List.getElem?_cons_zero, ofV_some, bind_ok, ofO_some, evE_slt, evE_slf, ofI_int, o_add, cu1, cu3, ad1, ad3, thenS_ok]
        rw [evB_cons, e15, seq_nx, evB_cons, e16, seq_rt, endF_rt, fa]
end LawK
namespace LawK
open PySem PySem.Spec PyProof.Rows L2 Ev
theorem law_events (n : Nat) (S : Store) {ds : List D} (h : ∀ d ∈ ds, IsRow d) (hn : ds.any isNon = false) : callF Tt (n + 2) 13 [.lst ds] S = .ok (.bl true) S := by
  rw [callF_is (fd := f_law_events) rfl rfl]
  show endF true S (evB (parOf Tt (n + 1)) [s_law_events_0, s_law_events_1, s_law_events_2] [some (.lst ds), none] S) = _
  have e0 : evS (parOf Tt (n + 1)) s_law_events_0 [some (.lst ds), none] S = .nx [some (.lst ds), none] S := by simp [s_law_events_0, tyIs]
  obtain ⟨δ', hδ, hf⟩ := forL_find (ch := []) (i := 1) (S := S) (r := .bl false) (bad := fun _ => false) (f := fun δ S => evB (parOf Tt (n + 1)) b_law_events_1 δ S) stays_nil (xs := ds) (δ := [some (.lst ds), none]) (fun x hx => by
    have r := h x hx
    have nx : isNon x = false := by
      rw [List.any_eq_false] at hn
      simpa using hn x hx
    cases r with
    | n => cases nx
    | a w nm => simp [b_law_events_1, ix1, tyIs]
    | b w nm k =>
      have w1 := law_whole n S (x := .int k) rfl
      simp [wholeD] at w1
      simp [b_law_events_1, ix1, ix2, tyIs, w1]
    | c w nm k ld h1 h2 =>
      have w1 := law_whole n S (x := .int k) rfl
      simp [wholeD] at w1
      simp [b_law_events_1, ix1, ix2, ix3, tyIs, w1])
  have e1 : evS (parOf Tt (n + 1)) s_law_events_1 [some (.lst ds), none] S = .nx δ' S := by
    simp only [s_law_events_1, evS_for, sFor, evEs_cons, evEs_nil, evE_var, List.getElem?_cons_zero, ofV_some, bind_ok, walkOf]
    rw [hf]
    simp
  simp only [evB_cons, e0, e1, seq_nx]
  simp [s_law_events_2]
/-! ### the text of some lines -/
theorem joinL_e : ∀ l : List (List Nat), TL.joinL [] l = l.flatten
  | [] => rfl
  | [p] => by simp [TL.joinL]
  | p :: q :: r => by
    have e : TL.joinL [] (p :: q :: r) = p ++ ([] ++ TL.joinL [] (q :: r)) := rfl
    rw [e, joinL_e (q :: r)]
    simp
theorem joinL_nl : ∀ l : List (List Nat), TL.joinL [10] (l ++ [[]]) = (l.map (· ++ [10])).flatten
  | [] => rfl
  | [p] => by simp [TL.joinL]
  | p :: q :: r => by
    have e : TL.joinL [10] (p :: q :: r ++ [[]]) = p ++ ([10] ++ TL.joinL [10] (q :: r ++ [[]])) := rfl
    rw [e, joinL_nl (q :: r)]
    simp
theorem joinL_last : ∀ l : List (List Nat), l ≠ [] → TL.joinL [10] (l ++ [[]]) = TL.joinL [10] l ++ [10]
  | [], h => absurd rfl h
  | [p], _ => by simp [TL.joinL]
  | p :: q :: r, _ => by
    have e : TL.joinL [10] (p :: q :: r ++ [[]]) = p ++ ([10] ++ TL.joinL [10] (q :: r ++ [[]])) := rfl
    have e2 : TL.joinL [10] (p :: q :: r) = p ++ ([10] ++ TL.joinL [10] (q :: r)) := rfl
    rw [e, e2, joinL_last (q :: r) (by simp)]
    simp
def textL (ls : List Str) : Str := Str.join "\n" (ls ++ [("" : Str)])
theorem text_is (ls : List Str) : Str.join "" (ls.map fun l => l ++ "\n") = textL ls := by
  apply TL.ext_tl
  unfold textL
  rw [TL.tl_join, TL.tl_join, tl_e, tl_nl, joinL_e, List.map_append]
  have e : List.map TL.tl [("" : Str)] = [[]] := by simp only [List.map_cons, List.map_nil, tl_e]
  rw [e, joinL_nl, List.map_map, List.map_map]
  congr 1
  refine List.map_congr_left fun d _ => ?_
  show TL.tl (d ++ "\n") = TL.tl d ++ [10]
  rw [TL.tl_append, tl_nl]
theorem cut_last1 (z : Str) : TL.tl (L2.cutS z none (some (-1))) = (TL.tl z).dropLast := by
  unfold L2.cutS
  show (((TL.tl z).drop _).take _) = _
  rw [TL.len_tl]
  have h1 : HT.sIx (TL.tl z).length 0 none = 0 := rfl
  have h2 : HT.sIx (TL.tl z).length (TL.tl z).length (some (-1)) = (TL.tl z).length - 1 := by
    simp [HT.sIx]
    omega
  rw [h1, h2, List.drop_zero, Nat.sub_zero, List.dropLast_eq_take]
theorem text_chop {ls : List Str} (h : ls ≠ []) : L2.cutS (textL ls) none (some (-1)) = Str.join "\n" ls := by
  apply TL.ext_tl
  rw [cut_last1]
  unfold textL
  rw [TL.tl_join, TL.tl_join, tl_nl, List.map_append]
  have e : List.map TL.tl [("" : Str)] = [[]] := by simp only [List.map_cons, List.map_nil, tl_e]
  rw [e, joinL_last _ (fun z => h (List.map_eq_nil_iff.mp z)), List.dropLast_concat]
theorem sum_le {α : Type} {f : α → Nat} {k : Nat} : ∀ {l : List α}, (∀ x ∈ l, f x ≤ k) → (l.map f).sum ≤ l.length * k
  | [], _ => by simp
  | x :: l, h => by
    have ih := sum_le (f := f) (k := k) (l := l) fun y hy => h y (List.mem_cons_of_mem _ hy)
    have h1 := h x (List.mem_cons_self ..)
    simp only [List.map_cons, List.sum_cons, List.length_cons, Nat.succ_mul]
    omega
/-- good lines -/
def Good9 (ls : List Str) : Prop := ls.length ≤ 9 ∧ ∀ l ∈ ls, l.length ≤ 210 ∧ 10 ∉ TL.tl l
theorem good_line {ls : List Str} (h : Good9 ls) : ∀ l ∈ ls ++ [("" : Str)], Line l := fun l hl => by
  rcases List.mem_append.mp hl with hl | hl
  · obtain ⟨h1, h2⟩ := h.2 l hl
    exact line_of (by omega) h2
  · simp at hl
    subst hl
    exact line_of (by rw [e_len]; omega) (by rw [tl_e]; simp)
theorem good_join {ls : List Str} (h : Good9 ls) : (Str.join "\n" ls).length ≤ 5000 := by
  have h1 := join_len "\n" ls
  rw [nl_len] at h1
  have h2 : (ls.map Str.length).sum ≤ ls.length * 210 := sum_le fun x hx => (h.2 x hx).1
  have := h.1
  omega
theorem good_text {ls : List Str} (h : Good9 ls) : (textL ls).length ≤ 5000 := by
  have h1 := join_len "\n" (ls ++ [("" : Str)])
  rw [nl_len] at h1
  have h2 : (ls.map Str.length).sum ≤ ls.length * 210 := sum_le fun x hx => (h.2 x hx).1
  have := h.1
  unfold textL
  simp only [List.map_append, List.sum_append, List.map_cons, List.map_nil, List.sum_cons, List.sum_nil, e_len, List.length_append, List.length_cons, List.length_nil] at h1
  omega
theorem last_get {S : Store} (xs : List Str) (last : Str) : op2 S .get (.lst (strD (xs ++ [last]))) (.int (-1)) = some (.str last) := by
  have := atI_neg (strD (xs ++ [last])) 0 (by simp [strD])
  show ixD _ _ = _
  unfold ixD
  rw [show (-1 : Int) = -(((0 : Nat) : Int) + 1) from rfl, this]
  simp [strD]
theorem last_cut (S : Store) (xs : List Str) (last : Str) : cutD S none (some (-1)) (.lst (strD (xs ++ [last]))) = some (.lst (strD xs)) := by
  have e : cutD S none (some (-1)) (.lst (strD (xs ++ [last]))) = some (.lst (cutG (strD (xs ++ [last])) none (some (-1)))) := rfl
  rw [e]
  unfold cutG
  have hlen : (strD (xs ++ [last])).length = xs.length + 1 := by simp [strD]
  have h1 : HT.sIx (strD (xs ++ [last])).length 0 none = 0 := rfl
  have h2 : HT.sIx (strD (xs ++ [last])).length (strD (xs ++ [last])).length (some (-1)) = xs.length := by
    rw [hlen]
    simp [HT.sIx]
    omega
  rw [h1, h2]
  simp [strD]
theorem cutG_hi {α : Type} (xs : List α) (k : Nat) (h : k ≤ xs.length) : cutG xs none (some (k : Int)) = xs.take k := by
  unfold cutG
  have h1 : HT.sIx xs.length 0 none = 0 := rfl
  have h2 : HT.sIx xs.length xs.length (some (k : Int)) = k := by
    simp only [HT.sIx]
    rw [if_neg (by omega), Int.toNat_natCast, Nat.min_eq_left h]
  rw [h1, h2, List.drop_zero, Nat.sub_zero]
theorem cutG_lo {α : Type} (xs : List α) (k : Nat) (h : k ≤ xs.length) : cutG xs (some (k : Int)) none = xs.drop k := by
  unfold cutG
  have h2 : HT.sIx xs.length 0 (some (k : Int)) = k := by
    simp only [HT.sIx]
    rw [if_neg (by omega), Int.toNat_natCast, Nat.min_eq_left h]
  have h1 : HT.sIx xs.length xs.length none = xs.length := rfl
  rw [h1, h2, List.take_of_length_le (by simp)]
theorem strD_take (ls : List Str) (k : Nat) : (strD ls).take k = strD (ls.take k) := by unfold strD; rw [List.map_take]
theorem strD_drop (ls : List Str) (k : Nat) : (strD ls).drop k = strD (ls.drop k) := by unfold strD; rw [List.map_drop]
theorem flat_up : ∀ (n m : Nat) (d : D), n ≤ m → flat n d = true → flat m d = true := by
  intro n
  induction n with
  | zero =>
    intro m d hm h
    cases d <;> first | rfl | (simp [flat] at h; done) | skip
  | succ n ih =>
    intro m d hm h
    obtain ⟨m, rfl⟩ : ∃ k, m = k + 1 := ⟨m - 1, by omega⟩
    have all : ∀ l : List D, flats n l = true → flats m l = true := by
      intro l
      induction l with
      | nil => intro _; rfl
      | cons x l il =>
        intro h
        have h := Bool.and_eq_true_iff.mp h
        exact Bool.and_eq_true_iff.mpr ⟨ih m x (by omega) h.1, il h.2⟩
    cases d with
    | lst xs => exact all xs h
    | tup xs => exact all xs h
    | _ => first | rfl | (simp [flat] at h; done)
theorem flat59 {ld : List D} (h : flats 10 ld = true) : flats 57 ld = true := by
  induction ld with
  | nil => rfl
  | cons x l il =>
    have h := Bool.and_eq_true_iff.mp h
    exact Bool.and_eq_true_iff.mpr ⟨flat_up 10 57 x (by omega) h.1, il h.2⟩
/-- the end of the law, the lines being given -/
theorem law_tail (n : Nat) (S : Store) (ls : List Str) (h : Good9 ls) (a b c e f g o1 o2 o3 o4 : Option D) : evB (parOf Tt (n + 7)) [s_law_7, s_law_8, s_law_9, s_law_10] [a, b, c, some (.lst (strD ls)), some (.str (textL ls)), o1, o2, e, f, g, o3, o4] S = .rt (.bl true) S := by
  have l9 := h.1
  have tl_ := good_text h
  have gl := good_line h
  have cm : evCmp false .ex (.nm 11) [11] (evEs (parOf Tt (n + 7)) [.var 3]) (evIfs (parOf Tt (n + 7)) []) (evE (parOf Tt (n + 7)) (.call 18 [.var 11]))
      [a, b, c, some (.lst (strD ls)), some (.str (textL ls)), o1, o2, e, f, g, o3, o4] S = .ok (.lst ((strD ls).filterMap fun d => match d with
        | .str l => some (rowL l)
        | _ => none)) S := by
    refine evCmp_F (ds := [.lst (strD ls)]) (ch := []) _ (by simp) rfl stays_nil (by simp [strD]; omega) (fun x hx acc => ?_) fun x hx => ?_
    · obtain ⟨l, hlm, rfl⟩ := List.mem_map.mp hx
      have ro := law_row_of (n + 5) (S ++ [.lst acc]) l (gl l (List.mem_append_left _ hlm)).1
      simp [turnC, setT, wipeE, ro, rowL]
    · obtain ⟨l, hlm, rfl⟩ := List.mem_map.mp hx
      show clos _ [rowL l] = true
      simp [clos, clo_mono _ (row_flat (is_rowS _)).2.1, rowL]
  have fm : (strD ls).filterMap (fun d => match d with
        | .str l => some (rowL l)
        | _ => none) = ls.map rowL := by
    unfold strD
    rw [List.filterMap_map]
    exact congrFun (List.filterMap_eq_map' (f := rowL)) ls
  rw [fm] at cm
  have rows : ∀ d ∈ ls.map rowL, IsRow d := fun d hd => by
    obtain ⟨l, _, rfl⟩ := List.mem_map.mp hd
    exact is_rowS _
  have q : op2 S .in_ .non (.lst (ls.map rowL)) = some (.bl ((ls.map rowL).any isNon)) := by
    have e : op2 S .in_ .non (.lst (ls.map rowL)) = (inL S .non (.lst (ls.map rowL))).map .bl := rfl
    rw [e]
    unfold inL
    simp only [items]
    have f1 : flats 15 (ls.map rowL) = true := flats_of fun d hd => (row_flat (rows d hd)).1
    have f2 : ((ls.map rowL).any fun y => eqD y .non) = (ls.map rowL).any isNon := by
      rw [List.any_map, List.any_map]
      congr 1
      funext l
      exact (row_flat (is_rowS _)).2.2
    rw [f1, f2]
    rfl
  have rd : ∀ k S, callF Tt (k + 6) 8 [.str (textL ls)] S = if (("" : Str) = "") ∧ (ls.map rowL).any isNon = false then .ok (.lst (ls.map rowL)) S else .exn 7 S := fun k S => read k S ls "" gl (by omega) (by have := tl_; unfold textL at this; omega)
  have e7 : evS (parOf Tt (n + 7)) s_law_7 [a, b, c, some (.lst (strD ls)), some (.str (textL ls)), o1, o2, e, f, g, o3, o4] S = .nx [a, b, c, some (.lst (strD ls)), some (.str (textL ls)), some (.lst (ls.map rowL)), o2, e, f, g, o3, o4] S := by
    rw [s_law_7, evS_set, evE_cmp, cm, thenS_ok]
    rfl
  rw [evB_cons, e7, seq_nx, evB_cons]
  cases hb : (ls.map rowL).any isNon
  · rw [hb] at q
    have rd1 : callF Tt (n + 7) 8 [.str (textL ls)] S = .ok (.lst (ls.map rowL)) S := by
      rw [rd (n + 1) S, hb]
      simp
    have ev := law_events (n + 5) S rows hb
    have fl : flats 59 (ls.map rowL) = true := flats_of fun d hd => by
      have h1 := (row_flat (rows d hd)).1
      have h2 := rows d hd
      cases h2 with
      | n => rfl
      | a => rfl
      | b => rfl
      | c w nm i ld q1 q2 =>
        have := flat59 q1
        simp [flat, flats, this]
    have es := (eq_self (S := S) (a := .lst (ls.map rowL)) (b := .lst (ls.map rowL)) rfl rfl fl).1
    simp [s_law_8, s_law_9, s_law_10, q, rd1, ev, es]
  · rw [hb] at q
    have rd1 : callF Tt (n + 6) 8 [.str (textL ls)] S = .exn 7 S := by
      rw [rd n S, hb]
      simp
    have rf := refused (n + 6) S rd1
    simp [s_law_8, q, rf]
end LawK
namespace LawK
open PySem PySem.Spec PyProof.Rows L2 Ev
def goodW (w : Str) : Prop := w.length ≤ 210 ∧ 10 ∉ TL.tl w
/-- a right row's line -/
theorem right_row (n : Nat) (ns : List Int) (i : Nat) {nms : List Str} (hl : nms.length = 6) (hn : ∀ nm ∈ nms, nameD (.str nm) = true) : ∃ w : Str, (w.length ≤ 105 ∧ 10 ∉ TL.tl w) ∧ ∀ (δ : Ev.Env) (e : E) (v : Nat), (∀ S, evE (parOf Tt (n + 2)) e δ S = .ok (.int (i : Int)) S) → δ[0]? = some (some (.scr ns)) → δ[v]? = some (some (.lst (strD nms))) →
    ∀ S, evE (parOf Tt (n + 2)) (.call 15 [.call 14 [.call 9 [.var 0, e], .var v]]) δ S = .ok (.str w) S := by
  obtain ⟨d, ws, r, hr⟩ := row_by n (ns.getD i 0) hl hn
  refine ⟨lineS ws, ⟨line_len r, line_free r⟩, fun δ e v he h0 h2 S => ?_⟩
  have c := cell_at (n + 1) ns i S
  have w := law_words_of (n + 1) S r
  simp only [evE_call, evEs_cons, evEs_nil, evE_var, h0, h2, ofV_some, bind_ok, he, parOf_cf, c, hr, w]
theorem law_is (ns : List Int) (hl : ns.length ≤ 63) : ∃ S, callF Tt 9 21 [.scr ns] [] = .ok (.bl true) S := by
  refine ⟨[], ?_⟩
  rw [callF_is (fd := f_law) rfl rfl]
  show endF true [] (evB (parOf Tt 8) [s_law_0, s_law_1, s_law_2, s_law_3, s_law_4, s_law_5, s_law_6, s_law_7, s_law_8, s_law_9, s_law_10] [some (.scr ns), none, none, none, none, none, none, none, none, none, none, none] []) = _
  generalize hS : ([] : Store) = S
  have ca : ∀ (i : Nat) S, callF Tt 8 9 [.scr ns, .int (i : Int)] S = .ok (.int (ns.getD i 0)) S := fun i S => cell_at 7 ns i S
  have c0 : ∀ S, callF Tt 8 9 [.scr ns, .int 0] S = .ok (.int (ns.getD 0 0)) S := ca 0
  have c1 : ∀ S, callF Tt 8 9 [.scr ns, .int 1] S = .ok (.int (ns.getD 1 0)) S := ca 1
  have c11 : ∀ S, callF Tt 8 9 [.scr ns, .int 11] S = .ok (.int (ns.getD 11 0)) S := ca 11
  have c12 : ∀ S, callF Tt 8 9 [.scr ns, .int 12] S = .ok (.int (ns.getD 12 0)) S := ca 12
  have c14 : ∀ S, callF Tt 8 9 [.scr ns, .int 14] S = .ok (.int (ns.getD 14 0)) S := ca 14
  have c15 : ∀ S, callF Tt 8 9 [.scr ns, .int 15] S = .ok (.int (ns.getD 15 0)) S := ca 15
  generalize ns.getD 0 0 = z0 at c0
  generalize ns.getD 1 0 = z1 at c1
  generalize ns.getD 11 0 = z11 at c11
  generalize ns.getD 12 0 = z12 at c12
  generalize ns.getD 14 0 = z14 at c14
  generalize ns.getD 15 0 = z15 at c15
  have e0 : evS (parOf Tt 8) s_law_0 [some (.scr ns), none, none, none, none, none, none, none, none, none, none, none] S = .nx [some (.scr ns), some (.int z0), none, none, none, none, none, none, none, none, none, none] S := by simp [s_law_0, c0]
  rw [evB_cons, e0, seq_nx, evB_cons]
  by_cases h1 : z0 / 9 % 8 = 1
  · -- things that are no texts
    have no : ∀ d, d ∈ ([.non, .int 5, .lst [.str "ends a"], .bl true, .tup [.str "ends", .str "a"], .dic [] []] : List D) → tyIs S .str d = some false := fun d hd => by
      simp only [List.mem_cons, List.not_mem_nil, or_false] at hd
      rcases hd with rfl | rfl | rfl | rfl | rfl | rfl <;> rfl
    obtain ⟨d, hd, e⟩ := pick (xs := [.non, .int 5, .lst [.str "ends a"], .bl true, .tup [.str "ends", .str "a"], .dic [] []]) (i := z1 % 6) (by simp; omega)
    have rf := refused 7 S (read_no 6 S (no d hd))
    have e1 : evS (parOf Tt 8) s_law_1 [some (.scr ns), some (.int z0), none, none, none, none, none, none, none, none, none, none] S = .rt (.bl true) S := by
      simp [s_law_1, h1, c1, newD, e, rf]
    rw [e1, seq_rt, endF_rt, Ev.fin_bl]
  · have e1 : evS (parOf Tt 8) s_law_1 [some (.scr ns), some (.int z0), none, none, none, none, none, none, none, none, none, none] S = .nx [some (.scr ns), some (.int z0), none, none, none, none, none, none, none, none, none, none] S := by
      simp [s_law_1, h1]
    obtain ⟨nms, nl, hn, en⟩ := namesM 7 z1 6 (by omega)
    have nl : nms.length = 6 := nl
    have e2 : evS (parOf Tt 8) s_law_2 [some (.scr ns), some (.int z0), none, none, none, none, none, none, none, none, none, none] S = .nx [some (.scr ns), some (.int z0), some (.lst (strD nms)), none, none, none, none, none, none, none, none, none] S := by
      simp [s_law_2, c1, en]
    rw [e1, seq_nx, evB_cons, e2, seq_nx, evB_cons]
    -- the right rows
    have one : ∀ i : Nat, ∃ w : Str, (w.length ≤ 105 ∧ 10 ∉ TL.tl w) ∧ ∀ (δ : Ev.Env) (e : E) (v : Nat), (∀ S, evE (parOf Tt 8) e δ S = .ok (.int (((2 + i : Nat)) : Int)) S) → δ[0]? = some (some (.scr ns)) → δ[v]? = some (some (.lst (strD nms))) →
        ∀ S, evE (parOf Tt 8) (.call 15 [.call 14 [.call 9 [.var 0, e], .var v]]) δ S = .ok (.str w) S := fun i => right_row 6 ns (2 + i) nl hn
    let g : Nat → Str := fun i => Classical.choose (one i)
    have hg := fun i => Classical.choose_spec (one i)
    have rc := rng_cmp (P := parOf Tt 8) (δ := [some (.scr ns), some (.int z0), some (.lst (strD nms)), none, none, none, none, none, none, none, none, none]) (S := S) (elt := .call 15 [.call 14 [.call 9 [.var 0, .op2 .add (.lit (.int 2)) (.var 10)], .var 2]]) (e := .op2 .mod (.var 1) (.lit (.int 9))) (j := 10) (N := z0 % 9) (g := fun i => .str (g i))
      (by simp) (by omega) (fun i => rfl) (fun i hi T => by
        exact (hg i).2 _ (.op2 .add (.lit (.int 2)) (.var 10)) 2 (fun S => by
          simp) rfl rfl _)
    obtain ⟨ls, hls, els⟩ : ∃ ls : List Str, (ls.length ≤ 8 ∧ ∀ l ∈ ls, l.length ≤ 105 ∧ 10 ∉ TL.tl l) ∧ (List.range (z0 % 9).toNat).map (fun i => D.str (g i)) = strD ls := by
      refine ⟨(List.range (z0 % 9).toNat).map g, ⟨by simp; omega, fun l hl => ?_⟩, by simp [strD]⟩
      obtain ⟨i, _, rfl⟩ := List.mem_map.mp hl
      exact (hg i).1
    rw [els] at rc
    have e3 : evS (parOf Tt 8) s_law_3 [some (.scr ns), some (.int z0), some (.lst (strD nms)), none, none, none, none, none, none, none, none, none] S = .nx [some (.scr ns), some (.int z0), some (.lst (strD nms)), some (.lst (strD ls)), none, none, none, none, none, none, none, none] S := by
      rw [s_law_3, evS_set, rc, thenS_ok]
      rfl
    rw [e3, seq_nx, evB_cons]
    -- one odd row more
    obtain ⟨ms, o7, o8, o9, hms, e4⟩ : ∃ (ms : List Str) (o7 o8 o9 : Option D), Good9 ms ∧ evS (parOf Tt 8) s_law_4 [some (.scr ns), some (.int z0), some (.lst (strD nms)), some (.lst (strD ls)), none, none, none, none, none, none, none, none] S = .nx [some (.scr ns), some (.int z0), some (.lst (strD nms)), some (.lst (strD ms)), none, none, none, o7, o8, o9, none, none] S := by
      by_cases h4 : z11 % 4 = 0
      · refine ⟨ls, none, none, none, ⟨by omega, fun l hl => by have := hls.2 l hl; exact ⟨by omega, this.2⟩⟩, ?_⟩
        simp [s_law_4, c11, h4]
      · obtain ⟨k, hk⟩ : ∃ k : Nat, z12 % ((ls.length : Int) + 1) = (k : Int) := Int.eq_ofNat_of_zero_le (Int.emod_nonneg _ (by omega))
        have hkl : k ≤ ls.length := by
          have := Int.emod_lt_of_pos z12 (show (0 : Int) < (ls.length : Int) + 1 by omega)
          omega
        obtain ⟨r, hr, er⟩ := right_row 6 ns 13 nl hn
        obtain ⟨w, hw, ew⟩ := odd_by 7 z14 z15 (TL.tl r) (by rw [← TL.len_tl]; omega) hr.2 S
        rw [← mk_self] at ew
        have ll : (strD ls).length = ls.length := List.length_map _
        have cu1 : ∀ S, cutD S none (some (k : Int)) (.lst (strD ls)) = some (.lst (strD (ls.take k))) := fun S => by
          have e : cutD S none (some (k : Int)) (.lst (strD ls)) = some (.lst (cutG (strD ls) none (some (k : Int)))) := rfl
          rw [e, cutG_hi _ _ (by omega), strD_take]
        have cu2 : ∀ S, cutD S (some (k : Int)) none (.lst (strD ls)) = some (.lst (strD (ls.drop k))) := fun S => by
          have e : cutD S (some (k : Int)) none (.lst (strD ls)) = some (.lst (cutG (strD ls) (some (k : Int)) none)) := rfl
          rw [e, cutG_lo _ _ (by omega), strD_drop]
        have ad : ∀ (S : Store) (a b : List Str), a.length ≤ 100 → b.length ≤ 100 → op2 S .add (.lst (strD a)) (.lst (strD b)) = some (.lst (strD (a ++ b))) := fun S a b ha hb => by
          rw [o_addL S _ _ (by rw [LIM_nat]; simp [strD]; omega)]
          simp [strD]
        have l1 : (ls.take k).length ≤ 8 := by rw [List.length_take]; omega
        have l2 : (ls.drop k).length ≤ 8 := by rw [List.length_drop]; omega
        have ad1 : ∀ S, op2 S .add (.lst (strD (ls.take k))) (.lst [.str (mkS w)]) = some (.lst (strD (ls.take k ++ [mkS w]))) := fun S => ad S _ [mkS w] (by omega) (by simp)
        have ad2 : ∀ S, op2 S .add (.lst (strD (ls.take k ++ [mkS w]))) (.lst (strD (ls.drop k))) = some (.lst (strD (ls.take k ++ [mkS w] ++ ls.drop k))) := fun S => ad S _ _ (by simp; omega) (by omega)
        refine ⟨ls.take k ++ [mkS w] ++ ls.drop k, some (.int (k : Int)), some (.str r), some (.str (mkS w)), ⟨by simp; omega, fun l hl => ?_⟩, ?_⟩
        · rcases List.mem_append.mp hl with hl | hl
          · rcases List.mem_append.mp hl with hl | hl
            · have := hls.2 l (List.mem_of_mem_take hl)
              exact ⟨by omega, this.2⟩
            · simp at hl
              subst hl
              exact ⟨by rw [mk_len]; omega, hw.2⟩
          · have := hls.2 l (List.mem_of_mem_drop hl)
            exact ⟨by omega, this.2⟩
        · have md : op2 S .mod (.int z12) (.int ((ls.length : Int) + 1)) = some (.int (k : Int)) := by rw [o_mod _ _ _ (by omega), hk]
          have b7 : evS (parOf Tt 8) (.set 7 (.op2 .mod (.call 9 [.var 0, .lit (.int 12)]) (.op2 .add (.op1 .len (.var 3)) (.lit (.int 1))))) [some (.scr ns), some (.int z0), some (.lst (strD nms)), some (.lst (strD ls)), none, none, none, none, none, none, none, none] S = .nx [some (.scr ns), some (.int z0), some (.lst (strD nms)), some (.lst (strD ls)), none, none, none, some (.int (k : Int)), none, none, none, none] S := by
            simp [c12, ll, md]
          have b8 : evS (parOf Tt 8) (.set 8 (.call 15 [.call 14 [.call 9 [.var 0, .lit (.int 13)], .var 2]])) [some (.scr ns), some (.int z0), some (.lst (strD nms)), some (.lst (strD ls)), none, none, none, some (.int (k : Int)), none, none, none, none] S = .nx [some (.scr ns), some (.int z0), some (.lst (strD nms)), some (.lst (strD ls)), none, none, none, some (.int (k : Int)), some (.str r), none, none, none] S := by
            rw [evS_set, er _ (.lit (.int 13)) 2 (fun S => rfl) rfl rfl, thenS_ok]
            rfl
          have b9 : evS (parOf Tt 8) (.set 9 (.call 19 [.call 9 [.var 0, .lit (.int 14)], .call 9 [.var 0, .lit (.int 15)], .var 8])) [some (.scr ns), some (.int z0), some (.lst (strD nms)), some (.lst (strD ls)), none, none, none, some (.int (k : Int)), some (.str r), none, none, none] S = .nx [some (.scr ns), some (.int z0), some (.lst (strD nms)), some (.lst (strD ls)), none, none, none, some (.int (k : Int)), some (.str r), some (.str (mkS w)), none, none] S := by
            simp only [evS_set, evE_call, evEs_cons, evEs_nil, evE_var, evE_lit, List.getElem?_cons_succ, List.getElem?_cons_zero, ofV_some, bind_ok, parOf_cf, c14, c15, ew, thenS_ok]
            rfl
          have b3 : evS (parOf Tt 8) (.set 3 (.op2 .add (.op2 .add (.slt (.var 3) (.var 7)) (.lst false [.var 9])) (.slf (.var 3) (.var 7)))) [some (.scr ns), some (.int z0), some (.lst (strD nms)), some (.lst (strD ls)), none, none, none, some (.int (k : Int)), some (.str r), some (.str (mkS w)), none, none] S = .nx [some (.scr ns), some (.int z0), some (.lst (strD nms)), some (.lst (strD (ls.take k ++ [mkS w] ++ ls.drop k))), none, none, none, some (.int (k : Int)), some (.str r), some (.str (mkS w)), none, none] S := by
            simp only [evS_set, evE_op2, evE_slt, evE_slf, evE_lst, evEs_cons, evEs_nil, evE_var, List.getElem?_cons_succ, List.getElem?_cons_zero, ofV_some, bind_ok, ofI_int, cu1, cu2, ofO_some, List.length_cons, List.length_nil, newL_f]
            rw [if_pos (by rw [LIM_nat]; omega), bind_ok, ad1, ofO_some, bind_ok, ad2, ofO_some, thenS_ok]
            rfl
          rw [s_law_4, evS_ite]
          have cnd : evE (parOf Tt 8) (.op2 .ne (.op2 .mod (.call 9 [.var 0, .lit (.int 11)]) (.lit (.int 4))) (.lit (.int 0))) [some (.scr ns), some (.int z0), some (.lst (strD nms)), some (.lst (strD ls)), none, none, none, none, none, none, none, none] S = .ok (.bl true) S := by
            simp [c11, h4]
          rw [cnd, thenS_ok, ifB_bl, if_pos rfl, evB_cons, b7, seq_nx, evB_cons, b8, seq_nx, evB_cons, b9, seq_nx, evB_cons, b3, seq_nx, evB_nil]
    rw [e4, seq_nx, evB_cons]
    -- the text
    have m9 := hms.1
    have ml : (strD ms).length = ms.length := List.length_map _
    have e5 : evS (parOf Tt 8) s_law_5 [some (.scr ns), some (.int z0), some (.lst (strD nms)), some (.lst (strD ms)), none, none, none, o7, o8, o9, none, none] S = .nx [some (.scr ns), some (.int z0), some (.lst (strD nms)), some (.lst (strD ms)), some (.str (textL ms)), none, none, o7, o8, o9, none, none] S := by
      have cm : evCmp false .ex (.nm 11) [11] (evEs (parOf Tt 8) [.var 3]) (evIfs (parOf Tt 8) []) (evE (parOf Tt 8) (.op2 .add (.var 11) (.lit (.str "\n"))))
          [some (.scr ns), some (.int z0), some (.lst (strD nms)), some (.lst (strD ms)), none, none, none, o7, o8, o9, none, none] S = .ok (.lst ((strD ms).filterMap fun d => match d with
            | .str l => some (.str (l ++ "\n"))
            | _ => none)) S := by
        refine evCmp_F (ds := [.lst (strD ms)]) (ch := []) _ (by simp) rfl stays_nil (by simp [strD]; omega) (fun x hx acc => ?_) fun x hx => ?_
        · obtain ⟨l, hlm, rfl⟩ := List.mem_map.mp hx
          have h210 := (hms.2 l hlm).1
          have ad : op2 (S ++ [Cell.lst acc]) .add (.str l) (.str "\n") = some (.str (l ++ "\n")) := o_addS _ l "\n" (by rw [nl_len, LIM_nat]; omega)
          simp [turnC, setT, wipeE, ad]
        · obtain ⟨l, hlm, rfl⟩ := List.mem_map.mp hx
          rfl
      have fm : (strD ms).filterMap (fun d => match d with
            | .str l => some (D.str (l ++ "\n"))
            | _ => none) = strD (ms.map fun l => l ++ ("\n" : Str)) := by
        unfold strD
        rw [List.filterMap_map, List.map_map]
        exact congrFun (List.filterMap_eq_map' (f := fun l : Str => D.str (l ++ "\n"))) ms
      rw [fm] at cm
      have sm : ((ms.map fun l => l ++ ("\n" : Str)).map Str.length).sum ≤ (ms.map fun l => l ++ ("\n" : Str)).length * 211 := sum_le fun x hx => by
        obtain ⟨l, hl, rfl⟩ := List.mem_map.mp hx
        have := (hms.2 l hl).1
        rw [app_len, nl_len]
        omega
      have jn := join_at (S := S) (d := .lst (strD (ms.map fun l => l ++ ("\n" : Str)))) (z := "") (ws := ms.map fun l => l ++ ("\n" : Str)) rfl (by
        rw [e_len, LIM_nat]
        simp only [List.length_map] at sm
        omega)
      rw [text_is] at jn
      simp only [s_law_5, evS_set, evE_join, evE_lit, bind_ok, isStr, if_true, evE_cmp, cm, jn, ofO_some, thenS_ok]
      rfl
    rw [e5, seq_nx, evB_cons]
    have tl_ := good_text hms
    -- the end, if nothing is left out
    have tail := fun ls h => law_tail 1 S ls h (some (.scr ns)) (some (.int z0)) (some (.lst (strD nms))) o7 o8 o9 none none none none
    by_cases h6 : ms ≠ [] ∧ z11 / 4 % 6 = 1
    · obtain ⟨xs, last, rfl⟩ : ∃ xs last, ms = xs ++ [last] := ⟨ms.dropLast, ms.getLast h6.1, (List.dropLast_concat_getLast h6.1).symm⟩
      have ne : op2 S .ne (.lst (strD (xs ++ [last]))) (.lst []) = some (.bl true) := by
        rw [ne_nil (flats_strD _ _)]
        simp [strD]
      have ch : cutD S none (some (-1)) (.str (textL (xs ++ [last]))) = some (.str (Str.join "\n" (xs ++ [last]))) := by
        have e : cutD S none (some (-1)) (.str (textL (xs ++ [last]))) = if (textL (xs ++ [last])).length ≤ LIM then some (.str (L2.cutS (textL (xs ++ [last])) none (some (-1)))) else none := rfl
        rw [e, if_pos (by rw [LIM_nat]; omega), text_chop (by simp)]
      have lg := last_get (S := S) xs last
      have lg2 : ixD (strD (xs ++ [last])) (-1) = some (.str last) := lg
      have lc := last_cut S xs last
      have gx : Good9 xs := ⟨by simp at m9; omega, fun l hl => hms.2 l (List.mem_append_left _ hl)⟩
      by_cases hla : last = ""
      · subst hla
        have e6 : evS (parOf Tt 8) s_law_6 [some (.scr ns), some (.int z0), some (.lst (strD nms)), some (.lst (strD (xs ++ [("" : Str)]))), some (.str (textL (xs ++ [("" : Str)]))), none, none, o7, o8, o9, none, none] S = .nx [some (.scr ns), some (.int z0), some (.lst (strD nms)), some (.lst (strD xs)), some (.str (textL xs)), none, none, o7, o8, o9, none, none] S := by
          have ch' : cutD S none (some (-1)) (.str (textL (xs ++ [("" : Str)]))) = some (.str (textL xs)) := ch
          simp [s_law_6, ne, c11, h6.2, ch', lg2, lc]
        rw [e6, seq_nx, tail xs gx, endF_rt, Ev.fin_bl]
      · have rd := read 1 S xs last (fun l hl => by
          obtain ⟨a1, a2⟩ := hms.2 l hl
          exact line_of (by omega) a2) (by simp at m9; omega) (by have := good_join hms; omega)
        rw [if_neg (fun h => hla h.1)] at rd
        have rf := refused 7 S rd
        have e6 : evS (parOf Tt 8) s_law_6 [some (.scr ns), some (.int z0), some (.lst (strD nms)), some (.lst (strD (xs ++ [last]))), some (.str (textL (xs ++ [last]))), none, none, o7, o8, o9, none, none] S = .rt (.bl true) S := by
          simp [s_law_6, ne, c11, h6.2, ch, lg2, hla, rf]
        rw [e6, seq_rt, endF_rt, Ev.fin_bl]
    · have e6 : evS (parOf Tt 8) s_law_6 [some (.scr ns), some (.int z0), some (.lst (strD nms)), some (.lst (strD ms)), some (.str (textL ms)), none, none, o7, o8, o9, none, none] S = .nx [some (.scr ns), some (.int z0), some (.lst (strD nms)), some (.lst (strD ms)), some (.str (textL ms)), none, none, o7, o8, o9, none, none] S := by
        have ne : op2 S .ne (.lst (strD ms)) (.lst []) = some (.bl (!(strD ms).isEmpty)) := ne_nil (flats_strD _ _)
        by_cases hm0 : ms = []
        · subst hm0
          have ne' : op2 S .ne (.lst []) (.lst []) = some (.bl false) := ne
          simp [s_law_6, strD, ne']
        · have hz : ¬ (z11 / 4 % 6 = 1) := fun e => h6 ⟨hm0, e⟩
          have ie : (strD ms).isEmpty = false := by
            cases ms with
            | nil => exact absurd rfl hm0
            | cons _ _ => rfl
          rw [ie] at ne
          simp [s_law_6, ne, c11, hz]
      rw [e6, seq_nx, tail ms hms, endF_rt, Ev.fin_bl]
end LawK
namespace LawK
open PySem PySem.Spec PyProof.Rows L2 Ev
def d_is_number : He.DefD := ⟨("is_number", none), "is_number", "is_number", defArgs (top 14), defBody (top 14), defScope (top 14), [], []⟩
def d_is_name : He.DefD := ⟨("is_name", none), "is_name", "is_name", defArgs (top 15), defBody (top 15), defScope (top 15), [], []⟩
def d_is_word_of : He.DefD := ⟨("is_word_of", none), "is_word_of", "is_word_of", defArgs (top 16), defBody (top 16), defScope (top 16), [], []⟩
def d_is_row : He.DefD := ⟨("is_row", none), "is_row", "is_row", defArgs (top 17), defBody (top 17), defScope (top 17), [], []⟩
def d_is_letter : He.DefD := ⟨("is_letter", none), "is_letter", "is_letter", defArgs (top 18), defBody (top 18), defScope (top 18), [], []⟩
def d_number_of : He.DefD := ⟨("number_of", none), "number_of", "number_of", defArgs (top 22), defBody (top 22), defScope (top 22), [], []⟩
def d_letter_of : He.DefD := ⟨("letter_of", none), "letter_of", "letter_of", defArgs (top 23), defBody (top 23), defScope (top 23), [], []⟩
def d_event_of : He.DefD := ⟨("event_of", none), "event_of", "event_of", defArgs (top 24), defBody (top 24), defScope (top 24), [], []⟩
def d_read : He.DefD := ⟨("read", none), "read", "read", defArgs (top 25), defBody (top 25), defScope (top 25), [], []⟩
def d_law_cell_at : He.DefD := ⟨("_law_cell_at", none), "_law_cell_at", "_law_cell_at", defArgs (top 27), defBody (top 27), defScope (top 27), [], []⟩
def d_law_whole : He.DefD := ⟨("_law_whole", none), "_law_whole", "_law_whole", defArgs (top 28), defBody (top 28), defScope (top 28), [], []⟩
def d_law_names : He.DefD := ⟨("_law_names", none), "_law_names", "_law_names", defArgs (top 29), defBody (top 29), defScope (top 29), [], []⟩
def d_law_letter_by : He.DefD := ⟨("_law_letter_by", none), "_law_letter_by", "_law_letter_by", defArgs (top 30), defBody (top 30), defScope (top 30), [], []⟩
def d_law_events : He.DefD := ⟨("_law_events", none), "_law_events", "_law_events", defArgs (top 31), defBody (top 31), defScope (top 31), [], []⟩
def d_law_row_by : He.DefD := ⟨("_law_row_by", none), "_law_row_by", "_law_row_by", defArgs (top 32), defBody (top 32), defScope (top 32), [], []⟩
def d_law_words_of : He.DefD := ⟨("_law_words_of", none), "_law_words_of", "_law_words_of", defArgs (top 33), defBody (top 33), defScope (top 33), [], []⟩
def d_law_is_name : He.DefD := ⟨("_law_is_name", none), "_law_is_name", "_law_is_name", defArgs (top 35), defBody (top 35), defScope (top 35), [], []⟩
def d_law_number : He.DefD := ⟨("_law_number", none), "_law_number", "_law_number", defArgs (top 36), defBody (top 36), defScope (top 36), [], []⟩
def d_law_row_of : He.DefD := ⟨("_law_row_of", none), "_law_row_of", "_law_row_of", defArgs (top 37), defBody (top 37), defScope (top 37), [], []⟩
def d_law_odd_by : He.DefD := ⟨("_law_odd_by", none), "_law_odd_by", "_law_odd_by", defArgs (top 38), defBody (top 38), defScope (top 38), [], []⟩
def d_law_refused : He.DefD := ⟨("_law_refused", none), "_law_refused", "_law_refused", defArgs (top 39), defBody (top 39), defScope (top 39), [], []⟩
def d_law : He.DefD := ⟨("law", none), "law", "law", defArgs (top 40), defBody (top 40), defScope (top 40), [], []⟩
def d_kinds : He.DefD := ⟨("_law_kinds", none), "_law_kinds", "_law_kinds", defArgs (top 34), defBody (top 34), defScope (top 34), [], []⟩
def fnD : List He.DefD := [d_is_number, d_is_name, d_is_word_of, d_is_row, d_is_letter, d_number_of, d_letter_of, d_event_of, d_read, d_law_cell_at, d_law_whole, d_law_names, d_law_letter_by, d_law_events, d_law_row_by, d_law_words_of, d_law_is_name, d_law_number, d_law_row_of, d_law_odd_by, d_law_refused, d_law, d_kinds]
def faD : List He.Fa := [.glo "is_number", .glo "is_name", .glo "is_word_of", .glo "is_row", .glo "is_letter", .glo "number_of", .glo "letter_of", .glo "event_of", .glo "read", .glo "_law_cell_at", .glo "_law_whole", .glo "_law_names", .glo "_law_letter_by", .glo "_law_events", .glo "_law_row_by", .glo "_law_words_of", .glo "_law_is_name", .glo "_law_number", .glo "_law_row_of", .glo "_law_odd_by", .glo "_law_refused", .glo "law", .free "ValueError", .free "bool", .free "int", .free "isinstance", .free "len", .free "list", .free "range", .free "str", .free "tuple", .str "SIGNS" "abcdefghijklmnopqrstuvwxyz", .int "LONGEST" 8, .int "MOST_plans" 1000000000, .str "FIGURES" "0123456789", .int "MOST_texts" 1000000000, .glo "_law_kinds", .glo "HouseError", .glo "BadPlan", .exc "BadPlan", .exm "BadPlan" "HouseError" true, .glo "BadLetter", .exc "BadLetter", .exm "BadLetter" "HouseError" true, .glo "Stranger", .exc "Stranger", .exm "Stranger" "HouseError" true, .glo "Gone", .exc "Gone", .exm "Gone" "HouseError" true, .glo "Nothing", .exc "Nothing", .exm "Nothing" "HouseError" true, .glo "Closed", .exc "Closed", .exm "Closed" "HouseError" true, .glo "BadHistory", .exc "BadHistory", .exm "BadHistory" "HouseError" true, .glo "BadText", .exc "BadText", .exm "BadText" "HouseError" true]
abbrev R : PySem.W.OpenRow := PySem.W.OpenLaw.row PySem.Challenge.rw_wardhouse_k11_texts_refused
abbrev hk : PySem.W.Hook := Ev.hookM 4 faD fnD
def ob (s : PySem.W.SharedT) : He.AlD × Bool := Ev.obM 4 faD fnD (HandSHeadRun.getT s)
theorem ob_eq (s : PySem.W.SharedT) : ob s = hk.obs s.abs := Ev.obM_eq (HandSHeadRun.getT_eq s)
def names : List PySem.Str := (["HouseError", "BadPlan", "BadLetter", "Stranger", "Gone", "Nothing", "Closed", "BadHistory", "BadText", "SIGNS", "LONGEST", "MOST_plans", "is_number", "is_name", "is_word_of", "is_row", "is_letter", "FIGURES", "MOST_texts", "number_of", "letter_of", "event_of", "read", "_law_cell_at", "_law_whole", "_law_names", "_law_letter_by", "_law_events", "_law_row_by", "_law_words_of"] : List PySem.Str) ++ (["_law_kinds", "_law_is_name", "_law_number", "_law_row_of", "_law_odd_by", "_law_refused"] : List PySem.Str)
theorem run (w : World) : HandSHeadRun.RunEq R (PySem.W.view R.prog [40]) hk ob 4000 names w := by
  intro os
  kernel_rfl
theorem facts {K : PySem.W.Frag} {h : Heap} {mg : Str → Option Value} (X : K.In h) (G : h.Ns mainGlobals mg) (c : He.SaysD faD fnD K) (kb : kitsB K = true) : TOk (kA K) K mg Tt fns con free kExc "HouseError" "_law_kinds" := by
  refine ⟨fun x i h => ?_, fun x i h => ?_, fun x h => ?_, ?_⟩
  · have h := lookup_mem h
    simp only [fns, List.mem_cons, Prod.mk.injEq, List.not_mem_nil, or_false] at h
    rcases h with ⟨rfl, rfl⟩ | ⟨rfl, rfl⟩ | ⟨rfl, rfl⟩ | ⟨rfl, rfl⟩ | ⟨rfl, rfl⟩ | ⟨rfl, rfl⟩ | ⟨rfl, rfl⟩ | ⟨rfl, rfl⟩ | ⟨rfl, rfl⟩ | ⟨rfl, rfl⟩ | ⟨rfl, rfl⟩ | ⟨rfl, rfl⟩ | ⟨rfl, rfl⟩ | ⟨rfl, rfl⟩ | ⟨rfl, rfl⟩ | ⟨rfl, rfl⟩ | ⟨rfl, rfl⟩ | ⟨rfl, rfl⟩ | ⟨rfl, rfl⟩ | ⟨rfl, rfl⟩ | ⟨rfl, rfl⟩ | ⟨rfl, rfl⟩
    · obtain ⟨fd, Fd⟩ := c.def_ 0 (d := d_is_number) rfl
      exact ⟨f_is_number, top 14, _, fd, rfl, Fd, He.glo_ok X G (c.fact 0 (f := .glo "is_number") rfl), Fd.bindsN fun _ _ _ _ _ _ us hl => (match us, hl with | [_, _, _], _ => rfl), sc_is_number, 40, 40, ck_is_number⟩
    · obtain ⟨fd, Fd⟩ := c.def_ 1 (d := d_is_name) rfl
      exact ⟨f_is_name, top 15, _, fd, rfl, Fd, He.glo_ok X G (c.fact 1 (f := .glo "is_name") rfl), Fd.bindsN fun _ _ _ _ _ _ us hl => (match us, hl with | [_], _ => rfl), sc_is_name, 40, 40, ck_is_name⟩
    · obtain ⟨fd, Fd⟩ := c.def_ 2 (d := d_is_word_of) rfl
      exact ⟨f_is_word_of, top 16, _, fd, rfl, Fd, He.glo_ok X G (c.fact 2 (f := .glo "is_word_of") rfl), Fd.bindsN fun _ _ _ _ _ _ us hl => (match us, hl with | [_, _], _ => rfl), sc_is_word_of, 40, 40, ck_is_word_of⟩
    · obtain ⟨fd, Fd⟩ := c.def_ 3 (d := d_is_row) rfl
      exact ⟨f_is_row, top 17, _, fd, rfl, Fd, He.glo_ok X G (c.fact 3 (f := .glo "is_row") rfl), Fd.bindsN fun _ _ _ _ _ _ us hl => (match us, hl with | [_, _, _], _ => rfl), sc_is_row, 40, 40, ck_is_row⟩
    · obtain ⟨fd, Fd⟩ := c.def_ 4 (d := d_is_letter) rfl
      exact ⟨f_is_letter, top 18, _, fd, rfl, Fd, He.glo_ok X G (c.fact 4 (f := .glo "is_letter") rfl), Fd.bindsN fun _ _ _ _ _ _ us hl => (match us, hl with | [_], _ => rfl), sc_is_letter, 40, 40, ck_is_letter⟩
    · obtain ⟨fd, Fd⟩ := c.def_ 5 (d := d_number_of) rfl
      exact ⟨f_number_of, top 22, _, fd, rfl, Fd, He.glo_ok X G (c.fact 5 (f := .glo "number_of") rfl), Fd.bindsN fun _ _ _ _ _ _ us hl => (match us, hl with | [_], _ => rfl), sc_number_of, 40, 40, ck_number_of⟩
    · obtain ⟨fd, Fd⟩ := c.def_ 6 (d := d_letter_of) rfl
      exact ⟨f_letter_of, top 23, _, fd, rfl, Fd, He.glo_ok X G (c.fact 6 (f := .glo "letter_of") rfl), Fd.bindsN fun _ _ _ _ _ _ us hl => (match us, hl with | [_], _ => rfl), sc_letter_of, 40, 40, ck_letter_of⟩
    · obtain ⟨fd, Fd⟩ := c.def_ 7 (d := d_event_of) rfl
      exact ⟨f_event_of, top 24, _, fd, rfl, Fd, He.glo_ok X G (c.fact 7 (f := .glo "event_of") rfl), Fd.bindsN fun _ _ _ _ _ _ us hl => (match us, hl with | [_], _ => rfl), sc_event_of, 40, 40, ck_event_of⟩
    · obtain ⟨fd, Fd⟩ := c.def_ 8 (d := d_read) rfl
      exact ⟨f_read, top 25, _, fd, rfl, Fd, He.glo_ok X G (c.fact 8 (f := .glo "read") rfl), Fd.bindsN fun _ _ _ _ _ _ us hl => (match us, hl with | [_], _ => rfl), sc_read, 40, 40, ck_read⟩
    · obtain ⟨fd, Fd⟩ := c.def_ 9 (d := d_law_cell_at) rfl
      exact ⟨f_law_cell_at, top 27, _, fd, rfl, Fd, He.glo_ok X G (c.fact 9 (f := .glo "_law_cell_at") rfl), Fd.bindsN fun _ _ _ _ _ _ us hl => (match us, hl with | [_, _], _ => rfl), sc_law_cell_at, 40, 40, ck_law_cell_at⟩
    · obtain ⟨fd, Fd⟩ := c.def_ 10 (d := d_law_whole) rfl
      exact ⟨f_law_whole, top 28, _, fd, rfl, Fd, He.glo_ok X G (c.fact 10 (f := .glo "_law_whole") rfl), Fd.bindsN fun _ _ _ _ _ _ us hl => (match us, hl with | [_], _ => rfl), sc_law_whole, 40, 40, ck_law_whole⟩
    · obtain ⟨fd, Fd⟩ := c.def_ 11 (d := d_law_names) rfl
      exact ⟨f_law_names, top 29, _, fd, rfl, Fd, He.glo_ok X G (c.fact 11 (f := .glo "_law_names") rfl), Fd.bindsN fun _ _ _ _ _ _ us hl => (match us, hl with | [_, _], _ => rfl), sc_law_names, 40, 40, ck_law_names⟩
    · obtain ⟨fd, Fd⟩ := c.def_ 12 (d := d_law_letter_by) rfl
      exact ⟨f_law_letter_by, top 30, _, fd, rfl, Fd, He.glo_ok X G (c.fact 12 (f := .glo "_law_letter_by") rfl), Fd.bindsN fun _ _ _ _ _ _ us hl => (match us, hl with | [_], _ => rfl), sc_law_letter_by, 40, 40, ck_law_letter_by⟩
    · obtain ⟨fd, Fd⟩ := c.def_ 13 (d := d_law_events) rfl
      exact ⟨f_law_events, top 31, _, fd, rfl, Fd, He.glo_ok X G (c.fact 13 (f := .glo "_law_events") rfl), Fd.bindsN fun _ _ _ _ _ _ us hl => (match us, hl with | [_], _ => rfl), sc_law_events, 40, 40, ck_law_events⟩
    · obtain ⟨fd, Fd⟩ := c.def_ 14 (d := d_law_row_by) rfl
      exact ⟨f_law_row_by, top 32, _, fd, rfl, Fd, He.glo_ok X G (c.fact 14 (f := .glo "_law_row_by") rfl), Fd.bindsN fun _ _ _ _ _ _ us hl => (match us, hl with | [_, _], _ => rfl), sc_law_row_by, 40, 40, ck_law_row_by⟩
    · obtain ⟨fd, Fd⟩ := c.def_ 15 (d := d_law_words_of) rfl
      exact ⟨f_law_words_of, top 33, _, fd, rfl, Fd, He.glo_ok X G (c.fact 15 (f := .glo "_law_words_of") rfl), Fd.bindsN fun _ _ _ _ _ _ us hl => (match us, hl with | [_], _ => rfl), sc_law_words_of, 40, 40, ck_law_words_of⟩
    · obtain ⟨fd, Fd⟩ := c.def_ 16 (d := d_law_is_name) rfl
      exact ⟨f_law_is_name, top 35, _, fd, rfl, Fd, He.glo_ok X G (c.fact 16 (f := .glo "_law_is_name") rfl), Fd.bindsN fun _ _ _ _ _ _ us hl => (match us, hl with | [_], _ => rfl), sc_law_is_name, 40, 40, ck_law_is_name⟩
    · obtain ⟨fd, Fd⟩ := c.def_ 17 (d := d_law_number) rfl
      exact ⟨f_law_number, top 36, _, fd, rfl, Fd, He.glo_ok X G (c.fact 17 (f := .glo "_law_number") rfl), Fd.bindsN fun _ _ _ _ _ _ us hl => (match us, hl with | [_, _], _ => rfl), sc_law_number, 40, 40, ck_law_number⟩
    · obtain ⟨fd, Fd⟩ := c.def_ 18 (d := d_law_row_of) rfl
      exact ⟨f_law_row_of, top 37, _, fd, rfl, Fd, He.glo_ok X G (c.fact 18 (f := .glo "_law_row_of") rfl), Fd.bindsN fun _ _ _ _ _ _ us hl => (match us, hl with | [_], _ => rfl), sc_law_row_of, 40, 40, ck_law_row_of⟩
    · obtain ⟨fd, Fd⟩ := c.def_ 19 (d := d_law_odd_by) rfl
      exact ⟨f_law_odd_by, top 38, _, fd, rfl, Fd, He.glo_ok X G (c.fact 19 (f := .glo "_law_odd_by") rfl), Fd.bindsN fun _ _ _ _ _ _ us hl => (match us, hl with | [_, _, _], _ => rfl), sc_law_odd_by, 40, 40, ck_law_odd_by⟩
    · obtain ⟨fd, Fd⟩ := c.def_ 20 (d := d_law_refused) rfl
      exact ⟨f_law_refused, top 39, _, fd, rfl, Fd, He.glo_ok X G (c.fact 20 (f := .glo "_law_refused") rfl), Fd.bindsN fun _ _ _ _ _ _ us hl => (match us, hl with | [_], _ => rfl), sc_law_refused, 40, 40, ck_law_refused⟩
    · obtain ⟨fd, Fd⟩ := c.def_ 21 (d := d_law) rfl
      exact ⟨f_law, top 40, _, fd, rfl, Fd, He.glo_ok X G (c.fact 21 (f := .glo "law") rfl), Fd.bindsN fun _ _ _ _ _ _ us hl => (match us, hl with | [_], _ => rfl), sc_law, 40, 40, ck_law⟩
  · have h := lookup_mem h
    simp only [con, List.mem_cons, Prod.mk.injEq, List.not_mem_nil, or_false] at h
    rcases h with ⟨rfl, rfl⟩ | ⟨rfl, rfl⟩ | ⟨rfl, rfl⟩ | ⟨rfl, rfl⟩ | ⟨rfl, rfl⟩
    · obtain ⟨t, e⟩ := He.str_ok X G (c.fact 31 (f := .str "SIGNS" "abcdefghijklmnopqrstuvwxyz") rfl)
      exact ⟨.str "abcdefghijklmnopqrstuvwxyz", _, e, ⟨t, rfl⟩, fun d hd F ι => by cases hd; exact .str _ (by decide +kernel)⟩
    · obtain ⟨t, e⟩ := He.int_ok X G (c.fact 32 (f := .int "LONGEST" 8) rfl)
      exact ⟨.int 8, _, e, ⟨t, rfl⟩, fun d hd F ι => by cases hd; exact .int _⟩
    · obtain ⟨t, e⟩ := He.int_ok X G (c.fact 33 (f := .int "MOST_plans" 1000000000) rfl)
      exact ⟨.int 1000000000, _, e, ⟨t, rfl⟩, fun d hd F ι => by cases hd; exact .int _⟩
    · obtain ⟨t, e⟩ := He.str_ok X G (c.fact 34 (f := .str "FIGURES" "0123456789") rfl)
      exact ⟨.str "0123456789", _, e, ⟨t, rfl⟩, fun d hd F ι => by cases hd; exact .str _ (by decide +kernel)⟩
    · obtain ⟨t, e⟩ := He.int_ok X G (c.fact 35 (f := .int "MOST_texts" 1000000000) rfl)
      exact ⟨.int 1000000000, _, e, ⟨t, rfl⟩, fun d hd F ι => by cases hd; exact .int _⟩
  · have h := List.contains_iff_mem.mp h
    simp only [free, List.mem_cons, List.not_mem_nil, or_false] at h
    rcases h with rfl | rfl | rfl | rfl | rfl | rfl | rfl | rfl | rfl
    · exact He.free_ok X G (c.fact 22 (f := .free "ValueError") rfl)
    · exact He.free_ok X G (c.fact 23 (f := .free "bool") rfl)
    · exact He.free_ok X G (c.fact 24 (f := .free "int") rfl)
    · exact He.free_ok X G (c.fact 25 (f := .free "isinstance") rfl)
    · exact He.free_ok X G (c.fact 26 (f := .free "len") rfl)
    · exact He.free_ok X G (c.fact 27 (f := .free "list") rfl)
    · exact He.free_ok X G (c.fact 28 (f := .free "range") rfl)
    · exact He.free_ok X G (c.fact 29 (f := .free "str") rfl)
    · exact He.free_ok X G (c.fact 30 (f := .free "tuple") rfl)
  · obtain ⟨fd, Fd⟩ := c.def_ 22 (d := d_kinds) rfl
    refine xok_mk X G (fun i hi => ?_) (c.fact 37 (f := .glo "HouseError") rfl) (He.free_ok X G (c.fact 25 (f := .free "isinstance") rfl)) (He.free_ok X G (c.fact 28 (f := .free "range") rfl)) (He.free_ok X G (c.fact 22 (f := .free "ValueError") rfl)) kb ⟨top 34, _, fd, Fd, He.glo_ok X G (c.fact 36 (f := .glo "_law_kinds") rfl), Fd.bindsN fun _ _ _ _ _ _ us hl => (match us, hl with | [_], _ => rfl), sc_kinds, ck_kinds⟩
    have h8 : i = 0 ∨ i = 1 ∨ i = 2 ∨ i = 3 ∨ i = 4 ∨ i = 5 ∨ i = 6 ∨ i = 7 := by omega
    rcases h8 with rfl | rfl | rfl | rfl | rfl | rfl | rfl | rfl
    · exact ⟨c.fact 38 (f := .glo "BadPlan") rfl, c.fact 39 (f := .exc "BadPlan") rfl, c.fact 40 (f := .exm "BadPlan" "HouseError" true) rfl⟩
    · exact ⟨c.fact 41 (f := .glo "BadLetter") rfl, c.fact 42 (f := .exc "BadLetter") rfl, c.fact 43 (f := .exm "BadLetter" "HouseError" true) rfl⟩
    · exact ⟨c.fact 44 (f := .glo "Stranger") rfl, c.fact 45 (f := .exc "Stranger") rfl, c.fact 46 (f := .exm "Stranger" "HouseError" true) rfl⟩
    · exact ⟨c.fact 47 (f := .glo "Gone") rfl, c.fact 48 (f := .exc "Gone") rfl, c.fact 49 (f := .exm "Gone" "HouseError" true) rfl⟩
    · exact ⟨c.fact 50 (f := .glo "Nothing") rfl, c.fact 51 (f := .exc "Nothing") rfl, c.fact 52 (f := .exm "Nothing" "HouseError" true) rfl⟩
    · exact ⟨c.fact 53 (f := .glo "Closed") rfl, c.fact 54 (f := .exc "Closed") rfl, c.fact 55 (f := .exm "Closed" "HouseError" true) rfl⟩
    · exact ⟨c.fact 56 (f := .glo "BadHistory") rfl, c.fact 57 (f := .exc "BadHistory") rfl, c.fact 58 (f := .exm "BadHistory" "HouseError" true) rfl⟩
    · exact ⟨c.fact 59 (f := .glo "BadText") rfl, c.fact 60 (f := .exc "BadText") rfl, c.fact 61 (f := .exm "BadText" "HouseError" true) rfl⟩
end LawK
open PySem PySem.W PySem.Calls PyProof.Rows
theorem PySem.Challenge.cw_wardhouse_k11_texts_refused_holds : PySem.Challenge.rw_wardhouse_k11_texts_refused.Holds := by
  w_on; o_law
  refine HandSHeadRun.head_any (r := OpenLaw.row PySem.Challenge.rw_wardhouse_k11_texts_refused) (q := view (OpenLaw.row PySem.Challenge.rw_wardhouse_k11_texts_refused).prog [40]) (H := LawK.hk) (ob := LawK.ob) (M := 4000) (loose := LawK.names) (d := HandSHeadRun.topDef (OpenLaw.row PySem.Challenge.rw_wardhouse_k11_texts_refused).prog 40) (kwd := []) LawK.ob_eq
    (by kernel_rfl) (fun s => by kernel_rfl) LawK.run (by kernel_rfl) (by kernel_rfl) (by kernel_rfl) (by rfl) (by first | assumption | decide +kernel) (by decide +kernel) ⟨rfl, rfl, rfl, rfl, rfl, by decide +kernel⟩ ?hw ?hc
  case hw => w_witness2
  case hc =>
    refine L2.walk_ofE (l := PySem.Challenge.rw_wardhouse_k11_texts_refused) (n := 63) (k := 18) (x := "_law_script") (CX := Ev.CXm (PySem.Challenge.rw_wardhouse_k11_texts_refused).prog) rfl (by decide) (by kernel_rfl) ⟨rfl, by decide, by decide⟩ ?F (fun H s e s' z => Ev.cxm_no H s e s' z)
    intro w mg fa h Y G hmg0
    obtain ⟨K, KX, c, kb⟩ := Y
    have hmg : mg ("law" : PySem.Str) = some (.ref fa) := by
      have e : (HandSHeadRun.topDef (OpenLaw.row PySem.Challenge.rw_wardhouse_k11_texts_refused).prog 40).name = ("law" : PySem.Str) := by kernel_rfl
      rw [← e]
      exact hmg0
    have T := LawK.facts KX G c kb
    obtain ⟨fdt, Fl⟩ := c.def_ 21 (d := LawK.d_law) rfl
    have e := hmg.symm.trans (He.glo_ok KX G (c.fact 21 (f := .glo "law") rfl))
    cases e
    have b := L2.FunD.bindsA (ps := ["_law_script"]) Fl fun _ _ _ _ _ _ us hl => match us, hl with | [_], _ => rfl
    refine ⟨K, fdt, Ev.spF (fun _ => default) (Ev.kA K) K (Ev.callF LawK.Tt 9 21), KX, fun s v => b s [v] rfl, fun H a ns hl _ hS => ?_, fun base kb gb => ?_⟩
    · obtain ⟨S, hlaw⟩ := LawK.law_is ns hl
      exact Ev.law_ends hS hlaw
    · exact Ev.fn_cx (Ev.fn_body (n := 8) (k := 16) (sg := LawK.sgN) ⟨Fl, hmg, L2.FunD.bindsN (ps := ["_law_script"]) Fl fun _ _ _ _ _ _ us hl => (match us, hl with | [_], _ => rfl), LawK.sc_law, 40, 40, LawK.ck_law⟩ rfl (Ev.gok_all T 8 LawK.f_law.N) rfl)
